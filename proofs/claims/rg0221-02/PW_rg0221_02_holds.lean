import PyProof.Rows.All
import Wide.All
import OpenK.AllK
import Wide.FinOn
import PySem.Challenge.RW_rg0221_02
set_option Elab.async false
set_option linter.all false
set_option maxRecDepth 100000
set_option maxHeartbeats 8000000
set_option compiler.extract_closed false
set_option tactic.hygienic false
set_option genSizeOf false
set_option genSizeOfSpec false
open List renaming getElem?_eq_some_iff→Za,getD_eq_getElem?_getD→Zb,length_map→Zc,length_append→Zd,mem_of_getElem?→Zg,getElem?_set_self→Zh,getElem?_set_ne→Zi,mem_singleton→Zl,length_cons→Zm,getElem?_map→Zn,mem_append→Zo,length_set→Zp,mem_cons→Zr,length_singleton→Zs,lookup_cons→Zt,getElem?_append_left→Zu,getElem?_append_right→Zz,getElem?_eq_none→Z1,mem_map→Z3,length_range→Z4,map_cons→Z7,all_eq_true→Z8,map_congr_left→Yb,nodup_cons→Yc,map_append→Yg,getElem?_eq_getElem→Yh,getElem?_range→Yi,mem_range→Yp,getElem?_eq_none_iff→Yr,pairwise_iff_getElem→Yv,getElem?_of_mem→Yy,not_mem_nil→Yz,map_map→Y0,append_nil→Y3,map_singleton→Y4,size_toArray→Y6,nodup_append→Y7,zip_cons_cons→Xa,drop_eq_getElem_cons→Xd,pairwise_singleton→Xo,length_pos_iff→Xp,length_take→Xq,take_add_one→Xt,reverse_cons→Xu,pairwise_map→Xv,ext_getElem?→Xw,mem_of_mem_take→Xy,mem_or_eq_of_mem_set→Xz,mem_reverse→X3,length_reverse→X4,filterMap_cons→X5,range_succ→X9,mem_filter→Wa,filter_cons_of_neg→Wb,foldl_append→Wg,append_assoc→Wh,toArray→Wi,take_append_drop→Wj,length_filter_le→Wk,take_length→Wm,perm_middle→Wn,length_drop→Wo,mem_map_of_mem→Wt,forIn_cons→Wu,take_sublist→W1,getElem?_take_of_lt→W2,filter_cons_of_pos→W3,nodup_range→W5,map_reverse→W6,take_of_length_le→W8,filter_eq_nil_iff→W9,of_mem_zip→Vb,length_replicate→Vc,foldl_cons→Vd,forall_mem_cons→Vg,forIn_nil→Vj,length_take_le→Vl,set_eq_take_append_cons_drop→Vo,pairwise_cons→Vp,map_take→Vq,findIdx?_eq_some_iff_getElem→Vr
open Nat renaming lt_of_le_of_lt→Ze,le_trans→Zf,le_refl→Zk,lt_of_lt_of_le→Zv,zero_le→Z2,lt_trans→Ya,ne_of_lt→Yd,succ_le_succ→Ye,not_lt→Yj,lt_succ_self→Yk,le_of_lt→Yl,le_antisymm→Yq,le_of_ble_eq_true→Ys,le_of_lt_succ→Yt,sub_self→Yw,lt_irrefl→Y2,ne_of_gt→Y5,lt_of_lt_of_eq→Y8,le_of_eq→Y9,le_succ→Xc,sub_one_lt_of_lt→Xe,le_sub_one_of_lt→Xf,succ_add_eq_add_succ→Xh,sub_le→Xi,lt_succ_of_le→Xj,succ_pos→Xl,lt_add_of_pos_right→Xm,add_le_add_left→Xn,lt_of_le_of_ne→Xr,le_sub_of_add_le→Xx,succ_lt_succ→X0,lt_trichotomy→We,lt_succ_of_lt→Wf,le_add_right→Wl,sub_lt_sub_left→Wp,sub_le_sub_left→Wq,one_pos→Wr,mul_le_mul_left→Ws,sub_lt→Wy,not_le→Wz,add_sub_of_le→W0,lt_of_succ_lt_succ→W7,not_lt_zero→Va,sub_add_cancel→Vm,add_assoc→Vn
open Int renaming natCast_nonneg→Zj,ofNat_lt→Zx,lt_add_one_of_le→Yf,toNat_natCast→Ym,le_trans→Yu,toNat_of_nonneg→Y1,lt_of_lt_of_le→Xs,ofNat_le→X7,ofNat→Wc,eq_ofNat_of_zero_le→Wd,fdiv_eq_ediv_of_nonneg→Wv,le_of_lt→Ww,toNat_lt→Ve,not_lt→Vf,sub_nonneg_of_le→Vh,lt_iff_le_and_ne→Vi
open Bool renaming noConfusion→Zq,and_eq_true→Zy,false_eq_true→Yo,not_eq_true'→Xk,not_eq_false'→Wx
open Option renaming map_eq_some_iff→Zw,map_some→Yx,isSome_iff_exists→X6,toList_some→X8,getD_some→W4
open PySem.Heap renaming get?_push_size→Z0,get?_push_of_some→Z5,get?_none_of_le→Z9,lt_size→Yn
open Array renaming length_toList→Z6,getElem?_toList→Xb,toArray_toList→Xg
namespace Mine
@[elab_as_elim] theorem rwG {α:Sort _}{a b:α}{motive:α->Prop}(h:a=b) (x:motive b):motive a:=by subst h;exact x
@[elab_as_elim] theorem rwS {α:Sort _}{a b:α}{motive:α->Prop}(h:b=a) (x:motive b):motive a:=by subst h;exact x
theorem ncs {α:Type _}{x:α}{P:Prop}(h:none=some x):P:=nomatch h
theorem nsc {α:Type _}{x:α}{P:Prop}(h:some x=none):P:=nomatch h
theorem nft {P:Prop}(h:false=true):P:=nomatch h
theorem ntf {P:Prop}(h:true=false):P:=nomatch h
theorem nnl {α:Type _}{x:α}{P:Prop}(h:x∈[]):P:=nomatch h
end Mine
local macro_rules
 | `(tactic| rw $s:rwRuleSeq)=>do
  let t ← s.raw[1].getSepArgs.mapM fun r=>`(tactic| first | refine $(Lean.mkIdent (if r[0].isNone then `Mine.rwG else `Mine.rwS)) ($(⟨r[1]⟩) ..) ?_ | rewrite [$(⟨r⟩)])
  `(tactic| ($[$t]*;try with_reducible rfl))
local macro_rules
 | `(tactic| rw $s:rwRuleSeq at $h:ident)=>do
  let t ← s.raw[1].getSepArgs.mapM fun r=>do
   if r[0].isNone then `(tactic| first | replace $h:ident:=($(⟨r[1]⟩) ..)▸$h | rewrite [$(⟨r⟩)] at $h:ident) else `(tactic| rewrite [$(⟨r⟩)] at $h:ident)
  `(tactic| ($[$t]*))
local macro_rules
 | `(tactic| show $t)=>`(tactic| refine (?_ : $t))
namespace Mine
open PySem PySem.W PySem.Calls PyProof.Rows PySem.SeqAt PySem.W.Fast
theorem mid_ok {l r f:Nat}(hf:r - l≤f+1) (h:l<r):l≤(l+r) / 2∧(l+r) / 2<r∧(l+r) / 2 - l≤f∧r - ((l+r) / 2+1)≤f:=
 have h1:l≤(l+r) / 2:=(Nat.le_div_iff_mul_le (by decide)).mpr (Nat.mul_two l▸Xn (Yl h) l)
 have h2:(l+r) / 2<r:=Nat.div_lt_of_lt_mul ((Nat.two_mul r).symm▸Nat.add_lt_add_right h r)
 ⟨h1,h2,Yt (Zv (Nat.sub_lt_sub_right h1 h2) hf),Zf (Wq (Ye h1) r) (Nat.pred_le_pred hf)⟩
theorem sub_dn {N i:Nat}(h:i≤N):N+1 - (i+1)<N+1 - i:=Wp (Xj h) (Yk i)
theorem tn1 {i:Int}(h:0≤i):(i+1).toNat=i.toNat+1:=Int.toNat_add h (by decide)
theorem fu0:∀ a,a<3->90000 - 100*a=90000 - 100*a - 2+2∧90000 - 100*a - 2=90000 - 100*a - 3+1∧90000 - 100*a - 20=90000 - 100*a - 21+1∧90000 - 100*(a+1)≤90000 - 100*a - 21:=by decide +kernel
theorem fu1:∀ a,a<3->∀ b,b<6->90000 - 100*a - 20≤90000 - 100*a - 3 - b∧90000 - 100*a - 3 - b=90000 - 100*a - 3 - (b+1)+1:=by decide +kernel
theorem fu2:∀ a,a<12->99998 - 8*a=99998 - 8*a - 7+7∧99998 - 8*a - 7=99998 - 8*(a+1)+1:=by decide +kernel
theorem fu7:∀ a,a<7->7*(7 - a)=7*(7 - (a+1))+7:=by decide +kernel
theorem fu4:∀ a,a<11->90000 - 4*a=90000 - 4*(a+1)+4:=by decide +kernel
theorem fu3:∀ a,a<13->90000≤99998 - 8*a:=by decide +kernel
theorem pr1 {a b:Nat}(h:a - b=c+1):a - (b+1)=c:=congrArg Nat.pred h
theorem sp1 {a b:Nat}(h:b<a):a - b=a - b - 1+1:=(Nat.succ_pred (Y5 (Nat.sub_pos_of_lt h))).symm
theorem z1 {n j:Nat}(h:1≤n):0+n - 1 - j<n:=Ze (Xi _ _) (by rw[Nat.zero_add];exact Wy h Wr)
theorem lo1 {a b c:Nat}(h:a≤c∧c<b):a≤a+b - 1 - c∧a+b - 1 - c<b:=
 have p:c+1≤a+b:=Zf h.2 (Nat.le_add_left _ _)
 ⟨Xx (Xx (Xn h.2 a)),Nat.sub_lt_left_of_lt_add (Xx p) (Zv (Wy (Zv (Xl c) p) Wr) (Nat.add_le_add_right h.1 b))⟩
theorem half1 {a b:Nat}(h:a<b):(a - 1) / 2<b:=Ze (Zf (Nat.div_le_self _ _) (Xi _ _)) h
theorem half2 {a b:Nat}(h:a≤b+1):(a - 1) / 2≤b:=Zf (Nat.div_le_self _ _) (Nat.sub_le_of_le_add h)
theorem half3 {a:Nat}(h:0<a):(a - 1) / 2<a:=Ze (Nat.div_le_self _ _) (Wy h Wr)
theorem vb1 {x:Int}{n:Nat}(h:1≤x∧x<((n+1:Nat):Int)):x.toNat - 1<n∧x.toNat - 1+1=x.toNat:=
 have p:0<x.toNat:=Int.lt_toNat.mpr h.1
 have q:x.toNat - 1+1=x.toNat:=Nat.succ_pred (Y5 p)
 ⟨W7 (q.symm▸(Ve (Ww h.1)).mpr h.2),q⟩
theorem tnl {a:Int}{b:Nat}(h1:a.toNat<b) (h0:0≤a):a<b:=(Ve h0).mp h1
theorem tnb {a:Int}{b:Nat}{M:Int}(h1:a.toNat<b) (h0:0≤a) (hb:(b:Int)≤M):a<M:=Xs (tnl h1 h0) hb
theorem tnu {a:Int}{b:Nat}(h0:0<b) (h:a<b):a.toNat<b:=(Int.toNat_lt' h0).mpr h
theorem ltt {a:Nat}{z:Int}(h:a<z.toNat):(a:Int)<z:=Int.lt_toNat.mp h
theorem rl (L s:Nat):((L:Int) - 1 - ((s:Int) - 1)).toNat=L - s:=by rw[Int.sub_sub,Int.add_comm,Int.sub_add_cancel];exact Int.toNat_sub L s
theorem dn1 {L s i:Nat}(h:i<L - s):s+(L - s - 1 - i)=L - 1 - i∧L - 1 - i<L∧(L:Int) - 1 - i=((L - 1 - i:Nat):Int):=
 have p:i+s<L:=Nat.add_lt_of_lt_sub h
 have o:1≤L:=Ze (Z2 _) p
 have q:i+s≤L - 1:=Xx p
 ⟨((congrArg (fun x=>s+(x - i)) (Nat.sub_right_comm L s 1)).trans (congrArg (s + ·) (Nat.sub_right_comm (L - 1) s i))).trans (W0 (Xx (Nat.add_comm i s▸q))),
  Ze (Xi _ _) (Wy o Wr),by rw[Int.ofNat_sub (Zf (Wl i s) q),Int.ofNat_sub o];rfl⟩
theorem ab1 {m n c:Nat}(h:m<n) (hn:n≤c):(1+(m:Int)).natAbs≤c:=show 1+m≤c from Nat.add_comm 1 m▸Zf h hn
theorem d15 {n:Nat}(h1:3≤n) (h2:n≤17):n=3∨n=4∨n=5∨n=6∨n=7∨n=8∨n=9∨n=10∨n=11∨n=12∨n=13∨n=14∨n=15∨n=16∨n=17:=
 (by decide:∀ n,n<18->3≤n->n=3∨n=4∨n=5∨n=6∨n=7∨n=8∨n=9∨n=10∨n=11∨n=12∨n=13∨n=14∨n=15∨n=16∨n=17) n (Xj h2) h1
theorem k15 (a:Nat) (h:¬((3≤a∧a<3+12)∨17≤a∧a<17+21)):¬(3≤a∧a≤14)∧a≠17∧a≠18∧a≠19∧¬(20≤a∧a≤37):=
 ⟨fun z=>h (.inl ⟨z.1,Xj z.2⟩),fun e=>h (.inr (by rw[e];decide)),fun e=>h (.inr (by rw[e];decide)),fun e=>h (.inr (by rw[e];decide)),fun z=>h (.inr ⟨Zf (by decide) z.1,Xj z.2⟩)⟩
theorem a10 {a:Nat}(h:(21≤a∧a≤23)∨(31≤a∧a≤37)):a=21∨a=22∨a=23∨a=31∨a=32∨a=33∨a=34∨a=35∨a=36∨a=37:=
 (by decide:∀ n,n<38->(21≤n∧n≤23)∨(31≤n∧n≤37)->n=21∨n=22∨n=23∨n=31∨n=32∨n=33∨n=34∨n=35∨n=36∨n=37) a (h.elim (fun z=>Ze z.2 (by decide)) fun z=>Ze z.2 (by decide)) h
theorem n10 {a b:Nat}(h:b≤a):2*(10 - a)≤2*(10 - b):=Ws 2 (Wq h 10)
theorem n10' {a b n:Nat}(h:b<a) (ha:a≤n) (hn:n≤8):2*(10 - a)+1<2*(10 - b)+1:=
 X0 ((Nat.mul_lt_mul_left (by decide)).mpr (Wp (Zv h (Zf ha (Zf hn (by decide)))) h))
theorem m9 {m l n:Nat}{x:Int}(em:m=9 - x.toNat) (hl:x<l) (h:l≤n) (n8:n≤8):m=m - 1+1:=
 (Nat.succ_pred (Y5 (em▸Nat.sub_pos_of_lt (Xj (Int.toNat_le.mpr (Yu (Ww hl) (X7.mpr (Zf h n8)))))))).symm
theorem ngl {a:Int}{b:Nat}(h0:¬0≤a):a+b<b:=by have:=Int.add_lt_add_right (Int.not_le.mp h0) b;rwa [Int.zero_add] at this
theorem tzi (i j:Int):(((j - i).toNat:Nat):Int) - ((0:Nat):Int)=if i<j then j - i else 0:=by
 split
 ·rw[Y1 (Vh (Ww ‹_›))];exact Int.sub_zero _
 ·rw[Int.toNat_of_nonpos (Int.sub_nonpos_of_le (Vf.mp ‹_›))];rfl
theorem tnv {x:Int}{m:Nat}(h:1≤x∧x<(m:Int)):x.toNat<m:=(Ve (Ww h.1)).mpr h.2
theorem tni {a b:Int}(h1:0≤a) (h2:0≤b) (e:a.toNat=b.toNat):a=b:=(Y1 h1).symm.trans ((congrArg Wc e).trans (Y1 h2))
theorem d7 {n:Nat}(h1:3≤n) (h2:n≤7):n=3∨n=4∨n=5∨n=6∨n=7:=(by decide:∀ n,n<8->3≤n->n=3∨n=4∨n=5∨n=6∨n=7) n (Xj h2) h1
theorem d12 {n:Nat}(h1:8≤n) (h2:n≤12):n=8∨n=9∨n=10∨n=11∨n=12:=(by decide:∀ n,n<13->8≤n->n=8∨n=9∨n=10∨n=11∨n=12) n (Xj h2) h1
theorem rm1 {a c:Nat}(h:a+20*(c+1)≤9700):a+1+20*c≤9700:=
 Zf (by rw[Vn,Nat.mul_succ,Nat.add_comm 1];exact Xn (Xn (by decide) _) a) h
theorem rm2 {a c:Nat}(h:a+(c+1)≤990):a+1+c≤990:=by rw[Vn,Nat.add_comm 1];exact h
theorem rm3 {a b:Nat}(h:a+20*b≤9700):a+64<9900:=Ze (Nat.add_le_add_right (Zf (Wl _ _) h) 64) (by decide)
theorem min_l {a b c:Nat}(h:a<min b c):a<b:=Zv h (Nat.min_le_left _ _)
theorem wd1 {x:Int}{n:Nat}(h:1≤x∧x≤(n:Int)):1≤x∧x≤((n+1:Nat):Int):=⟨h.1,Yu h.2 (X7.mpr (Xc n))⟩
theorem lt12 {a b c N:Nat}(h1:a=b) (h2:b<c) (h3:c≤12) (h4:12≤N):a<N:=h1▸Zv h2 (Zf h3 h4)
theorem ab0 {x:Int}{n:Nat}(h0:x≠0) (lo : -(n:Int)≤x) (hi:x≤n):1≤(if x<0 then -x else x)∧(if x<0 then -x else x)<((n+1:Nat):Int):=by
 split
 ·exact⟨Int.neg_pos_of_neg ‹_›,Yf (Int.neg_le_of_neg_le lo)⟩
 ·exact⟨Vi.mpr ⟨Vf.mp ‹_›,Ne.symm h0⟩,Yf hi⟩
theorem hide {P:Prop}(h:∀ R:Prop,(P->R)->R):P:=h P id
theorem optE {α:Type _}{R:Prop}(o:Option α) (q1:o=none->R) (q2:∀ a,o=some a->R):R:=match o,q1,q2 with
 | none,q,_=>q rfl
 | some a,_,q=>q a rfl
theorem boolE {R:Prop}(b:Bool) (q1:b=true->R) (q2:b=false->R):R:=match b,q1,q2 with
 | true,q,_=>q rfl
 | false,_,q=>q rfl
theorem xE1 {α1:Sort _}{p:α1->Prop}{R:Prop}(h:∃ x1,p x1) (k:∀ x1,p x1->R):R:=h.elim k
theorem xE2 {α1:Sort _}{α2:Sort _}{p:α1->α2->Prop}{R:Prop}(h:∃ x1 x2,p x1 x2) (k:∀ x1 x2,p x1 x2->R):R:=h.elim fun x h=>xE1 h (k x)
theorem xI2 {α1:Sort _}{α2:Sort _}{p:α1->α2->Prop}(x1:α1) (x2:α2) (h:p x1 x2):∃ x1 x2,p x1 x2:=⟨x1,x2,h⟩
theorem xE3 {α1:Sort _}{α2:Sort _}{α3:Sort _}{p:α1->α2->α3->Prop}{R:Prop}(h:∃ x1 x2 x3,p x1 x2 x3) (k:∀ x1 x2 x3,p x1 x2 x3->R):R:=h.elim fun x h=>xE2 h (k x)
theorem xI3 {α1:Sort _}{α2:Sort _}{α3:Sort _}{p:α1->α2->α3->Prop}(x1:α1) (x2:α2) (x3:α3) (h:p x1 x2 x3):∃ x1 x2 x3,p x1 x2 x3:=⟨x1,xI2 x2 x3 h⟩
theorem xE4 {α1:Sort _}{α2:Sort _}{α3:Sort _}{α4:Sort _}{p:α1->α2->α3->α4->Prop}{R:Prop}(h:∃ x1 x2 x3 x4,p x1 x2 x3 x4) (k:∀ x1 x2 x3 x4,p x1 x2 x3 x4->R):R:=h.elim fun x h=>xE3 h (k x)
theorem xI4 {α1:Sort _}{α2:Sort _}{α3:Sort _}{α4:Sort _}{p:α1->α2->α3->α4->Prop}(x1:α1) (x2:α2) (x3:α3) (x4:α4) (h:p x1 x2 x3 x4):∃ x1 x2 x3 x4,p x1 x2 x3 x4:=⟨x1,xI3 x2 x3 x4 h⟩
theorem xE5 {α1:Sort _}{α2:Sort _}{α3:Sort _}{α4:Sort _}{α5:Sort _}{p:α1->α2->α3->α4->α5->Prop}{R:Prop}(h:∃ x1 x2 x3 x4 x5,p x1 x2 x3 x4 x5) (k:∀ x1 x2 x3 x4 x5,p x1 x2 x3 x4 x5->R):R:=h.elim fun x h=>xE4 h (k x)
theorem xI5 {α1:Sort _}{α2:Sort _}{α3:Sort _}{α4:Sort _}{α5:Sort _}{p:α1->α2->α3->α4->α5->Prop}(x1:α1) (x2:α2) (x3:α3) (x4:α4) (x5:α5) (h:p x1 x2 x3 x4 x5):∃ x1 x2 x3 x4 x5,p x1 x2 x3 x4 x5:=⟨x1,xI4 x2 x3 x4 x5 h⟩
theorem xI6 {α1:Sort _}{α2:Sort _}{α3:Sort _}{α4:Sort _}{α5:Sort _}{α6:Sort _}{p:α1->α2->α3->α4->α5->α6->Prop}(x1:α1) (x2:α2) (x3:α3) (x4:α4) (x5:α5) (x6:α6) (h:p x1 x2 x3 x4 x5 x6):∃ x1 x2 x3 x4 x5 x6,p x1 x2 x3 x4 x5 x6:=⟨x1,xI5 x2 x3 x4 x5 x6 h⟩
theorem xI7 {α1:Sort _}{α2:Sort _}{α3:Sort _}{α4:Sort _}{α5:Sort _}{α6:Sort _}{α7:Sort _}{p:α1->α2->α3->α4->α5->α6->α7->Prop}(x1:α1) (x2:α2) (x3:α3) (x4:α4) (x5:α5) (x6:α6) (x7:α7) (h:p x1 x2 x3 x4 x5 x6 x7):∃ x1 x2 x3 x4 x5 x6 x7,p x1 x2 x3 x4 x5 x6 x7:=⟨x1,xI6 x2 x3 x4 x5 x6 x7 h⟩
theorem aE2 {a1 a2 R:Prop}(h:a1∧a2) (k:a1->a2->R):R:=k h.1 h.2
theorem aE3 {a1 a2 a3 R:Prop}(h:a1∧a2∧a3) (k:a1->a2->a3->R):R:=aE2 h.2 (k h.1)
theorem aI3 {a1 a2 a3:Prop}(h1:a1) (h2:a2) (h3:a3):a1∧a2∧a3:=⟨h1,h2,h3⟩
theorem aE4 {a1 a2 a3 a4 R:Prop}(h:a1∧a2∧a3∧a4) (k:a1->a2->a3->a4->R):R:=aE3 h.2 (k h.1)
theorem aI4 {a1 a2 a3 a4:Prop}(h1:a1) (h2:a2) (h3:a3) (h4:a4):a1∧a2∧a3∧a4:=⟨h1,aI3 h2 h3 h4⟩
theorem aE5 {a1 a2 a3 a4 a5 R:Prop}(h:a1∧a2∧a3∧a4∧a5) (k:a1->a2->a3->a4->a5->R):R:=aE4 h.2 (k h.1)
theorem aI5 {a1 a2 a3 a4 a5:Prop}(h1:a1) (h2:a2) (h3:a3) (h4:a4) (h5:a5):a1∧a2∧a3∧a4∧a5:=⟨h1,aI4 h2 h3 h4 h5⟩
theorem aE6 {a1 a2 a3 a4 a5 a6 R:Prop}(h:a1∧a2∧a3∧a4∧a5∧a6) (k:a1->a2->a3->a4->a5->a6->R):R:=aE5 h.2 (k h.1)
theorem aI6 {a1 a2 a3 a4 a5 a6:Prop}(h1:a1) (h2:a2) (h3:a3) (h4:a4) (h5:a5) (h6:a6):a1∧a2∧a3∧a4∧a5∧a6:=⟨h1,aI5 h2 h3 h4 h5 h6⟩
theorem aE7 {a1 a2 a3 a4 a5 a6 a7 R:Prop}(h:a1∧a2∧a3∧a4∧a5∧a6∧a7) (k:a1->a2->a3->a4->a5->a6->a7->R):R:=aE6 h.2 (k h.1)
theorem aI7 {a1 a2 a3 a4 a5 a6 a7:Prop}(h1:a1) (h2:a2) (h3:a3) (h4:a4) (h5:a5) (h6:a6) (h7:a7):a1∧a2∧a3∧a4∧a5∧a6∧a7:=⟨h1,aI6 h2 h3 h4 h5 h6 h7⟩
theorem aE8 {a1 a2 a3 a4 a5 a6 a7 a8 R:Prop}(h:a1∧a2∧a3∧a4∧a5∧a6∧a7∧a8) (k:a1->a2->a3->a4->a5->a6->a7->a8->R):R:=aE7 h.2 (k h.1)
theorem aI8 {a1 a2 a3 a4 a5 a6 a7 a8:Prop}(h1:a1) (h2:a2) (h3:a3) (h4:a4) (h5:a5) (h6:a6) (h7:a7) (h8:a8):a1∧a2∧a3∧a4∧a5∧a6∧a7∧a8:=⟨h1,aI7 h2 h3 h4 h5 h6 h7 h8⟩
theorem aE9 {a1 a2 a3 a4 a5 a6 a7 a8 a9 R:Prop}(h:a1∧a2∧a3∧a4∧a5∧a6∧a7∧a8∧a9) (k:a1->a2->a3->a4->a5->a6->a7->a8->a9->R):R:=aE8 h.2 (k h.1)
theorem aI9 {a1 a2 a3 a4 a5 a6 a7 a8 a9:Prop}(h1:a1) (h2:a2) (h3:a3) (h4:a4) (h5:a5) (h6:a6) (h7:a7) (h8:a8) (h9:a9):a1∧a2∧a3∧a4∧a5∧a6∧a7∧a8∧a9:=⟨h1,aI8 h2 h3 h4 h5 h6 h7 h8 h9⟩
theorem aI10 {a1 a2 a3 a4 a5 a6 a7 a8 a9 a10:Prop}(h1:a1) (h2:a2) (h3:a3) (h4:a4) (h5:a5) (h6:a6) (h7:a7) (h8:a8) (h9:a9) (h10:a10):a1∧a2∧a3∧a4∧a5∧a6∧a7∧a8∧a9∧a10:=⟨h1,aI9 h2 h3 h4 h5 h6 h7 h8 h9 h10⟩
theorem aI11 {a1 a2 a3 a4 a5 a6 a7 a8 a9 a10 a11:Prop}(h1:a1) (h2:a2) (h3:a3) (h4:a4) (h5:a5) (h6:a6) (h7:a7) (h8:a8) (h9:a9) (h10:a10) (h11:a11):a1∧a2∧a3∧a4∧a5∧a6∧a7∧a8∧a9∧a10∧a11:=⟨h1,aI10 h2 h3 h4 h5 h6 h7 h8 h9 h10 h11⟩
theorem aI12 {a1 a2 a3 a4 a5 a6 a7 a8 a9 a10 a11 a12:Prop}(h1:a1) (h2:a2) (h3:a3) (h4:a4) (h5:a5) (h6:a6) (h7:a7) (h8:a8) (h9:a9) (h10:a10) (h11:a11) (h12:a12):a1∧a2∧a3∧a4∧a5∧a6∧a7∧a8∧a9∧a10∧a11∧a12:=⟨h1,aI11 h2 h3 h4 h5 h6 h7 h8 h9 h10 h11 h12⟩
inductive MV where
 | none | bool (b:Bool) | int (i:Int) | ref (a:Addr) | raw (v:Value)
 deriving DecidableEq
set_option genInjectivity false
noncomputable def strip:Value->MV
 | .none=>.none
 | .bool b=>.bool b
 | .int i _=>.int i
 | .ref a=>.ref a
 | v=>.raw v
theorem strip_el {P:Value->Prop}{v:Value}{m:MV}(h:strip v=m) (a:m=.none->P .none) (b:∀ x,m=.bool x->P (.bool x)) (c:∀ i t,m=.int i->P (.int i t)) (d:∀ x,m=.ref x->P (.ref x)) (e:∀ w,m=.raw w->P w):P v:=by
 subst h
 induction v using PySem.Value.casesOn with
 | none=>exact a rfl
 | bool x=>exact b x rfl
 | int i t=>exact c i t rfl
 | ref x=>exact d x rfl
 | _=>exact e _ rfl
theorem strip_int {v:Value}{i:Int}(h:strip v=.int i):∃ t,v=.int i t:=strip_el (P:=fun v=>∃ t,v=.int i t) h (fun z=>by cases z) (fun _ z=>by cases z) (fun _ t z=>by cases z;exact⟨t,rfl⟩) (fun _ z=>by cases z) fun _ z=>by cases z
theorem strip_ref {v:Value}{a:Addr}(h:strip v=.ref a):v=.ref a:=strip_el (P:=fun v=>v=.ref a) h (fun z=>by cases z) (fun _ z=>by cases z) (fun _ _ z=>by cases z) (fun _ z=>by cases z;rfl) fun _ z=>by cases z
theorem strip_bool {v:Value}{b:Bool}(h:strip v=.bool b):v=.bool b:=strip_el (P:=fun v=>v=.bool b) h (fun z=>by cases z) (fun _ z=>by cases z;rfl) (fun _ _ z=>by cases z) (fun _ z=>by cases z) fun _ z=>by cases z
theorem strip_none {v:Value}(h:strip v=.none):v=.none:=strip_el (P:=fun v=>v=.none) h (fun _=>rfl) (fun _ z=>by cases z) (fun _ _ z=>by cases z) (fun _ z=>by cases z) fun _ z=>by cases z
inductive AO where
 | list (xs:List MV)
 | tup (xs:List MV)
 | ro (xs:List MV)
 | inst (C d:Addr)
 | ns (l:List (Nat × MV))
 | meth (f self:Addr)
 | pot (cells at_:MV)
noncomputable abbrev AH:=Addr->Option AO
noncomputable abbrev RH:=Nat->Option MV
noncomputable def upd (H:AH) (a:Addr) (o:AO):AH:=fun b=>if b=a then some o else H b
noncomputable def updR (ρ:RH) (i:Nat) (v:MV):RH:=fun j=>if j=i then some v else ρ j
noncomputable def Mut:Option AO->Prop
 | some (.list _) | some (.ns _) | some (.pot _ _)=>True
 | _=>False
noncomputable def LIM:Nat:=1000000
structure Base where
 prog:Program
 w:World
 K:Frag
 h₀:Heap
 os:OsState
 nmT:List Str
noncomputable def Base.M (B:Base):Model:=model B.prog B.w
noncomputable def Base.N (B:Base):Nat:=B.nmT.length
noncomputable def Base.nm (B:Base) (i:Nat):Str:=B.nmT.getD i Str.empty
theorem Base.nm_inj {B:Base}(hn:B.nmT.Nodup) {i j:Nat}(hi:i<B.N) (hj:j<B.N) (h:B.nm i=B.nm j):i=j:=by
 unfold Base.nm at h
 unfold Base.N at hi hj
 simp only [Zb,Yh hi,Yh hj,W4] at h
 rcases We i j with q | q | q
 ·exact absurd h ((Yv.mp hn) i j hi hj q)
 ·exact q
 ·exact absurd h.symm ((Yv.mp hn) j i hj hi q)
structure Base.Good (B:Base):Prop where
 X:B.K.In B.h₀
 top:∃ p loose mg mb,TopRead p loose mg mb B.h₀
 nd:B.nmT.Nodup
noncomputable def notRaw:MV->Bool
 | .raw _=>false
 | _=>true
noncomputable def EntRel (B:Base) (e:DictEntry) (p:Nat × MV):Prop:=p.1<B.N∧(∃ t,e.key=.str (B.nm p.1) t)∧strip e.val=p.2∧notRaw p.2=true
inductive All2 {α β:Type}(R:α->β->Prop):List α->List β->Prop
 | nil:All2 R [] []
 | cons {a b as bs}:R a b->All2 R as bs->All2 R (a::as) (b::bs)
theorem All2.length {α β:Type}{R:α->β->Prop}{as:List α}{bs:List β}(h:All2 R as bs):as.length=bs.length:=by
 induction h with
 | nil=>rfl
 | cons _ _ ih=>simp [ih]
noncomputable def Rep (B:Base) (h:Heap) (a:Addr):AO->Prop
 | .list xs=>∃ items n,h.get? a=some (seqObj "list" items n)∧items.toList.map strip=xs∧xs.length≤LIM
 | .tup xs=>∃ items,h.IsTuple a items∧items.toList.map strip=xs∧xs.length≤LIM
 | .ro xs=>∃ items,h.IsList a items∧items.toList.map strip=xs∧xs.length≤LIM
 | .inst C d=>h.get? a=some (instObj C d)
 | .ns l=>∃ es n,h.get? a=some (dictOf es n)∧All2 (EntRel B) es l∧l.length≤500
 | .meth f self=>h.get? a=some (methodObj (.ref f) (.ref self))
 | .pot c i=>∃ cv iv,strip cv=c∧strip iv=i∧h.DictOf (strKind B.prog B.w) a [(("cells" : Str),cv),(("at" : Str),iv)]
theorem Rep.alive {B:Base}{h:Heap}{a:Addr}{o:AO}(r:Rep B h a o):∃ ob,h.get? a=some ob:=by
 induction o using Mine.AO.casesOn with
 | list xs=>obtain ⟨items,n,h1,_⟩:=r;exact⟨_,h1⟩
 | tup xs=>obtain ⟨items,⟨o,h1,_⟩,_⟩:=r;exact⟨_,h1⟩
 | ro xs=>obtain ⟨items,⟨o,h1,_⟩,_⟩:=r;exact⟨_,h1⟩
 | inst C d=>exact⟨_,r⟩
 | ns l=>obtain ⟨es,n,h1,_⟩:=r;exact⟨_,h1⟩
 | meth f s=>exact⟨_,r⟩
 | pot c i=>obtain ⟨_,_,_,_,o,es,ep,h1,_⟩:=r;exact⟨_,h1⟩
theorem Rep.same {B:Base}{h h':Heap}{a:Addr}{o:AO}(r:Rep B h a o) (k:∀ ob,h.get? a=some ob->h'.get? a=some ob):Rep B h' a o:=by
 induction o using Mine.AO.casesOn with
 | list xs=>obtain ⟨items,n,h1,h2⟩:=r;exact⟨items,n,k _ h1,h2⟩
 | tup xs=>obtain ⟨items,⟨o,h1,h2⟩,h3⟩:=r;exact⟨items,⟨o,k _ h1,h2⟩,h3⟩
 | ro xs=>obtain ⟨items,⟨o,h1,h2⟩,h3⟩:=r;exact⟨items,⟨o,k _ h1,h2⟩,h3⟩
 | inst C d=>exact k _ r
 | ns l=>obtain ⟨es,n,h1,h2⟩:=r;exact⟨es,n,k _ h1,h2⟩
 | meth f s=>exact k _ r
 | pot c i=>obtain ⟨a1,a2,a3,a4,o,es,ep,h1,h2⟩:=r;exact⟨a1,a2,a3,a4,o,es,ep,k _ h1,h2⟩
structure Ok (B:Base) (H:AH) (s:Shared):Prop where
 rep:∀ a o,H a=some o->Rep B s.heap a o
 gens:s.gens = #[]
 os:s.os=B.os
 base:∀ b o,B.h₀.get? b=some o->s.heap.get? b=some o
 new:∀ b,Mut (H b)->B.h₀.get? b=none
noncomputable def Ext (H:AH) (h:Heap) (H':AH) (h':Heap):Prop:=
 ∀ b o,¬Mut (H b)->h.get? b=some o->h'.get? b=some o∧¬Mut (H' b)∧(H b=none->H' b=none)
noncomputable def ExtP (P:Addr->Prop) (H:AH) (h:Heap) (H':AH) (h':Heap):Prop:=
 ∀ b o,¬P b->¬Mut (H b)->h.get? b=some o->h'.get? b=some o∧¬Mut (H' b)∧(H b=none->H' b=none)
theorem Ext.refl {H:AH}{h:Heap}:Ext H h H h:=fun _ _ m e=>⟨e,m,id⟩
theorem Ext.trans {H H' H'':AH}{h h' h'':Heap}(x:Ext H h H' h') (y:Ext H' h' H'' h''):Ext H h H'' h'':=fun b o m e=>
 let ⟨e',m',z⟩:=x b o m e;let ⟨e2,m2,z2⟩:=y b o m' e';⟨e2,m2,fun q=>z2 (z q)⟩
theorem ExtP.refl {P} {H:AH}{h:Heap}:ExtP P H h H h:=fun _ _ _ m e=>⟨e,m,id⟩
theorem ExtP.trans {P} {H H' H'':AH}{h h' h'':Heap}(x:ExtP P H h H' h') (y:ExtP P H' h' H'' h''):ExtP P H h H'' h'':=fun b o p m e=>
 let ⟨e',m',z⟩:=x b o p m e;let ⟨e2,m2,z2⟩:=y b o p m' e';⟨e2,m2,fun q=>z2 (z q)⟩
theorem Ext.toP {P} {H H':AH}{h h':Heap}(x:Ext H h H' h'):ExtP P H h H' h':=fun b o _ m e=>x b o m e
section
variable {B:Base}{H H':AH}{s:Shared}
theorem Ok.fresh (k:Ok B H s) {a:Addr}(h:s.heap.objs.size≤a):H a=none:=by
 induction q:H a using Option.casesOn with
 | none=>rfl
 | some o=>obtain ⟨ob,e⟩:=(k.rep a o q).alive;exact absurd (Yn e) (Yj.mpr h)
theorem Ok.toks (k:Ok B H s) (t:Nat):Ok B H { s with toks:=t }:=⟨k.rep,k.gens,k.os,k.base,k.new⟩
theorem Ok.X (g:B.Good) (k:Ok B H s):B.K.In s.heap:=g.X.keeps k.base
theorem Ok.heap (k:Ok B H s) {h':Heap}{t:Nat}(q:∀ b o,(H b≠none∨B.h₀.get? b≠none)->s.heap.get? b=some o->h'.get? b=some o):Ok B H { s with heap:=h',toks:=t }:=
 ⟨fun a o e=>(k.rep a o e).same fun ob h=>q a ob (.inl (by rw[e];exact fun x=>nomatch x)) h,k.gens,k.os,fun b o e=>q b o (.inr (by rw[e];exact fun x=>nomatch x)) (k.base b o e),k.new⟩
theorem Ok.push (k:Ok B H s) (o:Obj) {t:Nat}:Ok B H { s with heap:=s.heap.push o,toks:=t }:=
 k.heap fun _ _ _ e=>Z5 _ e
theorem Ext.push (k:Ok B H s) (o:Obj):Ext H s.heap H (s.heap.push o):=fun _ _ m e=>⟨Z5 _ e,m,id⟩
theorem Ok.alloc (k:Ok B H s) {o:AO}{ob:Obj}{t:Nat}(hf:ob.isFreed=false) (r:Rep B (s.heap.push ob) s.heap.objs.size o) :
  Ok B (upd H s.heap.objs.size o) { s with heap:=s.heap.push ob,toks:=t }:=by
 refine⟨fun a o' e=>?_,k.gens,k.os,fun b o' e=>Z5 _ (k.base b o' e),fun b m=>?_⟩
 ·unfold upd at e
  split at e
  ·rename_i q;subst q;have e:=Option.some.inj e;subst e;exact r
  ·exact (k.rep a o' e).same fun ob' h=>Z5 _ h
 ·unfold upd at m
  split at m
  ·rename_i q
   subst q
   induction q':B.h₀.get? s.heap.objs.size using Option.casesOn with
   | none=>rfl
   | some o'=>exact absurd (Yn (k.base _ _ q')) (Y2 _)
  ·exact k.new b m
theorem Ext.alloc (k:Ok B H s) {o:AO}{h':Heap}(q:∀ b ob,s.heap.get? b=some ob->h'.get? b=some ob):Ext H s.heap (upd H s.heap.objs.size o) h':=fun b o' m e=>by
 refine⟨q b o' e,?_⟩
 unfold upd
 split
 ·rename_i q';subst q';exact absurd (Yn e) (Y2 _)
 ·exact⟨m,id⟩
theorem Ok.store (k:Ok B H s) {a:Addr}{o₀ o:AO}{h':Heap}{t:Nat}(h0:H a=some o₀) (hm:Mut (some o₀)) (sb:Heap.SameBut a s.heap h') (r:Rep B h' a o) :
  Ok B (upd H a o) { s with heap:=h',toks:=t }:=by
 have hn:B.h₀.get? a=none:=k.new a (by rw[h0];exact hm)
 refine⟨fun b o' e=>?_,k.gens,k.os,fun b o' e=>?_,fun b m=>?_⟩
 ·unfold upd at e
  split at e
  ·rename_i q;subst q;have e:=Option.some.inj e;subst e;exact r
  ·rename_i q;exact (k.rep b o' e).same fun ob h=>(sb.2 b q).trans h
 ·exact (sb.2 b fun q=>by rw[q,hn] at e;exact ncs e).trans (k.base b o' e)
 ·unfold upd at m
  split at m
  ·rename_i q;subst q;exact hn
  ·exact k.new b m
theorem Ext.store {a:Addr}{o₀ o:AO}{h h':Heap}(h0:H a=some o₀) (hm:Mut (some o₀)) (sb:Heap.SameBut a h h'):Ext H h (upd H a o) h':=fun b o' m e=>by
 have hb:b≠a:=fun q=>m (by rw[q,h0];exact hm)
 refine⟨(sb.2 b hb).trans e,?_⟩
 unfold upd
 rw[if_neg hb];exact⟨m,id⟩
theorem Ok.list (k:Ok B H s) {a:Addr}{xs:List MV}(e:H a=some (.list xs)):∃ items n,s.heap.get? a=some (seqObj "list" items n)∧items.toList.map strip=xs∧xs.length≤LIM:=k.rep a _ e
end
noncomputable def Room (d:Nat) (A:Around):Prop:=A.handled=none∧A.depth+d≤990∧A.units+20*d≤9700
theorem Room.mono {d d':Nat}{A:Around}(r:Room d A) (h:d'≤d):Room d' A:=⟨r.1,Zf (Xn h _) r.2.1,by have:=r.2.2;exact Zf (Xn (Ws 20 h) _) this⟩
theorem Room.in1 {d:Nat}{A:Around}(r:Room (d+1) A):Room d A.in1:=⟨r.1,by have:=r.2.1;show A.depth+d≤990;exact Yl this,by have:=r.2.2;show A.units+1+20*d≤9700;lia⟩
theorem Room.deeper {d:Nat}{A:Around}{env:Env}(r:Room (d+1) A):Room d (A.deeper env):=⟨r.1,by have:=r.2.1;show A.depth+1+d≤990;lia,by have:=r.2.2;show A.units+3+20*d≤9700;lia⟩
theorem Room.depth {d:Nat}{A:Around}(r:Room d A):A.depth<recursionLimit:=by have:=r.2.1;show A.depth<1000;exact Ze (Zf (Wl _ _) this) (by decide)
theorem Room.units {d:Nat}{A:Around}(r:Room d A):A.units+64<cLine:=by have:=r.2.2;show A.units+64<9900;exact rm3 this
noncomputable def NoE:Value->Shared->Prop:=fun _ _=>False
noncomputable def W {α:Type}(B:Base) (A:Around) (t:Sem α) (H:AH) (s:Shared) (Q:α->AH->Shared->Prop):Prop:=
 wpAny B.M A t (fun v s'=>∃ H',Ok B H' s'∧Ext H s.heap H' s'.heap∧Q v H' s') NoE s
theorem W.then_ {α:Type}{B:Base}{A:Around}{t:Sem α}{H:AH}{s:Shared}{Q:α->AH->Shared->Prop}{Q':α->Shared->Prop}{E:Value->Shared->Prop}(h:W B A t H s Q)
  (hQ:∀ v H' s',Ok B H' s'->Ext H s.heap H' s'.heap->Q v H' s'->Q' v s'):wpAny B.M A t Q' E s:=
 wpAny_mono h (fun v s' ⟨H',k,x,q⟩=>hQ v H' s' k x q) fun _ _ e=>e.elim
inductive BF | len | abs | int | list | tuple | min | max | sum | sorted
 deriving DecidableEq
mutual
inductive ME where
 | var (i:Nat)
 | cst (c:MV)
 | glob (i:Nat) (v:MV)
 | bfn (i:Nat) (b:BF)
 | attr (e:ME) (a:Nat)
 | bnd (e:ME) (m:Nat)
 | sub (e i:ME)
 | subk (e:ME) (k:Bool)
 | sliceTo (e hi:ME)
 | sliceFrom (e lo:ME)
 | neg (e:ME)
 | bin (op:Operator) (a b:ME)
 | cmp (op:CmpOp) (a b:ME)
 | bop (isAnd:Bool) (a b:ME)
 | not (e:ME)
 | ite (t a b:ME)
 | call (i:Nat) (f:Addr) (args:MEs)
 | mcall (e:ME) (m:Nat) (args:MEs)
 | new (i:Nat) (C f:Addr) (args:MEs)
 | bcall (i:Nat) (b:BF) (args:MEs)
 | sortedK (i:Nat) (e key:ME)
 | lsortK (e key:ME) (rev:Bool)
 | list (es:MEs)
 | tup (es:MEs)
 | dict2 (a b:ME)
 | comp (elt:ME) (ts:List Nat) (src:MR) (conds:MEs)
inductive MEs where
 | nil
 | cons (e:ME) (es:MEs)
inductive MR where
 | rng (lo hi:ME) (step:Bool) (n:Nat)
 | seq (e:ME)
 | enm (e:ME)
end
noncomputable def MEs.length:MEs->Nat
 | .nil=>0
 | .cons _ es=>es.length+1
structure Sig where
 at_:Addr->Nat->Bool
 meth:Addr->Nat->Option Addr
 SC:Addr->List MV->AH->(MV->AH->Prop)->Prop
noncomputable def seqAt (H:AH) (a:Addr):Option (List MV):=match H a with
 | some (.list xs)=>some xs
 | some (.tup xs)=>some xs
 | some (.ro xs)=>some xs
 | _=>none
noncomputable def pyIdx (n:Nat) (i:Int):Option Nat:=if 0≤i then (if i.toNat<n then some i.toNat else none) else (if 0≤i+n then some (i+n).toNat else none)
noncomputable def getAt (xs:List MV) (i:Int):Option MV:=(pyIdx xs.length i).bind fun k=>xs[k]?
inductive ReadM (H:AH):MV->PyData->Prop
 | none:ReadM H .none .none
 | bool (b:Bool):ReadM H (.bool b) (.bool b)
 | int (i:Int):ReadM H (.int i) (.int i)
 | list {a:Addr}{xs:List MV}{ds:List PyData}:H a=some (.list xs)->All2 (ReadM H) xs ds->ReadM H (.ref a) (.list ds)
 | tup {a:Addr}{xs:List MV}{ds:List PyData}:H a=some (.tup xs)->All2 (ReadM H) xs ds->ReadM H (.ref a) (.tuple ds)
noncomputable def pairLt (a b c d:Int):Bool:=if a == c then decide (b<d) else decide (a<c)
noncomputable def one1 {α:Type}(l:List α) (k:α->Prop):Prop:=match l with
 | [v]=>k v
 | _=>False
noncomputable def one2 {α:Type}(l:List α) (k:α->α->Prop):Prop:=match l with
 | [u,v]=>k u v
 | _=>False
noncomputable def asI (v:MV) (k:Int->Prop):Prop:=match v with
 | .int i=>k i
 | _=>False
noncomputable def asR (v:MV) (k:Addr->Prop):Prop:=match v with
 | .ref a=>k a
 | _=>False
theorem one1.inv {α β:Type}{f:α->β}{l:List α}{k:β->Prop}{R:Prop}(h:one1 (l.map f) k) (q:∀ a,l=[a]->k (f a)->R):R:=by
 induction l using List.casesOn with
 | nil=>exact False.elim h
 | cons a l=>induction l using List.casesOn with
  | nil=>exact q a rfl h
  | cons _ _=>exact False.elim h
theorem one2.inv {α β:Type}{f:α->β}{l:List α}{k:β->β->Prop}{R:Prop}(h:one2 (l.map f) k) (q:∀ a b,l=[a,b]->k (f a) (f b)->R):R:=by
 induction l using List.casesOn with
 | nil=>exact False.elim h
 | cons a l=>induction l using List.casesOn with
  | nil=>exact False.elim h
  | cons b l=>induction l using List.casesOn with
   | nil=>exact q a b rfl h
   | cons _ _=>exact False.elim h
noncomputable def asB (v:MV) (k:Bool->Prop):Prop:=match v with
 | .bool b=>k b
 | _=>False
noncomputable def as3 (v:MV) (ki:Int->Prop) (kb:Bool->Prop) (kr:Addr->Prop):Prop:=match v with
 | .int i=>ki i
 | .bool b=>kb b
 | .ref a=>kr a
 | _=>False
noncomputable def wpCmp (op:CmpOp) (a b:MV) (H:AH) (Q:MV->AH->Prop):Prop:=
 match op with
 | .Lt=>as3 a (fun i=>asI b fun j=>Q (.bool (decide (i<j))) H) (fun _=>False) fun x=>asR b fun y=>∃ i1 i2 j1 j2,H x=some (.tup [.int i1,.int i2])∧H y=some (.tup [.int j1,.int j2])∧Q (.bool (pairLt i1 i2 j1 j2)) H
 | .LtE=>asI a fun i=>asI b fun j=>Q (.bool (decide (i≤j))) H
 | .Gt=>asI a fun i=>asI b fun j=>Q (.bool (decide (j<i))) H
 | .GtE=>asI a fun i=>asI b fun j=>Q (.bool (decide (j≤i))) H
 | .Eq=>as3 a (fun i=>asI b fun j=>Q (.bool (i == j)) H) (fun i=>asB b fun j=>Q (.bool (i == j)) H) fun x=>asR b fun y=>∃ d1 d2,ReadM H (.ref x) d1∧ReadM H (.ref y) d2∧d1.canLay0=true∧d1.depth≤64∧d2.canLay0=true∧d2.depth≤64∧Q (.bool (PyData.eqv d1 d2)) H
 | .NotEq=>as3 a (fun i=>asI b fun j=>Q (.bool (i != j)) H) (fun i=>asB b fun j=>Q (.bool (i != j)) H) fun x=>asR b fun y=>∃ d1 d2,ReadM H (.ref x) d1∧ReadM H (.ref y) d2∧d1.canLay0=true∧d1.depth≤64∧d2.canLay0=true∧d2.depth≤64∧Q (.bool (!PyData.eqv d1 d2)) H
 | .Is=>b=.none∧Q (.bool (decide (a=.none))) H
 | .IsNot=>b=.none∧Q (.bool (decide (a≠.none))) H
 | .In=>asI a fun i=>asR b fun y=>∃ js:List Int,seqAt H y=some (js.map MV.int)∧Q (.bool (decide (i∈js))) H
 | .NotIn=>asI a fun i=>asR b fun y=>∃ js:List Int,seqAt H y=some (js.map MV.int)∧Q (.bool (decide (i∉js))) H
noncomputable def addL (x y:Addr) (H:AH) (Q:MV->AH->Prop):Prop:=∃ xs ys,H x=some (.list xs)∧H y=some (.list ys)∧xs.length+ys.length≤LIM∧∀ a,H a=none->Q (.ref a) (upd H a (.list (xs++ys)))
noncomputable def wpBin (op:Operator) (a b:MV) (H:AH) (Q:MV->AH->Prop):Prop:=
 match op with
 | .Add=>as3 a (fun i=>asI b fun j=>Q (.int (i+j)) H) (fun _=>False) fun x=>asR b fun y=>addL x y H Q
 | .Sub=>asI a fun i=>asI b fun j=>Q (.int (i - j)) H
 | .Mult=>asI a fun i=>asI b fun j=>(i.natAbs<2 ^ 62∨j.natAbs<2 ^ 62)∧Q (.int (i*j)) H
 | .FloorDiv=>asI a fun i=>asI b fun j=>(j≠0∧j.natAbs<2 ^ 62)∧Q (.int (i.fdiv j)) H
 | .Mod=>asI a fun i=>asI b fun j=>(j≠0∧j.natAbs<2 ^ 62)∧Q (.int (i.fmod j)) H
 | _=>False
noncomputable def wpLM (x:Addr) (m:Nat) (vals:List MV) (H:AH) (Q:MV->AH->Prop):Prop:=
 ∃ xs,H x=some (.list xs)∧match m with
  | 0=>one1 vals fun v=>xs.length<LIM∧Q .none (upd H x (.list (xs++[v])))
  | 1=>one1 vals fun v=>asR v fun b=>∃ ys,H b=some (.list ys)∧b≠x∧xs.length+ys.length≤LIM∧Q .none (upd H x (.list (xs++ys)))
  | 2=>vals=[]∧∃ ys v,xs=ys++[v]∧Q v (upd H x (.list ys))
  | _=>False
noncomputable def asO (o:Option AO) (ki:Addr->Addr->Prop) (kl:Prop):Prop:=match o with
 | some (.inst C d)=>ki C d
 | some (.list _)=>kl
 | _=>False
theorem asO.inv {o:Option AO}{ki:Addr->Addr->Prop}{kl:Prop}{R:Prop}(h:asO o ki kl) (q1:∀ C d,o=some (.inst C d)->ki C d->R) (q2:∀ xs,o=some (.list xs)->kl->R):R:=by
 induction o using Option.casesOn with
 | none=>exact False.elim h
 | some o=>induction o using Mine.AO.casesOn with
  | inst C d=>exact q1 C d rfl h
  | list xs=>exact q2 xs rfl h
  | _=>exact False.elim h
noncomputable def wpBF (b:BF) (vals:List MV) (H:AH) (Q:MV->AH->Prop):Prop:=
 match b with
 | .len=>one1 vals fun v=>asR v fun a=>∃ xs,seqAt H a=some xs∧Q (.int xs.length) H
 | .abs=>one1 vals fun v=>asI v fun i=>Q (.int (if i<0 then -i else i)) H
 | .int=>one1 vals fun v=>asI v fun i=>Q (.int i) H
 | .list=>one1 vals fun v=>asR v fun a=>∃ xs,H a=some (.list xs)∧∀ b,H b=none->Q (.ref b) (upd H b (.list xs))
 | .tuple=>one1 vals fun v=>asR v fun a=>∃ xs,H a=some (.list xs)∧∀ b,H b=none->Q (.ref b) (upd H b (.tup xs))
 | .min=>one2 vals fun u v=>asI u fun i=>asI v fun j=>Q (.int (min i j)) H
 | .max=>one2 vals fun u v=>asI u fun i=>asI v fun j=>Q (.int (max i j)) H
 | .sum=>one1 vals fun v=>asR v fun a=>∃ js:List Int,H a=some (.list (js.map MV.int))∧Q (.int js.sum) H
 | .sorted=>one1 vals fun v=>asR v fun a=>∃ js:List Int,H a=some (.list (js.map MV.int))∧js.length<64∧∀ b (ks:List Int),H b=none->ks.Perm js->ks.Pairwise (·≤·)->Q (.ref b) (upd H b (.list (ks.map MV.int)))
noncomputable def wpKeyFn (S:Sig) (key x:MV) (H:AH) (Q:MV->AH->Prop):Prop:=
 match key with
 | .raw v=>v=.builtin "abs"∧wpBF .abs [x] H Q
 | .ref a=>(∃ f s,H a=some (.meth f s)∧S.SC f [.ref s,x] H Q)∨S.SC a [x] H Q
 | _=>False
noncomputable def wpKeys (S:Sig) (key:MV):List MV->AH->(List MV->AH->Prop)->Prop
 | [],H,R=>R [] H
 | x::xs,H,R=>wpKeyFn S key x H fun k H'=>wpKeys S key xs H' fun ks H''=>R (k::ks) H''
noncomputable def KeyIs (H:AH) (v:MV) (z:List Int):Prop:=(∃ i,v=.int i∧z=[i])∨∃ a i j,v=.ref a∧H a=some (.tup [.int i,.int j])∧z=[i,j]
noncomputable def lexLe:List Int->List Int->Bool
 | [],_=>true
 | _::_,[]=>false
 | a::as,b::bs=>if a == b then lexLe as bs else decide (a<b)
noncomputable def SortOut (rev:Bool) (kz:List (List Int)) (xs ys:List MV):Prop:=
 (∃ ps:List (List Int × MV),ps.Perm (kz.zip xs)∧ys=ps.map Prod.snd∧ps.Pairwise fun p q=>if rev then lexLe q.1 p.1=true else lexLe p.1 q.1=true)∧
 ((∃ z,∀ k∈kz,k=z)->ys=xs)
noncomputable def keyForm:MV->Prop
 | .ref _=>True
 | .raw v=>v=.builtin "abs"
 | _=>False
noncomputable def wpSort (S:Sig) (key:MV) (rev:Bool) (xs:List MV) (H:AH) (R:List MV->AH->Prop):Prop:=
 (keyForm key∧xs.length<64)∧wpKeys S key xs H fun kvs H'=>∃ kz n,All2 (KeyIs H') kvs kz∧(∀ k∈kz,k.length=n)∧∀ ys,SortOut rev kz xs ys->R ys H'
inductive Src where
 | ints (l:List Int)
 | fix (xs:List MV)
 | lst (a:Addr)
 | enm (a:Addr)
noncomputable def Src.next (H:AH) (i:Nat):Src->Option (Option MV)
 | .ints l=>some (l[i]?.map MV.int)
 | .fix xs=>some xs[i]?
 | .lst a=>(match H a with | some (.list xs)=>some xs[i]? | _=>none)
 | .enm _=>none
noncomputable def Src.nextL (H:AH) (i:Nat):Src->Option (Option (List MV))
 | .enm a=>(match H a with | some (.list xs)=>some (xs[i]?.map fun v=>[MV.int i,v]) | _=>none)
 | .ints l=>some (l[i]?.map fun x=>[MV.int x])
 | .fix xs=>some (xs[i]?.map fun v=>[v])
 | .lst a=>(match H a with | some (.list xs)=>some (xs[i]?.map fun v=>[v]) | _=>none)
noncomputable def updRs (ρ:RH):List Nat->List MV->RH
 | t::ts,v::vs=>updRs (updR ρ t v) ts vs
 | _,_=>ρ
noncomputable def del (H:AH) (a:Addr):AH:=fun b=>if b=a then none else H b
noncomputable def rngUp (a b:Int):List Int:=(List.range (b - a).toNat).map fun (k:Nat)=>a+(k:Int)
noncomputable def rngDown (a b:Int):List Int:=(List.range (a - b).toNat).map fun (k:Nat)=>a - (k:Int)
noncomputable def small (i:Int):Prop:=-(2 ^ 60)≤i∧i<2 ^ 60
mutual
noncomputable def wpE (S:Sig):ME->RH->AH->(MV->AH->Prop)->Prop
 | .var i,ρ,H,Q=>∃ v,ρ i=some v∧Q v H
 | .cst c,_,H,Q=>Q c H
 | .glob _ v,_,H,Q=>Q v H
 | .bfn _ b,_,H,Q=>b=.abs∧Q (.raw (.builtin "abs")) H
 | .attr e a,ρ,H,Q=>wpE S e ρ H fun v H=>∃ x C d l u,v=.ref x∧H x=some (.inst C d)∧H d=some (.ns l)∧S.at_ C a=true∧l.lookup a=some u∧Q u H
 | .bnd e m,ρ,H,Q=>wpE S e ρ H fun v H=>∃ x C d l f,v=.ref x∧H x=some (.inst C d)∧H d=some (.ns l)∧l.lookup m=none∧S.meth C m=some f∧∀ a,H a=none->Q (.ref a) (upd H a (.meth f x))
 | .sub e i,ρ,H,Q=>wpE S e ρ H fun v H=>wpE S i ρ H fun k H=>∃ x n xs u,v=.ref x∧k=.int n∧seqAt H x=some xs∧getAt xs n=some u∧Q u H
 | .subk e k,ρ,H,Q=>wpE S e ρ H fun v H=>∃ x c a,v=.ref x∧H x=some (.pot c a)∧Q (if k then a else c) H
 | .sliceTo e hi,ρ,H,Q=>wpE S e ρ H fun v H=>wpE S hi ρ H fun k H=>(∃ x,∃ n:Nat,∃ xs,v=.ref x∧k=.int n∧(H x=some (.list xs)∨H x=some (.ro xs))∧∀ a,H a=none->Q (.ref a) (upd H a (.list (xs.take n))))∨(∃ x xs,v=.ref x∧k=.int (-1)∧H x=some (.list xs)∧∀ a,H a=none->Q (.ref a) (upd H a (.list xs.dropLast)))
 | .sliceFrom e lo,ρ,H,Q=>wpE S e ρ H fun v H=>wpE S lo ρ H fun k H=>∃ x n xs,v=.ref x∧k=.int n∧H x=some (.list xs)∧0≤n∧n≤xs.length∧∀ a,H a=none->Q (.ref a) (upd H a (.list (xs.drop n.toNat)))
 | .neg e,ρ,H,Q=>wpE S e ρ H fun v H=>∃ i,v=.int i∧Q (.int (-i)) H
 | .bin op a b,ρ,H,Q=>wpE S a ρ H fun u H=>wpE S b ρ H fun v H=>wpBin op u v H Q
 | .cmp op a b,ρ,H,Q=>wpE S a ρ H fun u H=>wpE S b ρ H fun v H=>wpCmp op u v H Q
 | .bop isAnd a b,ρ,H,Q=>wpE S a ρ H fun u H=>∃ c,u=.bool c∧if c=isAnd then wpE S b ρ H Q else Q (.bool c) H
 | .not e,ρ,H,Q=>wpE S e ρ H fun v H=>∃ c,v=.bool c∧Q (.bool (!c)) H
 | .ite t a b,ρ,H,Q=>wpE S t ρ H fun v H=>∃ c,v=.bool c∧if c=true then wpE S a ρ H Q else wpE S b ρ H Q
 | .call _ f args,ρ,H,Q=>wpEs S args ρ H fun vs H=>S.SC f vs H Q
 | .mcall e m args,ρ,H,Q=>wpE S e ρ H fun u H=>∃ x,u=.ref x∧asO (H x) (fun C d=>∃ l f,H d=some (.ns l)∧l.lookup m=none∧S.meth C m=some f∧wpEs S args ρ H fun vs H=>S.SC f (.ref x::vs) H Q)
  (m<3∧wpEs S args ρ H fun vs H=>wpLM x m vs H Q)
 | .new _ C f args,ρ,H,Q=>wpEs S args ρ H fun vs H=>∀ d x,H d=none->H x=none->d≠x->
   S.SC f (.ref x::vs) (upd (upd H d (.ns [])) x (.inst C d)) fun r H=>r=.none∧Q (.ref x) H
 | .bcall _ b args,ρ,H,Q=>wpEs S args ρ H fun vs H=>wpBF b vs H Q
 | .sortedK _ e key,ρ,H,Q=>wpE S e ρ H fun v H=>wpE S key ρ H fun k H=>∃ x xs,v=.ref x∧(H x=some (.list xs))∧wpSort S k false xs H fun ys H=>∀ a,H a=none->Q (.ref a) (upd H a (.list ys))
 | .lsortK e key rev,ρ,H,Q=>wpE S e ρ H fun v H=>∃ x xs0,v=.ref x∧H x=some (.list xs0)∧wpE S key ρ H fun k H=>∃ xs,H x=some (.list xs)∧wpSort S k rev xs (del H x) fun ys H=>Q .none (upd H x (.list ys))
 | .list es,ρ,H,Q=>wpEs S es ρ H fun vs H=>∀ a,H a=none->Q (.ref a) (upd H a (.list vs))
 | .tup es,ρ,H,Q=>wpEs S es ρ H fun vs H=>∀ a,H a=none->Q (.ref a) (upd H a (.tup vs))
 | .dict2 a b,ρ,H,Q=>wpE S a ρ H fun u H=>wpE S b ρ H fun v H=>∀ a,H a=none->Q (.ref a) (upd H a (.pot u v))
 | .comp elt ts src conds,ρ,H,Q=>wpR S src ρ H fun sr H=>∃ (I:Nat->List MV->AH->Prop) (N:Nat),I 0 [] H∧∀ i acc H,I i acc H->i≤N∧acc.length≤1000∧
   match sr.nextL H i with
   | none=>False
   | some none=>∀ a,H a=none->Q (.ref a) (upd H a (.list acc))
   | some (some vs)=>wpConds S conds (updRs ρ ts vs) H fun c H=>if c=true then wpE S elt (updRs ρ ts vs) H fun u H=>I (i+1) (acc++[u]) H else I (i+1) acc H
noncomputable def wpEs (S:Sig):MEs->RH->AH->(List MV->AH->Prop)->Prop
 | .nil,_,H,Q=>Q [] H
 | .cons e es,ρ,H,Q=>wpE S e ρ H fun v H=>wpEs S es ρ H fun vs H=>Q (v::vs) H
noncomputable def wpConds (S:Sig):MEs->RH->AH->(Bool->AH->Prop)->Prop
 | .nil,_,H,Q=>Q true H
 | .cons e es,ρ,H,Q=>wpE S e ρ H fun v H=>∃ c,v=.bool c∧if c=true then wpConds S es ρ H Q else Q false H
noncomputable def wpR (S:Sig):MR->RH->AH->(Src->AH->Prop)->Prop
 | .rng lo hi step _,ρ,H,Q=>wpE S lo ρ H fun u H=>wpE S hi ρ H fun v H=>∃ i j,u=.int i∧v=.int j∧small i∧small j∧Q (.ints (if step then rngUp i j else rngDown i j)) H
 | .seq e,ρ,H,Q=>wpE S e ρ H fun v H=>∃ a,v=.ref a∧((∃ xs,(H a=some (.tup xs)∨H a=some (.ro xs))∧Q (.fix xs) H)∨((∃ xs,H a=some (.list xs))∧Q (.lst a) H))
 | .enm e,ρ,H,Q=>wpE S e ρ H fun v H=>∃ a xs,v=.ref a∧H a=some (.list xs)∧Q (.enm a) H
end
inductive MT where
 | name (i:Nat)
 | attr (e:ME) (a:Nat)
 | sub (e i:ME)
 | subk (e:ME)
mutual
inductive MS where
 | expr (e:ME)
 | asg (t:MT) (e:ME)
 | asgT (ts:List MT) (e:ME)
 | ifS (t:ME) (a b:MSs)
 | whileS (t:ME) (b:MSs)
 | forS (x:Nat) (src:MR) (b:MSs)
 | ret (e:ME)
 | retN
 | brk
 | cont
 | dead
inductive MSs where
 | nil
 | cons (s:MS) (r:MSs)
end
noncomputable def setNs:List (Nat × MV)->Nat->MV->List (Nat × MV)
 | [],i,v=>[(i,v)]
 | (j,u)::r,i,v=>if j=i then (j,v)::r else (j,u)::setNs r i v
noncomputable def wpA (S:Sig) (t:MT) (v:MV) (ρ:RH) (H:AH) (Q:RH->AH->Prop):Prop:=
 match t with
 | .name i=>Q (updR ρ i v) H
 | .attr e a=>wpE S e ρ H fun u H=>∃ x C d l,u=.ref x∧H x=some (.inst C d)∧H d=some (.ns l)∧S.at_ C a=true∧notRaw v=true∧(setNs l a v).length≤500∧Q ρ (upd H d (.ns (setNs l a v)))
 | .sub e i=>wpE S e ρ H fun u H=>wpE S i ρ H fun k H=>∃ x n xs,u=.ref x∧k=.int n∧H x=some (.list xs)∧0≤n∧n<xs.length∧Q ρ (upd H x (.list (xs.set n.toNat v)))
 | .subk e=>wpE S e ρ H fun u H=>∃ x c a,u=.ref x∧H x=some (.pot c a)∧Q ρ (upd H x (.pot c v))
noncomputable def wpAs (S:Sig):List MT->List MV->RH->AH->(RH->AH->Prop)->Prop
 | [],[],ρ,H,Q=>Q ρ H
 | t::ts,v::vs,ρ,H,Q=>wpA S t v ρ H fun ρ H=>wpAs S ts vs ρ H Q
 | _,_,_,_,_=>False
inductive Fl where
 | next | brk | cont
 | ret (v:MV)
mutual
noncomputable def wpS (S:Sig):MS->RH->AH->(Fl->RH->AH->Prop)->Prop
 | .expr e,ρ,H,Q=>wpE S e ρ H fun v H=>(∀ a,v≠.ref a)∧Q .next ρ H
 | .asg t e,ρ,H,Q=>wpE S e ρ H fun v H=>wpA S t v ρ H fun ρ H=>Q .next ρ H
 | .asgT ts e,ρ,H,Q=>wpE S e ρ H fun v H=>∃ a xs,v=.ref a∧H a=some (.tup xs)∧xs.length=ts.length∧wpAs S ts xs ρ H fun ρ H=>Q .next ρ H
 | .ifS t a b,ρ,H,Q=>wpE S t ρ H fun v H=>∃ c,v=.bool c∧if c=true then wpL S a ρ H Q else wpL S b ρ H Q
 | .whileS t b,ρ,H,Q=>∃ I:Nat->RH->AH->Prop,(∃ n,I n ρ H)∧∀ n ρ H,I n ρ H->wpE S t ρ H fun v H=>∃ c,v=.bool c∧
   if c=true then wpL S b ρ H fun fl ρ H=>match fl with
    | .next | .cont=>∃ m,m<n∧I m ρ H
    | .brk=>Q .next ρ H
    | .ret v=>Q (.ret v) ρ H
   else Q .next ρ H
 | .forS x src b,ρ,H,Q=>wpR S src ρ H fun sr H=>∃ (I:Nat->RH->AH->Prop) (N:Nat),I 0 ρ H∧∀ i ρ H,I i ρ H->i≤N∧
   match sr.next H i with
   | none=>False
   | some none=>Q .next ρ H
   | some (some v)=>wpL S b (updR ρ x v) H fun fl ρ H=>match fl with
    | .next | .cont=>I (i+1) ρ H
    | .brk=>Q .next ρ H
    | .ret v=>Q (.ret v) ρ H
 | .ret e,ρ,H,Q=>wpE S e ρ H fun v H=>Q (.ret v) ρ H
 | .retN,ρ,H,Q=>Q (.ret .none) ρ H
 | .brk,ρ,H,Q=>Q .brk ρ H
 | .cont,ρ,H,Q=>Q .cont ρ H
 | .dead,_,_,_=>False
noncomputable def wpL (S:Sig):MSs->RH->AH->(Fl->RH->AH->Prop)->Prop
 | .nil,ρ,H,Q=>Q .next ρ H
 | .cons s r,ρ,H,Q=>wpS S s ρ H fun fl ρ H=>match fl with
  | .next=>wpL S r ρ H Q
  | fl=>Q fl ρ H
end
section
variable {S:Sig}{ρ:RH}{H:AH}{Q:MV->AH->Prop}
theorem eVar {i:Nat}(h:∃ v,ρ i=some v∧Q v H):wpE S (.var i) ρ H Q:=h
theorem dVar {i:Nat}(h:wpE S (.var i) ρ H Q):∃ v,ρ i=some v∧Q v H:=h
theorem eCst {c:MV}(h:Q c H):wpE S (.cst c) ρ H Q:=h
theorem dCst {c:MV}(h:wpE S (.cst c) ρ H Q):Q c H:=h
theorem eGlob {j1:Nat}{v:MV}(h:Q v H):wpE S (.glob j1 v) ρ H Q:=h
theorem dGlob {j1:Nat}{v:MV}(h:wpE S (.glob j1 v) ρ H Q):Q v H:=h
theorem dBfn {j1:Nat}{b:BF}(h:wpE S (.bfn j1 b) ρ H Q):b=.abs∧Q (.raw (.builtin "abs")) H:=h
theorem eAttr {e:ME}{a:Nat}(h:wpE S e ρ H fun v H=>∃ x C d l u,v=.ref x∧H x=some (.inst C d)∧H d=some (.ns l)∧S.at_ C a=true∧l.lookup a=some u∧Q u H):wpE S (.attr e a) ρ H Q:=h
theorem dAttr {e:ME}{a:Nat}(h:wpE S (.attr e a) ρ H Q):wpE S e ρ H fun v H=>∃ x C d l u,v=.ref x∧H x=some (.inst C d)∧H d=some (.ns l)∧S.at_ C a=true∧l.lookup a=some u∧Q u H:=h
theorem eBnd {e:ME}{m:Nat}(h:wpE S e ρ H fun v H=>∃ x C d l f,v=.ref x∧H x=some (.inst C d)∧H d=some (.ns l)∧l.lookup m=none∧S.meth C m=some f∧∀ a,H a=none->Q (.ref a) (upd H a (.meth f x))):wpE S (.bnd e m) ρ H Q:=h
theorem dBnd {e:ME}{m:Nat}(h:wpE S (.bnd e m) ρ H Q):wpE S e ρ H fun v H=>∃ x C d l f,v=.ref x∧H x=some (.inst C d)∧H d=some (.ns l)∧l.lookup m=none∧S.meth C m=some f∧∀ a,H a=none->Q (.ref a) (upd H a (.meth f x)):=h
theorem eSub {e:ME}{i:ME}(h:wpE S e ρ H fun v H=>wpE S i ρ H fun k H=>∃ x n xs u,v=.ref x∧k=.int n∧seqAt H x=some xs∧getAt xs n=some u∧Q u H):wpE S (.sub e i) ρ H Q:=h
theorem dSub {e:ME}{i:ME}(h:wpE S (.sub e i) ρ H Q):wpE S e ρ H fun v H=>wpE S i ρ H fun k H=>∃ x n xs u,v=.ref x∧k=.int n∧seqAt H x=some xs∧getAt xs n=some u∧Q u H:=h
theorem eSubk {e:ME}{k:Bool}(h:wpE S e ρ H fun v H=>∃ x c a,v=.ref x∧H x=some (.pot c a)∧Q (if k then a else c) H):wpE S (.subk e k) ρ H Q:=h
theorem dSubk {e:ME}{k:Bool}(h:wpE S (.subk e k) ρ H Q):wpE S e ρ H fun v H=>∃ x c a,v=.ref x∧H x=some (.pot c a)∧Q (if k then a else c) H:=h
theorem eSTo {e:ME}{hi:ME}(h:wpE S e ρ H fun v H=>wpE S hi ρ H fun k H=>(∃ x,∃ n:Nat,∃ xs,v=.ref x∧k=.int n∧(H x=some (.list xs)∨H x=some (.ro xs))∧∀ a,H a=none->Q (.ref a) (upd H a (.list (xs.take n))))∨(∃ x xs,v=.ref x∧k=.int (-1)∧H x=some (.list xs)∧∀ a,H a=none->Q (.ref a) (upd H a (.list xs.dropLast)))):wpE S (.sliceTo e hi) ρ H Q:=h
theorem dSTo {e:ME}{hi:ME}(h:wpE S (.sliceTo e hi) ρ H Q):wpE S e ρ H fun v H=>wpE S hi ρ H fun k H=>(∃ x,∃ n:Nat,∃ xs,v=.ref x∧k=.int n∧(H x=some (.list xs)∨H x=some (.ro xs))∧∀ a,H a=none->Q (.ref a) (upd H a (.list (xs.take n))))∨(∃ x xs,v=.ref x∧k=.int (-1)∧H x=some (.list xs)∧∀ a,H a=none->Q (.ref a) (upd H a (.list xs.dropLast))):=h
theorem eSFr {e:ME}{lo:ME}(h:wpE S e ρ H fun v H=>wpE S lo ρ H fun k H=>∃ x n xs,v=.ref x∧k=.int n∧H x=some (.list xs)∧0≤n∧n≤xs.length∧∀ a,H a=none->Q (.ref a) (upd H a (.list (xs.drop n.toNat)))):wpE S (.sliceFrom e lo) ρ H Q:=h
theorem dSFr {e:ME}{lo:ME}(h:wpE S (.sliceFrom e lo) ρ H Q):wpE S e ρ H fun v H=>wpE S lo ρ H fun k H=>∃ x n xs,v=.ref x∧k=.int n∧H x=some (.list xs)∧0≤n∧n≤xs.length∧∀ a,H a=none->Q (.ref a) (upd H a (.list (xs.drop n.toNat))):=h
theorem eNeg {e:ME}(h:wpE S e ρ H fun v H=>∃ i,v=.int i∧Q (.int (-i)) H):wpE S (.neg e) ρ H Q:=h
theorem dNeg {e:ME}(h:wpE S (.neg e) ρ H Q):wpE S e ρ H fun v H=>∃ i,v=.int i∧Q (.int (-i)) H:=h
theorem eBin {op:Operator}{a:ME}{b:ME}(h:wpE S a ρ H fun u H=>wpE S b ρ H fun v H=>wpBin op u v H Q):wpE S (.bin op a b) ρ H Q:=h
theorem dBin {op:Operator}{a:ME}{b:ME}(h:wpE S (.bin op a b) ρ H Q):wpE S a ρ H fun u H=>wpE S b ρ H fun v H=>wpBin op u v H Q:=h
theorem eCmp {op:CmpOp}{a:ME}{b:ME}(h:wpE S a ρ H fun u H=>wpE S b ρ H fun v H=>wpCmp op u v H Q):wpE S (.cmp op a b) ρ H Q:=h
theorem dCmp {op:CmpOp}{a:ME}{b:ME}(h:wpE S (.cmp op a b) ρ H Q):wpE S a ρ H fun u H=>wpE S b ρ H fun v H=>wpCmp op u v H Q:=h
theorem eBop {isAnd:Bool}{a:ME}{b:ME}(h:wpE S a ρ H fun u H=>∃ c,u=.bool c∧if c=isAnd then wpE S b ρ H Q else Q (.bool c) H):wpE S (.bop isAnd a b) ρ H Q:=h
theorem dBop {isAnd:Bool}{a:ME}{b:ME}(h:wpE S (.bop isAnd a b) ρ H Q):wpE S a ρ H fun u H=>∃ c,u=.bool c∧if c=isAnd then wpE S b ρ H Q else Q (.bool c) H:=h
theorem eNot {e:ME}(h:wpE S e ρ H fun v H=>∃ c,v=.bool c∧Q (.bool (!c)) H):wpE S (.not e) ρ H Q:=h
theorem dNot {e:ME}(h:wpE S (.not e) ρ H Q):wpE S e ρ H fun v H=>∃ c,v=.bool c∧Q (.bool (!c)) H:=h
theorem eIte {t:ME}{a:ME}{b:ME}(h:wpE S t ρ H fun v H=>∃ c,v=.bool c∧if c=true then wpE S a ρ H Q else wpE S b ρ H Q):wpE S (.ite t a b) ρ H Q:=h
theorem dIte {t:ME}{a:ME}{b:ME}(h:wpE S (.ite t a b) ρ H Q):wpE S t ρ H fun v H=>∃ c,v=.bool c∧if c=true then wpE S a ρ H Q else wpE S b ρ H Q:=h
theorem eCall {j1:Nat}{f:Addr}{args:MEs}(h:wpEs S args ρ H fun vs H=>S.SC f vs H Q):wpE S (.call j1 f args) ρ H Q:=h
theorem dCall {j1:Nat}{f:Addr}{args:MEs}(h:wpE S (.call j1 f args) ρ H Q):wpEs S args ρ H fun vs H=>S.SC f vs H Q:=h
theorem eMcall {e:ME}{m:Nat}{args:MEs}(h:wpE S e ρ H fun u H=>∃ x,u=.ref x∧asO (H x) (fun C d=>∃ l f,H d=some (.ns l)∧l.lookup m=none∧S.meth C m=some f∧wpEs S args ρ H fun vs H=>S.SC f (.ref x::vs) H Q)
  (m<3∧wpEs S args ρ H fun vs H=>wpLM x m vs H Q)):wpE S (.mcall e m args) ρ H Q:=h
theorem dMcall {e:ME}{m:Nat}{args:MEs}(h:wpE S (.mcall e m args) ρ H Q):wpE S e ρ H fun u H=>∃ x,u=.ref x∧asO (H x) (fun C d=>∃ l f,H d=some (.ns l)∧l.lookup m=none∧S.meth C m=some f∧wpEs S args ρ H fun vs H=>S.SC f (.ref x::vs) H Q)
  (m<3∧wpEs S args ρ H fun vs H=>wpLM x m vs H Q):=h
theorem eNew {j1:Nat}{C:Addr}{f:Addr}{args:MEs}(h:wpEs S args ρ H fun vs H=>∀ d x,H d=none->H x=none->d≠x->
   S.SC f (.ref x::vs) (upd (upd H d (.ns [])) x (.inst C d)) fun r H=>r=.none∧Q (.ref x) H):wpE S (.new j1 C f args) ρ H Q:=h
theorem dNew {j1:Nat}{C:Addr}{f:Addr}{args:MEs}(h:wpE S (.new j1 C f args) ρ H Q):wpEs S args ρ H fun vs H=>∀ d x,H d=none->H x=none->d≠x->
   S.SC f (.ref x::vs) (upd (upd H d (.ns [])) x (.inst C d)) fun r H=>r=.none∧Q (.ref x) H:=h
theorem eBcall {j1:Nat}{b:BF}{args:MEs}(h:wpEs S args ρ H fun vs H=>wpBF b vs H Q):wpE S (.bcall j1 b args) ρ H Q:=h
theorem dBcall {j1:Nat}{b:BF}{args:MEs}(h:wpE S (.bcall j1 b args) ρ H Q):wpEs S args ρ H fun vs H=>wpBF b vs H Q:=h
theorem eSortK {j1:Nat}{e:ME}{key:ME}(h:wpE S e ρ H fun v H=>wpE S key ρ H fun k H=>∃ x xs,v=.ref x∧(H x=some (.list xs))∧wpSort S k false xs H fun ys H=>∀ a,H a=none->Q (.ref a) (upd H a (.list ys))):wpE S (.sortedK j1 e key) ρ H Q:=h
theorem dSortK {j1:Nat}{e:ME}{key:ME}(h:wpE S (.sortedK j1 e key) ρ H Q):wpE S e ρ H fun v H=>wpE S key ρ H fun k H=>∃ x xs,v=.ref x∧(H x=some (.list xs))∧wpSort S k false xs H fun ys H=>∀ a,H a=none->Q (.ref a) (upd H a (.list ys)):=h
theorem eLsortK {e:ME}{key:ME}{rev:Bool}(h:wpE S e ρ H fun v H=>∃ x xs0,v=.ref x∧H x=some (.list xs0)∧wpE S key ρ H fun k H=>∃ xs,H x=some (.list xs)∧wpSort S k rev xs (del H x) fun ys H=>Q .none (upd H x (.list ys))):wpE S (.lsortK e key rev) ρ H Q:=h
theorem dLsortK {e:ME}{key:ME}{rev:Bool}(h:wpE S (.lsortK e key rev) ρ H Q):wpE S e ρ H fun v H=>∃ x xs0,v=.ref x∧H x=some (.list xs0)∧wpE S key ρ H fun k H=>∃ xs,H x=some (.list xs)∧wpSort S k rev xs (del H x) fun ys H=>Q .none (upd H x (.list ys)):=h
theorem eList {es:MEs}(h:wpEs S es ρ H fun vs H=>∀ a,H a=none->Q (.ref a) (upd H a (.list vs))):wpE S (.list es) ρ H Q:=h
theorem dList {es:MEs}(h:wpE S (.list es) ρ H Q):wpEs S es ρ H fun vs H=>∀ a,H a=none->Q (.ref a) (upd H a (.list vs)):=h
theorem eTup {es:MEs}(h:wpEs S es ρ H fun vs H=>∀ a,H a=none->Q (.ref a) (upd H a (.tup vs))):wpE S (.tup es) ρ H Q:=h
theorem dTup {es:MEs}(h:wpE S (.tup es) ρ H Q):wpEs S es ρ H fun vs H=>∀ a,H a=none->Q (.ref a) (upd H a (.tup vs)):=h
theorem eDict {a:ME}{b:ME}(h:wpE S a ρ H fun u H=>wpE S b ρ H fun v H=>∀ a,H a=none->Q (.ref a) (upd H a (.pot u v))):wpE S (.dict2 a b) ρ H Q:=h
theorem dDict {a:ME}{b:ME}(h:wpE S (.dict2 a b) ρ H Q):wpE S a ρ H fun u H=>wpE S b ρ H fun v H=>∀ a,H a=none->Q (.ref a) (upd H a (.pot u v)):=h
theorem eComp {elt:ME}{ts:List Nat}{src:MR}{conds:MEs}(h:wpR S src ρ H fun sr H=>∃ (I:Nat->List MV->AH->Prop) (N:Nat),I 0 [] H∧∀ i acc H,I i acc H->i≤N∧acc.length≤1000∧
   match sr.nextL H i with
   | none=>False
   | some none=>∀ a,H a=none->Q (.ref a) (upd H a (.list acc))
   | some (some vs)=>wpConds S conds (updRs ρ ts vs) H fun c H=>if c=true then wpE S elt (updRs ρ ts vs) H fun u H=>I (i+1) (acc++[u]) H else I (i+1) acc H):wpE S (.comp elt ts src conds) ρ H Q:=h
theorem dComp {elt:ME}{ts:List Nat}{src:MR}{conds:MEs}(h:wpE S (.comp elt ts src conds) ρ H Q):wpR S src ρ H fun sr H=>∃ (I:Nat->List MV->AH->Prop) (N:Nat),I 0 [] H∧∀ i acc H,I i acc H->i≤N∧acc.length≤1000∧
   match sr.nextL H i with
   | none=>False
   | some none=>∀ a,H a=none->Q (.ref a) (upd H a (.list acc))
   | some (some vs)=>wpConds S conds (updRs ρ ts vs) H fun c H=>if c=true then wpE S elt (updRs ρ ts vs) H fun u H=>I (i+1) (acc++[u]) H else I (i+1) acc H:=h
theorem esNil  {Q:List MV->AH->Prop}(h:Q [] H):wpEs S .nil ρ H Q:=h
theorem dsNil  {Q:List MV->AH->Prop}(h:wpEs S .nil ρ H Q):Q [] H:=h
theorem esCons {e:ME}{es:MEs}{Q:List MV->AH->Prop}(h:wpE S e ρ H fun v H=>wpEs S es ρ H fun vs H=>Q (v::vs) H):wpEs S (.cons e es) ρ H Q:=h
theorem dsCons {e:ME}{es:MEs}{Q:List MV->AH->Prop}(h:wpEs S (.cons e es) ρ H Q):wpE S e ρ H fun v H=>wpEs S es ρ H fun vs H=>Q (v::vs) H:=h
theorem ecNil  {Q:Bool->AH->Prop}(h:Q true H):wpConds S .nil ρ H Q:=h
theorem dcNil  {Q:Bool->AH->Prop}(h:wpConds S .nil ρ H Q):Q true H:=h
theorem ecCons {e:ME}{es:MEs}{Q:Bool->AH->Prop}(h:wpE S e ρ H fun v H=>∃ c,v=.bool c∧if c=true then wpConds S es ρ H Q else Q false H):wpConds S (.cons e es) ρ H Q:=h
theorem dcCons {e:ME}{es:MEs}{Q:Bool->AH->Prop}(h:wpConds S (.cons e es) ρ H Q):wpE S e ρ H fun v H=>∃ c,v=.bool c∧if c=true then wpConds S es ρ H Q else Q false H:=h
theorem eRng {lo hi:ME}{step:Bool}{j1:Nat}{Q:Src->AH->Prop}(h:wpE S lo ρ H fun u H=>wpE S hi ρ H fun v H=>∃ i j,u=.int i∧v=.int j∧small i∧small j∧Q (.ints (if step then rngUp i j else rngDown i j)) H):wpR S (.rng lo hi step j1) ρ H Q:=h
theorem dRng {lo hi:ME}{step:Bool}{j1:Nat}{Q:Src->AH->Prop}(h:wpR S (.rng lo hi step j1) ρ H Q):wpE S lo ρ H fun u H=>wpE S hi ρ H fun v H=>∃ i j,u=.int i∧v=.int j∧small i∧small j∧Q (.ints (if step then rngUp i j else rngDown i j)) H:=h
theorem eSeq {e:ME}{Q:Src->AH->Prop}(h:wpE S e ρ H fun v H=>∃ a,v=.ref a∧((∃ xs,(H a=some (.tup xs)∨H a=some (.ro xs))∧Q (.fix xs) H)∨((∃ xs,H a=some (.list xs))∧Q (.lst a) H))):wpR S (.seq e) ρ H Q:=h
theorem dSeq {e:ME}{Q:Src->AH->Prop}(h:wpR S (.seq e) ρ H Q):wpE S e ρ H fun v H=>∃ a,v=.ref a∧((∃ xs,(H a=some (.tup xs)∨H a=some (.ro xs))∧Q (.fix xs) H)∨((∃ xs,H a=some (.list xs))∧Q (.lst a) H)):=h
theorem dEnm {e:ME}{Q:Src->AH->Prop}(h:wpR S (.enm e) ρ H Q):wpE S e ρ H fun v H=>∃ a xs,v=.ref a∧H a=some (.list xs)∧Q (.enm a) H:=h
end
section
variable {S:Sig}{ρ:RH}{H:AH}{R:Fl->RH->AH->Prop}
theorem xExpr {e:ME}(h:wpS S (.expr e) ρ H R):wpE S e ρ H fun v H=>(∀ a,v≠.ref a)∧R .next ρ H:=h
theorem xAsg {t:MT}{e:ME}(h:wpS S (.asg t e) ρ H R):wpE S e ρ H fun v H=>wpA S t v ρ H fun ρ H=>R .next ρ H:=h
theorem xAsgT {ts:List MT}{e:ME}(h:wpS S (.asgT ts e) ρ H R):wpE S e ρ H fun v H=>∃ a xs,v=.ref a∧H a=some (.tup xs)∧xs.length=ts.length∧wpAs S ts xs ρ H fun ρ H=>R .next ρ H:=h
theorem xIfS {t:ME}{a:MSs}{b:MSs}(h:wpS S (.ifS t a b) ρ H R):wpE S t ρ H fun v H=>∃ c,v=.bool c∧if c=true then wpL S a ρ H R else wpL S b ρ H R:=h
theorem xWhileS {t:ME}{b:MSs}(h:wpS S (.whileS t b) ρ H R):∃ I:Nat->RH->AH->Prop,(∃ n,I n ρ H)∧∀ n ρ H,I n ρ H->wpE S t ρ H fun v H=>∃ c,v=.bool c∧
   if c=true then wpL S b ρ H fun fl ρ H=>match fl with
    | .next | .cont=>∃ m,m<n∧I m ρ H
    | .brk=>R .next ρ H
    | .ret v=>R (.ret v) ρ H
   else R .next ρ H:=h
theorem xForS {x:Nat}{src:MR}{b:MSs}(h:wpS S (.forS x src b) ρ H R):wpR S src ρ H fun sr H=>∃ (I:Nat->RH->AH->Prop) (N:Nat),I 0 ρ H∧∀ i ρ H,I i ρ H->i≤N∧
   match sr.next H i with
   | none=>False
   | some none=>R .next ρ H
   | some (some v)=>wpL S b (updR ρ x v) H fun fl ρ H=>match fl with
    | .next | .cont=>I (i+1) ρ H
    | .brk=>R .next ρ H
    | .ret v=>R (.ret v) ρ H:=h
theorem xRet {e:ME}(h:wpS S (.ret e) ρ H R):wpE S e ρ H fun v H=>R (.ret v) ρ H:=h
theorem xRetN  (h:wpS S .retN ρ H R):R (.ret .none) ρ H:=h
theorem xBrk  (h:wpS S .brk ρ H R):R .brk ρ H:=h
theorem xCont  (h:wpS S .cont ρ H R):R .cont ρ H:=h
theorem lNil  (h:wpL S .nil ρ H R):R .next ρ H:=h
theorem lCons {s:MS}{r:MSs}(h:wpL S (.cons s r) ρ H R):wpS S s ρ H fun fl ρ H=>match fl with
  | .next=>wpL S r ρ H R
  | fl=>R fl ρ H:=h
theorem yForS {x:Nat}{src:MR}{b:MSs}(h:wpR S src ρ H fun sr H=>∃ (I:Nat->RH->AH->Prop) (N:Nat),I 0 ρ H∧∀ i ρ H,I i ρ H->i≤N∧
   match sr.next H i with
   | none=>False
   | some none=>R .next ρ H
   | some (some v)=>wpL S b (updR ρ x v) H fun fl ρ H=>match fl with
    | .next | .cont=>I (i+1) ρ H
    | .brk=>R .next ρ H
    | .ret v=>R (.ret v) ρ H):wpS S (.forS x src b) ρ H R:=h
theorem yWhileS {t:ME}{b:MSs}(h:∃ I:Nat->RH->AH->Prop,(∃ n,I n ρ H)∧∀ n ρ H,I n ρ H->wpE S t ρ H fun v H=>∃ c,v=.bool c∧
   if c=true then wpL S b ρ H fun fl ρ H=>match fl with
    | .next | .cont=>∃ m,m<n∧I m ρ H
    | .brk=>R .next ρ H
    | .ret v=>R (.ret v) ρ H
   else R .next ρ H):wpS S (.whileS t b) ρ H R:=h
theorem mCons {s:MS}{r:MSs}(h:wpS S s ρ H fun fl ρ H=>match fl with
  | .next=>wpL S r ρ H R
  | fl=>R fl ρ H):wpL S (.cons s r) ρ H R:=h
theorem aName {i:Nat}{v:MV}{K:RH->AH->Prop}(h:K (updR ρ i v) H):wpA S (.name i) v ρ H K:=h
theorem aAttr {e:ME}{a:Nat}{v:MV}{K:RH->AH->Prop}(h:wpE S e ρ H fun u H=>∃ x C d l,u=.ref x∧H x=some (.inst C d)∧H d=some (.ns l)∧S.at_ C a=true∧notRaw v=true∧(setNs l a v).length≤500∧K ρ (upd H d (.ns (setNs l a v)))):wpA S (.attr e a) v ρ H K:=h
theorem aSub {e i:ME}{v:MV}{K:RH->AH->Prop}(h:wpE S e ρ H fun u H=>wpE S i ρ H fun k H=>∃ x n xs,u=.ref x∧k=.int n∧H x=some (.list xs)∧0≤n∧n<xs.length∧K ρ (upd H x (.list (xs.set n.toNat v)))):wpA S (.sub e i) v ρ H K:=h
theorem aSubk {e:ME}{v:MV}{K:RH->AH->Prop}(h:wpE S e ρ H fun u H=>∃ x c a,u=.ref x∧H x=some (.pot c a)∧K ρ (upd H x (.pot c v))):wpA S (.subk e) v ρ H K:=h
theorem asNil {K:RH->AH->Prop}(h:K ρ H):wpAs S [] [] ρ H K:=h
theorem asCons {t:MT}{ts:List MT}{v:MV}{vs:List MV}{K:RH->AH->Prop}(h:wpA S t v ρ H fun ρ H=>wpAs S ts vs ρ H K):wpAs S (t::ts) (v::vs) ρ H K:=h
end
structure FrOK (B:Base) (env:Env) (ρ:RH) (H:AH) (h:Heap):Prop where
 kind:env.scope.kind=.function
 gl:env.globals=mainGlobals
 bl:env.builtins=builtinsNs
 ns:∃ m,h.Ns env.locals m∧∀ i v,ρ i=some v->i<B.N->
   (env.kindOf (B.nm i)=some .local->∃ x,m (B.nm i)=some x∧strip x=v)∧
   (env.kindOf (B.nm i)=some .cell∨env.kindOf (B.nm i)=some .free->∃ c x,env.cells.lookup (B.nm i)=some c∧h.IsCell c (some x)∧strip x=v)
 loc:H env.locals=none
 cel:∀ n c,env.cells.lookup n=some c->H c=none∧∃ v,h.IsCell c v
 inj:∀ n n' c,env.cells.lookup n=some c->env.cells.lookup n'=some c->n=n'
 cov:∀ n,env.kindOf n=some .cell∨env.kindOf n=some .free->∃ c,env.cells.lookup n=some c
section
variable {B:Base}{env:Env}{ρ:RH}{H H':AH}{h h':Heap}
theorem notMut_none {H:AH}{b:Addr}(e:H b=none):¬Mut (H b):=by rw[e];exact id
theorem FrOK.ext (F:FrOK B env ρ H h) (x:Ext H h H' h'):FrOK B env ρ H' h':=by
 refine xE1 F.ns fun m t0_0=>aE2 t0_0 fun hm hv=>?_
 have hm':=hm
 refine xE3 hm fun o es ep t1_0=>aE2 t1_0 fun ho r=>?_
 have xl:=x _ _ (notMut_none F.loc) ho
 have cell:∀ n c v,env.cells.lookup n=some c->h.IsCell c v->h'.IsCell c v∧H' c=none:=fun n c v hc q0_=>xE1 q0_ fun o n1_=>aE2 n1_ fun ho hd=>by
  have:=x c o (notMut_none (F.cel n c hc).1) ho
  exact⟨⟨o,this.1,hd⟩,this.2.2 (F.cel n c hc).1⟩
 refine⟨F.kind,F.gl,F.bl,⟨m,⟨o,es,ep,xl.1,r⟩,fun i v e hi=>?_⟩,xl.2.2 F.loc,fun n c hc=>?_,F.inj,F.cov⟩
 ·refine aE2 (hv i v e hi) fun q1 q2=>?_
  refine⟨q1,fun z=>let ⟨c,x,hc,hx,hs⟩:=q2 z;(xI2 c x (aI3 hc ((cell _ _ _ hc hx).1) hs))⟩
 ·refine aE2 (F.cel n c hc) fun a t3_0=>xE1 t3_0 fun v b=>?_
  exact⟨(cell _ _ _ hc b).2,v,(cell _ _ _ hc b).1⟩
variable {A:Around}{s:Shared}
noncomputable def varKind:Option NameKind->Bool
 | some .local | some .cell | some .free=>true
 | _=>false
theorem W.load_var (k:Ok B H s) (F:FrOK B env ρ H s.heap) {i:Nat}{v:MV}(e:ρ i=some v) (hi:i<B.N) (hk:varKind (env.kindOf (B.nm i))=true) (hd:(B.nm i == ("__debug__" : Str))=false) (hcd:(B.nm i == ("__classdict__" : Str))=false)
  {Q:Value->AH->Shared->Prop}{pos:Pos}(q:∀ x,strip x=v->Q x H s) :
  W B A (eval (.Name (B.nm i) pos) env) H s Q:=by
 refine xE1 F.ns fun m t4_0=>aE2 t4_0 fun hm hv=>?_
 refine aE2 (hv i v e hi) fun hl hc=>?_
 cases z:env.kindOf (B.nm i) with
 | none=>rw[z] at hk;cases hk
 | some kd=>
  rw[z] at hk hl hc
  induction kd using PySem.NameKind.casesOn with
  | «local»=>
   refine xE1 (hl rfl) fun x t6_0=>aE2 t6_0 fun hx hs=>?_
   exact wpAny_Name (wpAny_loadName_local F.kind z hm hx ⟨H,(aI3 k .refl (q x hs))⟩) hd
  | cell=>
   refine xE2 (hc (.inl rfl)) fun c x t7_0=>aE3 t7_0 fun h1 h2 h3=>?_
   exact wpAny_Name (wpAny_loadName_cell F.kind z h1 h2 ⟨H,(aI3 k .refl (q x h3))⟩) hd
  | free=>
   refine xE2 (hc (.inr rfl)) fun c x t8_0=>aE3 t8_0 fun h1 h2 h3=>?_
   exact wpAny_Name (wpAny_loadName_free F.kind z h1 h2 ⟨H,(aI3 k .refl (q x h3))⟩ hcd) hd
  | _=>cases hk
theorem W.load_glob (g:B.Good) (k:Ok B H s) (F:FrOK B env ρ H s.heap) {x:Str}{v:Value}(hk:env.kindOf x=some .globalImplicit) (e:nsIn B.K mainGlobals x=some (some v)) (hd:(x == ("__debug__" : Str))=false)
  {Q:Value->AH->Shared->Prop}{pos:Pos}(q:Q v H s):W B A (eval (.Name x pos) env) H s Q:=by
 refine xE4 g.top fun p loose mg mb T=>?_
 have T':=T.keeps k.base
 obtain ⟨sc,lo,gl,ce,qu,fu,co,fr,bu⟩:=env
 have:=F.gl;dsimp only at this;subst this
 have:=F.bl;dsimp only at this;subst this
 exact Name_function_global F.kind hk (loadGlobal_global (T'.g) (mg_of (k.X g) T'.g e) ⟨H,(aI3 k .refl q)⟩) hd
theorem W.load_builtin (g:B.Good) (k:Ok B H s) (F:FrOK B env ρ H s.heap) {x:Str}{v:Value}(hk:env.kindOf x=some .globalImplicit) (e:nsIn B.K mainGlobals x=some none) (hb:bootBuiltins x=some v) (hn:x≠"__name__")
  (hd:(x == ("__debug__" : Str))=false) {Q:Value->AH->Shared->Prop}{pos:Pos}(q:Q v H s):W B A (eval (.Name x pos) env) H s Q:=by
 refine xE4 g.top fun p loose mg mb T=>?_
 have T':=T.keeps k.base
 obtain ⟨sc,lo,gl,ce,qu,fu,co,fr,bu⟩:=env
 have:=F.gl;dsimp only at this;subst this
 have:=F.bl;dsimp only at this;subst this
 exact Name_function_global F.kind hk (loadGlobal_builtin (T'.g) (mg_none_of (k.X g) T'.g e) (T'.b) ((T'.builtins x hn).trans hb) ⟨H,(aI3 k .refl q)⟩) hd
structure Own (B:Base) (env:Env) (P:Addr->Prop) (H:AH) (h:Heap):Prop where
 loc:P env.locals
 priv:∀ b,P b->H b=none∧B.h₀.get? b=none∧∃ o,h.get? b=some o
theorem Own.ext {P:Addr->Prop}(O:Own B env P H h) (x:Ext H h H' h'):Own B env P H' h':=
 ⟨O.loc,fun b p=>let ⟨a,c,o,ho⟩:=O.priv b p;let y:=x b o (notMut_none a) ho;(aI3 (y.2.2 a) c ⟨o,y.1⟩)⟩
theorem Ok.priv {P:Addr->Prop}(k:Ok B H s) (O:Own B env P H s.heap) {b:Addr}(p:P b) {h':Heap}{t:Nat}(sb:Heap.SameBut b s.heap h'):Ok B H { s with heap:=h',toks:=t }:=
 k.heap fun c o hc e=>(sb.2 c fun q=>by
  refine aE3 (O.priv b p) fun a1 a2 _=>?_
  subst q
  rcases hc with hc | hc
  ·exact hc a1
  ·exact hc a2).trans e
theorem ExtP.priv {P:Addr->Prop}{b:Addr}(p:P b) (sb:Heap.SameBut b h h'):ExtP P H h H h':=
 fun c o np m e=>(aI3 ((sb.2 c fun q=>np (q▸p)).trans e) m id)
theorem Own.stored {P:Addr->Prop}(O:Own B env P H h) {b:Addr}{ob:Obj}(p:P b) (sb:Heap.SameBut b h h') (al:h'.get? b=some ob):Own B env P H h':=
 ⟨O.loc,fun c pc=>let ⟨a1,a2,o,ho⟩:=O.priv c pc;(aI3 a1 a2 (if q:c=b then ⟨ob,q▸al⟩ else ⟨o,(sb.2 c q).trans ho⟩))⟩
noncomputable def StoreOk (B:Base) (env:Env) (P:Addr->Prop) (i:Nat):Prop:=
 i<B.N∧(env.kindOf (B.nm i)=some .local∨(env.kindOf (B.nm i)=some .cell∧∃ c,env.cells.lookup (B.nm i)=some c∧P c))
theorem store_var {P:Addr->Prop}(g:B.Good) (k:Ok B H s) (F:FrOK B env ρ H s.heap) (O:Own B env P H s.heap) {i:Nat}(hi:StoreOk B env P i) {v:Value}
  {Q:Unit->Shared->Prop}{E:Value->Shared->Prop}
  (q:∀ s',Ok B H s'->ExtP P H s.heap H s'.heap->FrOK B env (updR ρ i (strip v)) H s'.heap->Own B env P H s'.heap->Q () s') :
  wpAny B.M A (storeName env (B.nm i) v) Q E s:=by
 refine xE1 F.ns fun m t14_0=>aE2 t14_0 fun hm hv=>?_
 refine aE2 hi fun hN hk=>?_
 have nj:∀ j,j<B.N->B.nm j=B.nm i->j=i:=fun j hj e=>Base.nm_inj g.nd hj hN e
 rcases hk with hk | ⟨hk,c,hc,hP⟩
 ·refine wpAny_storeName_local hk hm (fun h' hn hs=>?_) (by show (env.scope.kind == .class || (env.scope.kind == .module && _))=false;rw[F.kind];rfl)
  have hn':=hn
  refine xE3 hn fun oL es ep t16_0=>aE2 t16_0 fun hoL _=>?_
  have cn:∀ n c,env.cells.lookup n=some c->∀ v,s.heap.IsCell c v->h'.IsCell c v:=fun n c hc v hx=>by
   refine hx.sameBut hs ?_
   rintro rfl
   refine xE1 hx fun o t17_0=>aE2 t17_0 fun ho hd=>?_
   refine xE3 hm fun o' es' ep' t18_0=>aE3 t18_0 fun ho' hd' _=>?_
   rw[ho] at ho';have ho':=Option.some.inj ho';subst ho'
   rw[hd] at hd';cases hd'
  refine q _ (k.priv O O.loc hs) (ExtP.priv O.loc hs) ⟨F.kind,F.gl,F.bl,⟨_,hn',fun j u e hj=>?_⟩,F.loc,fun n c hc=>?_,F.inj,F.cov⟩ (O.stored O.loc hs hoL)
  ·unfold updR at e
   split at e
   ·rename_i q;subst q;have e:=Option.some.inj e;subst e
    exact⟨fun _=>⟨v,by simp,rfl⟩,fun z=>by rw[hk] at z;rcases z with z | z<;>cases z⟩
   ·rename_i q
    refine aE2 (hv j u e hj) fun z1 z2=>?_
    refine⟨fun a1=>let ⟨x,a2,a3⟩:=z1 a1;⟨x,?_,a3⟩,fun a1=>let ⟨c,x,a2,a3,a4⟩:=z2 a1;(xI2 c x (aI3 a2 (cn _ _ a2 _ a3) a4))⟩
    rw[if_neg fun e=>q (nj j hj e)];exact a2
  ·refine aE2 (F.cel n c hc) fun a1 t20_0=>xE1 t20_0 fun v a2=>?_
   exact⟨a1,v,cn n c hc v a2⟩
 ·refine aE2 (F.cel _ _ hc) fun _ t21_0=>xE1 t21_0 fun v0 hcell=>?_
  refine wpAny_storeName_cell F.kind hk hc hcell fun h' hn hs=>?_
  have hn':=hn
  refine xE1 hn fun oc t22_0=>aE2 t22_0 fun hoc _=>?_
  refine aE3 (O.priv c hP) fun ho1 ho2 _=>?_
  refine q _ (k.priv (t:=s.toks) O hP hs) (ExtP.priv hP hs) ⟨F.kind,F.gl,F.bl,⟨m,hm.sameBut hs ?_,fun j u e hj=>?_⟩,F.loc,fun n c' hc'=>?_,F.inj,F.cov⟩ (O.stored hP hs hoc)
  ·rintro rfl
   refine xE1 hcell fun o t24_0=>aE2 t24_0 fun ho hd=>?_
   refine xE3 hm fun o' es' ep' t25_0=>aE3 t25_0 fun ho' hd' _=>?_
   rw[ho] at ho';have ho':=Option.some.inj ho';subst ho'
   rw[hd] at hd';cases hd'
  ·unfold updR at e
   split at e
   ·rename_i q;subst q;have e:=Option.some.inj e;subst e
    exact⟨fun z=>absurd (hk.symm.trans z) (by decide),fun _=>(xI2 c v (aI3 hc hn' rfl))⟩
   ·rename_i q
    refine aE2 (hv j u e hj) fun z1 z2=>?_
    refine⟨z1,fun a1=>let ⟨c',x,a2,a3,a4⟩:=z2 a1;(xI2 c' x (aI3 a2 (a3.sameBut hs ?_) a4))⟩
    rintro rfl
    exact q (nj j hj (F.inj _ _ _ a2 hc))
  ·refine aE2 (F.cel n c' hc') fun a1 t27_0=>xE1 t27_0 fun v' a2=>?_
   refine⟨a1,?_⟩
   by_cases q:c'=c
   ·subst q;exact⟨_,hn'⟩
   ·exact⟨v',a2.sameBut hs q⟩
end
structure Tab where
 at_:Addr->Nat->Bool
 meth:Addr->Nat->Option Addr
structure TabOk (B:Base) (T:Tab):Prop where
 at_:∀ C a,T.at_ C a=true->a<B.N∧plainGet B.K C (B.nm a)=true∧hasDictIn B.K C=true∧findIn B.K (.ref C) (B.nm a)=some none∧
  findIn B.K (.ref C) "__setattr__" = some (some (.builtin "object.__setattr__"))∧plainOver B.K C=true
 meth:∀ C m f,T.meth C m=some f->m<B.N∧plainGet B.K C (B.nm m)=true∧hasDictIn B.K C=true∧findIn B.K (.ref C) (B.nm m)=some (some (.ref f))∧isFn B.K (.ref f)=true∧fnIn B.K f=true∧
  specialIn B.K (.ref f) "__get__" = some (some (.builtin "function.__get__"))∧takesIn B.K (.ref f)=some false∧copiedNames.contains (B.nm m)=false
noncomputable def SpecCall (B:Base) (d:Nat) (f:Addr) (vs:List MV) (H:AH) (Q:MV->AH->Prop):Prop:=
 ∀ A s vals,Room d A->Ok B H s->vals.map strip=vs->
  codeAny B.M A (.call (.ref f) ⟨vals,[]⟩) (fun r s'=>∃ v H',r=.ok (.ret v)∧Ok B H' s'∧Ext H s.heap H' s'.heap∧Q (strip v) H') s
theorem SpecCall.mono {B:Base}{d d':Nat}{f:Addr}{vs:List MV}{H:AH}{Q Q':MV->AH->Prop}(h:SpecCall B d f vs H Q) (hd:d≤d') (hQ:∀ v H',Q v H'->Q' v H'):SpecCall B d' f vs H Q':=
 fun A s vals r k e=>codeAny_mono (h A s vals (r.mono hd) k e) fun r s' q0_=>xE2 q0_ fun v H' n1_=>aE4 n1_ fun a b c q=>(xI2 v H' (aI4 a b c (hQ _ _ q)))
noncomputable def sig (B:Base) (T:Tab) (d:Nat):Sig:=⟨T.at_,T.meth,SpecCall B d⟩
noncomputable def EvOK (B:Base) (T:Tab) (d:Nat) (kd:Str->Option NameKind) (e:ME) (r:Expr):Prop:=
 ∀ A env ρ H s Q,Room (d+3) A->(∀ x,env.kindOf x=kd x)->FrOK B env ρ H s.heap->Ok B H s->wpE (sig B T d) e ρ H Q->
  W B A (eval r env) H s fun v H' _=>Q (strip v) H'
noncomputable def notStar:Expr->Bool
 | .Starred ..=>false
 | _=>true
theorem starEach_cons {r:Expr}{rs:List Expr}{env:Env}(h:notStar r=true):starEach (r::rs) env=(false,eval r env)::starEach rs env:=by
 cases r<;>first | rfl | cases h
noncomputable def EvsOK (B:Base) (T:Tab) (d:Nat) (kd:Str->Option NameKind) (es:MEs) (rs:List Expr):Prop:=
 (∀ r∈rs,notStar r=true)∧∀ A env ρ H s Q pos,Room (d+3) A->(∀ x,env.kindOf x=kd x)->FrOK B env ρ H s.heap->Ok B H s->wpEs (sig B T d) es ρ H Q->
  W B A (spliced (backTo pos (starEach rs env))) H s fun vs H' _=>Q (vs.map strip) H'
theorem W.bind {α β:Type}{B:Base}{A:Around}{t:Sem α}{f:α->Sem β}{H:AH}{s:Shared}{Q:α->AH->Shared->Prop}{Q':β->AH->Shared->Prop}(h:W B A t H s Q)
  (hf:∀ v H' s',Ok B H' s'->Ext H s.heap H' s'.heap->Q v H' s'->W B A (f v) H' s' Q'):W B A (t >>= f) H s Q':=
 wpAny_bind (h.then_ fun v H' s' k x q=>wpAny_mono (hf v H' s' k x q) (fun w s'' q1_=>xE1 q1_ fun H'' n101_=>aE3 n101_ fun k' x' q'=>⟨H'',(aI3 k' (x.trans x') q')⟩) fun _ _ e=>e)
theorem W.ext {α:Type}{B:Base}{A:Around}{t:Sem α}{H H₀:AH}{h₀:Heap}{s:Shared}{Q:α->AH->Shared->Prop}(h:W B A t H s Q) (x:Ext H₀ h₀ H s.heap) :
  wpAny B.M A t (fun v s'=>∃ H',Ok B H' s'∧Ext H₀ h₀ H' s'.heap∧Q v H' s') NoE s:=
 wpAny_mono h (fun v s' q3_=>xE1 q3_ fun H' n301_=>aE3 n301_ fun k y q=>⟨H',(aI3 k (x.trans y) q)⟩) fun _ _ e=>e
section
variable {B:Base}{T:Tab}{d:Nat}{kd:Str->Option NameKind}
theorem ev_var {i:Nat}{pos:Pos}(hi:i<B.N) (hv:varKind (kd (B.nm i))=true) (hd:(B.nm i == ("__debug__" : Str))=false) (hcd:(B.nm i == ("__classdict__" : Str))=false):EvOK B T d kd (.var i) (.Name (B.nm i) pos):=by
 intro A env ρ H s Q r hk F k h
 replace h:=dVar h
 refine xE1 h fun v t0_0=>aE2 t0_0 fun e q=>?_
 exact W.load_var k F e hi (by rw[hk];exact hv) hd hcd fun x hx=>hx▸q
theorem ev_none {k:Nat}{pos:Pos}:EvOK B T d kd (.cst .none) (.Constant .none k pos):=by
 intro A env ρ H s Q r hk F k h
 replace h:=dCst h
 exact wpAny_Constant_none ⟨H,(aI3 k .refl h)⟩
theorem ev_bool {b:Bool}{k:Nat}{pos:Pos}:EvOK B T d kd (.cst (.bool b)) (.Constant (.bool b) k pos):=by
 intro A env ρ H s Q r hk F k h
 replace h:=dCst h
 exact wpAny_Constant_bool ⟨H,(aI3 k .refl h)⟩
theorem ev_int {i:Int}{k:Nat}{pos:Pos}:EvOK B T d kd (.cst (.int i)) (.Constant (.int i) k pos):=by
 intro A env ρ H s Q r hk F k h
 replace h:=dCst h
 exact wpAny_Constant_int ⟨H,(aI3 (k.toks _) .refl h)⟩
theorem ev_glob (g:B.Good) {i:Nat}{v:Value}{pos:Pos}(hk:kd (B.nm i)=some .globalImplicit) (e:nsIn B.K mainGlobals (B.nm i)=some (some v)) (hd:(B.nm i == ("__debug__" : Str))=false) :
  EvOK B T d kd (.glob i (strip v)) (.Name (B.nm i) pos):=by
 intro A env ρ H s Q r hk' F k h
 replace h:=dGlob h
 exact W.load_glob g k F ((hk' _).trans hk) e hd h
theorem ev_bfn (g:B.Good) {i:Nat}{pos:Pos}(hk:kd (B.nm i)=some .globalImplicit) (e:nsIn B.K mainGlobals (B.nm i)=some none) (hb:bootBuiltins (B.nm i)=some (.builtin "abs")) (hn:B.nm i≠"__name__") (hd:(B.nm i == ("__debug__" : Str))=false) :
  EvOK B T d kd (.bfn i .abs) (.Name (B.nm i) pos):=by
 intro A env ρ H s Q r hk' F k h
 replace h:=dBfn h
 exact W.load_builtin g k F ((hk' _).trans hk) e hb hn hd h.2
noncomputable def plainBase:Expr->Bool
 | .Call ..=>false
 | _=>true
theorem attributeBase_plain {o:Expr}{attr:Str}{env:Env}{whole:Sem Value}(h:plainBase o=true):attributeBase o attr env whole=whole:=by
 cases o<;>first | rfl | cases h
theorem eval_attr {value:Expr}{attr:Str}{pos:Pos}{env:Env}(h:plainBase value=true):eval (.Attribute value attr pos) env=(do
   let o ← eval value env
   standAt pos.atName
   let r ← holding [o] (getAttr o attr true)
   letTemporaryGo value o r
   pure r):=by
 rw[arm_eval_Attribute,attributeBase_plain h]
set_option tactic.hygienic true in
theorem All2.find {l:List (Nat × MV)}{es:List DictEntry}(hn:B.nmT.Nodup) (h:All2 (EntRel B) es l) {a:Nat}(ha:a<B.N) {u:MV}(e:l.lookup a=some u):∃ v,getL (B.nm a) es=some (some v)∧strip v=u∧notRaw u=true:=by
 induction h with
 | nil=>cases e
 | cons hx hr ih=>
  rename_i en p es l
  obtain ⟨j,pv⟩:=p
  refine aE4 hx fun h1 p2_1 h3 h4=>?_
  obtain ⟨t,h2⟩:=p2_1
  dsimp only at h1 h2 h3
  unfold getL
  by_cases q:a=j
  ·subst q
   have:en.key.isStr (B.nm a)=true:=by rw[h2];exact beq_self_eq_true _
   rw[List.find?_cons,this]
   simp at e
   exact⟨en.val,(aI3 rfl (h3.trans e) (e▸h4))⟩
  ·have nq:en.key.isStr (B.nm a)=false:=by
    rw[h2]
    show (B.nm j == B.nm a)=false
    exact beq_eq_false_iff_ne.mpr fun z=>q (Base.nm_inj hn h1 ha z).symm
   rw[List.find?_cons,nq]
   have e':l.lookup a=some u:=by
    rw[Zt] at e
    have:(a == j)=false:=beq_eq_false_iff_ne.mpr q
    rw[this] at e;exact e
   refine xE1 (ih e') fun v t3_0=>aE2 t3_0 fun a1 a2=>?_
   refine⟨v,?_,a2⟩
   unfold getL at a1
   rw[List.any_cons]
   have rk:en.refKey=false:=by unfold DictEntry.refKey;rw[h2]
   rw[rk,Bool.false_or]
   exact a1
set_option tactic.hygienic true in
theorem All2.none_ {l:List (Nat × MV)}{es:List DictEntry}(hn:B.nmT.Nodup) (h:All2 (EntRel B) es l) {a:Nat}(ha:a<B.N) (e:l.lookup a=none):getL (B.nm a) es=some none:=by
 induction h with
 | nil=>rfl
 | cons hx hr ih=>
  rename_i en p es l
  refine hide fun R done=>?_
  obtain ⟨j,pv⟩:=p
  refine aE4 hx fun h1 p5_1 h3 h4=>?_
  obtain ⟨t,h2⟩:=p5_1
  refine done ?_
  dsimp only at h1 h2 h3
  unfold getL
  have q:a≠j:=by
   rintro rfl
   simp at e
  have nq:en.key.isStr (B.nm a)=false:=by
   rw[h2]
   show (B.nm j == B.nm a)=false
   exact beq_eq_false_iff_ne.mpr fun z=>q (Base.nm_inj hn h1 ha z).symm
  rw[List.find?_cons,nq]
  have e':l.lookup a=none:=by
   rw[Zt] at e
   have:(a == j)=false:=beq_eq_false_iff_ne.mpr q
   rw[this] at e;exact e
  have a1:=ih e'
  unfold getL at a1
  rw[List.any_cons]
  have rk:en.refKey=false:=by unfold DictEntry.refKey;rw[h2]
  rw[rk,Bool.false_or]
  exact a1
theorem Ok.inst {H:AH}{s:Shared}(k:Ok B H s) {x C dx:Addr}{l:List (Nat × MV)}(hx:H x=some (.inst C dx)) (hd:H dx=some (.ns l)) :
  ∃ es n,s.heap.get? dx=some (dictOf es n)∧All2 (EntRel B) es l∧l.length≤500∧InstAt s.heap x (instObj C dx) C (some (dictOf es n)):=by
 refine hide fun R done=>?_
 refine xE2 (k.rep dx _ hd) fun es n t6_0=>aE3 t6_0 fun h1 h2 h3=>?_
 refine done ?_
 have hxx:s.heap.get? x=some (instObj C dx):=k.rep x _ hx
 exact⟨es,n,h1,h2,h3,hxx,rfl,rfl,h1⟩
theorem handed_strip {v:Value}{u:MV}(h:strip v=u) (hu:notRaw u=true):handedIn v=true:=by
 subst h;cases v<;>first | rfl | cases hu
theorem W.getAttr (g:B.Good) (tb:TabOk B T) {A:Around}{H:AH}{s:Shared}(k:Ok B H s) {x C dx:Addr}{l:List (Nat × MV)}{a:Nat}{u:MV}(hx:H x=some (.inst C dx)) (hd:H dx=some (.ns l))
  (ha:T.at_ C a=true) (hl:l.lookup a=some u) {Q:MV->AH->Prop}(q:Q u H):W B A (PySem.getAttr (.ref x) (B.nm a) true) H s fun v H' _=>Q (strip v) H':=by
 refine hide fun R done=>?_
 refine xE2 (k.inst hx hd) fun es n t7_0=>aE4 t7_0 fun h1 h2 h3 I=>?_
 refine aE5 (tb.at_ C a ha) fun hN hg hh hf _=>?_
 refine xE1 (h2.find g.nd hN hl) fun v t9_0=>aE3 t9_0 fun e1 e2 e3=>?_
 refine done ?_
 exact get_value (k.X g) I (plainGet_of hg).1 (findObj_own hh hf rfl e1) (handed_strip e2 e3) ⟨H,(aI3 (k.toks _) .refl (by show Q (strip v) H;rw[e2];exact q))⟩
theorem ev_attr (g:B.Good) (tb:TabOk B T) {e:ME}{r:Expr}{a:Nat}{pos:Pos}(he:EvOK B T d kd e r) (hb:plainBase r=true) :
  EvOK B T d kd (.attr e a) (.Attribute r (B.nm a) pos):=by
 intro A env ρ H s Q rm hk F k h
 replace h:=dAttr h
 unfold W
 rw[eval_attr hb]
 refine W.bind (he A env ρ H s _ rm hk F k h) fun v H' s' k' x' pp5=>?_
 refine hide fun R done=>?_
 refine xE5 pp5 fun x C dx l u t10_0=>aE6 t10_0 fun e1 e2 e3 e4 e5 q=>?_
 refine done ?_
 have:=strip_ref e1;subst this
 refine wpAny_bind (wpAny_standAt (wpAny_bind (wpAny_holding ?_)))
 refine wpAny_mono (W.getAttr g tb k' e2 e3 e4 e5 q) (fun r s2 z=>?_) fun _ _ e=>e
 exact wpAny_bind (wpAny_letTemporaryGo (wpAny_pure z))
theorem ev_neg {e:ME}{r:Expr}{pos:Pos}(he:EvOK B T d kd e r):EvOK B T d kd (.neg e) (.UnaryOp .USub r pos):=by
 intro A env ρ H s Q rm hk F k h
 replace h:=dNeg h
 refine wpAny_UnaryOp ((he A env ρ H s _ rm hk F k h).then_ fun v H' s' k' x' pp5=>?_)
 obtain ⟨i,e1,q⟩:=pp5
 obtain ⟨t,rfl⟩:=strip_int e1
 exact neg_int ⟨H',(aI3 (k'.toks _) x' q)⟩
theorem log2_small {i:Int}(h:i.natAbs<2 ^ 62):i.natAbs.log2<63:=by
 by_cases z:i.natAbs=0
 ·rw[z];decide
 ·exact Wf ((Nat.log2_lt z).mpr h)
theorem bits_small {i:Int}(h:i.natAbs<2 ^ 62):Builtin.Int.intBits i≤64:=by
 have:=log2_small h
 unfold Builtin.Int.intBits
 split<;>lia
theorem noPy {i j:Int}(h:j.natAbs<2 ^ 62):Builtin.divisionGoesByPylong i j=false:=PyProof.noPylong_of_log2 (Ya (log2_small h) (by decide))
theorem asR.inv {v:Value}{k:Addr->Prop}{R:Prop}(h:asR (strip v) k) (q:∀ a,v=.ref a->k a->R):R:=by
 induction v using PySem.Value.casesOn with | ref a=>exact q a rfl h | _=>exact False.elim h
theorem asI.inv {v:Value}{k:Int->Prop}{R:Prop}(h:asI (strip v) k) (q:∀ i t,v=.int i t->k i->R):R:=by
 induction v using PySem.Value.casesOn with | int i t=>exact q i t rfl h | _=>exact False.elim h
theorem asB.inv {v:Value}{k:Bool->Prop}{R:Prop}(h:asB (strip v) k) (q:∀ b,v=.bool b->k b->R):R:=by
 induction v using PySem.Value.casesOn with | bool b=>exact q b rfl h | _=>exact False.elim h
theorem as3.inv {v:Value}{ki:Int->Prop}{kb:Bool->Prop}{kr:Addr->Prop}{R:Prop}(h:as3 (strip v) ki kb kr) (q1:∀ i t,v=.int i t->ki i->R) (q2:∀ b,v=.bool b->kb b->R) (q3:∀ a,v=.ref a->kr a->R):R:=by
 induction v using PySem.Value.casesOn with | int i t=>exact q1 i t rfl h | bool b=>exact q2 b rfl h | ref a=>exact q3 a rfl h | _=>exact False.elim h
@[elab_as_elim] theorem asI.two {u v:Value}{K:Int->Int->Prop}{P:Value->Value->Prop}(h:asI (strip u) fun i=>asI (strip v) fun j=>K i j) (q:∀ i t j t',K i j->P (.int i t) (.int j t')):P u v:=
 asI.inv h fun i t e h=>asI.inv h fun j t' e' h=>by subst e e';exact q i t j t' h
@[elab_as_elim] theorem asIR {u v:Value}{K:Int->Addr->Prop}{P:Value->Value->Prop}(h:asI (strip u) fun i=>asR (strip v) fun j=>K i j) (q:∀ i t y,K i y->P (.int i t) (.ref y)):P u v:=
 asI.inv h fun i t e h=>asR.inv h fun y e' h=>by subst e e';exact q i t y h
@[elab_as_elim] theorem as3.two {u v:Value}{ki:Int->Int->Prop}{kb:Bool->Bool->Prop}{kr:Addr->Addr->Prop}{P:Value->Value->Prop}(h:as3 (strip u) (fun i=>asI (strip v) fun j=>ki i j) (fun i=>asB (strip v) fun j=>kb i j) fun x=>asR (strip v) fun y=>kr x y)
  (q1:∀ i t j t',ki i j->P (.int i t) (.int j t')) (q2:∀ i j,kb i j->P (.bool i) (.bool j)) (q3:∀ x y,kr x y->P (.ref x) (.ref y)):P u v:=
 as3.inv h (fun i t e h=>asI.inv h fun j t' e' h=>by subst e e';exact q1 i t j t' h) (fun b e h=>asB.inv h fun c e' h=>by subst e e';exact q2 b c h) fun x e h=>asR.inv h fun y e' h=>by subst e e';exact q3 x y h
@[elab_as_elim] theorem as2.two {u v:Value}{ki:Int->Int->Prop}{kr:Addr->Addr->Prop}{P:Value->Value->Prop}(h:as3 (strip u) (fun i=>asI (strip v) fun j=>ki i j) (fun _=>False) fun x=>asR (strip v) fun y=>kr x y)
  (q1:∀ i t j t',ki i j->P (.int i t) (.int j t')) (q3:∀ x y,kr x y->P (.ref x) (.ref y)):P u v:=
 as3.inv h (fun i t e h=>asI.inv h fun j t' e' h=>by subst e e';exact q1 i t j t' h) (fun b e h=>h.elim) fun x e h=>asR.inv h fun y e' h=>by subst e e';exact q3 x y h
theorem add_ok {x y:Addr}{A:Around}{H:AH}{s:Shared}{Q:MV->AH->Prop}(k:Ok B H s) (h:addL x y H Q):W B A (binaryOp .Add (.ref x) (.ref y)) H s fun w H' _=>Q (strip w) H':=
 xE2 h fun xs ys h=>aE4 h fun hx hy hl q=>xE2 (k.list hx) fun i1 n1 h=>aE3 h fun a1 a2 a3=>xE2 (k.list hy) fun i2 n2 h=>aE3 h fun b1 b2 b3=>by
  have hsz:i1.size+i2.size≤LIM:=by
   have e1:=congrArg List.length a2
   have e2:=congrArg List.length b2
   rw[Zc,Z6] at e1 e2
   rw[e1,e2];exact hl
  refine P.add_list (n:=n1) (n2:=n2) a1 b1 ⟨_,k.alloc (t:=s.toks) (o:=.list (xs++ys)) rfl ⟨i1++i2,0,Z0 _ rfl,?_,?_⟩,Ext.alloc k fun b ob e=>Z5 _ e,q _ (k.fresh (Zk _))⟩ ?_
  ·rw[Array.toList_append,Yg,a2,b2]
  ·rw[Zd];exact hl
  ·rw[sizeLine_eq];exact Zf hsz (by decide)
theorem bin_ok {op:Operator}{u v:Value}{A:Around}{H:AH}{s:Shared}{Q:MV->AH->Prop}(k:Ok B H s) (h:wpBin op (strip u) (strip v) H Q):W B A (binaryOp op u v) H s fun w H' _=>Q (strip w) H':=by
 induction op using PySem.Operator.casesOn with
 | Add=>exact as2.two (P:=fun u v=>W B A (binaryOp .Add u v) H s fun w H' _=>Q (strip w) H') h (fun i t j t' h=>PyProof.Rows.add_int ⟨H,k.toks _,.refl,h⟩) fun x y h=>add_ok k h
 | Sub=>exact asI.two (P:=fun u v=>W B A (binaryOp .Sub u v) H s fun w H' _=>Q (strip w) H') h fun i t j t' h=>PyProof.Rows.sub_int ⟨H,k.toks _,.refl,h⟩
 | Mult=>exact asI.two (P:=fun u v=>W B A (binaryOp .Mult u v) H s fun w H' _=>Q (strip w) H') h fun i t j t' h=>PyProof.Rows.mul_int ⟨H,k.toks _,.refl,h.2⟩ (h.1.elim (fun z=>.of_left (bits_small z)) fun z=>.of_right (bits_small z))
 | FloorDiv=>exact asI.two (P:=fun u v=>W B A (binaryOp .FloorDiv u v) H s fun w H' _=>Q (strip w) H') h fun i t j t' h=>PyProof.Rows.floordiv_int h.1.1 ⟨H,k.toks _,.refl,h.2⟩ (.inl (noPy h.1.2))
 | Mod=>exact asI.two (P:=fun u v=>W B A (binaryOp .Mod u v) H s fun w H' _=>Q (strip w) H') h fun i t j t' h=>PyProof.Rows.mod_int h.1.1 ⟨H,k.toks _,.refl,h.2⟩
 | _=>exact False.elim h
theorem ev_bin {op:Operator}{a b:ME}{ra rb:Expr}{pos:Pos}(ha:EvOK B T d kd a ra) (hb:EvOK B T d kd b rb):EvOK B T d kd (.bin op a b) (.BinOp ra op rb pos):=by
 intro A env ρ H s Q rm hk F k h
 replace h:=dBin h
 exact wpAny_BinOp ((ha A env ρ H s _ rm hk F k h).then_ fun u H1 s1 k1 x1 h1=>
  (hb A env ρ H1 s1 _ rm hk (F.ext x1) k1 h1).then_ fun v H2 s2 k2 x2 h2=>(bin_ok k2 h2).ext (x1.trans x2))
end
theorem tuple_lt2 (l b:Addr) (i1 i2 j1 j2:Int) (t1 t2 u1 u2:Tok) (n n2:Nat) (dd dd2:Option Addr) (sl sl2:Array (Option Value)) :
  Meets (Builtin.«tuple.__lt__» ⟨[.ref l,.ref b],[]⟩)
   (fun A R s=>s.heap.get? l=some { cls:=.type "tuple",dict:=dd,data:=.seq #[.int i1 t1,.int i2 t2] n,slots:=sl }∧s.heap.get? b=some { cls:=.type "tuple",dict:=dd2,data:=.seq #[.int j1 u1,.int j2 u2] n2,slots:=sl2 }∧
    R (.ok (.ret (.bool (pairLt i1 i2 j1 j2)))) s):=
 .of_wp fun prog w A R s h=>by
  obtain ⟨hp,g,d,tk,os⟩:=s;obtain ⟨hl,hb,h⟩:=h
  have f2:=AutoSeq1.sub_tuple_tuple
  wp_walk using wpAny_loadPart' hl,wpAny_loadPart' hb
  show wpAny _ _ (eqBool (Value.int i1 t1) (Value.int j1 u1)) _ _ _
  refine EqAt.int_int i1 t1 j1 u1 prog w _ _ ?_
  unfold pairLt at h
  induction q:i1 == j1 using Bool.casesOn with
  | false=>
   rw[q] at h
   simp only [Bool.not_false,if_true]
   refine wpAny_bind (wpAny_rule ?_)
   refine wpAny_bind (m:=richCompare CmpOp.Lt _ _) (wpAny_lt_int ?_)
   wp_walk
   exact⟨_,rfl,h⟩
  | true=>
   rw[q] at h
   simp only [Bool.not_true,Yo,if_false]
   wp_walk
   show wpAny _ _ (eqBool (Value.int i2 t2) (Value.int j2 u2)) _ _ _
   refine EqAt.int_int i2 t2 j2 u2 prog w _ _ ?_
   induction q2:i2 == j2 using Bool.casesOn with
   | false=>
    simp only [Bool.not_false,if_true]
    refine wpAny_bind (wpAny_rule ?_)
    refine wpAny_bind (m:=richCompare CmpOp.Lt _ _) (wpAny_lt_int ?_)
    wp_walk
    exact⟨_,rfl,h⟩
   | true=>
    simp only [Bool.not_true,Yo,if_false]
    wp_walk
    have e2:=eq_of_beq q2
    subst e2
    refine⟨_,rfl,?_⟩
    simp only [if_true] at h
    have:decide (i2<i2)=false:=by simp
    rw[this] at h
    exact h
section
variable {B:Base}{T:Tab}{d:Nat}{kd:Str->Option NameKind}
theorem map_cons2 {vs:List Value}{u v:MV}(h:vs.map strip=[u,v]):∃ a b,vs=[a,b]∧strip a=u∧strip b=v:=by
 refine hide fun R done=>?_
 obtain ⟨a,l,rfl,e1,h⟩:=List.map_eq_cons_iff.mp h
 obtain ⟨b,l,rfl,e2,h⟩:=List.map_eq_cons_iff.mp h
 refine done ?_
 exact (xI2 a b (aI3 (by rw[List.map_eq_nil_iff.mp h]) e1 e2))
theorem lt_pair {A:Around}{s:Shared}{E:Value->Shared->Prop}{Q:Value->Shared->Prop}{x y:Addr}{i1 i2 j1 j2:Int}{H:AH}(k:Ok B H s) (hx:H x=some (.tup [.int i1,.int i2])) (hy:H y=some (.tup [.int j1,.int j2]))
  (hu:A.units+64<cLine) (q:Q (.bool (pairLt i1 i2 j1 j2)) s):wpAny B.M A (compareOp .Lt (.ref x) (.ref y)) Q E s:=by
 refine hide fun R done=>?_
 obtain ⟨items,⟨⟨c1,d1,a1,l1⟩,h1,h2,n1,h3⟩,h4,_⟩:=k.rep x _ hx
 obtain ⟨items2,⟨⟨c2,d2,a2,l2⟩,g1,g2,n2,g3⟩,g4,_⟩:=k.rep y _ hy
 obtain ⟨u1,u2,e1,e2,e3⟩:=map_cons2 h4
 obtain ⟨w1,w2,f1,f2,f3⟩:=map_cons2 g4
 obtain ⟨t1,rfl⟩:=strip_int e2
 obtain ⟨t2,rfl⟩:=strip_int e3
 obtain ⟨t3,rfl⟩:=strip_int f2
 obtain ⟨t4,rfl⟩:=strip_int f3
 obtain rfl:items = #[.int i1 t1,.int i2 t2]:=by rw[← Xg (xs:=items),e1]
 obtain rfl:items2 = #[.int j1 t3,.int j2 t4]:=by rw[← Xg (xs:=items2),f1]
 refine done ?_
 dsimp only at h2 h3 g2 g3
 subst h2 h3 g2 g3
 exact richCompare_meets_room (op:=.Lt) ⟨_,h1,rfl⟩ ⟨_,g1,rfl⟩ F.slot_tuple_lt F.entry_tuple_lt (F.args_tuple_lt_2 _ _) (tuple_lt2 x y i1 i2 j1 j2 t1 t2 t3 t4 n1 n2 d1 d2 l1 l2)
  (aI3 h1 g1 (show Value.bool (pairLt i1 i2 j1 j2)≠Value.notImplemented∧Q (.bool (pairLt i1 i2 j1 j2)) s from⟨(fun x=>nomatch x),q⟩)) (by lia)
noncomputable def RdOK (h:Heap) (v:Value) (d:PyData):Prop:=∃ as,Reads h v d as
theorem readsAll_of {h:Heap}{vs:List Value}{ds:List PyData}(h2:All2 (RdOK h) vs ds):∃ as,ReadsAll h vs ds as:=by
 induction h2 with
 | nil=>exact⟨[],.nil⟩
 | cons r _ ih=>exact Exists.elim r fun a r=>ih.elim fun as z=>⟨_,.cons r z⟩
theorem All2.imp {α β:Type}{R R':α->β->Prop}(f:∀ a b,R a b->R' a b) {as:List α}{bs:List β}(h:All2 R as bs):All2 R' as bs:=by
 induction h with
 | nil=>exact .nil
 | cons x _ ih=>exact .cons (f _ _ x) ih
theorem all2_map {α β γ:Type}{f:γ->α}{R:α->β->Prop}:∀ {cs:List γ}{bs:List β},All2 R (cs.map f) bs->All2 (fun c b=>R (f c) b) cs bs:=by
 intro cs
 induction cs with
 | nil=>
  intro _ h
  cases h;exact .nil
 | cons c cs ih=>
  intro _ h
  cases h with | cons x r=>exact .cons x (ih r)
theorem reads_of {H:AH}{s:Shared}(k:Ok B H s):∀ {u:MV}{d:PyData},ReadM H u d->∀ v,strip v=u->RdOK s.heap v d:=by
 intro u d r
 refine @ReadM.rec H (fun u d _=>∀ v,strip v=u->RdOK s.heap v d) (fun us ds _=>All2 (fun u d=>∀ v,strip v=u->RdOK s.heap v d) us ds) ?_ ?_ ?_ ?_ ?_ ?_ ?_ u d r
 ·intro v h;have:=strip_none h;subst this;exact⟨_,.none⟩
 ·intro b v h;have:=strip_bool h;subst this;exact⟨_,.bool b⟩
 ·intro i v h;obtain ⟨t,rfl⟩:=strip_int h;exact⟨_,.int i t⟩
 ·intro a xs ds e _ ih v h
  have:=strip_ref h;subst this
  refine hide fun R done=>?_
  refine xE2 (k.list e) fun items n t10_0=>aE3 t10_0 fun h1 h2 _=>?_
  subst h2
  refine xE1 (readsAll_of ((all2_map ih).imp fun c b f=>f c rfl)) fun as z=>?_
  refine done ?_
  exact⟨_,.list h1 rfl rfl z⟩
 ·intro a xs ds e _ ih v h
  have:=strip_ref h;subst this
  refine hide fun R done=>?_
  refine xE1 (k.rep _ _ e) fun items t12_0=>aE3 t12_0 fun p12_1 h4 _=>?_
  refine xE1 p12_1 fun o t10b_0=>aE3 t10b_0 fun h1 h2 t10b_1=>xE1 t10b_1 fun n h3=>?_
  subst h4
  refine xE1 (readsAll_of ((all2_map ih).imp fun c b f=>f c rfl)) fun as z=>?_
  refine done ?_
  exact⟨_,.tuple h1 h2 h3 z⟩
 ·exact .nil
 ·intro _ _ _ _ _ _ a b;exact .cons a b
theorem seqAt_cases {H:AH}{a:Addr}{xs:List MV}(h:seqAt H a=some xs):H a=some (.list xs)∨H a=some (.tup xs)∨H a=some (.ro xs):=by
 revert h
 unfold seqAt
 induction H a using Option.casesOn with
 | none=>exact ncs
 | some o=>
  induction o using Mine.AO.casesOn with
  | list ys=>exact fun h=>.inl (congrArg (fun z=>some (AO.list z)) (Option.some.inj h))
  | tup ys=>exact fun h=>.inr (.inl (congrArg (fun z=>some (AO.tup z)) (Option.some.inj h)))
  | ro ys=>exact fun h=>.inr (.inr (congrArg (fun z=>some (AO.ro z)) (Option.some.inj h)))
  | _=>exact ncs
theorem Ok.seq {H:AH}{s:Shared}(k:Ok B H s) {a:Addr}{xs:List MV}(h:seqAt H a=some xs) :
  ∃ items,(s.heap.IsList a items∨s.heap.IsTuple a items)∧items.toList.map strip=xs∧xs.length≤LIM:=by
 rcases seqAt_cases h with e | e | e
 ·refine xE2 (k.list e) fun items n t14_0=>aE2 t14_0 fun h1 h2=>?_
  exact⟨items,.inl ⟨_,h1,rfl,n,rfl⟩,h2⟩
 ·refine xE1 (k.rep _ _ e) fun items t15_0=>aE2 t15_0 fun h1 h2=>?_
  exact⟨items,.inr h1,h2⟩
 ·refine xE1 (k.rep _ _ e) fun items t16_0=>aE2 t16_0 fun h1 h2=>?_
  exact⟨items,.inl h1,h2⟩
theorem ints_of {vs:List Value}{js:List Int}(h:vs.map strip=js.map MV.int):IntsAre vs js:=by
 induction vs generalizing js with
 | nil=>cases js<;>simp at h;exact .nil
 | cons v vs ih=>
  induction js using List.casesOn with
  | nil=>simp at h
  | cons j js=>
   simp at h
   refine xE1 (strip_int h.1) fun t e17_1=>?_
   subst e17_1
   exact .cons j t (ih h.2)
theorem any_ints {items:Array Value}{js:List Int}{i:Int}(h:items.toList.map strip=js.map MV.int):(items.any fun v=>decide (strip v=.int i))=decide (i∈js):=by
 rw[← Array.any_toList]
 have:∀ (vs:List Value) (js:List Int),vs.map strip=js.map MV.int->(vs.any fun v=>decide (strip v=.int i))=decide (i∈js):=by
  intro vs
  induction vs with
  | nil=>intro js h;cases js<;>simp at h;simp
  | cons v vs ih=>
   intro js h
   induction js using List.casesOn with
   | nil=>simp at h
   | cons j js=>
    simp at h
    rw[List.any_cons,ih js h.2,h.1]
    by_cases q:j=i
    ·subst q;simp
    ·have:¬(i=j):=fun z=>q z.symm
     simp [q,this]
 exact this _ _ h
theorem eqAt_int {A:Around}{s:Shared}{y x:Value}{i:Int}{j:Int}(hx:strip x=.int i) (hy:strip y=.int j):EqAt A s y x (decide (strip y=.int i)):=by
 refine xE1 (strip_int hx) fun t e18_1=>?_
 subst e18_1
 refine xE1 (strip_int hy) fun u e19_1=>?_
 subst e19_1
 have e:decide (strip (Value.int j u)=.int i)=(j == i):=by
  by_cases q:j=i
  ·subst q;exact (decide_eq_true rfl).trans (beq_self_eq_true _).symm
  ·exact (decide_eq_false fun z=>q (MV.int.inj z)).trans (beq_eq_false_iff_ne.mpr q).symm
 rw[e]
 exact EqAt.int_int _ _ _ _
theorem in_ok {i:Int}{t:Tok}{y:Addr}{A:Around}{H:AH}{s:Shared}{R:Prop}(k:Ok B H s) {js:List Int}(hy:seqAt H y=some (js.map MV.int))
  (q:∀ items:Array Value,(s.heap.IsList y items∨s.heap.IsTuple y items)->(∀ y,y∈items->EqAt A.in1 s y (.int i t) (decide (strip y=.int i)))->(items.any fun v=>decide (strip v=.int i))=decide (i∈js)->R):R:=
 xE1 (k.seq hy) fun items h=>aE3 h fun hl hm _=>q items hl (fun y hy=>by
  have hy':strip y∈js.map MV.int:=by rw[← hm];exact Wt (Array.mem_toList_iff.mpr hy)
  exact xE1 (Z3.mp hy') fun j h=>eqAt_int rfl h.2.symm) (any_ints hm)
theorem cmp_ok {op:CmpOp}{u v:Value}{A:Around}{H:AH}{s:Shared}{Q:MV->AH->Prop}(rm:Room (d+3) A) (k:Ok B H s) (h:wpCmp op (strip u) (strip v) H Q):W B A (compareOp op u v) H s fun w H' _=>Q (strip w) H':=by
 have hu:=rm.units
 induction op using PySem.CmpOp.casesOn with
 | Lt=>exact as2.two (P:=fun u v=>W B A (compareOp .Lt u v) H s fun w H' _=>Q (strip w) H') h (fun i t j t' h=>PyProof.Rows.lt_int ⟨H,k,.refl,h⟩) fun x y h=>xE4 h fun i1 i2 j1 j2 h=>aE3 h fun hx hy q=>lt_pair k hx hy hu ⟨H,k,.refl,q⟩
 | LtE=>exact asI.two (P:=fun u v=>W B A (compareOp .LtE u v) H s fun w H' _=>Q (strip w) H') h fun i t j t' h=>PyProof.Rows.le_int ⟨H,k,.refl,h⟩
 | Gt=>exact asI.two (P:=fun u v=>W B A (compareOp .Gt u v) H s fun w H' _=>Q (strip w) H') h fun i t j t' h=>PyProof.Rows.gt_int ⟨H,k,.refl,h⟩
 | GtE=>exact asI.two (P:=fun u v=>W B A (compareOp .GtE u v) H s fun w H' _=>Q (strip w) H') h fun i t j t' h=>PyProof.Rows.ge_int ⟨H,k,.refl,h⟩
 | Eq=>exact as3.two (P:=fun u v=>W B A (compareOp .Eq u v) H s fun w H' _=>Q (strip w) H') h (fun i t j t' h=>PyProof.Rows.eq_int ⟨H,k,.refl,h⟩) (fun i j h=>PyProof.Rows.eq_bool ⟨H,k,.refl,h⟩) fun x y h=>xE2 h fun d1 d2 h=>aE7 h fun r1 r2 c1 c2 c3 c4 q=>xE1 (reads_of k r1 (.ref x) rfl) fun as z1=>xE1 (reads_of k r2 (.ref y) rfl) fun bs z2=>
   compareEq_shaped z1 z2 (by simp [shaped,c1,c2]) (by simp [shaped,c3,c4]) hu ⟨H,k,.refl,q⟩
 | NotEq=>exact as3.two (P:=fun u v=>W B A (compareOp .NotEq u v) H s fun w H' _=>Q (strip w) H') h (fun i t j t' h=>PyProof.Rows.ne_int ⟨H,k,.refl,h⟩) (fun i j h=>PyProof.Rows.ne_bool ⟨H,k,.refl,h⟩) fun x y h=>xE2 h fun d1 d2 h=>aE7 h fun r1 r2 c1 c2 c3 c4 q=>xE1 (reads_of k r1 (.ref x) rfl) fun as z1=>xE1 (reads_of k r2 (.ref y) rfl) fun bs z2=>
   compareNe_shaped z1 z2 (by simp [shaped,c1,c2]) (by simp [shaped,c3,c4]) hu ⟨H,k,.refl,q⟩
 | Is=>
  have:=strip_none h.1;subst this
  exact is_none_gen ⟨H,k,.refl,by rw[show (u == Value.none)=decide (strip u=.none) by cases u<;>rfl];exact h.2⟩
 | IsNot=>
  have:=strip_none h.1;subst this
  exact isnot_none_gen ⟨H,k,.refl,by rw[show (!(u == Value.none))=decide (strip u≠.none) by cases u<;>rfl];exact h.2⟩
 | In=>exact asIR (P:=fun u v=>W B A (compareOp .In u v) H s fun w H' _=>Q (strip w) H') h fun i t y h=>xE1 h fun js h=>in_ok (i:=i) (t:=t) (A:=A) k h.1 fun items hl ha e=>hl.elim (fun hl=>in_listAt (fun v=>decide (strip v=.int i)) hl ha ⟨H,k,.refl,by rw[e];exact h.2⟩) fun hl=>in_tupleAt (fun v=>decide (strip v=.int i)) hl ha ⟨H,k,.refl,by rw[e];exact h.2⟩
 | NotIn=>
  exact asIR (P:=fun u v=>W B A (compareOp .NotIn u v) H s fun w H' _=>Q (strip w) H') h fun i t y h=>xE1 h fun js h=>in_ok (i:=i) (t:=t) (A:=A) k h.1 fun items hl ha e=>by
   have e3:(!items.any fun v=>decide (strip v=.int i))=decide (i∉js):=by rw[e];by_cases q:i∈js<;>simp [q]
   exact hl.elim (fun hl=>notIn_listAt (fun v=>decide (strip v=.int i)) hl ha ⟨H,k,.refl,by show Q (.bool (!items.any _)) H;rw[e3];exact h.2⟩) fun hl=>notIn_tupleAt (fun v=>decide (strip v=.int i)) hl ha ⟨H,k,.refl,by show Q (.bool (!items.any _)) H;rw[e3];exact h.2⟩
theorem ev_cmp {op:CmpOp}{a b:ME}{ra rb:Expr}{pos:Pos}(ha:EvOK B T d kd a ra) (hb:EvOK B T d kd b rb) (hm:behindInMarks op rb=false):EvOK B T d kd (.cmp op a b) (.Compare ra [op] [rb] pos):=by
 intro A env ρ H s Q rm hk F k h
 replace h:=dCmp h
 exact wpAny_Compare1 ((ha A env ρ H s _ rm hk F k h).then_ fun u H1 s1 k1 x1 h1=>
  (hb A env ρ H1 s1 _ rm hk (F.ext x1) k1 h1).then_ fun v H2 s2 k2 x2 h2=>(cmp_ok rm k2 h2).ext (x1.trans x2)) hm
noncomputable def TrOK (B:Base) (T:Tab) (d:Nat) (kd:Str->Option NameKind) (e:ME) (r:Expr):Prop:=
 ∀ A env ρ H s (Q:Bool->AH->Prop),Room (d+3) A->(∀ x,env.kindOf x=kd x)->FrOK B env ρ H s.heap->Ok B H s->wpE (sig B T d) e ρ H (fun v H'=>∃ c,v=.bool c∧Q c H')->
  W B A (isTrue r env (eval r env)) H s fun c H' _=>Q c H'
theorem tr_of_ev {e:ME}{r:Expr}(he:EvOK B T d kd e r) (hs:∀ env whole,isTrue r env whole=(do let v ← whole;standAt r.pos;holding [v] (truthy v))):TrOK B T d kd e r:=by
 intro A env ρ H s Q rm hk F k h
 refine wpAny_isTrue_value ((he A env ρ H s _ rm hk F k h).then_ fun v H' s' k' x' ⟨c,e1,q⟩=>?_) (hs _ _)
 have:=strip_bool e1;subst this
 exact wpAny_truthy_bool ⟨H',(aI3 k' x' q)⟩
theorem tr_cmp {op:CmpOp}{a b:ME}{ra rb:Expr}{pos:Pos}(ha:EvOK B T d kd a ra) (hb:EvOK B T d kd b rb) (hm:behindInMarks op rb=false):TrOK B T d kd (.cmp op a b) (.Compare ra [op] [rb] pos):=by
 intro A env ρ H s Q rm hk F k h
 replace h:=dCmp h
 refine wpAny_isTrue_Compare1 ((ha A env ρ H s _ rm hk F k h).then_ fun u H1 s1 k1 x1 h1=>
  (hb A env ρ H1 s1 _ rm hk (F.ext x1) k1 h1).then_ fun v H2 s2 k2 x2 h2=>(cmp_ok rm k2 h2).then_ fun c H3 s3 k3 x3 ⟨b,e1,q⟩=>?_) hm
 have:=strip_bool e1;subst this
 exact wpAny_truthy_bool ⟨H3,(aI3 k3 ((x1.trans x2).trans x3) q)⟩
theorem tr_not {e:ME}{r:Expr}{pos:Pos}(he:TrOK B T d kd e r):TrOK B T d kd (.not e) (.UnaryOp .Not r pos):=by
 intro A env ρ H s Q rm hk F k h
 replace h:=dNot h
 refine wpAny_isTrue_Not ((he A env ρ H s (fun c H'=>Q (!c) H') rm hk F k ?_).ext .refl)
 have e:(fun v H'=>∃ c,v=MV.bool c∧∃ c_1,MV.bool (!c)=MV.bool c_1∧Q c_1 H')=(fun v H'=>∃ c,v=MV.bool c∧Q (!c) H'):=by
  funext v H'
  apply propext
  constructor
  ·rintro ⟨c,h1,c1,h2,q⟩;cases h2;exact⟨c,h1,q⟩
  ·rintro ⟨c,h1,q⟩;exact⟨c,h1,_,rfl,q⟩
 rw[e] at h;exact h
noncomputable def AllOK (B:Base) (T:Tab) (d:Nat) (kd:Str->Option NameKind) (isAnd:Bool) (e:ME) (rs:List Expr):Prop:=
 ∀ A env ρ H s (Q:Bool->AH->Prop),Room (d+3) A->(∀ x,env.kindOf x=kd x)->FrOK B env ρ H s.heap->Ok B H s->wpE (sig B T d) e ρ H (fun v H'=>∃ c,v=.bool c∧Q c H')->
  W B A (allTrue (if isAnd then .And else .Or) rs env) H s fun c H' _=>Q c H'
theorem all_one {isAnd:Bool}{e:ME}{r:Expr}(he:TrOK B T d kd e r):AllOK B T d kd isAnd e [r]:=by
 intro A env ρ H s Q rm hk F k h
 induction isAnd using Bool.casesOn with
 | true=>
  refine wpAny_allTrue_And_cons ((he A env ρ H s Q rm hk F k h).then_ fun c H' s' k' x' q=>?_)
  cases c
  ·exact⟨H',k',x',q⟩
  ·exact wpAny_allTrue_And_nil ⟨H',k',x',q⟩
 | false=>
  refine wpAny_allTrue_Or_cons ((he A env ρ H s Q rm hk F k h).then_ fun c H' s' k' x' q=>?_)
  cases c
  ·exact wpAny_allTrue_Or_nil ⟨H',k',x',q⟩
  ·exact⟨H',k',x',q⟩
theorem all_cons {isAnd:Bool}{a b:ME}{r:Expr}{rs:List Expr}(ha:TrOK B T d kd a r) (hb:AllOK B T d kd isAnd b rs):AllOK B T d kd isAnd (.bop isAnd a b) (r::rs):=by
 intro A env ρ H s Q rm hk F k h
 replace h:=dBop h
 have h1:=ha A env ρ H s (fun c H=>if c=isAnd then wpE (sig B T d) b ρ H (fun v H'=>∃ c,v=.bool c∧Q c H') else ∃ c_1,MV.bool c=MV.bool c_1∧Q c_1 H) rm hk F k h
 induction isAnd using Bool.casesOn with
 | true=>
  refine wpAny_allTrue_And_cons (h1.then_ fun c H' s' k' x' q=>?_)
  cases c
  ·obtain ⟨c,e,q⟩:=q;cases e;exact⟨H',k',x',q⟩
  ·exact (hb A env ρ H' s' Q rm hk (F.ext x') k' q).ext x'
 | false=>
  refine wpAny_allTrue_Or_cons (h1.then_ fun c H' s' k' x' q=>?_)
  cases c
  ·exact (hb A env ρ H' s' Q rm hk (F.ext x') k' q).ext x'
  ·obtain ⟨c,e,q⟩:=q;cases e;exact⟨H',k',x',q⟩
theorem tr_bool {isAnd:Bool}{e:ME}{rs:List Expr}{pos:Pos}(h:AllOK B T d kd isAnd e rs):TrOK B T d kd e (.BoolOp (if isAnd then .And else .Or) rs pos):=by
 intro A env ρ H s Q rm hk F k hh
 exact wpAny_isTrue_BoolOp (h A env ρ H s Q rm hk F k hh)
theorem ev_bool2 {isAnd:Bool}{a b:ME}{ra rb:Expr}{pos:Pos}(ha:EvOK B T d kd a ra) (hb:EvOK B T d kd b rb):EvOK B T d kd (.bop isAnd a b) (.BoolOp (if isAnd then .And else .Or) [ra,rb] pos):=by
 intro A env ρ H s Q rm hk F k h
 replace h:=dBop h
 have h1:=ha A env ρ H s _ rm hk F k h
 induction isAnd using Bool.casesOn with
 | true=>
  refine wpAny_And2 (h1.then_ fun u H1 s1 k1 x1 pp5=>?_)
  obtain ⟨c,e1,q⟩:=pp5
  have:=strip_bool e1;subst this
  refine wpAny_truthy_bool ?_
  cases c
  ·exact⟨H1,k1,x1,q⟩
  ·exact (hb A env ρ H1 s1 _ rm hk (F.ext x1) k1 q).ext x1
 | false=>
  refine wpAny_Or2 (h1.then_ fun u H1 s1 k1 x1 pp5=>?_)
  obtain ⟨c,e1,q⟩:=pp5
  have:=strip_bool e1;subst this
  refine wpAny_truthy_bool ?_
  cases c
  ·exact (hb A env ρ H1 s1 _ rm hk (F.ext x1) k1 q).ext x1
  ·exact⟨H1,k1,x1,q⟩
theorem ev_ite {t a b:ME}{rt ra rb:Expr}{pos:Pos}(ht:TrOK B T d kd t rt) (ha:EvOK B T d kd a ra) (hb:EvOK B T d kd b rb):EvOK B T d kd (.ite t a b) (.IfExp rt ra rb pos):=by
 intro A env ρ H s Q rm hk F k h
 replace h:=dIte h
 have h1:=ht A env ρ H s (fun c H=>if c=true then wpE (sig B T d) a ρ H Q else wpE (sig B T d) b ρ H Q) rm hk F k h
 refine wpAny_IfExp (h1.then_ fun c H1 s1 k1 x1 q=>?_)
 cases c
 ·exact (hb A env ρ H1 s1 _ rm hk (F.ext x1) k1 q).ext x1
 ·exact (ha A env ρ H1 s1 _ rm hk (F.ext x1) k1 q).ext x1
end
section
variable {B:Base}{T:Tab}{d:Nat}{kd:Str->Option NameKind}
noncomputable def notSlice:Expr->Bool
 | .Slice ..=>false
 | _=>true
theorem subscripted_plain {r:Expr}(h:notSlice r=true) (o i:Value):subscripted r false o i=operate [o,i] (getItem o i):=by
 cases r<;>first | rfl | cases h
theorem map_get {vs:List Value}{xs:List MV}(h:vs.map strip=xs) {j:Nat}{u:MV}(e:xs[j]?=some u):∃ v,vs[j]?=some v∧strip v=u:=by
 subst h
 rw[Zn] at e
 exact Zw.mp e
theorem map_len {vs:List Value}{xs:List MV}(h:vs.map strip=xs):vs.length=xs.length:=by subst h;simp
theorem ev_sub {e i:ME}{r ri:Expr}{pos:Pos}(he:EvOK B T d kd e r) (hi:EvOK B T d kd i ri) (hs:notSlice ri=true):EvOK B T d kd (.sub e i) (.Subscript r ri pos):=by
 intro A env ρ H s Q rm hk F k h
 replace h:=dSub h
 refine Subscript_ ((he A env ρ H s _ rm hk F k h).then_ fun u H1 s1 k1 x1 h1=>
  (hi A env ρ H1 s1 _ rm hk (F.ext x1) k1 h1).then_ fun v H2 s2 k2 x2 q0_=>xE4 q0_ fun x n xs w n1_=>aE5 n1_ fun e1 e2 e3 e4 q=>?_)
 have:=strip_ref e1;subst this
 refine xE1 (strip_int e2) fun t e0_1=>?_
 subst e0_1
 refine xE1 (k2.seq e3) fun items t1_0=>aE3 t1_0 fun hl hm hL=>?_
 have hsz:items.size=xs.length:=by rw[← Z6];exact map_len hm
 unfold getAt pyIdx at e4
 have hL':xs.length≤1000000:=hL
 rcases hl with hl | hl
 ·split at e4
  ·rename_i h0
   split at e4
   ·rename_i h1
    refine xE1 (map_get hm (show xs[n.toNat]?=some w from e4)) fun y t2_0=>aE2 t2_0 fun hy hyu=>?_
    refine tail_any hl.typeIs slot_list_getitem.lookup (wpAny_getItem_list hl h0 (tnb h1 h0 (X7.mpr (Zf hL' (by decide)))) (by rw[← Xb];exact hy) ⟨H2,(aI3 k2 (x1.trans x2) (hyu▸q))⟩) (subscripted_plain hs _ _)
   ·cases e4
  ·rename_i h0
   split at e4
   ·rename_i h1
    refine xE1 (map_get hm (show xs[(n+(xs.length:Int)).toNat]?=some w from e4)) fun y t3_0=>aE2 t3_0 fun hy hyu=>?_
    refine tail_any hl.typeIs slot_list_getitem.lookup (wpAny_getItem_list_neg hl (by lia) (by rw[hsz];lia) (by lia) (by rw[hsz,← Xb];exact hy) ⟨H2,(aI3 k2 (x1.trans x2) (hyu▸q))⟩) (subscripted_plain hs _ _)
   ·cases e4
 ·have key:∃ j,seqIndex? n items.size=some j∧xs[j]?=some w∧-(2 ^ 63)≤n∧n<2 ^ 63:=by
   unfold seqIndex?
   rw[hsz]
   split at e4
   ·rename_i h0
    split at e4
    ·rename_i h1
     refine⟨n.toNat,(aI4 ?_ e4 (by lia) (tnb h1 h0 (Yu (X7.mpr hL') (by decide))))⟩
     simp only [show ¬n<0 by lia,if_false]
     rw[if_pos (by simp only [Zy,decide_eq_true_eq];exact⟨h0,tnl h1 h0⟩)]
    ·cases e4
   ·rename_i h0
    split at e4
    ·rename_i h1
     refine⟨(n+(xs.length:Int)).toNat,(aI4 ?_ e4 (by lia) (by lia))⟩
     simp only [show n<0 by lia,if_true]
     rw[if_pos (by simp only [Zy,decide_eq_true_eq];exact⟨h1,ngl h0⟩)]
    ·cases e4
  refine xE1 key fun j t4_0=>aE4 t4_0 fun hj hx a1 a2=>?_
  refine xE1 (map_get hm hx) fun y t5_0=>aE2 t5_0 fun hy hyu=>?_
  exact tail_any hl.typeIs slot_tuple_getitem.lookup (getItem_tuple hl a1 a2 hj (by rw[← Xb];exact hy) ⟨H2,(aI3 k2 (x1.trans x2) (hyu▸q))⟩) (subscripted_plain hs _ _)
noncomputable def keyOf (k:Bool):Str:=if k then "at" else "cells"
theorem key_ne:(("cells" : Str)=("at" : Str))=False:=by
 have:¬(("cells" : Str)=("at" : Str)):=by decide +kernel
 exact eq_false this
theorem valueAt_cells (cv iv:Value):valueAt [(("cells" : Str),cv),(("at" : Str),iv)] (keyOf false)=some cv:=by
 unfold valueAt keyOf;simp
theorem valueAt_at (cv iv:Value):valueAt [(("cells" : Str),cv),(("at" : Str),iv)] (keyOf true)=some iv:=by
 unfold valueAt keyOf;simp [key_ne]
theorem ev_subk {e:ME}{r:Expr}{k:Bool}{m:Nat}{p pos:Pos}(he:EvOK B T d kd e r):EvOK B T d kd (.subk e k) (.Subscript r (.Constant (.str (keyOf k)) m p) pos):=by
 intro A env ρ H s Q rm hk F kk h
 replace h:=dSubk h
 refine Subscript_ ((he A env ρ H s _ rm hk F kk h).then_ fun u H1 s1 k1 x1 pp5=>?_)
 refine xE3 pp5 fun x c a t6_0=>aE3 t6_0 fun e1 e2 q=>?_
 have:=strip_ref e1;subst this
 refine wpAny_Constant_str ?_
 refine xE2 (k1.rep x _ e2) fun cv iv t7_0=>aE3 t7_0 fun hc hi hd=>?_
 have hd':({ s1 with toks:=s1.toks+1 }:Shared).heap.DictOf (strKind B.prog B.w) x [(("cells" : Str),cv),(("at" : Str),iv)]:=hd
 refine tail_any hd'.typeIs slot_dict_getitem.lookup (wpAny_getItem_of (k:=keyOf k) (v:=if k then iv else cv) (strKind_is B.prog B.w _ _) hd'.mapOf ?_ ⟨H1,(aI3 ((k1.toks _).toks _) x1 ?_)⟩) rfl
 ·cases k
  ·exact valueAt_cells cv iv
  ·exact valueAt_at cv iv
 ·cases k
  ·exact hc▸q
  ·exact hi▸q
theorem slice_tail {A:Around}{s:Shared}{value:Expr}{lo hi:Option Expr}{p:Pos}{l sl:Addr}{items:Array Value}{vl vu:Value}{a b:Option Int}{E:Value->Shared->Prop}{Q:Value->Shared->Prop}
  (hl:s.heap.IsList l items) (hs:s.heap.IsSliceOf sl vl vu .none) (pl:IsPart vl a) (pu:IsPart vu b) (hz:items.size≤1000000)
  (h:Q (.ref s.heap.objs.size) { s with heap:=s.heap.push { cls:=.type "list",data:=.seq (slicePick items a b none) } }) :
  wpAny B.M A (subscriptTail value (.Slice lo hi none p) (.ref l) (.ref sl)) Q E s:=
 tail_any hl.typeIs slot_list_getitem.lookup (wpAny_getItem_list_slice hl hs pl pu .none (by simp) h (by rw[sizeLine_eq];exact Zf hz (by decide))) rfl
theorem slicePick_m1 (items:Array Value):slicePick items none (some (-1)) none=items.toList.dropLast.toArray:=by
 rw[List.dropLast_eq_take];exact slicePick_butLast items 1 (Zk 1)
theorem ev_sliceTo {e i:ME}{r ri:Expr}{p pos:Pos}(he:EvOK B T d kd e r) (hi:EvOK B T d kd i ri):EvOK B T d kd (.sliceTo e i) (.Subscript r (.Slice none (some ri) none p) pos):=by
 intro A env ρ H s Q rm hk F k h
 replace h:=dSTo h
 refine Subscript_ ((he A env ρ H s _ rm hk F k h).then_ fun u H1 s1 k1 x1 h1=>wpAny_Slice ?_)
 rw[evalPart_none]
 refine wpAny_pure ?_
 rw[evalPart_some]
 refine (hi A env ρ H1 s1 _ rm hk (F.ext x1) k1 h1).then_ fun v H2 s2 k2 x2 pp5=>?_
 refine wpAny_pure ?_
 refine pp5.elim (fun pp5=>?_) fun pp5=>?_
 ·refine hide fun R done=>xE3 pp5 fun x n xs h=>aE4 h fun e1 e2 e3 q=>?_
  refine xE1 (strip_int e2) fun t ev=>xE1 (show ∃ items:Array Value,items.toList.map strip=xs∧xs.length≤LIM∧s2.heap.IsList x items from e3.elim (fun e=>xE2 (k2.list e) fun items n h=>aE3 h fun h1 h2 h3=>⟨items,h2,h3,_,h1,rfl,n,rfl⟩) fun e=>xE1 (k2.rep _ _ e) fun items h=>⟨items,h.2.1,h.2.2,h.1⟩) fun items h=>aE3 h fun hm hL hl=>done ?_
  clear done
  rw[strip_ref e1,ev]
  have hsz:items.size=xs.length:=by rw[← Z6];exact map_len hm
  have hL':xs.length≤1000000:=hL
  have k3:=k2.push { cls:=.type "slice",data:=.fields #[.none,.int n t,.none] } (t:=s2.toks)
  have x3:=Ext.push k2 { cls:=.type "slice",data:=.fields #[.none,.int n t,.none] }
  refine slice_tail (hl.push _) (Heap.IsSliceOf.new ..) .none (.int n t) (by omega) ?_
  rw[slicePick_upto']
  refine⟨_,k3.alloc (t:=s2.toks) (o:=.list (xs.take n)) rfl ⟨_,0,Z0 _ rfl,?_,?_⟩,(x1.trans (x2.trans x3)).trans (Ext.alloc k3 fun b ob e=>Z5 _ e),q _ (k3.fresh (Zk _))⟩
  ·show (items.toList.take n).map strip=_
   rw[Vq,hm]
  ·rw[Xq];exact Zf (Nat.min_le_right _ _) hL
 ·refine hide fun R done=>xE2 pp5 fun x xs h=>aE4 h fun e1 e2 e3 q=>?_
  refine xE1 (strip_int e2) fun t ev=>xE2 (k2.list e3) fun items n h=>aE3 h fun h1 hm hL=>done ?_
  have hl:s2.heap.IsList x items:=⟨_,h1,rfl,n,rfl⟩
  clear done
  rw[strip_ref e1,ev]
  have hsz:items.size=xs.length:=by rw[← Z6];exact map_len hm
  have k3:=k2.push { cls:=.type "slice",data:=.fields #[.none,.int (-1) t,.none] } (t:=s2.toks)
  have x3:=Ext.push k2 { cls:=.type "slice",data:=.fields #[.none,.int (-1) t,.none] }
  refine slice_tail (hl.push _) (Heap.IsSliceOf.new ..) .none (.int (-1) t) (by rw[hsz];exact hL) ?_
  rw[slicePick_m1]
  refine⟨_,k3.alloc (t:=s2.toks) (o:=.list xs.dropLast) rfl ⟨_,0,Z0 _ rfl,?_,?_⟩,(x1.trans (x2.trans x3)).trans (Ext.alloc k3 fun b ob e=>Z5 _ e),q _ (k3.fresh (Zk _))⟩
  ·show items.toList.dropLast.map strip=_
   rw[← hm,List.map_dropLast]
  ·rw[List.length_dropLast];exact Zf (Xi _ _) hL
theorem ev_sliceFrom {e i:ME}{r ri:Expr}{p pos:Pos}(he:EvOK B T d kd e r) (hi:EvOK B T d kd i ri):EvOK B T d kd (.sliceFrom e i) (.Subscript r (.Slice (some ri) none none p) pos):=by
 intro A env ρ H s Q rm hk F k h
 replace h:=dSFr h
 refine Subscript_ ((he A env ρ H s _ rm hk F k h).then_ fun u H1 s1 k1 x1 h1=>wpAny_Slice ?_)
 rw[evalPart_some]
 refine (hi A env ρ H1 s1 _ rm hk (F.ext x1) k1 h1).then_ fun v H2 s2 k2 x2 pp5=>?_
 refine hide fun R done=>?_
 obtain ⟨x,n,xs,e1,e2,e3,e4,e5,q⟩:=pp5
 refine done ?_
 rw[evalPart_none]
 refine wpAny_pure (wpAny_pure ?_)
 have:=strip_ref e1;subst this
 refine hide fun R done=>?_
 obtain ⟨t,rfl⟩:=strip_int e2
 obtain ⟨items,n0,h1,hm,hL⟩:=k2.list e3
 have hl:s2.heap.IsList x items:=⟨_,h1,rfl,n0,rfl⟩
 have hsz:items.size=xs.length:=by rw[← Z6];exact map_len hm
 have hL':xs.length≤1000000:=hL
 have k3:=k2.push { cls:=.type "slice",data:=.fields #[.int n t,.none,.none] } (t:=s2.toks)
 have x3:=Ext.push k2 { cls:=.type "slice",data:=.fields #[.int n t,.none,.none] }
 obtain ⟨m,rfl⟩:=Wd e4
 refine done ?_
 have key:(slicePick items (some (m:Int)) none none).toList.map strip=xs.drop ((m:Int)).toNat∧(xs.drop ((m:Int)).toNat).length≤LIM:=by
  constructor
  ·rw[slicePick_from items m (by lia)]
   simp [← hm]
  ·rw[Wo];exact Zf (Xi _ _) hL
 refine slice_tail (hl.push _) (Heap.IsSliceOf.new ..) (.int _ t) .none (by lia) ?_
 refine⟨_,(aI3 (k3.alloc (t:=s2.toks) (o:=.list (xs.drop ((m:Int)).toNat)) rfl ⟨_,0,Z0 _ rfl,key.1,key.2⟩) ((x1.trans (x2.trans x3)).trans (Ext.alloc k3 fun b ob e=>Z5 _ e)) (q _ (k3.fresh (Zk _))))⟩
theorem evs_nil:EvsOK B T d kd .nil []:=by
 refine⟨fun _ h=>(nomatch h),fun A env ρ H s Q pos rm hk F k h=>?_⟩
 replace h:=dsNil h
 exact spliced_nil ⟨H,(aI3 k .refl h)⟩
theorem evs_cons {e:ME}{es:MEs}{r:Expr}{rs:List Expr}(hn:notStar r=true) (he:EvOK B T d kd e r) (hr:EvsOK B T d kd es rs):EvsOK B T d kd (.cons e es) (r::rs):=by
 refine⟨fun x h=>?_,fun A env ρ H s Q pos rm hk F k h=>?_⟩
 ·rcases Zr.mp h with rfl | h
  ·exact hn
  ·exact hr.1 x h
 replace h:=dsCons h
 unfold W
 rw[starEach_cons hn]
 refine spliced_cons ((he A env ρ H s _ rm hk F k h).then_ fun v H1 s1 k1 x1 h1=>(hr.2 A env ρ H1 s1 _ pos rm hk (F.ext x1) k1 h1).then_ fun vs H2 s2 k2 x2 h2=>?_)
 exact⟨H2,(aI3 k2 (x1.trans x2) h2)⟩
theorem evs_len {A:Around}{env:Env}{rs:List Expr}{pos:Pos}{s:Shared}{E:Value->Shared->Prop}{Q:List Value->Shared->Prop}(hn:∀ r∈rs,notStar r=true)
  (h:wpAny B.M A (spliced (backTo pos (starEach rs env))) Q E s):wpAny B.M A (spliced (backTo pos (starEach rs env))) (fun vs s'=>vs.length=rs.length∧Q vs s') E s:=by
 have len:∀ (M:Model) (Γ:Ctx) (rs:List Expr) (p:Pos) (s:Shared) (Q:List Value->Pos->Shared->Prop) (E:Value->Pos->Shared->Prop),(∀ r∈rs,notStar r=true)->
   Sem.wp M Γ (spliced (backTo pos (starEach rs env))) Q E p s->Sem.wp M Γ (spliced (backTo pos (starEach rs env))) (fun vs p' s'=>vs.length=rs.length∧Q vs p' s') E p s:=by
  intro M Γ rs
  induction rs with
  | nil=>intro p s Q E _ h;exact⟨rfl,h⟩
  | cons r rs ih=>
   intro p s Q E hn h
   rw[starEach_cons (hn r (.head _))] at h ⊢
   unfold backTo at h ⊢
   rw[Z7] at h ⊢
   unfold spliced at h ⊢
   simp only [Yo,if_false,Sem.wp_bind',Sem.wp_holding,Sem.wp_pure'] at h ⊢
   refine Sem.wp_mono M Γ _ (fun v p₁ s₁ h₁=>?_) (fun _ _ _ e=>e) p s h
   exact Sem.wp_mono M Γ _ (fun vs p₂ s₂ h₂=>⟨by simp [h₂.1],h₂.2⟩) (fun _ _ _ e=>e) p₁ s₁ (ih p₁ s₁ _ E (fun x hx=>hn x (.tail _ hx)) h₁)
 exact fun Γ p hΓ=>len _ Γ rs p s _ _ hn (h Γ p hΓ)
theorem ev_list {es:MEs}{rs:List Expr}{pos:Pos}(hr:EvsOK B T d kd es rs) (hl:rs.length≤100):EvOK B T d kd (.list es) (.List rs pos):=by
 intro A env ρ H s Q rm hk F k h
 replace h:=dList h
 refine List_ ?_
 refine wpAny_mono (evs_len hr.1 (hr.2 A env ρ H s _ pos rm hk F k h)) (fun vs s' pp2=>?_) fun _ _ e=>e
 refine hide fun R done=>?_
 obtain ⟨hlen,H1,k1,x1,q⟩:=pp2
 refine done ?_
 refine wpAny_newList ?_ (by rw[sizeLine_eq];lia)
 refine⟨_,(aI3 (k1.alloc (t:=s'.toks) (o:=.list (vs.map strip)) rfl ⟨vs.toArray,0,Z0 _ rfl,rfl,?_⟩) (x1.trans (Ext.alloc k1 fun b ob e=>Z5 _ e)) (q _ (k1.fresh (Zk _))))⟩
 rw[Zc];unfold LIM;lia
theorem ev_tup {es:MEs}{rs:List Expr}{n:Nat}{pos:Pos}(hr:EvsOK B T d kd es rs) (hl:rs.length≤100):EvOK B T d kd (.tup es) (.Tuple rs n pos):=by
 intro A env ρ H s Q rm hk F k h
 replace h:=dTup h
 refine Tuple_ ?_
 refine wpAny_mono (evs_len hr.1 (hr.2 A env ρ H s _ pos rm hk F k h)) (fun vs s' pp2=>?_) fun _ _ e=>e
 refine hide fun R done=>?_
 obtain ⟨hlen,H1,k1,x1,q⟩:=pp2
 refine done ?_
 refine wpAny_newTuple ?_ (by rw[sizeLine_eq];lia)
 refine⟨_,(aI3 (k1.alloc (t:=s'.toks) (o:=.tup (vs.map strip)) rfl ⟨vs.toArray,⟨_,Z0 _ rfl,rfl,0,rfl⟩,rfl,?_⟩) (x1.trans (Ext.alloc k1 fun b ob e=>Z5 _ e)) (q _ (k1.fresh (Zk _))))⟩
 rw[Zc];unfold LIM;lia
theorem ev_dict2 {a b:ME}{ra rb:Expr}{m n:Nat}{p p' pos:Pos}(ha:EvOK B T d kd a ra) (hb:EvOK B T d kd b rb) :
  EvOK B T d kd (.dict2 a b) (.Dict [some (.Constant (.str "cells") m p),some (.Constant (.str "at") n p')] [ra,rb] pos):=by
 intro A env ρ H s Q rm hk F k h
 replace h:=dDict h
 have k0:=k.push { cls:=.type "dict",data:=.dict #[] } (t:=s.toks)
 have x0:=Ext.push k { cls:=.type "dict",data:=.dict #[] }
 have hD:H s.heap.objs.size=none:=k.fresh (Zk _)
 have dn:(s.heap.push { cls:=.type "dict",data:=.dict #[] }).DictOf (strKind B.prog B.w) s.heap.objs.size []:=Heap.DictOf.new _
 refine wpAny_Dict_pairs (knd:=strKind B.prog B.w) (pairs:=[(eval (.Constant (.str "cells") m p) env,do let x ← eval ra env;standAt pos;pure x),(eval (.Constant (.str "at") n p') env,do let x ← eval rb env;standAt pos;pure x)]) rfl (by simp) (by simp) ?_
 refine evalPairs_cons (wpAny_Constant_str ?_)
 refine wpAny_bind ((ha A env ρ H { s with heap:=s.heap.push { cls:=.type "dict",data:=.dict #[] },toks:=s.toks+1 } _ rm hk (F.ext x0) (k0.toks _) h).then_ fun u H1 s1 k1 x1 h1=>wpAny_bind (wpAny_standAt (wpAny_pure ?_)))
 refine evalPairs_cons (wpAny_Constant_str ?_)
 refine wpAny_bind ((hb A env ρ H1 { s1 with toks:=s1.toks+1 } _ rm hk ((F.ext x0).ext x1) (k1.toks _) h1).then_ fun v H2 s2 k2 x2 q=>wpAny_bind (wpAny_standAt (wpAny_pure ?_)))
 refine evalPairs_nil ?_
 have xx:Ext H (s.heap.push { cls:=.type "dict",data:=.dict #[] }) H2 s2.heap:=x1.trans x2
 refine hide fun R done=>?_
 refine xE3 dn fun o es ep t16_0=>aE2 t16_0 fun ho hr=>?_
 refine done ?_
 have hD2:=xx _ _ (notMut_none hD) ho
 have dl:s2.heap.DictOf (strKind B.prog B.w) s.heap.objs.size []:=⟨o,es,ep,hD2.1,hr⟩
 refine⟨[(("cells" : Str),u),(("at" : Str),v)],(aI3 ⟨strKind_is B.prog B.w _ _,rfl,strKind_is B.prog B.w _ _,rfl,trivial⟩ dl (fun h' hm sb=>?_))⟩
 have hD3:H2 s.heap.objs.size=none:=hD2.2.2 hD
 have hmm:h'.DictOf (strKind B.prog B.w) s.heap.objs.size [(("cells" : Str),u),(("at" : Str),v)]:=by
  have e:merged [] [(("cells" : Str),u),(("at" : Str),v)]=[(("cells" : Str),u),(("at" : Str),v)]:=by
   unfold merged stored;simp [key_ne]
  rw[← e];exact hm
 have hN:B.h₀.get? s.heap.objs.size=none:=by
  induction z:B.h₀.get? s.heap.objs.size using Option.casesOn with
  | none=>rfl
  | some o'=>exact absurd (Yn (k.base _ _ z)) (Y2 _)
 refine⟨upd H2 s.heap.objs.size (.pot (strip u) (strip v)),(aI3 ⟨fun b o' e=>?_,k2.gens,k2.os,fun b o' e=>?_,fun b mm=>?_⟩ (fun b o' mm e=>?_) (q _ hD3))⟩
 ·unfold upd at e
  split at e
  ·rename_i z;subst z;have e:=Option.some.inj e;subst e;exact⟨u,v,rfl,rfl,hmm⟩
  ·rename_i z;exact (k2.rep b o' e).same fun ob w=>(sb.2 b z).trans w
 ·exact (sb.2 b fun z=>by rw[z,hN] at e;exact ncs e).trans (k2.base b o' e)
 ·unfold upd at mm
  split at mm
  ·rename_i z;subst z;exact hN
  ·exact k2.new b mm
 ·have hb:b≠s.heap.objs.size:=Yd (Yn e)
  have y:=(x0.trans xx) b o' mm e
  refine⟨(sb.2 b hb).trans y.1,?_⟩
  unfold upd
  rw[if_neg hb];exact y.2
end
section
variable {B:Base}{H:AH}{s:Shared}
theorem Ok.allocK (k:Ok B H s) {D:Addr}{o:AO}{h':Heap}{t:Nat}(keep:∀ b ob,s.heap.get? b=some ob->h'.get? b=some ob) (hD:s.heap.get? D=none) (r:Rep B h' D o) :
  Ok B (upd H D o) { s with heap:=h',toks:=t }:=by
 refine⟨fun a o' e=>?_,k.gens,k.os,fun b o' e=>keep _ _ (k.base b o' e),fun b m=>?_⟩
 ·unfold upd at e
  split at e
  ·rename_i q;subst q;have e:=Option.some.inj e;subst e;exact r
  ·exact (k.rep a o' e).same fun ob' h=>keep _ _ h
 ·unfold upd at m
  split at m
  ·rename_i q
   subst q
   induction q':B.h₀.get? b using Option.casesOn with
   | none=>rfl
   | some o'=>rw[k.base _ _ q'] at hD;exact nsc hD
  ·exact k.new b m
theorem Ext.allocK {D:Addr}{o:AO}{h h':Heap}(keep:∀ b ob,h.get? b=some ob->h'.get? b=some ob) (hD:h.get? D=none):Ext H h (upd H D o) h':=fun b o' m e=>by
 refine⟨keep b o' e,?_⟩
 unfold upd
 rw[if_neg (fun q=>by rw[q,hD] at e;exact ncs e)]
 exact⟨m,id⟩
theorem Ok.dead (k:Ok B H s) {D:Addr}(hD:s.heap.get? D=none):H D=none:=by
 induction q:H D using Option.casesOn with
 | none=>rfl
 | some o=>obtain ⟨ob,e⟩:=(k.rep D o q).alive;rw[hD] at e;exact ncs e
theorem Ok.keep (k:Ok B H s) {h':Heap}{t:Nat}(keep:∀ b ob,s.heap.get? b=some ob->h'.get? b=some ob):Ok B H { s with heap:=h',toks:=t }:=k.heap fun b o _ e=>keep b o e
theorem Ext.keepAll {h h':Heap}(keep:∀ b ob,h.get? b=some ob->h'.get? b=some ob):Ext H h H h':=fun b o m e=>(aI3 (keep b o e) m id)
end
section
variable {B:Base}{T:Tab}{d:Nat}{kd:Str->Option NameKind}
theorem evalArgs_of {A:Around}{env:Env}{s:Shared}{E:Value->Shared->Prop}{f:Value}{pos:Pos}{rs:List Expr}{Q:Args->Shared->Prop}(hn:∀ r∈rs,notStar r=true)
  (h:wpAny B.M A (spliced (backTo pos (starEach rs env))) (fun vs s'=>Q ⟨vs,[]⟩ s') E s):wpAny B.M A (evalArgs f true (backTo pos (starEach rs env)) []) Q E s:=by
 induction rs using List.casesOn with
 | nil=>
  have h':wpAny B.M A (spliced []) (fun vs s'=>Q ⟨vs,[]⟩ s') E s:=h
  show wpAny B.M A (evalArgs f true [] []) Q E s
  unfold evalArgs
  show wpAny B.M A (spliced [] >>= _) Q E s
  refine wpAny_bind (wpAny_mono h' (fun vs s' h''=>?_) fun _ _ x=>x)
  refine wpAny_bind (wpAny_pure (wpAny_holding ?_))
  exact wpAny_bind (wpAny_pure (wpAny_bind (wpAny_pure (wpAny_pure h''))))
 | cons r rs=>
  rw[starEach_cons (hn r (.head _))] at h ⊢
  exact evalArgs_plain h
theorem plain_args {env:Env}{pos:Pos}:∀ {rs:List Expr},(∀ r∈rs,notStar r=true)->(backTo pos (starEach rs env)).any (·.1)=false
 | [],_=>rfl
 | r::rs,hn=>by
  rw[starEach_cons (hn r (.head _))]
  show (false || (backTo pos (starEach rs env)).any (·.1))=false
  rw[plain_args fun x hx=>hn x (.tail _ hx)];rfl
theorem callWith_fn (g:B.Good) {A:Around}{env:Env}{pos:Pos}{f:Addr}{first:List Value}{rs:List Expr}{es:MEs}{ρ:RH}{H:AH}{s:Shared}{Q:MV->AH->Prop}
  (hr:EvsOK B T d kd es rs) (rm:Room (d+3) A) (hk:∀ x,env.kindOf x=kd x) (F:FrOK B env ρ H s.heap) (k:Ok B H s) (hf:keepIn B.K (.ref f)=true)
  (h:wpEs (sig B T d) es ρ H fun vs H=>SpecCall B d f (first.map strip++vs) H Q) :
  W B A (callWith pos (.ref f) first (backTo pos (starEach rs env)) []) H s fun v H' _=>Q (strip v) H':=by
 refine callWith_of (by rw[plain_args hr.1];rfl) (keeps_K hf) (evalArgs_of hr.1 ((hr.2 A env ρ H s _ pos rm hk F k h).then_ fun vs H1 s1 k1 x1 h1=>⟨k1.X g,?_⟩))
 refine wpAny_call (codeAny_mono (h1 A s1 (first++vs) (rm.mono (by lia)) k1 (by simp)) fun r s2 pp2=>?_)
 refine hide fun R done=>?_
 refine xE2 pp2 fun v H2 t0_0=>aE4 t0_0 fun e k2 x2 q=>?_
 refine done ?_
 subst e
 exact⟨H2,(aI3 k2 (x1.trans x2) q)⟩
theorem keepIn_fn {K:Frag}{f:Addr}(h:fnIn K f=true):keepIn K (.ref f)=true:=by
 revert h
 unfold fnIn keepIn
 dsimp only
 induction K.lookup f using Option.casesOn with
 | none=>exact nft
 | some o=>
  induction o using PySem.Obj.casesOn with
  | mk c d dt sl=>induction dt using PySem.Data.casesOn with | func x=>exact fun _=>rfl | _=>exact nft
theorem ev_call (g:B.Good) {i:Nat}{f:Addr}{es:MEs}{rs:List Expr}{p pos:Pos}(hr:EvsOK B T d kd es rs) (hk:kd (B.nm i)=some .globalImplicit) (e:nsIn B.K mainGlobals (B.nm i)=some (some (.ref f)))
  (hd:(B.nm i == ("__debug__" : Str))=false) (hf:fnIn B.K f=true):EvOK B T d kd (.call i f es) (.Call (.Name (B.nm i) p) rs [] pos):=by
 intro A env ρ H s Q rm hk' F k h
 replace h:=dCall h
 refine wpAny_Call_Name_kw ((W.load_glob g k F ((hk' _).trans hk) e hd (Q:=fun v H' _=>v=.ref f∧H'=H) ⟨rfl,rfl⟩).then_ fun v H1 s1 k1 x1 pp5=>?_)
 obtain ⟨e1,e2⟩:=pp5
 subst e1 e2
 exact (callWith_fn g (first:=[]) hr rm hk' (F.ext x1) k1 (keepIn_fn hf) h).ext x1
theorem eval_mcall {o:Expr}{name:Str}{apos pos:Pos}{rs:List Expr}{env:Env}(hb:plainBase o=true) (hn:∀ r∈rs,notStar r=true) (hl:rs.length<30) (hp:apos.endLine=pos.line) :
  eval (.Call (.Attribute o name apos) rs [] pos) env=(do
   let ov ← eval o env
   standAt apos.atName
   let (f,first) ← holding [ov] (getMethod ov name (do return (← importBound o env).getD true))
   callWith pos f first (backTo pos (starEach rs env)) []):=by
 rw[arm_eval_Call,attributeBase_plain hb]
 have hform:methodCallForm (rs.length+([]:List Keyword).length) (backTo pos (starEach rs env)) (backToKw pos (keywordEach [] env))=true:=by
  unfold methodCallForm
  have h1:(backTo pos (starEach rs env)).all (!·.1)=true:=by
   have:=plain_args (env:=env) (pos:=pos) hn
   rw[Z8]
   intro x hx
   rw[List.any_eq_false] at this
   simpa using this x hx
  rw[h1]
  show (true && true && decide (rs.length+0+0<30))=true
  simp;exact hl
 unfold methodCall
 rw[hform]
 have e2:methodCallPos true o env apos pos=pure pos:=by
  unfold methodCallPos
  simp [hp]
 rw[e2]
 rfl
theorem isFn_beq {K:Frag}{v:Value}(h:isFn K v=true):typeIn K v=some (.type "function"):=beq_iff_eq.mp h
theorem lookIn_none (hn:B.nmT.Nodup) {l:List (Nat × MV)}{es:List DictEntry}{n:Nat}(h:All2 (EntRel B) es l) {a:Nat}(ha:a<B.N) (e:l.lookup a=none):shadowIn (some (dictOf es n)) (B.nm a)=some false:=by
 show (lookIn (B.nm a) (dictOf es n)).map _=_
 rw[lookIn_dict,h.none_ hn ha e];rfl
structure NmOk (B:Base):Prop where
 app:B.nm 0 = "append"
 ext:B.nm 1 = "extend"
 pop:B.nm 2 = "pop"
theorem getMethod_lst {M:Model}{A:Around}{E:Value->Shared->Prop}{s:Shared}{l:Addr}{o:Obj}{name:Str}{id:String}{pl:Sem Bool}{Q:Value × List Value->Shared->Prop}(ho:s.heap.get? l=some o) (hc:o.cls=.type "list") (hd:o.dict=none)
  (sl:Slot "list" name id) (ht:typeOf (.builtin id)=pure (.type "method_descriptor")) (h:Q (.builtin id,[.ref l]) s):wpAny M A (getMethod (.ref l) name pl) Q E s:=by
 have hT:s.TypeIs (.ref l) "list":=⟨o,ho,hc⟩
 unfold getMethod
 refine wpAny_bind (wpAny_specialOf hT list_getattribute ?_)
 show wpAny M A (if (Manifest.canonical "list.__getattribute__" != "object.__getattribute__")=true then _ else _) Q E s
 rw[canon_list_getattribute,if_neg Bool.false_ne_true]
 refine wpAny_bind (wpAny_specialOf hT list_getattr_none ?_)
 refine wpAny_bind (wpAny_specialOf hT sl.lookup ?_)
 refine wpAny_bind (wpAny_of_eq ht ?_)
 refine wpAny_bind (wpAny_load ho ?_)
 rw[hd]
 exact wpAny_bind (wpAny_rule (wpAny_pure h))
theorem type_list_pop:typeOf (.builtin "list.pop")=pure (.type "method_descriptor"):=by show builtinType _=_;rw[builtinType_eq_fast];kernel_rfl
theorem type_list_extend:typeOf (.builtin "list.extend")=pure (.type "method_descriptor"):=by show builtinType _=_;rw[builtinType_eq_fast];kernel_rfl
theorem type_list_sort:typeOf (.builtin "list.sort")=pure (.type "method_descriptor"):=by show builtinType _=_;rw[builtinType_eq_fast];kernel_rfl
theorem Ok.lstore {H:AH}{s:Shared}(k:Ok B H s) {a:Addr}{xs ys:List MV}{items:Array Value}{n:Nat}(e:H a=some (.list xs)) (ho:s.heap.get? a=some (seqObj "list" items n)) (f:Array Value->Array Value) (hm:(f items).toList.map strip=ys) (hl:ys.length≤LIM) {t:Nat} :
  Ok B (upd H a (.list ys)) { s with heap:=s.heap.update a (Obj.mapSeq f),toks:=t }∧Ext H s.heap (upd H a (.list ys)) (s.heap.update a (Obj.mapSeq f)):=by
 have sb:=Heap.SameBut.update s.heap a (Obj.mapSeq f)
 exact⟨k.store e trivial sb ⟨f items,_,get?_update_seq ho f,hm,hl⟩,Ext.store e trivial sb⟩
theorem app_ok {x:Addr}{vs:List Value}{A:Around}{H:AH}{s:Shared}{Q:MV->AH->Prop}(k:Ok B H s) (h:wpLM x 0 (vs.map strip) H Q):W B A (call (.builtin "list.append") (.ref x::vs)) H s fun v H' _=>Q (strip v) H':=
 xE1 h fun xs h=>aE2 h fun hx h=>one1.inv h fun w ew h3=>xE2 (k.list hx) fun items n h=>aE3 h fun ho hm hl=>by
  subst ew
  have hsz:items.size=xs.length:=by rw[← Z6];exact map_len hm
  have hL:xs.length<1000000:=h3.1
  refine aE2 (k.lstore (ys:=xs++[strip w]) (t:=s.toks) hx ho (fun z=>z.push w) (by simp [hm]) (by rw[Zd];exact h3.1)) fun a1 a2=>?_
  exact call_meets PySem.F.slot_list_append ⟨_,ho,rfl⟩ PySem.F.entry_list_append (PySem.F.args_list_append_2 _ _) (list_append x items n w (by rw[sizeLine_eq];lia)) ⟨ho,_,a1,a2,h3.2⟩
theorem ext_ok {x:Addr}{vs:List Value}{A:Around}{H:AH}{s:Shared}{Q:MV->AH->Prop}(k:Ok B H s) (h:wpLM x 1 (vs.map strip) H Q):W B A (call (.builtin "list.extend") (.ref x::vs)) H s fun v H' _=>Q (strip v) H':=
 xE1 h fun xs h=>aE2 h fun hx h=>one1.inv h fun w ew h=>asR.inv h fun b eb h=>xE1 h fun ys h=>aE4 h fun hy hne hle q=>xE2 (k.list hx) fun items n h=>aE3 h fun ho hm hl=>xE2 (k.list hy) fun items2 n2 h=>aE3 h fun ho2 hm2 hl2=>by
  subst eb ew
  have hsz:items.size=xs.length:=by rw[← Z6];exact map_len hm
  have hsz2:items2.size=ys.length:=by rw[← Z6];exact map_len hm2
  have hL:xs.length+ys.length≤1000000:=hle
  refine aE2 (k.lstore (ys:=xs++ys) (t:=s.toks) hx ho (fun z=>z++items2) (by simp [hm,hm2]) (by rw[Zd];exact hle)) fun a1 a2=>?_
  refine call_meets PySem.F.slot_list_extend ⟨_,ho,rfl⟩ PySem.F.entry_list_extend (PySem.F.args_list_extend_2 _ _) (AutoSeq1.list_extend_list_list_0 x items n b items2 n2 ?_ (by rw[sizeLine_eq];lia) (by rw[sizeLine_eq];lia)) ⟨ho,ho2,_,a1,a2,q⟩
  unfold Builtin.List.listTooLong
  rw[sizeLine_eq]
  have:¬(items.size+items2.size > 16777216):=fun z=>absurd (Zv z (by rw[hsz,hsz2];exact hL)) (by decide)
  simp [this]
theorem map_eraseIdx {α β:Type}(f:α->β):∀ (l:List α) (i:Nat),(l.eraseIdx i).map f=(l.map f).eraseIdx i
 | [],_=>rfl
 | _::_,0=>rfl
 | a::l,i+1=>by simp [map_eraseIdx f l i]
theorem pop_ok {x:Addr}{vs:List Value}{A:Around}{H:AH}{s:Shared}{Q:MV->AH->Prop}(k:Ok B H s) (h:wpLM x 2 (vs.map strip) H Q):W B A (call (.builtin "list.pop") (.ref x::vs)) H s fun v H' _=>Q (strip v) H':=
 xE1 h fun xs h=>aE3 h fun hx hv h=>xE2 h fun ys v h=>aE2 h fun e q=>xE2 (k.list hx) fun items n h=>aE3 h fun ho hm hl=>by
  have hv:=List.map_eq_nil_iff.mp hv
  subst hv e
  have hsz:items.size=ys.length+1:=by rw[← Z6,map_len hm,Zd];rfl
  have hL:(ys++[v]).length≤1000000:=hl
  rw[Zd,Zs] at hL
  refine xE1 (map_get hm (show (ys++[v])[ys.length]?=some v by rw[Zz (Zk _),Yw];rfl)) fun w h=>aE2 h fun hw hwv=>?_
  have hw':items[items.size - 1]?=some w:=by rw[← Xb,hsz];exact hw
  refine aE2 (k.lstore (ys:=ys) (t:=s.toks) hx ho (fun z=>z.eraseIdxIfInBounds (items.size - 1)) (by
   rw[Array.eraseIdxIfInBounds,dif_pos (by rw[hsz];exact Yk _),Array.toList_eraseIdx,map_eraseIdx,hm,hsz,Nat.add_sub_cancel,List.eraseIdx_eq_take_drop_succ]
   simp) (Zf (Xc _) hL)) fun a1 a2=>?_
  exact call_meets PySem.F.slot_list_pop ⟨_,ho,rfl⟩ PySem.F.entry_list_pop (PySem.F.args_list_pop_1 _) (PySem.MeetsSeq.list_pop_last x items n w hw' (by rw[sizeLine_eq,hsz];exact Zf hL (by decide))) ⟨ho,_,a1,a2,by show Q (strip w) _;rw[hwv];exact q⟩
theorem ev_mcall (g:B.Good) (tb:TabOk B T) (nm:NmOk B) {e:ME}{m:Nat}{es:MEs}{r:Expr}{rs:List Expr}{apos pos:Pos}(he:EvOK B T d kd e r) (hr:EvsOK B T d kd es rs) (hb:plainBase r=true) (hl:rs.length<30) (hp:apos.endLine=pos.line) :
  EvOK B T d kd (.mcall e m es) (.Call (.Attribute r (B.nm m) apos) rs [] pos):=by
 intro A env ρ H s Q rm hk F k h
 replace h:=dMcall h
 unfold W
 rw[eval_mcall hb hr.1 hl hp]
 refine wpAny_bind ((he A env ρ H s _ rm hk F k h).then_ fun u H1 s1 k1 x1 h1=>wpAny_bind (wpAny_standAt (wpAny_bind (wpAny_holding ?_))))
 refine hide fun R done=>xE1 h1 fun x h1=>aE2 h1 fun e1 h1=>asO.inv h1 (fun C dx hx h1=>xE2 h1 fun l f h1=>aE4 h1 fun hd e4 e5 h2=>xE2 (k1.inst hx hd) fun es' n h=>aE4 h fun a1 a2 a3 I=>done ?_) fun xs0 hx h1=>xE2 (k1.list hx) fun items0 n0 h=>done ?_
 ·rw[strip_ref e1]
  have hm:=tb.meth C m f e5
  refine method_fn (k1.X g) I (plainGet_of hm.2.1).1 (plainGet_of hm.2.1).2 hm.2.2.2.1 (isFn_beq hm.2.2.2.2.1) (lookIn_none g.nd a2 hm.1 e4) ?_
  exact (callWith_fn g (first:=[.ref x]) hr rm hk (F.ext x1) k1 (keepIn_fn hm.2.2.2.2.2.1) h2).ext x1
 ·rw[strip_ref e1]
  have fin:∀ (id:String) (name:Str),Slot "list" name id->typeOf (.builtin id)=pure (.type "method_descriptor")->B.nm m=name->
    (∀ vs H2 s2,Ok B H2 s2->wpLM x m (vs.map strip) H2 Q->W B A (call (.builtin id) (.ref x::vs)) H2 s2 fun v H' _=>Q (strip v) H')->
    wpAny B.M A (getMethod (.ref x) (B.nm m) (do return (← importBound r env).getD true)) (fun fx s'=>wpAny B.M A (match fx with | (f,first)=>callWith pos f first (backTo pos (starEach rs env)) []) (fun v s'=>∃ H',Ok B H' s'∧Ext H s.heap H' s'.heap∧Q (strip v) H') NoE s') NoE s1:=
   fun id name sl ht hm hc=>getMethod_lst h.1 rfl rfl (hm▸sl) ht (callWith_builtin (plain_args hr.1) (evalArgs_of hr.1 ((hr.2 A env ρ H1 s1 _ pos rm hk (F.ext x1) k1 h1.2).then_ fun vs H2 s2 k2 x2 h2=>(hc vs H2 s2 k2 h2).ext (x1.trans x2))))
  clear done
  by_cases m0:m=0
  ·subst m0
   exact fin "list.append" "append" PySem.F.slot_list_append PySem.type_list_append nm.app fun vs H2 s2 k2 h2=>app_ok k2 h2
  ·by_cases m1:m=1
   ·subst m1
    exact fin "list.extend" "extend" PySem.F.slot_list_extend type_list_extend nm.ext fun vs H2 s2 k2 h2=>ext_ok k2 h2
   ·have m2:m=2:=by have:=h1.1;lia
    subst m2
    exact fin "list.pop" "pop" PySem.F.slot_list_pop type_list_pop nm.pop fun vs H2 s2 k2 h2=>pop_ok k2 h2
end
section
variable {B:Base}{T:Tab}{d:Nat}{kd:Str->Option NameKind}
theorem W.getBound (g:B.Good) (tb:TabOk B T) {A:Around}{H:AH}{s:Shared}(k:Ok B H s) {x C dx f:Addr}{l:List (Nat × MV)}{m:Nat}{expr:Bool}(hx:H x=some (.inst C dx)) (hd:H dx=some (.ns l))
  (hl:l.lookup m=none) (hm:T.meth C m=some f) {Q:MV->AH->Prop}(q:∀ a,H a=none->Q (.ref a) (upd H a (.meth f x))):W B A (PySem.getAttr (.ref x) (B.nm m) expr) H s fun v H' _=>Q (strip v) H':=by
 refine hide fun R done=>?_
 refine xE2 (k.inst hx hd) fun es n t0_0=>aE4 t0_0 fun h1 h2 h3 I=>?_
 refine aE9 (tb.meth C m f hm) fun hN hg hh hf ht hfn hgf htk hc=>?_
 refine done ?_
 refine get_bind (k.X g) I (plainGet_of hg).1 (findObj_fn hh hf hgf htk hc (by show lookIn (B.nm m) (dictOf es n)=_;rw[lookIn_dict,h2.none_ g.nd hN hl])) (plainGet_of hg).2
  (wpAny_call (fn_get (s:={ s with toks:=s.toks+1 }) ((k.toks (s.toks+1)).X g) (isFn_beq ht) (handed_on rfl ?_)))
 exact⟨_,(aI3 ((k.toks (s.toks+1)).alloc (t:=s.toks+1) (o:=.meth f x) rfl (Z0 _ rfl)) (Ext.alloc k fun b ob e=>Z5 _ e) (q _ (k.fresh (Zk _))))⟩
theorem ev_bnd (g:B.Good) (tb:TabOk B T) {e:ME}{r:Expr}{m:Nat}{pos:Pos}(he:EvOK B T d kd e r) (hb:plainBase r=true) :
  EvOK B T d kd (.bnd e m) (.Attribute r (B.nm m) pos):=by
 intro A env ρ H s Q rm hk F k h
 replace h:=dBnd h
 unfold W
 rw[eval_attr hb]
 refine W.bind (he A env ρ H s _ rm hk F k h) fun v H' s' k' x' pp5=>?_
 refine hide fun R done=>?_
 refine xE5 pp5 fun x C dx l f t2_0=>aE6 t2_0 fun e1 e2 e3 e4 e5 q=>?_
 refine done ?_
 have:=strip_ref e1;subst this
 refine wpAny_bind (wpAny_standAt (wpAny_bind (wpAny_holding ?_)))
 refine wpAny_mono (W.getBound g tb k' e2 e3 e4 e5 q) (fun r s2 z=>?_) fun _ _ e=>e
 exact wpAny_bind (wpAny_letTemporaryGo (wpAny_pure z))
theorem Room.under {A:Around}{C:Addr}{rest:List Value}{n:Nat}(r:Room (n+1) A):Room n (A.under (.builtin "type.__call__" ⟨.ref C::rest,[]⟩)):=by
 have hw:(Code.builtin "type.__call__" ⟨.ref C::rest,[]⟩).weight=1:=rfl
 have hu:(Code.builtin "type.__call__" ⟨.ref C::rest,[]⟩).cUnits=1:=rfl
 refine⟨r.1,?_,?_⟩
 ·have:=r.2.1
  show A.depth+(Code.builtin "type.__call__" ⟨.ref C::rest,[]⟩).weight+n≤990
  exact hw▸rm2 this
 ·have:=r.2.2
  show A.units+(Code.builtin "type.__call__" ⟨.ref C::rest,[]⟩).cUnits+20*n≤9700
  exact hu▸rm1 this
theorem ev_new (g:B.Good) {i:Nat}{C f:Addr}{es:MEs}{rs:List Expr}{p pos:Pos}(hr:EvsOK B T d kd es rs) (hk:kd (B.nm i)=some .globalImplicit) (e:nsIn B.K mainGlobals (B.nm i)=some (some (.ref C)))
  (hd:(B.nm i == ("__debug__" : Str))=false) (hC:keepIn B.K (.ref C)=true) (hm:makesIn B.K C=true) (hi:findIn B.K (.ref C) "__init__" = some (some (.ref f))) (hf:typeIn B.K (.ref f)=some (.type "function")) :
  EvOK B T d kd (.new i C f es) (.Call (.Name (B.nm i) p) rs [] pos):=by
 intro A env ρ H s Q rm hk' F k h
 replace h:=dNew h
 refine wpAny_Call_Name_kw ((W.load_glob g k F ((hk' _).trans hk) e hd (Q:=fun v H' _=>v=.ref C∧H'=H) ⟨rfl,rfl⟩).then_ fun v H1 s1 k1 x1 pp5=>?_)
 refine aE2 pp5 fun e1 e2=>?_
 subst e1 e2
 refine callWith_of (by rw[plain_args hr.1];rfl) (keeps_K hC) (evalArgs_of hr.1 ((hr.2 A env ρ H1 s1 _ pos rm hk' (F.ext x1) k1 h).then_ fun vs H2 s2 k2 x2 h2=>⟨k2.X g,?_⟩))
 refine wpAny_call ?_
 obtain ⟨hh,gg,dd,tt,oo⟩:=s2
 refine make_core (makes_of (k2.X g) hm) (looks_findIn (k2.X g) hi) (fun self=>bind_fn (k2.X g) self hf) (.inl rfl) ?_
 have f1:H2 hh.objs.size=none:=k2.fresh (Zk _)
 have f2:H2 (hh.objs.size+1)=none:=k2.fresh (Xc _)
 have k3:Ok B (upd H2 hh.objs.size (.ns [])) ⟨hh.push emptyDict,gg,dd,tt,oo⟩:=
  k2.alloc (t:=tt) (o:=.ns []) (ob:=emptyDict) rfl ⟨[],0,Z0 _ rfl,.nil,by simp⟩
 have x3:Ext H2 hh (upd H2 hh.objs.size (.ns [])) (hh.push emptyDict):=Ext.alloc k2 fun b ob e=>Z5 _ e
 have hsz:(hh.push emptyDict).objs.size=hh.objs.size+1:=Heap.size_push ..
 have k4:Ok B (upd (upd H2 hh.objs.size (.ns [])) (hh.objs.size+1) (.inst C hh.objs.size)) ⟨(hh.push emptyDict).push (instObj C hh.objs.size),gg,dd,tt,oo⟩:=by
  rw[← hsz]
  exact k3.alloc (t:=tt) (o:=.inst C hh.objs.size) (ob:=instObj C hh.objs.size) rfl (Z0 _ rfl)
 have x4:Ext (upd H2 hh.objs.size (.ns [])) (hh.push emptyDict) (upd (upd H2 hh.objs.size (.ns [])) (hh.objs.size+1) (.inst C hh.objs.size)) ((hh.push emptyDict).push (instObj C hh.objs.size)):=by
  rw[← hsz]
  exact Ext.alloc k3 fun b ob e=>Z5 _ e
 have h3:=h2 hh.objs.size (hh.objs.size+1) f1 f2 (Yd (Yk _))
 have rm3:Room d (A.under (.builtin "type.__call__" ⟨.ref C::vs,[]⟩)):=Room.under (rm.mono (by lia))
 refine codeAny_mono (h3 _ _ (.ref (hh.objs.size+1)::vs) rm3 k4 rfl) fun r s5 pp2=>?_
 refine xE2 pp2 fun v H5 t5_0=>aE5 t5_0 fun e5 k5 x5 e6 q=>?_
 subst e5
 exact⟨strip_none e6,H5,k5,x1.trans (x2.trans (x3.trans (x4.trans x5))),q⟩
noncomputable def bfVal:BF->Value
 | .len=>.builtin "len"
 | .abs=>.builtin "abs"
 | .int=>.type "int"
 | .list=>.type "list"
 | .tuple=>.type "tuple"
 | .min=>.builtin "min"
 | .max=>.builtin "max"
 | .sum=>.builtin "sum"
 | .sorted=>.builtin "sorted"
theorem bf_ok {b:BF}{vs:List Value}{A:Around}{H:AH}{s:Shared}{Q:MV->AH->Prop}(rm:Room (d+3) A) (k:Ok B H s) (h:wpBF b (vs.map strip) H Q):W B A (call (bfVal b) vs) H s fun w H' _=>Q (strip w) H':=by
 cases b
 ·-- len
  refine one1.inv h fun u eu h=>asR.inv h fun a ea h=>?_
  subst ea eu
  refine hide fun R done=>?_
  obtain ⟨xs,hx,q⟩:=h
  obtain ⟨items,hl,hm,hL⟩:=k.seq hx
  refine done ?_
  have hsz:items.size=xs.length:=by rw[← Z6];exact map_len hm
  have hL':xs.length≤1000000:=hL
  rcases hl with hl | hl
  ·exact call_len_list hl (by omega) ⟨H,(aI3 ((k.toks _).toks _) .refl (by show Q (.int items.size) H;rw[hsz];exact q))⟩
  ·exact PyProof.Rows.len_tuple hl (by omega) ⟨H,(aI3 ((k.toks _).toks _) .refl (by show Q (.int items.size) H;rw[hsz];exact q))⟩
 ·refine one1.inv h fun u eu h=>asI.inv h fun i t ea h=>?_
  subst ea eu
  exact call_abs_int fun u tk=>⟨H,(aI3 (k.toks _) .refl h)⟩
 ·refine one1.inv h fun u eu h=>asI.inv h fun i t ea h=>?_
  subst ea eu
  exact call_int_int ⟨H,(aI3 k .refl h)⟩
 ·refine one1.inv h fun u eu h=>asR.inv h fun a ea h=>?_
  subst ea eu
  refine hide fun R done=>?_
  obtain ⟨xs,hx,q⟩:=h
  obtain ⟨items,n,ho,hm,hL⟩:=k.list hx
  refine done ?_
  have hsz:items.size=xs.length:=by rw[← Z6];exact map_len hm
  have hL':xs.length≤1000000:=hL
  refine call_list_seq a (.inl rfl) ho rfl rfl (fun h' c' keep hD=>?_) (by rw[sizeLine_eq];lia)
  exact⟨_,(aI3 (k.allocK (t:=s.toks) (o:=.list xs) keep (Z9 (Zk _)) ⟨items,c',hD,hm,hL⟩) (Ext.allocK keep (Z9 (Zk _))) (q _ (k.fresh (Zk _))))⟩
 ·refine one1.inv h fun u eu h=>asR.inv h fun a ea h=>?_
  subst ea eu
  refine hide fun R done=>?_
  obtain ⟨xs,hx,q⟩:=h
  obtain ⟨items,n,ho,hm,hL⟩:=k.list hx
  refine done ?_
  have hsz:items.size=xs.length:=by rw[← Z6];exact map_len hm
  have hL':xs.length≤1000000:=hL
  refine call_tuple_list ⟨_,ho,rfl,n,rfl⟩ (fun h' keep=>?_) (by rw[sizeLine_eq];lia)
  have kp:∀ b ob,s.heap.get? b=some ob->(h'.push { cls:=.type "tuple",data:=.seq items }).get? b=some ob:=fun b ob e=>Z5 _ (keep b ob e)
  have hD:s.heap.get? h'.objs.size=none:=by
   induction z:s.heap.get? h'.objs.size using Option.casesOn with
   | none=>rfl
   | some ob=>exact absurd (Yn (keep _ _ z)) (Y2 _)
  exact⟨_,(aI3 (k.allocK (t:=s.toks) (o:=.tup xs) kp hD ⟨items,⟨_,Z0 _ rfl,rfl,0,rfl⟩,hm,hL⟩) (Ext.allocK kp hD) (q _ (k.dead hD)))⟩
 ·refine one2.inv h fun u v eu h=>asI.inv h fun i t ea h=>asI.inv h fun j t' eb h=>?_
  subst ea eb eu
  refine min_two_ints rm.1 fun h' tk keep=>⟨H,(aI3 (k.keep keep) (Ext.keepAll keep) ?_)⟩
  have e:strip (if j<i then Value.int j t' else Value.int i t)=.int (min i j):=by
   split
   ·show MV.int j=_;congr 1;exact (Int.min_eq_right (Ww ‹_›)).symm
   ·show MV.int i=_;congr 1;lia
  show Q (strip _) H
  rw[e];exact h
 ·refine one2.inv h fun u v eu h=>asI.inv h fun i t ea h=>asI.inv h fun j t' eb h=>?_
  subst ea eb eu
  refine max_two_ints rm.1 fun h' tk keep=>⟨H,(aI3 (k.keep keep) (Ext.keepAll keep) ?_)⟩
  have e:strip (if j > i then Value.int j t' else Value.int i t)=.int (max i j):=by
   split
   ·show MV.int j=_;congr 1;lia
   ·show MV.int i=_;congr 1;exact (Int.max_eq_left (Vf.mp ‹_›)).symm
  show Q (strip _) H
  rw[e];exact h
 ·refine one1.inv h fun u eu h=>asR.inv h fun a ea h=>?_
  subst ea eu
  refine hide fun R done=>?_
  obtain ⟨js,hx,q⟩:=h
  obtain ⟨items,n,ho,hm,hL⟩:=k.list hx
  have hi:=ints_of hm
  obtain ⟨xs,hxs⟩:=hi.allInts.items
  refine done ?_
  have hitems:items=intItems xs:=by
   rw[← hxs]
  subst hitems
  refine sum_intListG rm.1 ⟨_,ho,rfl,n,rfl⟩ fun h' tk t' keep=>⟨H,(aI3 (k.keep keep) (Ext.keepAll keep) ?_)⟩
  have e:preSum (numAt xs) xs.size=js.sum:=by
   rw[preSum_eq,W8 (by simp)]
   congr 1
   rw[← nums_intItems,← hi.numsOf]
  show Q (.int (preSum (numAt xs) xs.size)) H
  rw[e];exact q
 ·refine one1.inv h fun u eu h=>asR.inv h fun a ea h=>?_
  subst ea eu
  refine hide fun R done=>?_
  obtain ⟨js,hx,h64,q⟩:=h
  obtain ⟨items,n,ho,hm,hL⟩:=k.list hx
  refine done ?_
  have hi:=ints_of hm
  have hlen:=hi.length
  refine sorted_ints (vs:=items.toList) ⟨_,ho,rfl,n,by simp⟩ hi (by lia) fun out ns' a1 a2 a3=>?_
  obtain ⟨e,he⟩:=sortedAll_at s.heap items.toList out
  have keep:∀ b ob,s.heap.get? b=some ob->(sortedAll s.heap items.toList out).get? b=some ob:=fun b ob z=>sortedAll_old z
  have hD:s.heap.get? (s.heap.objs.size+1)=none:=Z9 (Xc _)
  have ho':out.toList.map strip=ns'.map MV.int:=by
   clear a2 a3
   generalize out.toList=vs at a1
   induction a1 with
   | nil=>rfl
   | cons n t _ ih=>exact congrArg (List.cons _) ih
  refine⟨_,(aI3 (k.allocK (t:=s.toks) (o:=.list (ns'.map MV.int)) keep hD ⟨out,e,he,ho',?_⟩) (Ext.allocK keep hD) (q _ ns' (k.dead hD) a2 a3))⟩
  rw[Zc,a2.length_eq];unfold LIM;lia
theorem ev_bcall (g:B.Good) {i:Nat}{b:BF}{es:MEs}{rs:List Expr}{p pos:Pos}(hr:EvsOK B T d kd es rs) (hk:kd (B.nm i)=some .globalImplicit) (e:nsIn B.K mainGlobals (B.nm i)=some none) (hb:bootBuiltins (B.nm i)=some (bfVal b)) (hn:B.nm i≠"__name__")
  (hd:(B.nm i == ("__debug__" : Str))=false):EvOK B T d kd (.bcall i b es) (.Call (.Name (B.nm i) p) rs [] pos):=by
 intro A env ρ H s Q rm hk' F k h
 replace h:=dBcall h
 refine wpAny_Call_Name_kw ((W.load_builtin g k F ((hk' _).trans hk) e hb hn hd (Q:=fun v H' _=>v=bfVal b∧H'=H) ⟨rfl,rfl⟩).then_ fun v H1 s1 k1 x1 pp5=>?_)
 obtain ⟨e1,e2⟩:=pp5
 subst e1 e2
 have hc:∀ vs H2 s2,Ok B H2 s2->Ext H1 s1.heap H2 s2.heap->wpBF b (vs.map strip) H2 Q->wpAny B.M A (call (bfVal b) ([]++vs)) (fun v s'=>∃ H',Ok B H' s'∧Ext H1 s.heap H' s'.heap∧Q (strip v) H') NoE s2:=
  fun vs H2 s2 k2 x2 h2=>(bf_ok rm k2 h2).ext (x1.trans x2)
 have ha:=(hr.2 A env ρ H1 s1 _ pos rm hk' (F.ext x1) k1 h)
 cases b<;>first
  | exact callWith_builtin (plain_args hr.1) (evalArgs_of hr.1 (ha.then_ fun vs H2 s2 k2 x2 h2=>hc vs H2 s2 k2 x2 h2))
  | exact PyProof.Rows.callWith_type (plain_args hr.1) (evalArgs_of hr.1 (ha.then_ fun vs H2 s2 k2 x2 h2=>hc vs H2 s2 k2 x2 h2))
end
inductive ItOK (P:Addr->Prop) (H:AH) (h:Heap):Src->Nat->Addr->List Addr->Prop
 | rngI {l:List Int}{i:Nat}{I:Addr}{x step:Int}:IsRangeIter h I x ((l.length:Int) - i) step->i≤l.length->(∀ k v,l[i+k]?=some v->v=x+k*step)->ItOK P H h (.ints l) i I [I]
 | fixT {xs:List MV}{i:Nat}{I a:Addr}{items:Array Value}:h.IsTuple a items->¬Mut (H a)->¬P a->items.toList.map strip=xs->h.IsTupleIter I a i->ItOK P H h (.fix xs) i I [I]
 | fixL {xs:List MV}{i:Nat}{I a:Addr}{items:Array Value}:h.IsList a items->¬Mut (H a)->¬P a->items.toList.map strip=xs->h.IsListIter I a i->ItOK P H h (.fix xs) i I [I]
 | lst {i:Nat}{I a:Addr}:h.IsListIter I a i->ItOK P H h (.lst a) i I [I]
 | enm {i:Nat}{I a it:Addr}{old:Value}:IsEnum h I it (i:Int) old->h.IsListIter it a i->I≠it->ItOK P H h (.enm a) i I [I,it]
structure IterAt (B:Base) (X P:Addr->Prop) (H:AH) (h:Heap) (sr:Src) (i:Nat) (I:Addr) (S:List Addr):Prop where
 it:ItOK (fun b=>P b∨X b) H h sr i I S
 priv:∀ b∈S,¬P b∧H b=none∧B.h₀.get? b=none
noncomputable def Src.width:Src->Nat
 | .enm _=>2
 | _=>1
noncomputable def Still (P:Addr->Prop) (S:List Addr) (H:AH) (h h':Heap):Prop:=∀ b o,¬P b->b∉S->¬Mut (H b)->h.get? b=some o->h'.get? b=some o
section
variable {B:Base}{X P:Addr->Prop}{H H':AH}{h h':Heap}{sr:Src}{i:Nat}{I:Addr}{S:List Addr}
theorem isTuple_at {a:Addr}{items:Array Value}(x:h.IsTuple a items) (e:∀ o,h.get? a=some o->h'.get? a=some o):h'.IsTuple a items:=let ⟨o,ho,r⟩:=x;⟨o,e _ ho,r⟩
theorem isTupleIter_at {a l:Addr}{i:Nat}(x:h.IsTupleIter a l i) (e:∀ o,h.get? a=some o->h'.get? a=some o):h'.IsTupleIter a l i:=let ⟨o,ho,r⟩:=x;⟨o,e _ ho,r⟩
theorem ItOK.inv {PX:Addr->Prop}(it:ItOK PX H h sr i I S) {R:Prop}(q1:∀ (l:List Int) (x step:Int),sr=.ints l->S=[I]->IsRangeIter h I x ((l.length:Int) - i) step->i≤l.length->(∀ k v,l[i+k]?=some v->v=x+k*step)->R)
  (q2:∀ xs a items,sr=.fix xs->S=[I]->h.IsTuple a items->¬Mut (H a)->¬PX a->items.toList.map strip=xs->h.IsTupleIter I a i->R) (q3:∀ xs a items,sr=.fix xs->S=[I]->h.IsList a items->¬Mut (H a)->¬PX a->items.toList.map strip=xs->h.IsListIter I a i->R)
  (q4:∀ a,sr=.lst a->S=[I]->h.IsListIter I a i->R) (q5:∀ a it old,sr=.enm a->S=[I,it]->IsEnum h I it (i:Int) old->h.IsListIter it a i->I≠it->R):R:=by
 induction it with
 | rngI a b c=>exact q1 _ _ _ rfl rfl a b c
 | fixT a m p c e=>exact q2 _ _ _ rfl rfl a m p c e
 | fixL a m p c e=>exact q3 _ _ _ rfl rfl a m p c e
 | lst e=>exact q4 _ rfl rfl e
 | enm a e c=>exact q5 _ _ _ rfl rfl a e c
theorem ItOK.flds {PX:Addr->Prop}(it:ItOK PX H h sr i I S):∀ b∈S,∃ o vs,h.get? b=some o∧o.data=.fields vs:=by
 have t:∀ {I:Addr}{Q:Addr->Prop},Q I->∀ b∈[I],Q b:=fun q b hb=>Zl.mp hb▸q
 induction it with
 | rngI a _ _=>exact t (xI2 _ _ ⟨a,rfl⟩)
 | fixT _ _ _ _ a=>exact t (Exists.elim a fun o h=>xI2 _ _ ⟨h.1,h.2.2⟩)
 | fixL _ _ _ _ a=>exact t (Exists.elim a fun o h=>xI2 _ _ ⟨h.1,h.2.2⟩)
 | lst a=>exact t (Exists.elim a fun o h=>xI2 _ _ ⟨h.1,h.2.2⟩)
 | enm a b _=>exact fun c hc=>(Zr.mp hc).elim (fun e=>e▸xI2 _ _ ⟨a,rfl⟩) fun hc=>t (Q:=fun c=>∃ o vs,h.get? c=some o∧o.data=.fields vs) (Exists.elim b fun o h=>xI2 _ _ ⟨h.1,h.2.2⟩) c hc
theorem ItOK.mono {PX PX':Addr->Prop}(it:ItOK PX H h sr i I S) (kS:∀ b∈S,∀ o,h.get? b=some o->h'.get? b=some o) (kM:∀ a o,¬Mut (H a)->¬PX a->h.get? a=some o->h'.get? a=some o∧¬Mut (H' a)∧¬PX' a):ItOK PX' H' h' sr i I S:=by
 induction it with
 | rngI a b c=>exact .rngI (kS _ (.head _) _ a) b c
 | fixT a m p c e=>exact Exists.elim a fun o z=>.fixT (isTuple_at a fun o z=>(kM _ o m p z).1) (kM _ o m p z.1).2.1 (kM _ o m p z.1).2.2 c (isTupleIter_at e (kS _ (.head _)))
 | fixL a m p c e=>exact Exists.elim a fun o z=>.fixL (a.at fun o z=>(kM _ o m p z).1) (kM _ o m p z.1).2.1 (kM _ o m p z.1).2.2 c (e.at (kS _ (.head _)))
 | lst a=>exact .lst (a.at (kS _ (.head _)))
 | enm a b c=>exact .enm (kS _ (.head _) _ a) (b.at (kS _ (.tail _ (.head _)))) c
theorem IterAt.alive (J:IterAt B X P H h sr i I S) (b:Addr) (hb:b∈S):∃ o,h.get? b=some o:=Exists.elim (J.it.flds b hb) fun o z=>Exists.elim z fun _ z=>⟨o,z.1⟩
theorem IterAt.ext (J:IterAt B X P H h sr i I S) (x:ExtP P H h H' h'):IterAt B X P H' h' sr i I S:=
 ⟨J.it.mono (fun b hb o e=>(x b o (J.priv b hb).1 (notMut_none (J.priv b hb).2.1) e).1) fun a o m p e=>aE3 (x a o (fun z=>p (.inl z)) m e) fun y1 y2 _=>⟨y1,y2,p⟩,
  fun b hb=>Exists.elim (J.alive b hb) fun o e=>aE3 (J.priv b hb) fun p1 p2 p3=>⟨p1,(x b o p1 (notMut_none p2) e).2.2 p2,p3⟩⟩
theorem Ok.still {s:Shared}(k:Ok B H s) {h':Heap}{t:Nat}(pr:∀ b∈S,H b=none∧B.h₀.get? b=none) (q:∀ b o,b∉S->s.heap.get? b=some o->h'.get? b=some o):Ok B H { s with heap:=h',toks:=t }:=
 k.heap fun b o hb e=>q b o (fun z=>by
  refine aE2 (pr b z) fun a1 a2=>?_
  rcases hb with hb | hb
  ·exact hb a1
  ·exact hb a2) e
theorem FrOK.keep {env:Env}{ρ:RH}(F:FrOK B env ρ H h) (q:∀ b o,b=env.locals∨(∃ n,env.cells.lookup n=some b)->h.get? b=some o->h'.get? b=some o):FrOK B env ρ H h':=by
 refine xE1 F.ns fun m t3_0=>aE2 t3_0 fun hm hv=>?_
 have cl:∀ n c v,env.cells.lookup n=some c->h.IsCell c v->h'.IsCell c v:=fun n c v hc q0_=>xE1 q0_ fun o n1_=>aE2 n1_ fun ho hd=>⟨o,q c o (.inr ⟨n,hc⟩) ho,hd⟩
 refine⟨F.kind,F.gl,F.bl,⟨m,?_,fun i v e hi=>?_⟩,F.loc,fun n c hc=>?_,F.inj,F.cov⟩
 ·refine xE3 hm fun o es ep t4_0=>aE2 t4_0 fun ho r=>?_
  exact⟨o,es,ep,q _ _ (.inl rfl) ho,r⟩
 ·refine aE2 (hv i v e hi) fun q1 q2=>?_
  exact⟨q1,fun z=>let ⟨c,x,hc,hx,hs⟩:=q2 z;(xI2 c x (aI3 hc (cl _ _ _ hc hx) hs))⟩
 ·refine aE2 (F.cel n c hc) fun a t6_0=>xE1 t6_0 fun v b=>?_
  exact⟨a,v,cl n c v hc b⟩
theorem IterAt.off {env:Env}{ρ:RH}(J:IterAt B X P H h sr i I S) (F:FrOK B env ρ H h) {b:Addr}(hb:b=env.locals∨(∃ n,env.cells.lookup n=some b)):b∉S:=by
 have nl:∀ {c:Addr},(∃ o vs,h.get? c=some o∧o.data=.fields vs)->b≠c:=by
  rintro c ⟨o,vs,ho,hd⟩ rfl
  rcases hb with rfl | ⟨n,hn⟩
  ·refine xE1 F.ns fun m t7_0=>aE2 t7_0 fun p7_1 _=>?_
   refine xE3 p7_1 fun o' es ep t1b_0=>aE3 t1b_0 fun ho' hd' _=>?_
   rw[ho] at ho';have ho':=Option.some.inj ho';subst ho';rw[hd] at hd';cases hd'
  ·refine aE2 (F.cel n b hn) fun _ t8_0=>xE2 t8_0 fun v o' t8_1=>aE2 t8_1 fun ho' hd'=>?_
   rw[ho] at ho';have ho':=Option.some.inj ho';subst ho';rw[hd] at hd';cases hd'
 exact fun hS=>nl (J.it.flds b hS) rfl
end
inductive TgtOK (B:Base):List Nat->Expr->Prop
 | one {t:Nat}{p:Pos}:TgtOK B [t] (.Name (B.nm t) p)
 | two {t u:Nat}{p q pt:Pos}{x1:Nat}:TgtOK B [t,u] (.Tuple [.Name (B.nm t) p,.Name (B.nm u) q] x1 pt)
theorem TgtOK.inv {B:Base}{ts:List Nat}{target:Expr}{R:Prop}(tg:TgtOK B ts target) (q1:∀ t p,ts=[t]->target=.Name (B.nm t) p->R) (q2:∀ t u p q pt x1,ts=[t,u]->target=.Tuple [.Name (B.nm t) p,.Name (B.nm u) q] x1 pt->R):R:=by
 induction tg with
 | one=>exact q1 _ _ rfl rfl
 | two=>exact q2 _ _ _ _ _ _ rfl rfl
section
variable {B:Base}{X P:Addr->Prop}{H:AH}{s:Shared}{sr:Src}{i:Nat}{I:Addr}{S:List Addr}{A:Around}{E:Value->Shared->Prop}{env:Env}{ρ:RH}
theorem getMap {items:Array Value}{xs:List MV}(h:items.toList.map strip=xs) {i:Nat}{v:MV}(e:xs[i]?=some v):∃ y,items[i]?=some y∧strip y=v:=by
 refine xE1 (map_get h e) fun y t10_0=>aE2 t10_0 fun a b=>?_
 exact⟨y,by rw[← Xb];exact a,b⟩
theorem getMap_none {items:Array Value}{xs:List MV}(h:items.toList.map strip=xs) {i:Nat}(e:xs[i]?=none):items[i]?=none:=by
 rw[← Xb]
 have:(items.toList.map strip)[i]?=none:=by rw[h];exact e
 simpa using this
set_option tactic.hygienic true in
theorem it_turn {ts:List Nat}{target:Expr}{o:Option (List MV)}{N G:Shared->Prop}(g:B.Good) (hh:A.handled=none) (k:Ok B H s) (J:IterAt B X P H s.heap sr i I S) (F:FrOK B env ρ H s.heap) (O:Own B env P H s.heap) (tg:TgtOK B ts target)
  (hw:sr.width=ts.length) (hst:∀ t∈ts,StoreOk B env P t) (hn:sr.nextL H i=some o)
  (hnone:o=none->∀ h',Ok B H { s with heap:=h' }->Still P S H s.heap h'->FrOK B env ρ H h'->Own B env P H h'->N { s with heap:=h' })
  (hsome:∀ vs,o=some vs->∀ s3,Ok B H s3->Still P S H s.heap s3.heap->FrOK B env (updRs ρ ts vs) H s3.heap->Own B env P H s3.heap->IterAt B X P H s3.heap sr (i+1) I S->G s3) :
  wpAny B.M A (pyNext (.ref I)) (fun r s₁=>match r with
   | none=>N s₁
   | some v=>wpAny B.M A (letOwnedTupleGo target (.ref I) v) (fun _ s₁'=>wpAny B.M A (assign target env v) (fun _ s₂=>G s₂) E s₁') E s₁) E s:=by
 have hp:=J.priv
 have hpr:∀ b∈S,H b=none∧B.h₀.get? b=none:=fun b hb=>⟨(hp b hb).2.1,(hp b hb).2.2⟩
 have off:=fun {b} hb=>J.off F (b:=b) hb
 have ownK:∀ h',(∀ b o,b∉S->s.heap.get? b=some o->h'.get? b=some o)->Own B env P H h':=fun h' q=>⟨O.loc,fun b pb=>let ⟨a1,a2,o,ho⟩:=O.priv b pb;(aI3 a1 a2 ⟨o,q b o (fun z=>(hp b z).1 pb) ho⟩)⟩
 have fin:∀ h',(∀ b o,b∉S->s.heap.get? b=some o->h'.get? b=some o)->o=none->N { s with heap:=h' }:=fun h' q e=>
  hnone e h' (k.still (t:=s.toks) hpr q) (fun b o _ hb _ e=>q b o hb e) (F.keep fun b o hb e=>q b o (off hb) e) (ownK h' q)
 have one:∀ {v:Value}{w:MV}{s1:Shared}{tk:Nat}{h1:Heap},s1={ s with heap:=h1,toks:=tk }->o=some [w]->strip v=w->sr.width=1->(∀ b o,b∉S->s.heap.get? b=some o->h1.get? b=some o)->ItOK (fun b=>P b∨X b) H h1 sr (i+1) I S->
   wpAny B.M A (letOwnedTupleGo target (.ref I) v) (fun _ s₁'=>wpAny B.M A (assign target env v) (fun _ s₂=>G s₂) E s₁') E s1:=by
  intro v w s1 tk h1 es ho hv hw1 q it
  refine tg.inv (fun t p et eg=>?_) fun t u p q pt x1 et eg=>nomatch (show (1:Nat)=2 from hw1.symm.trans (hw.trans (congrArg List.length et)))
  rw[es,eg]
  refine wpAny_of_eq (rfl:letOwnedTupleGo (.Name (B.nm t) p) (.ref I) v=pure ()) ?_
  refine wpAny_assign_Name (store_var g (k.still (t:=tk) hpr q) (F.keep fun b o hb e=>q b o (off hb) e) (ownK h1 q) (hst t (et▸.head _)) fun s2 k2 x2 F2 O2=>?_)
  have J1:IterAt B X P H h1 sr (i+1) I S:=⟨it,hp⟩
  refine hsome _ ho s2 k2 (fun b o' pb hb m e=>(x2 b o' pb m (q b o' hb e)).1) ?_ O2 (J1.ext x2)
  rw[et]
  show FrOK B env (updR ρ t w) H s2.heap
  rw[← hv];exact F2
 have hI:S=[I]->∀ {b},b∉S->b≠I:=fun e b hb z=>hb (by rw[e,z];exact .head _)
 have seq:∀ {xs:List MV}{ad:Addr}{items:Array Value},sr.width=1->S=[I]->some (xs[i]?.map fun v=>[v])=some o->s.heap.IsList ad items->items.toList.map strip=xs->s.heap.IsListIter I ad i->(∀ h',Heap.SameBut I s.heap h'->h'.IsListIter I ad (i+1)->ItOK (fun b=>P b∨X b) H h' sr (i+1) I S)->
   wpAny B.M A (pyNext (.ref I)) (fun r s₁=>match r with
    | none=>N s₁
    | some v=>wpAny B.M A (letOwnedTupleGo target (.ref I) v) (fun _ s₁'=>wpAny B.M A (assign target env v) (fun _ s₂=>G s₂) E s₁') E s₁) E s:=by
  intro xs ad items w1 eS e1 a c e nx
  induction hl:xs[i]? using Option.casesOn with
  | none=>
   rw[hl] at e1
   exact wpAny_pyNext_list_end hh e a (getMap_none c hl) fun h' he=>fin h' (fun b o hb z=>he b o (hI eS hb) z) (Option.some.inj e1).symm
  | some w=>
   rw[hl] at e1
   refine xE1 (getMap c hl) fun y t17_0=>aE2 t17_0 fun hy hyw=>?_
   refine wpAny_pyNext_list_item e a hy fun h' hit hs=>?_
   exact one (s1:={ s with heap:=h' }) (tk:=s.toks) rfl (Option.some.inj e1).symm hyw w1 (fun b o hb z=>(hs.2 b (hI eS hb)).trans z) (nx h' hs hit)
 refine J.it.inv (fun l x step es eS a b c=>?_) (fun xs ad items es eS a m p c e=>?_) (fun xs ad items es eS a m p c e=>?_) (fun ad es eS e=>?_) fun ad it old es eS he hit hne=>?_
 ·have e1:some (l[i]?.map fun x=>[MV.int x])=some o:=by rw[es] at hn;exact hn
  induction hl:l[i]? using Option.casesOn with
  | none=>
   rw[hl] at e1
   exact wpAny_pyNext_range_end hh a (by have:=Yr.mp hl;lia) fun h' he=>fin h' (fun b o hb e=>he b o (hI eS hb) e) (Option.some.inj e1).symm
  | some v=>
   rw[hl] at e1
   have hi:i<l.length:=(Za.mp hl).1
   refine wpAny_pyNext_range_item a (by lia) fun h' hit hs=>?_
   have hv':v=x:=by rw[c 0 v hl];simp
   refine one rfl (Option.some.inj e1).symm (by rw[hv'];rfl) (by rw[es];rfl) (fun b o hb e=>(hs.2 b (hI eS hb)).trans e) ?_
   rw[es,eS]
   refine .rngI (x:=x+step) (step:=step) ?_ hi fun k v hk=>?_
   ·rw[show ((l.length:Int) - (i+1:Nat))=(l.length:Int) - i - 1 by lia];exact hit
   ·rw[c (k+1) v (by rw[← hk];congr 1;lia)];push_cast;rw[Int.add_mul];lia
 ·have ne:ad≠I:=fun z=>Exists.elim a fun o1 h=>Exists.elim e fun o2 h'=>by
   have:=h.1.symm.trans ((congrArg s.heap.get? z).trans h'.1)
   rw[← Option.some.inj this,h.2.1] at h'
   exact absurd h'.2.1 (by decide)
  have e1:some (xs[i]?.map fun v=>[v])=some o:=by rw[es] at hn;exact hn
  induction hl:xs[i]? using Option.casesOn with
  | none=>
   rw[hl] at e1
   exact wpAny_pyNext_tuple_end hh e a (getMap_none c hl) fun h' he=>fin h' (fun b o hb z=>he b o (hI eS hb) z) (Option.some.inj e1).symm
  | some w=>
   rw[hl] at e1
   refine xE1 (getMap c hl) fun y t14_0=>aE2 t14_0 fun hy hyw=>?_
   refine wpAny_pyNext_tuple_item e a hy fun h' hit hs=>?_
   refine one (s1:={ s with heap:=h' }) (tk:=s.toks) rfl (Option.some.inj e1).symm hyw (by rw[es];rfl) (fun b o hb z=>(hs.2 b (hI eS hb)).trans z) ?_
   rw[es,eS]
   exact .fixT (isTuple_at a fun o z=>(hs.2 _ ne).trans z) m p c hit
 ·have ne:ad≠I:=fun z=>Exists.elim a fun o1 h=>Exists.elim e fun o2 h'=>by
   have:=h.1.symm.trans ((congrArg s.heap.get? z).trans h'.1)
   rw[← Option.some.inj this,h.2.1] at h'
   exact absurd h'.2.1 (by decide)
  refine seq (xs:=xs) (by rw[es];rfl) eS (by rw[es] at hn;exact hn) a c e fun h' hs hit=>?_
  rw[es,eS]
  exact .fixL (a.at fun o z=>(hs.2 _ ne).trans z) m p c hit
 ·rw[es] at hn
  unfold Src.nextL at hn
  dsimp only at hn
  split at hn
  ·rename_i xs hx
   refine xE2 (k.list hx) fun items n t18_0=>aE3 t18_0 fun h1 c _=>?_
   refine seq (xs:=xs) (by rw[es];rfl) eS hn ⟨_,h1,rfl,n,rfl⟩ c e fun h' hs hit=>?_
   rw[es,eS]
   exact .lst hit
  ·exact ncs hn
 ·rw[es] at hn
  unfold Src.nextL at hn
  dsimp only at hn
  split at hn
  ·rename_i xs hx
   refine xE2 (k.list hx) fun items n t20_0=>aE3 t20_0 fun h1 c _=>?_
   have a:s.heap.IsList ad items:=⟨_,h1,rfl,n,rfl⟩
   have hI2:∀ {b},b∉S->b≠I∧b≠it:=fun hb=>⟨fun z=>hb (by rw[eS,z];exact .head _),fun z=>hb (by rw[eS,z];exact .tail _ (.head _))⟩
   have e1:=hn
   induction hl:xs[i]? using Option.casesOn with
   | none=>
    rw[hl] at e1
    exact wpAny_pyNext_enum_end hh he hit a (getMap_none c hl) fun h' hx=>fin h' (fun b o hb z=>hx b o (hI2 hb).2 z) (Option.some.inj e1).symm
   | some w=>
    rw[hl] at e1
    refine xE1 (getMap c hl) fun y t21_0=>aE2 t21_0 fun hy hyw=>?_
    refine wpAny_pyNext_enum_item he hit a hy hne fun h1 heo hit1 ht1 hz1 hk1=>?_
    refine tg.inv (fun t p et eg=>nomatch (show (2:Nat)=1 from (congrArg Src.width es).symm.trans (hw.trans (congrArg List.length et)))) fun t u p q pt x1 et eg=>?_
    rw[eg]
    refine wpAny_letOwnedTupleGo_enum heo fun h2 he2 hs2=>?_
    replace hs2:Heap.SameBut I h1 h2:=hs2
    have hI':I<s.heap.objs.size:=Yn he
    have ht2:h2.IsTuple s.heap.objs.size #[.int i s.toks,y]:=⟨_,(hs2.2 _ (Y5 hI')).trans ht1,rfl,_,rfl⟩
    have hz2:h2.objs.size=s.heap.objs.size+1:=hs2.1.trans hz1
    refine wpAny_assign_Tuple hh ht2 rfl rfl fun h3 hx3=>?_
    have hx3:∀ b o,b<s.heap.objs.size->h2.get? b=some o->h3.get? b=some o:=fun b o hb=>hx3 b o (by show b≠h2.objs.size;rw[hz2];exact Yd (Wf hb))
    have q3:∀ b o,b∉S->s.heap.get? b=some o->h3.get? b=some o:=fun b o hb e=>hx3 b o (Yn e) ((hs2.2 b (hI2 hb).1).trans (hk1 b o (hI2 hb).1 (hI2 hb).2 e))
    have hit0:it<s.heap.objs.size:=Exists.elim hit fun o ho=>Yn ho.1
    have J3:IterAt B X P H h3 sr (i+1) I S:=by
     refine⟨?_,hp⟩
     rw[es,eS]
     exact .enm (old:=y) (hx3 I _ hI' he2) (hit1.at fun o z=>hx3 it o hit0 ((hs2.2 it (Ne.symm hne)).trans z)) hne
    show wpAny _ A (do holding [y] (assign (.Name (B.nm t) p) env (.int i s.toks));do holding [] (assign (.Name (B.nm u) q) env y);pure ()) _ _ _
    refine wpAny_bind (wpAny_holding (wpAny_assign_Name (store_var (s:={ s with heap:=h3,toks:=s.toks+1 }) g (k.still (t:=s.toks+1) hpr q3) (F.keep fun b o hb e=>q3 b o (off hb) e) (ownK h3 q3) (hst t (et▸.head _)) fun s4 k4 x4 F4 O4=>?_)))
    refine wpAny_bind (wpAny_holding (wpAny_assign_Name (store_var g k4 F4 O4 (hst u (et▸.tail _ (.head _))) fun s5 k5 x5 F5 O5=>wpAny_pure ?_)))
    refine hsome [.int i,w] (Option.some.inj e1).symm s5 k5 (fun b o' pb hb m e=>(x5 b o' pb m (x4 b o' pb m (q3 b o' hb e)).1).1) ?_ O5 ((J3.ext x4).ext x5)
    rw[et]
    show FrOK B env (updR (updR ρ t (.int i)) u w) H s5.heap
    rw[← hyw];exact F5
  ·exact ncs hn
end
section
variable {B:Base}{T:Tab}{d:Nat}{kd:Str->Option NameKind}
noncomputable def SrcOK (B:Base) (T:Tab) (d:Nat) (kd:Str->Option NameKind) (w:Nat) (src:MR) (r:Expr):Prop:=
 ∀ A env ρ H s (Q:Src->AH->Prop) (P:Addr->Prop),Room (d+3) A->(∀ x,env.kindOf x=kd x)->FrOK B env ρ H s.heap->Ok B H s->(∀ b,P b->H b=none∧∃ o,s.heap.get? b=some o)->wpR (sig B T d) src ρ H Q->
 ∀ (Q':Value->Shared->Prop),(∀ sr I S H2 s2,Ok B H2 s2->Ext H s.heap H2 s2.heap->IterAt B (fun _=>False) P H2 s2.heap sr 0 I S->(∀ b o,¬Mut (H b)->s.heap.get? b=some o->b∉S)->sr.width=w->Q sr H2->Q' (.ref I) s2)->
 wpAny B.M A (eval r env) (fun x s₁=>wpAny B.M A (pyIter x) Q' NoE s₁) NoE s
theorem dead_base {H:AH}{s:Shared}(k:Ok B H s) {b:Addr}(h:s.heap.get? b=none):B.h₀.get? b=none:=by
 induction z:B.h₀.get? b using Option.casesOn with
 | none=>rfl
 | some o=>rw[k.base _ _ z] at h;exact nsc h
theorem notP {H H':AH}{h h':Heap}{P:Addr->Prop}(hP:∀ b,P b->H b=none∧∃ o,h.get? b=some o) (x:Ext H h H' h') {a:Addr}(e:H' a≠none):¬P a:=fun p=>by
 refine aE2 (hP a p) fun a1 t0=>xE1 t0 fun o ho=>?_
 exact e ((x a o (notMut_none a1) ho).2.2 a1)
theorem notP_dead {H H':AH}{h h':Heap}{P:Addr->Prop}(hP:∀ b,P b->H b=none∧∃ o,h.get? b=some o) (x:Ext H h H' h') {a:Addr}(e:h'.get? a=none):¬P a:=fun p=>by
 refine aE2 (hP a p) fun a1 t0=>xE1 t0 fun o ho=>?_
 rw[(x a o (notMut_none a1) ho).1] at e;exact nsc e
theorem alive_ne {H H':AH}{h h':Heap}(x:Ext H h H' h') {a b:Addr}{o:Obj}(m:¬Mut (H b)) (e:h.get? b=some o) (ha:h'.get? a=none):b≠a:=by
 rintro rfl
 rw[(x b o m e).1] at ha;exact nsc ha
theorem iter_one {H H1:AH}{s s1:Shared}{P:Addr->Prop}{ob:Obj}{sr:Src}{tk:Nat}(k1:Ok B H1 s1) (x1:Ext H s.heap H1 s1.heap) (hP:∀ b,P b->H b=none∧∃ o,s.heap.get? b=some o)
  (it:ItOK (fun b=>P b∨False) H1 (s1.heap.push ob) sr 0 s1.heap.objs.size [s1.heap.objs.size]) :
  Ok B H1 { s1 with heap:=s1.heap.push ob,toks:=tk }∧Ext H s.heap H1 (s1.heap.push ob)∧IterAt B (fun _=>False) P H1 (s1.heap.push ob) sr 0 s1.heap.objs.size [s1.heap.objs.size]∧(∀ b o,¬Mut (H b)->s.heap.get? b=some o->b∉[s1.heap.objs.size]):=by
 have hd:s1.heap.get? s1.heap.objs.size=none:=Z9 (Zk _)
 refine (aI4 (k1.push ob) (x1.trans (Ext.push k1 ob)) ⟨it,fun b hb=>?_⟩ (fun b o m e hb=>alive_ne x1 m e hd (Zl.mp hb)))
 rw[Zl.mp hb]
 exact (aI3 (notP_dead hP x1 hd) (k1.fresh (Zk _)) (dead_base k1 hd))
theorem src_seq {e:ME}{r:Expr}(he:EvOK B T d kd e r):SrcOK B T d kd 1 (.seq e) r:=by
 intro A env ρ H s Q P rm hk F k hP h Q' hQ
 replace h:=dSeq h
 refine (he A env ρ H s _ rm hk F k h).then_ fun v H1 s1 k1 x1 pp5=>?_
 obtain ⟨a,e1,h1⟩:=pp5
 have:=strip_ref e1;subst this
 rcases h1 with ⟨xs,hx,q⟩ | ⟨⟨xs,hx⟩,q⟩
 ·have pa:¬P a:=notP hP x1 (by rcases hx with e | e<;>(rw[e];exact fun z=>nomatch z))
  have ma:¬Mut (H1 a):=by rcases hx with e | e<;>(rw[e];exact id)
  rcases hx with hx | hx
  ·obtain ⟨items,ht,hm,_⟩:=k1.rep _ _ hx
   obtain ⟨b1,b2,b3,b4⟩:=iter_one (tk:=s1.toks) k1 x1 hP (ob:={ cls:=.type "tuple_iterator",data:=.fields #[.ref a,.int 0 0] }) (sr:=.fix xs)
    (.fixT (isTuple_at ht fun o z=>Z5 _ z) ma (fun z=>z.elim pa id) hm ⟨_,Z0 _ rfl,rfl,rfl⟩)
   exact wpAny_pyIter_tuple ht (hQ _ _ _ _ _ b1 b2 b3 b4 rfl q)
  ·obtain ⟨items,ht,hm,_⟩:=k1.rep _ _ hx
   obtain ⟨b1,b2,b3,b4⟩:=iter_one (tk:=s1.toks) k1 x1 hP (ob:={ cls:=.type "list_iterator",data:=.fields #[.ref a,.int 0 0] }) (sr:=.fix xs)
    (.fixL (ht.push _) ma (fun z=>z.elim pa id) hm ⟨_,Z0 _ rfl,rfl,rfl⟩)
   exact wpAny_pyIter_list ht (hQ _ _ _ _ _ b1 b2 b3 b4 rfl q)
 ·obtain ⟨items,n,ho,hm,_⟩:=k1.list hx
  obtain ⟨b1,b2,b3,b4⟩:=iter_one (tk:=s1.toks) k1 x1 hP (ob:={ cls:=.type "list_iterator",data:=.fields #[.ref a,.int 0 0] }) (sr:=.lst a)
   (.lst ⟨_,Z0 _ rfl,rfl,rfl⟩)
  exact wpAny_pyIter_list ⟨_,ho,rfl,n,rfl⟩ (hQ _ _ _ _ _ b1 b2 b3 b4 rfl q)
theorem rngUp_len (a b:Int):(rngUp a b).length=(b - a).toNat:=by simp [rngUp]
theorem rngDown_len (a b:Int):(rngDown a b).length=(a - b).toNat:=by simp [rngDown]
theorem rngUp_get {a b:Int}{k:Nat}{v:Int}(h:(rngUp a b)[k]?=some v):v=a+k:=by
 unfold rngUp at h
 rw[Zn,Zw] at h
 obtain ⟨j,hj,e⟩:=h
 rw[Za] at hj
 obtain ⟨_,hj⟩:=hj
 rw[List.getElem_range] at hj
 subst hj;exact e.symm
theorem rngDown_get {a b:Int}{k:Nat}{v:Int}(h:(rngDown a b)[k]?=some v):v=a - k:=by
 unfold rngDown at h
 rw[Zn,Zw] at h
 obtain ⟨j,hj,e⟩:=h
 rw[Za] at hj
 obtain ⟨_,hj⟩:=hj
 rw[List.getElem_range] at hj
 subst hj;exact e.symm
theorem rangeSize_down (a b:Int):Builtin.Range.rangeSize a b (-1)=if b<a then a - b else 0:=by
 unfold Builtin.Range.rangeSize
 simp only [show ¬((-1:Int) > 0) by decide,if_false,Int.neg_neg,Int.ediv_one]
 split<;>lia
theorem small_down {a b:Int}(ha:small a) (hb:small b):Builtin.Range.small a b (-1)=true:=by
 refine hide fun R done=>?_
 refine aE2 ha fun a1 a2=>?_
 refine aE2 hb fun b1 b2=>?_
 refine done ?_
 unfold Builtin.Range.small
 rw[rangeSize_down]
 simp only [Builtin.Range.rangeFitsLong,Zy,Bool.or_eq_true,decide_eq_true_eq,beq_iff_eq,show ¬((-1:Int) > 0) by decide,if_false]
 split<;>lia
theorem range_load (g:B.Good) {A:Around}{env:Env}{ρ:RH}{H:AH}{s:Shared}{nm:Str}{p pos:Pos}{rs:List Expr}{es:MEs}{Q:List MV->AH->Prop}{R:Value->Shared->Prop}{T0:String}(rm:Room (d+3) A) (hk:∀ x,env.kindOf x=kd x) (F:FrOK B env ρ H s.heap) (k:Ok B H s)
  (hkn:kd nm=some .globalImplicit) (e:nsIn B.K mainGlobals nm=some none) (hb:bootBuiltins nm=some (.type T0)) (hn:nm≠"__name__") (hd:(nm == ("__debug__" : Str))=false)
  (hr:EvsOK B T d kd es rs) (h:wpEs (sig B T d) es ρ H Q)
  (hR:∀ vs H1 s1,Ok B H1 s1->Ext H s.heap H1 s1.heap->Q (vs.map strip) H1->wpAny B.M A (call (.type T0) vs) R NoE s1) :
  wpAny B.M A (eval (.Call (.Name nm p) rs [] pos) env) R NoE s:=by
 refine wpAny_Call_Name_kw ((W.load_builtin g k F ((hk _).trans hkn) e hb hn hd (Q:=fun v H' _=>v=.type T0∧H'=H) ⟨rfl,rfl⟩).then_ fun v H1 s1 k1 x1 pp5=>?_)
 obtain ⟨e1,e2⟩:=pp5
 subst e1 e2
 exact PyProof.Rows.callWith_type (plain_args hr.1) (evalArgs_of hr.1 ((hr.2 A env ρ H1 s1 _ pos rm hk (F.ext x1) k1 h).then_ fun vs H2 s2 k2 x2 h2=>hR vs H2 s2 k2 (x1.trans x2) h2))
theorem src_rng2 (g:B.Good) {lo hi:ME}{rs:List Expr}{nm:Str}{p pos:Pos}(hkn:kd nm=some .globalImplicit) (e:nsIn B.K mainGlobals nm=some none) (hb:bootBuiltins nm=some (.type "range")) (hn:nm≠"__name__") (hd:(nm == ("__debug__" : Str))=false)
  (hr:EvsOK B T d kd (.cons lo (.cons hi .nil)) rs):SrcOK B T d kd 1 (.rng lo hi true 2) (.Call (.Name nm p) rs [] pos):=by
 intro A env ρ H s Q P rm hk F k hP h Q' hQ
 replace h:=dRng h
 refine range_load g rm hk F k hkn e hb hn hd hr (Q:=fun vs H=>one2 vs fun u v=>∃ i j,u=.int i∧v=.int j∧small i∧small j∧Q (.ints (rngUp i j)) H) h fun vs H1 s1 k1 x1 h=>one2.inv h fun u v ev h=>xE2 h fun i j h=>aE5 h fun e1 e2 si sj q=>?_
 ·subst ev
  obtain ⟨t,rfl⟩:=strip_int e1
  obtain ⟨t',rfl⟩:=strip_int e2
  refine call_range_2 ?_
  have k2:=k1.push (t:=s1.toks+1) { cls:=.type "range",data:=.fields #[.int i t,.int j t',.int 1 s1.toks] }
  have x2:=x1.trans (Ext.push k1 { cls:=.type "range",data:=.fields #[.int i t,.int j t',.int 1 s1.toks] })
  have hsm:Builtin.Range.small i j 1=true:=small_one (by have:=si.1;lia) (by have:=si.2;exact Xs this (by decide)) (by have:=sj.1;lia) (by have:=sj.2;exact Xs this (by decide))
  obtain ⟨b1,b2,b3,b4⟩:=iter_one (tk:=s1.toks+1) k2 x2 hP (ob:={ cls:=.type "range_iterator",data:=.fields #[rawInt i,rawInt (Builtin.Range.rangeSize i j 1),rawInt 1] }) (sr:=.ints (rngUp i j))
   (.rngI (x:=i) (step:=1) (by
    have e:(((rngUp i j).length:Int) - (0:Nat))=Builtin.Range.rangeSize i j 1:=by rw[rngUp_len,rangeSize_one];exact tzi _ _
    rw[e];exact Z0 _ rfl) (Z2 _) fun k v hk=>by rw[Nat.zero_add] at hk;rw[rngUp_get hk];lia)
  exact wpAny_pyIter_range (IsRange.new ..) hsm (hQ _ _ _ _ _ b1 b2 b3 b4 rfl q)
theorem src_rng1 (g:B.Good) {hi:ME}{rs:List Expr}{nm:Str}{p pos:Pos}(hkn:kd nm=some .globalImplicit) (e:nsIn B.K mainGlobals nm=some none) (hb:bootBuiltins nm=some (.type "range")) (hn:nm≠"__name__") (hd:(nm == ("__debug__" : Str))=false)
  (hr:EvsOK B T d kd (.cons hi .nil) rs):SrcOK B T d kd 1 (.rng (.cst (.int 0)) hi true 1) (.Call (.Name nm p) rs [] pos):=by
 intro A env ρ H s Q P rm hk F k hP h Q' hQ
 replace h:=dCst (dRng h)
 refine range_load g rm hk F k hkn e hb hn hd hr (Q:=fun vs H=>one1 vs fun v=>∃ i j,MV.int 0=.int i∧v=.int j∧small i∧small j∧Q (.ints (rngUp i j)) H) h fun vs H1 s1 k1 x1 h=>one1.inv h fun v ev h=>xE2 h fun i j h=>aE5 h fun e0 e2 _ sj q=>?_
 ·subst ev
  cases e0
  obtain ⟨t',rfl⟩:=strip_int e2
  refine call_range_1 ?_
  have k2:=k1.push (t:=s1.toks+1+1) { cls:=.type "range",data:=.fields #[.int 0 s1.toks,.int j t',.int 1 (s1.toks+1)] }
  have x2:=x1.trans (Ext.push k1 { cls:=.type "range",data:=.fields #[.int 0 s1.toks,.int j t',.int 1 (s1.toks+1)] })
  have hsm:Builtin.Range.small 0 j 1=true:=small_one (Zj _) (Zj _) (by have:=sj.1;lia) (by have:=sj.2;exact Xs this (by decide))
  obtain ⟨b1,b2,b3,b4⟩:=iter_one (tk:=s1.toks+1+1) k2 x2 hP (ob:={ cls:=.type "range_iterator",data:=.fields #[rawInt 0,rawInt (Builtin.Range.rangeSize 0 j 1),rawInt 1] }) (sr:=.ints (rngUp 0 j))
   (.rngI (x:=0) (step:=1) (by
    have e:(((rngUp 0 j).length:Int) - (0:Nat))=Builtin.Range.rangeSize 0 j 1:=by rw[rngUp_len,rangeSize_one];exact tzi _ _
    rw[e];exact Z0 _ rfl) (Z2 _) fun k v hk=>by rw[Nat.zero_add] at hk;rw[rngUp_get hk];lia)
  exact wpAny_pyIter_range (IsRange.new ..) hsm (hQ _ _ _ _ _ b1 b2 b3 b4 rfl q)
theorem src_rng3 (g:B.Good) {lo hi:ME}{rs:List Expr}{nm:Str}{p pos:Pos}(hkn:kd nm=some .globalImplicit) (e:nsIn B.K mainGlobals nm=some none) (hb:bootBuiltins nm=some (.type "range")) (hn:nm≠"__name__") (hd:(nm == ("__debug__" : Str))=false)
  (hr:EvsOK B T d kd (.cons lo (.cons hi (.cons (.neg (.cst (.int 1))) .nil))) rs):SrcOK B T d kd 1 (.rng lo hi false 3) (.Call (.Name nm p) rs [] pos):=by
 intro A env ρ H s Q P rm hk F k hP h Q' hQ
 replace h:=dRng h
 refine range_load g rm hk F k hkn e hb hn hd hr (Q:=fun vs H=>∃ i j,vs=[.int i,.int j,.int (-1)]∧small i∧small j∧Q (.ints (rngDown i j)) H) ?_ ?_
 ·refine esCons ?_
  have:(fun (u:MV) (H:AH)=>wpE (sig B T d) hi ρ H fun v H=>∃ i j,u=MV.int i∧v=MV.int j∧small i∧small j∧Q (Src.ints (if false=true then rngUp i j else rngDown i j)) H)=(fun v H=>wpE (sig B T d) hi ρ H fun v_1 H=>∃ i,MV.int 1=MV.int i∧∃ i_1 j,[v,v_1,MV.int (-i)]=[MV.int i_1,MV.int j,MV.int (-1)]∧small i_1∧small j∧Q (Src.ints (rngDown i_1 j)) H):=by
   funext u H
   congr 1
   funext v H
   apply propext
   constructor
   ·rintro ⟨i,j,rfl,rfl,a,b,c⟩;exact⟨1,rfl,i,j,rfl,a,b,c⟩
   ·rintro ⟨i0,e0,i,j,e,a,b,c⟩
    injection e with e1 e2
    injection e2 with e2 e3
    exact (xI2 i j (aI5 e1 e2 a b c))
  exact (congrArg (wpE (sig B T d) lo ρ H) this).mp h
 ·rintro vs H1 s1 k1 x1 ⟨i,j,hv,si,sj,q⟩
  obtain ⟨u,v,z,rfl,e1,e2,e3⟩ : ∃ a b c,vs=[a,b,c]∧strip a=.int i∧strip b=.int j∧strip c=.int (-1):=by
   have hl:=congrArg List.length hv
   simp only [Zc,Zm,List.length_nil] at hl
   rcases vs with _ | ⟨a,_ | ⟨b,_ | ⟨c,_ | ⟨_,_⟩⟩⟩⟩<;>simp only [Zm,List.length_nil] at hl<;>try lia
   simp only [Z7,List.map_nil,List.cons.injEq,and_true] at hv
   exact⟨a,b,c,rfl,hv.1,hv.2.1,hv.2.2⟩
  obtain ⟨t,rfl⟩:=strip_int e1
  obtain ⟨t',rfl⟩:=strip_int e2
  obtain ⟨t2,rfl⟩:=strip_int e3
  refine call_range_3 (by decide) ?_ (.inl (PyProof.noPylong_of_log2 (by decide +kernel)))
  have k2:=k1.push (t:=s1.toks) { cls:=.type "range",data:=.fields #[.int i t,.int j t',.int (-1) t2] }
  have x2:=x1.trans (Ext.push k1 { cls:=.type "range",data:=.fields #[.int i t,.int j t',.int (-1) t2] })
  have hsm:Builtin.Range.small i j (-1)=true:=small_down si sj
  obtain ⟨b1,b2,b3,b4⟩:=iter_one (tk:=s1.toks) k2 x2 hP (ob:={ cls:=.type "range_iterator",data:=.fields #[rawInt i,rawInt (Builtin.Range.rangeSize i j (-1)),rawInt (-1)] }) (sr:=.ints (rngDown i j))
   (.rngI (x:=i) (step:=-1) (by
    have e:(((rngDown i j).length:Int) - (0:Nat))=Builtin.Range.rangeSize i j (-1):=by rw[rngDown_len,rangeSize_down];exact tzi _ _
    rw[e];exact Z0 _ rfl) (Z2 _) fun k v hk=>by rw[Nat.zero_add] at hk;rw[rngDown_get hk];lia)
  exact wpAny_pyIter_range (IsRange.new ..) hsm (hQ _ _ _ _ _ b1 b2 b3 b4 rfl q)
theorem src_enm (g:B.Good) {l:ME}{rs:List Expr}{nm:Str}{p pos:Pos}(hkn:kd nm=some .globalImplicit) (e:nsIn B.K mainGlobals nm=some none) (hb:bootBuiltins nm=some (.type "enumerate")) (hn:nm≠"__name__") (hd:(nm == ("__debug__" : Str))=false)
  (hr:EvsOK B T d kd (.cons l .nil) rs):SrcOK B T d kd 2 (.enm l) (.Call (.Name nm p) rs [] pos):=by
 intro A env ρ H s Q P rm hk F k hP h Q' hQ
 replace h:=dEnm h
 refine range_load g rm hk F k hkn e hb hn hd hr (Q:=fun vs H=>∃ a xs,vs=[.ref a]∧H a=some (.list xs)∧Q (.enm a) H) ?_ ?_
 ·have:(fun v H=>∃ a xs,v=MV.ref a∧H a=some (AO.list xs)∧Q (Src.enm a) H)=(fun v H=>∃ a xs,[v]=[MV.ref a]∧H a=some (AO.list xs)∧Q (Src.enm a) H):=by
   funext v H
   simp
  show wpE _ _ _ _ (fun v H=>∃ a xs,[v]=[MV.ref a]∧H a=some (AO.list xs)∧Q (Src.enm a) H)
  rw[← this];exact h
 ·rintro vs H1 s1 k1 x1 ⟨a,xs,hv,hx,q⟩
  refine hide fun R done=>?_
  refine xE1 (List.map_eq_singleton_iff.mp hv) fun v t0=>aE2 t0 fun e21_1 e2=>?_
  subst e21_1
  have:=strip_ref e2;subst this
  refine xE2 (k1.list hx) fun items n t0=>aE3 t0 fun ho hm _=>?_
  refine done ?_
  refine call_enumerate_1 ho fun h' a1 a2 a3 a4=>?_
  have hd1:s1.heap.get? s1.heap.objs.size=none:=Z9 (Zk _)
  have hd2:s1.heap.get? (s1.heap.objs.size+1)=none:=Z9 (Xc _)
  refine wpAny_pyIter_enum a1 (hQ (.enm a) _ [s1.heap.objs.size+1,s1.heap.objs.size] H1 _ (k1.keep (t:=s1.toks) a4) (x1.trans (Ext.keepAll a4)) ⟨.enm (old:=.none) a1 a2 (Nat.succ_ne_self _),fun b hb=>?_⟩ (fun b o m e hb=>?_) rfl q)
  ·rcases Zr.mp hb with rfl | hb
   ·exact (aI3 (notP_dead hP x1 hd2) (k1.fresh (Xc _)) (dead_base k1 hd2))
   ·rw[Zl.mp hb]
    exact (aI3 (notP_dead hP x1 hd1) (k1.fresh (Zk _)) (dead_base k1 hd1))
  ·rcases Zr.mp hb with h | hb
   ·exact alive_ne x1 m e hd2 h
   ·exact alive_ne x1 m e hd1 (Zl.mp hb)
end
noncomputable def kdC (scope:Scope) (kd:Str->Option NameKind):Str->Option NameKind:=
 fun x=>(scope.names.lookup x).map fun k=>if (k == .free && kd x == some .cell) then .cell else k
noncomputable def clOf (cells:List (Str × Addr)):List (Str × NameKind)->List (Str × Addr)->List (Str × Addr)
 | [],acc=>acc
 | (n,k)::r,acc=>if k == .free then clOf cells r ((n,(cells.lookup n).getD 0)::acc) else clOf cells r acc
theorem relabel_lookup {env:Env}{kd:Str->Option NameKind}(hk:∀ x,env.kindOf x=kd x) (hf:env.scope.kind=.function):∀ {names:List (Str × NameKind)}{x:Str},
  (names.map fun (n,k)=>if (k == NameKind.free && env.scope.kind == .function && env.kindOf n == some .cell) then (n,NameKind.cell) else (n,k)).lookup x=(names.lookup x).map fun k=>if (k == .free && kd x == some .cell) then .cell else k
 | [],x=>rfl
 | (n,k)::r,x=>by
  have ih:=@relabel_lookup env kd hk hf r x
  rw[Z7]
  show List.lookup x ((if (k == NameKind.free && env.scope.kind == .function && env.kindOf n == some .cell)=true then (n,NameKind.cell) else (n,k))::_)=_
  rw[show (if (k == NameKind.free && env.scope.kind == .function && env.kindOf n == some .cell)=true then (n,NameKind.cell) else (n,k))=(n,if (k == NameKind.free && env.scope.kind == .function && env.kindOf n == some .cell)=true then NameKind.cell else k) from by split<;>rfl,Zt]
  by_cases hx:x=n
  ·subst hx
   simp only [beq_self_eq_true,Zt,hf,hk,Bool.and_true,Yx]
  ·have nb:(x == n)=false:=beq_eq_false_iff_ne.mpr hx
   simp only [nb,Zt]
   exact ih
theorem clOf_mem (cells:List (Str × Addr)):∀ (names:List (Str × NameKind)) (acc:List (Str × Addr)) (x:Str × Addr),x∈clOf cells names acc->x∈acc∨((x.1,NameKind.free)∈names∧x.2=(cells.lookup x.1).getD 0)
 | [],acc,x,h=>.inl h
 | (n,k)::r,acc,x,h=>by
  unfold clOf at h
  split at h
  ·rename_i hk
   have hk':k=.free:=by simpa using hk
   subst hk'
   rcases clOf_mem cells r _ x h with h | ⟨h1,h2⟩
   ·rcases Zr.mp h with rfl | h
    ·exact .inr ⟨.head _,rfl⟩
    ·exact .inl h
   ·exact .inr ⟨.tail _ h1,h2⟩
  ·rcases clOf_mem cells r _ x h with h | ⟨h1,h2⟩
   ·exact .inl h
   ·exact .inr ⟨.tail _ h1,h2⟩
theorem clOf_keep (cells:List (Str × Addr)):∀ (names:List (Str × NameKind)) (acc:List (Str × Addr)) (x:Str × Addr),x∈acc->x∈clOf cells names acc
 | [],acc,x,h=>h
 | (n,k)::r,acc,x,h=>by
  unfold clOf
  split
  ·exact clOf_keep cells r _ x (.tail _ h)
  ·exact clOf_keep cells r _ x h
theorem clOf_has (cells:List (Str × Addr)):∀ (names:List (Str × NameKind)) (acc:List (Str × Addr)) (n:Str),(n,NameKind.free)∈names->∃ c,(n,c)∈clOf cells names acc
 | [],_,_,h=>(nomatch h)
 | (n',k)::r,acc,n,h=>by
  unfold clOf
  rcases Zr.mp h with e | h
  ·cases e
   rw[if_pos (beq_self_eq_true _)]
   exact⟨_,clOf_keep cells r _ _ (.head _)⟩
  ·split
   ·exact clOf_has cells r _ n h
   ·exact clOf_has cells r _ n h
theorem clOf_apart {cells:List (Str × Addr)}(inj:∀ n n' c,cells.lookup n=some c->cells.lookup n'=some c->n=n'):∀ (names:List (Str × NameKind)) (acc:List (Str × Addr)),
  (names.map (·.1)).Nodup->(∀ n,(n,NameKind.free)∈names->∃ c,cells.lookup n=some c)->(acc.Pairwise fun x y=>x.2≠y.2)->(∀ x∈acc,cells.lookup x.1=some x.2∧∀ y∈names,y.1≠x.1)->(clOf cells names acc).Pairwise fun x y=>x.2≠y.2
 | [],acc,_,_,p,_=>p
 | (n,k)::r,acc,nd,hf,p,ha=>by
  unfold clOf
  rw[Z7,Yc] at nd
  split
  ·rename_i hk
   have hk':k=.free:=by simpa using hk
   subst hk'
   obtain ⟨c,hc⟩:=hf n (.head _)
   refine clOf_apart inj r _ nd.2 (fun m hm=>hf m (.tail _ hm)) (Vp.mpr ⟨fun y hy e=>?_,p⟩) fun x hx=>?_
   ·have e':(cells.lookup n).getD 0=y.2:=e
    rw[hc,W4] at e'
    obtain ⟨y1,y2⟩:=ha y hy
    exact y2 (n,.free) (.head _) (inj n y.1 c hc (e'▸y1))
   ·rcases Zr.mp hx with rfl | hx
    ·refine⟨by rw[hc,W4],fun y hy e=>nd.1 ?_⟩
     rw[← e];exact Wt hy
    ·exact⟨(ha x hx).1,fun y hy=>(ha x hx).2 y (.tail _ hy)⟩
  ·exact clOf_apart inj r _ nd.2 (fun m hm=>hf m (.tail _ hm)) p fun x hx=>⟨(ha x hx).1,fun y hy=>(ha x hx).2 y (.tail _ hy)⟩
theorem closureFor_is {scope:Scope}{env:Env}(hf:∀ n,(n,NameKind.free)∈scope.names->∃ c,env.cells.lookup n=some c):closureFor scope env=pure (clOf env.cells scope.names []):=by
 unfold closureFor
 generalize scope.names=names at hf
 generalize ([]:List (Str × Addr))=acc
 have key:∀ (names:List (Str × NameKind)) (acc:List (Str × Addr)),(∀ n,(n,NameKind.free)∈names->∃ c,env.cells.lookup n=some c)->
   (forIn names acc fun x r=>match x with | (name,kind)=>if (kind == NameKind.free)=true then (do let a ← cellOf env name;pure (ForInStep.yield ((name,a)::r))) else pure (ForInStep.yield r):Sem (List (Str × Addr)))=pure (clOf env.cells names acc):=by
  intro names
  induction names with
  | nil=>intro acc _;rfl
  | cons x r ih=>
   obtain ⟨n,k⟩:=x
   intro acc hf
   rw[Wu]
   unfold clOf
   by_cases hk:(k == NameKind.free)=true
   ·have hk':k=.free:=by simpa using hk
    subst hk'
    obtain ⟨c,hc⟩:=hf n (.head _)
    have e:cellOf env n=pure c:=by unfold cellOf;rw[hc]
    simp only [beq_self_eq_true,if_true,e,hc,W4]
    exact ih _ fun m hm=>hf m (.tail _ hm)
   ·simp only [hk,Yo,if_false]
    exact ih _ fun m hm=>hf m (.tail _ hm)
 exact congrArg (fun t=>t >>= fun r=>pure r) (key names acc hf)
theorem cells_mem:∀ (names:List (Str × NameKind)) (k:Nat) (acc:List (Str × Addr)) (x:Str × Addr),x∈cellsFrom k names acc->x∈acc∨(k≤x.2∧(x.1,NameKind.cell)∈names)
 | [],k,acc,x,h=>.inl h
 | (n,kd)::r,k,acc,x,h=>by
  unfold cellsFrom at h
  split at h
  ·rename_i hk
   have hk':kd=.cell:=by simpa using hk
   subst hk'
   rcases cells_mem r _ _ x h with h | ⟨h1,h2⟩
   ·rcases Zr.mp h with rfl | h
    ·exact .inr ⟨Zk _,.head _⟩
    ·exact .inl h
   ·exact .inr ⟨Yl h1,.tail _ h2⟩
  ·rcases cells_mem r _ _ x h with h | ⟨h1,h2⟩
   ·exact .inl h
   ·exact .inr ⟨h1,.tail _ h2⟩
theorem cells_keep:∀ (names:List (Str × NameKind)) (k:Nat) (acc:List (Str × Addr)) (x:Str × Addr),x∈acc->x∈cellsFrom k names acc
 | [],_,_,_,h=>h
 | (n,kd)::r,k,acc,x,h=>by
  unfold cellsFrom
  split
  ·exact cells_keep r _ _ x (.tail _ h)
  ·exact cells_keep r _ _ x h
theorem cells_has:∀ (names:List (Str × NameKind)) (k:Nat) (acc:List (Str × Addr)) (n:Str),(n,NameKind.cell)∈names->∃ c,(n,c)∈cellsFrom k names acc
 | [],_,_,_,h=>(nomatch h)
 | (n',kd)::r,k,acc,n,h=>by
  unfold cellsFrom
  rcases Zr.mp h with e | h
  ·cases e
   rw[if_pos (beq_self_eq_true _)]
   exact⟨_,cells_keep r _ _ _ (.head _)⟩
  ·split
   ·exact cells_has r _ _ n h
   ·exact cells_has r _ _ n h
theorem cells_apart:∀ (names:List (Str × NameKind)) (k:Nat) (acc:List (Str × Addr)),(acc.Pairwise fun x y=>x.2≠y.2)->(∀ x∈acc,x.2<k)->(cellsFrom k names acc).Pairwise fun x y=>x.2≠y.2
 | [],_,_,p,_=>p
 | (n,kd)::r,k,acc,p,ha=>by
  unfold cellsFrom
  split
  ·refine cells_apart r _ _ (Vp.mpr ⟨fun y hy e=>?_,p⟩) fun x hx=>?_
   ·have:=ha y hy
    have e':k=y.2:=e
    exact Y2 _ (e'▸this)
   ·rcases Zr.mp hx with rfl | hx
    ·exact Yk _
    ·exact Wf (ha x hx)
  ·exact cells_apart r _ _ p ha
theorem cells_new:∀ (names:List (Str × NameKind)) (h:Heap) (acc:List (Str × Addr)) (x:Str × Addr),x∈cellsFrom h.objs.size names acc->x∈acc∨(pushCells h names).IsCell x.2 none
 | [],h,acc,x,hx=>.inl hx
 | (n,kd)::r,h,acc,x,hx=>by
  unfold cellsFrom at hx
  unfold pushCells
  split
  ·rename_i hk
   rw[if_pos hk] at hx
   have hx':x∈cellsFrom (h.push { cls:=.type "cell",data:=.cell none }).objs.size r ((n,h.objs.size)::acc):=by rw[Heap.size_push];exact hx
   rcases cells_new r _ _ x hx' with h1 | h1
   ·rcases Zr.mp h1 with rfl | h1
    ·exact .inr ⟨_,pushCells_keeps _ _ _ _ (Z0 _ rfl),rfl⟩
    ·exact .inl h1
   ·exact .inr h1
  ·rename_i hk
   rw[if_neg hk] at hx
   exact cells_new r _ _ x hx
theorem lookup_of_key {l:List (Str × Addr)}{n:Str}{c:Addr}(h:(n,c)∈l):∃ c',l.lookup n=some c':=by
 induction l with
 | nil=>exact nnl h
 | cons x r ih=>
  obtain ⟨m,v⟩:=x
  rw[Zt]
  by_cases e:n=m
  ·subst e;exact⟨v,by simp⟩
  ·have:(n == m)=false:=beq_eq_false_iff_ne.mpr e
   rw[this]
   rcases Zr.mp h with h | h
   ·cases h;exact absurd rfl e
   ·exact ih h
theorem mem_of_lookupK {l:List (Str × NameKind)}{n:Str}{k:NameKind}(h:l.lookup n=some k):(n,k)∈l:=mem_of_lookup h
theorem nodup_key {l:List (Str × NameKind)}(nd:(l.map (·.1)).Nodup) {n:Str}{k k':NameKind}(h:(n,k)∈l) (h':(n,k')∈l):k=k':=by
 induction l with
 | nil=>exact nnl h
 | cons x r ih=>
  rw[Z7,Yc] at nd
  rcases Zr.mp h with e | g<;>rcases Zr.mp h' with e' | g'
  ·rw[← e] at e';exact ((Prod.mk.inj e').2).symm
  ·have:=Wt (f:=(·.1)) g'
   rw[← e] at nd;exact absurd this nd.1
  ·have:=Wt (f:=(·.1)) g
   rw[← e'] at nd;exact absurd this nd.1
  ·exact ih nd.2 g g'
noncomputable def clr (ρ:RH) (ts:List Nat):RH:=fun i=>if i∈ts then none else ρ i
structure ScopeOK (B:Base) (kd:Str->Option NameKind) (scope:Scope) (ts:List Nat):Prop where
 kind:scope.kind=.function
 nd:(scope.names.map (·.1)).Nodup
 free:∀ n,(n,NameKind.free)∈scope.names->kd n=some .cell∨kd n=some .free
 own:∀ i,i<B.N->(scope.names.lookup (B.nm i)=some .local∨scope.names.lookup (B.nm i)=some .cell)->i∈ts
 tgt:∀ t∈ts,t<B.N∧(scope.names.lookup (B.nm t)=some .local∨scope.names.lookup (B.nm t)=some .cell)
section
variable {B:Base}{H H':AH}{s:Shared}{env:Env}{ρ:RH}{kd:Str->Option NameKind}{scope:Scope}{ts:List Nat}{A:Around}{E:Value->Shared->Prop}
theorem FrOK.weak {ρ':RH}{h:Heap}(F:FrOK B env ρ H h) (w:∀ i v,ρ' i=some v->ρ i=some v):FrOK B env ρ' H h:=
 let ⟨m,hm,hv⟩:=F.ns
 ⟨F.kind,F.gl,F.bl,⟨m,hm,fun i v e hi=>hv i v (w i v e) hi⟩,F.loc,F.cel,F.inj,F.cov⟩
theorem comp_env (k:Ok B H s) (F:FrOK B env ρ H s.heap) (hk:∀ x,env.kindOf x=kd x) (sc:ScopeOK B kd scope ts) {Q:Env->Shared->Prop}
  (hQ:∀ (cenv:Env) (h':Heap) (P:Addr->Prop),cenv.locals=s.heap.objs.size->Ok B H { s with heap:=h' }->(∀ b o,s.heap.get? b=some o->h'.get? b=some o)->
   FrOK B { cenv with scope:=relabel scope env } (clr ρ ts) H h'->Own B { cenv with scope:=relabel scope env } P H h'->(∀ b,P b->s.heap.objs.size≤b)->
   (∀ t∈ts,StoreOk B { cenv with scope:=relabel scope env } P t)->(∀ x,Env.kindOf { cenv with scope:=relabel scope env } x=kdC scope kd x)->Q cenv { s with heap:=h' }) :
  wpAny B.M A (newFunctionEnv scope env.globals (clOf env.cells scope.names []) [] env.qual none .none (some env)) Q E s:=by
 simp only [newFunctionEnv,Option.isSome_some,if_true]
 refine wpAny_bind (wpAny_alloc ?_)
 refine wpAny_bind (wpAny_layCells _ (fun name kind cells=>by cases hkc:kind == NameKind.cell<;>simp [hkc]) _ _ _ _ ?_)
 generalize hh1:s.heap.push { cls:=.type "dict",data:=.dict #[] }=h1
 have hsz:h1.objs.size=s.heap.objs.size+1:=by rw[← hh1];exact Heap.size_push ..
 have keep1:∀ b o,s.heap.get? b=some o->h1.get? b=some o:=fun b o e=>by rw[← hh1];exact Z5 _ e
 have hCell:∀ n,(n,NameKind.free)∈scope.names->∃ c,env.cells.lookup n=some c:=fun n hn=>F.cov n (by rw[hk];exact sc.free n hn)
 have keep:∀ b o,s.heap.get? b=some o->(pushCells h1 scope.names).get? b=some o:=fun b o e=>pushCells_keeps _ _ b o (keep1 b o e)
 have hns:(pushCells h1 scope.names).Ns s.heap.objs.size fun _=>none:=by
  have:h1.Ns s.heap.objs.size fun _=>none:=by rw[← hh1];exact Heap.Ns.new s.heap (.type "dict")
  exact this.keeps (pushCells_keeps _ _)
 show wpAny B.M A _ Q E { s with heap:=pushCells h1 scope.names }
 rw[Vj]
 refine wpAny_bind (wpAny_pure (wpAny_pure ?_))
 show Q _ { s with heap:=pushCells h1 scope.names }
 generalize hcs:cellsFrom h1.objs.size scope.names (clOf env.cells scope.names [])=cs
 have mem:∀ n c,(n,c)∈cs->((n,NameKind.free)∈scope.names∧env.cells.lookup n=some c)∨(s.heap.objs.size<c∧(n,NameKind.cell)∈scope.names∧(pushCells h1 scope.names).IsCell c none):=by
  intro n c hm
  rw[← hcs] at hm
  have fromCl:(n,c)∈clOf env.cells scope.names []->(n,NameKind.free)∈scope.names∧env.cells.lookup n=some c:=fun h=>by
   rcases clOf_mem _ _ _ _ h with h | ⟨h1,h2⟩
   ·exact nnl h
   ·refine xE1 (hCell n h1) fun c' hc'=>?_
    refine⟨h1,?_⟩
    have h2':c=(env.cells.lookup n).getD 0:=h2
    rw[hc'] at h2' ⊢
    rw[h2'];rfl
  rcases cells_mem _ _ _ _ hm with h | ⟨h1',h2⟩
  ·exact .inl (fromCl h)
  ·rcases cells_new _ _ _ _ hm with h | h
   ·exact .inl (fromCl h)
   ·refine .inr (aI3 ?_ h2 h)
    have:h1.objs.size≤c:=h1'
    lia
 have has:∀ n,(n,NameKind.free)∈scope.names∨(n,NameKind.cell)∈scope.names->∃ c,cs.lookup n=some c:=by
  intro n hn
  rw[← hcs]
  rcases hn with hn | hn
  ·refine xE1 (clOf_has env.cells scope.names [] n hn) fun c hc=>?_
   exact lookup_of_key (cells_keep _ _ _ _ hc)
  ·refine xE1 (cells_has scope.names h1.objs.size (clOf env.cells scope.names []) n hn) fun c hc=>?_
   exact lookup_of_key hc
 have apart:cs.Pairwise fun x y=>x.2≠y.2:=by
  rw[← hcs]
  refine cells_apart _ _ _ (clOf_apart F.inj _ _ sc.nd hCell .nil fun x hx=>(nomatch hx)) fun x hx=>?_
  rcases clOf_mem _ _ _ _ hx with h | ⟨h1',h2⟩
  ·exact nnl h
  ·refine xE1 (hCell x.1 h1') fun c' hc'=>?_
   rw[hc'] at h2
   refine hide fun R done=>?_
   refine aE2 (F.cel _ _ hc') fun _ t9_0=>xE2 t9_0 fun v o t9_1=>aE2 t9_1 fun ho _=>?_
   refine done ?_
   rw[h2,hsz]
   exact Wf (Yn ho)
 clear hcs
 have hkd:∀ x,Env.kindOf { scope:=relabel scope env,locals:=s.heap.objs.size,globals:=env.globals,cells:=cs,qual:=env.qual,func:=none,code:=env.code,frame:=env.frame,builtins:=env.builtins } x=kdC scope kd x:=fun x=>relabel_lookup hk F.kind
 have kdl:∀ x,kdC scope kd x=some .local->scope.names.lookup x=some .local:=fun x h=>by
  unfold kdC at h
  rw[Zw] at h
  refine hide fun R done=>?_
  refine xE1 h fun k t10_0=>aE2 t10_0 fun h1 h2=>?_
  refine done ?_
  split at h2
  ·cases h2
  ·subst h2;exact h1
 have kdc:∀ x,kdC scope kd x=some .cell∨kdC scope kd x=some .free->scope.names.lookup x=some .cell∨scope.names.lookup x=some .free:=fun x h=>by
  unfold kdC at h
  rw[Zw,Zw] at h
  rcases h with ⟨k,h1,h2⟩ | ⟨k,h1,h2⟩
  ·split at h2
   ·rename_i z
    simp only [Zy,beq_iff_eq] at z
    exact .inr (z.1▸h1)
   ·subst h2;exact .inl h1
  ·split at h2
   ·cases h2
   ·subst h2;exact .inr h1
 have freshH:∀ b,s.heap.objs.size≤b->H b=none:=fun b h=>k.fresh h
 have fresh0:∀ b,s.heap.objs.size≤b->B.h₀.get? b=none:=fun b h=>dead_base k (Z9 h)
 refine hide fun R done=>?_
 refine xE1 F.ns fun mo t11_0=>aE2 t11_0 fun hmo hvo=>?_
 refine done ?_
 refine hQ { scope:=scope,locals:=s.heap.objs.size,globals:=env.globals,cells:=cs,qual:=env.qual,func:=none,code:=env.code,frame:=env.frame,builtins:=env.builtins } (pushCells h1 scope.names)
  (fun b=>b=s.heap.objs.size∨(s.heap.objs.size<b∧∃ o,(pushCells h1 scope.names).get? b=some o)) rfl (k.keep (t:=s.toks) keep) keep ?_ ?_ ?_ ?_ hkd
 ·refine⟨sc.kind,F.gl,F.bl,⟨fun _=>none,hns,fun i v e hi=>?_⟩,freshH _ (Zk _),fun n c hc=>?_,fun n n' c hc hc'=>name_of_addr apart (mem_of_lookup hc) (mem_of_lookup hc'),fun n hn=>?_⟩
  ·rw[hkd]
   have nt:i∉ts:=fun z=>by unfold clr at e;rw[if_pos z] at e;exact ncs e
   refine⟨fun h=>absurd (sc.own i hi (.inl (kdl _ h))) nt,fun h=>?_⟩
   rcases kdc _ h with h | h
   ·exact absurd (sc.own i hi (.inr h)) nt
   ·have hm:=mem_of_lookupK h
    refine xE1 (has _ (.inl hm)) fun c hc=>?_
    refine⟨c,?_⟩
    rcases mem _ _ (mem_of_lookup hc) with ⟨_,h2⟩ | ⟨_,h2,_⟩
    ·have e':ρ i=some v:=by unfold clr at e;rw[if_neg nt] at e;exact e
     refine hide fun R done=>?_
     refine xE2 ((hvo i v e' hi).2 (by rw[hk];exact sc.free _ hm)) fun c' x t13_0=>aE3 t13_0 fun b1 p13_3 b4=>?_
     obtain ⟨o,b2,b3⟩:=p13_3
     refine done ?_
     rw[h2] at b1;have b1:=Option.some.inj b1;subst b1
     exact⟨x,(aI3 hc ⟨o,keep _ _ b2,b3⟩ b4)⟩
    ·exact absurd (nodup_key sc.nd hm h2) (by decide)
  ·rcases mem _ _ (mem_of_lookup hc) with ⟨_,h2⟩ | ⟨h1',_,h2⟩
   ·refine aE2 (F.cel _ _ h2) fun b1 t14_0=>xE2 t14_0 fun v o t14_1=>aE2 t14_1 fun b2 b3=>?_
    exact⟨b1,v,o,keep _ _ b2,b3⟩
   ·exact⟨freshH _ (Yl h1'),none,h2⟩
  ·rw[hkd] at hn
   rcases kdc _ hn with h | h
   ·exact has _ (.inr (mem_of_lookupK h))
   ·exact has _ (.inl (mem_of_lookupK h))
 ·refine⟨.inl rfl,fun b hb=>?_⟩
  rcases hb with rfl | ⟨h1',o,h2⟩
  ·refine xE3 hns fun o es ep t15_0=>aE2 t15_0 fun ho _=>?_
   exact (aI3 (freshH _ (Zk _)) (fresh0 _ (Zk _)) ⟨o,ho⟩)
  ·exact (aI3 (freshH _ (Yl h1')) (fresh0 _ (Yl h1')) ⟨o,h2⟩)
 ·rintro b (rfl | ⟨h,_⟩)
  ·exact Zk _
  ·exact Yl h
 ·intro t ht
  refine aE2 (sc.tgt t ht) fun h1' h2=>?_
  refine⟨h1',?_⟩
  rw[hkd]
  rcases h2 with h2 | h2
  ·left;unfold kdC;rw[h2];rfl
  ·right
   refine⟨by unfold kdC;rw[h2];rfl,?_⟩
   have hm:=mem_of_lookupK h2
   refine xE1 (has _ (.inr hm)) fun c hc=>?_
   refine⟨c,hc,?_⟩
   rcases mem _ _ (mem_of_lookup hc) with ⟨h3,_⟩ | ⟨h3,_,o,h4,_⟩
   ·exact absurd (nodup_key sc.nd hm h3) (by decide)
   ·exact .inr ⟨h3,o,h4⟩
end
section
variable {prog:Program}{w:World}{A:Around}{R:Result->Shared->Prop}{s:Shared}
theorem codeAny_compLoop_any {elt target iter:Expr}{ifs:List Expr}{scope:Scope}{pos:Pos}{it acc:Value}{env:Env}(I:Nat->Shared->Prop)
  (turn:∀ n s,I n s->wpAny (model prog w) A (pyNext it) (fun r s₁=>match r with
   | none=>R (.ok .next) s₁
   | some v=>wpAny (model prog w) A (letOwnedTupleGo target it v) (fun _ s₁'=>wpAny (model prog w) A (assign target env v) (fun _ s₂=>
     wpAny (model prog w) A (forIn ifs true fun c r=>if r=true then do let ok ← isTrue c env (eval c env);pure (ForInStep.yield ok) else pure (ForInStep.yield r)) (fun ok s₃=>
      if ok=true then wpAny (model prog w) A (eval elt env) (fun x s₄=>
       wpAny (model prog w) A (call (.builtin "list.append") [acc,x]) (fun _ s₅=>∃ m,m<n∧I m s₅) NoE s₄) NoE s₃
      else ∃ m,m<n∧I m s₃) NoE s₂) NoE s₁') NoE s₁) NoE s)
  (n:Nat) (h:I n s) :
  codeAny (model prog w) A (.compLoop (.ListComp elt [⟨target,iter,ifs,0⟩] scope pos) 0 it acc env) R s:=by
 refine codeAny_loop rfl I (fun n s hI=>?_) n h
 show wpAny _ A ((compTurn (.ListComp elt [⟨target,iter,ifs,0⟩] scope pos) 0 it acc env).onRaise (fun x=>do noteFrame x env;theTreesLotGoes x)) _ _ s
 refine wpAny_noted ?_
 rw[compTurn_list]
 refine wpAny_bind (wpAny_standAt (wpAny_bind (wpAny_mono (turn n s hI) (fun r s₁ h₁=>?_) fun _ _ h'=>h'.elim)))
 induction r using Option.casesOn with
 | none=>exact wpAny_pure h₁
 | some v=>
  refine wpAny_bind (wpAny_mono h₁ (fun _ s₁' h₁'=>?_) fun _ _ h'=>h'.elim)
  refine wpAny_bind (wpAny_mono h₁' (fun _ s₂ h₂=>wpAny_bind (wpAny_mono h₂ (fun ok s₃ h₃=>?_) fun _ _ h'=>h'.elim)) fun _ _ h'=>h'.elim)
  induction ok using Bool.casesOn with
  | false=>exact wpAny_pure ⟨rfl,h₃⟩
  | true=>
   exact wpAny_bind (wpAny_bind (wpAny_mono h₃ (fun x s₄ h₄=>wpAny_bind (wpAny_mono h₄ (fun _ s₅ h₅=>wpAny_pure (wpAny_pure ⟨rfl,h₅⟩)) fun _ _ h'=>h'.elim)) fun _ _ h'=>h'.elim))
end
section
variable {B:Base}{T:Tab}{d:Nat}{kd:Str->Option NameKind}
noncomputable def CondsOK (B:Base) (T:Tab) (d:Nat) (kd:Str->Option NameKind) (cs:MEs) (ifs:List Expr):Prop:=
 ∀ A env ρ H s (Q:Bool->AH->Prop),Room (d+3) A->(∀ x,env.kindOf x=kd x)->FrOK B env ρ H s.heap->Ok B H s->wpConds (sig B T d) cs ρ H Q->
  W B A (forIn ifs true fun c r=>if r=true then do let ok ← isTrue c env (eval c env);pure (ForInStep.yield ok) else pure (ForInStep.yield r)) H s fun c H' _=>Q c H'
theorem tests_false {A:Around}{env:Env}{s:Shared}{Q:Bool->Shared->Prop}{E:Value->Shared->Prop}(ifs:List Expr) (h:Q false s) :
  wpAny B.M A (forIn ifs false fun c r=>if r=true then do let ok ← isTrue c env (eval c env);pure (ForInStep.yield ok) else pure (ForInStep.yield r)) Q E s:=by
 induction ifs with
 | nil=>rw[Vj];exact wpAny_pure h
 | cons c r ih=>
  rw[Wu]
  simp only [Yo,if_false]
  exact wpAny_bind (wpAny_pure ih)
theorem conds_nil:CondsOK B T d kd .nil []:=by
 intro A env ρ H s Q rm hk F k h
 replace h:=dcNil h
 unfold W
 rw[Vj]
 exact wpAny_pure ⟨H,(aI3 k .refl h)⟩
theorem conds_cons {c:ME}{cs:MEs}{r:Expr}{rs:List Expr}(hc:TrOK B T d kd c r) (hcs:CondsOK B T d kd cs rs):CondsOK B T d kd (.cons c cs) (r::rs):=by
 intro A env ρ H s Q rm hk F k h
 replace h:=dcCons h
 unfold W
 rw[Wu]
 simp only [if_true]
 refine wpAny_bind (wpAny_bind ((hc A env ρ H s (fun c H'=>if c=true then wpConds (sig B T d) cs ρ H' Q else Q false H') rm hk F k h).then_ fun b H1 s1 k1 x1 h1=>wpAny_pure ?_))
 induction b using Bool.casesOn with
 | true=>exact (hcs A env ρ H1 s1 Q rm hk (F.ext x1) k1 h1).ext x1
 | false=>exact tests_false rs ⟨H1,(aI3 k1 x1 h1)⟩
theorem Ok.adopt {H:AH}{s:Shared}(k:Ok B H s) {D:Addr}{o:AO}(h0:B.h₀.get? D=none) (r:Rep B s.heap D o):Ok B (upd H D o) s:=by
 refine⟨fun a o' e=>?_,k.gens,k.os,k.base,fun b m=>?_⟩
 ·unfold upd at e
  split at e
  ·rename_i q;subst q;have e:=Option.some.inj e;subst e;exact r
  ·exact k.rep a o' e
 ·unfold upd at m
  split at m
  ·rename_i q;subst q;exact h0
  ·exact k.new b m
theorem IterAt.setP {X X' P P':Addr->Prop}{H:AH}{h:Heap}{sr:Src}{i:Nat}{I:Addr}{S:List Addr}(J:IterAt B X P H h sr i I S) (hp:∀ b o,h.get? b=some o->¬P' b) (hx:∀ b o,h.get? b=some o->¬X b->¬X' b):IterAt B X' P' H h sr i I S:=
 ⟨J.it.mono (fun _ _ _ e=>e) fun a o m p e=>⟨e,m,fun z=>z.elim (hp a o e) (hx a o e fun y=>p (.inr y))⟩,fun b hb=>⟨Exists.elim (J.alive b hb) (hp b),(J.priv b hb).2⟩⟩
theorem IterAt.toP {X P P':Addr->Prop}{H:AH}{h:Heap}{sr:Src}{i:Nat}{I:Addr}{S:List Addr}(J:IterAt B X P H h sr i I S) (hp:∀ b o,h.get? b=some o->¬P' b):IterAt B X P' H h sr i I S:=
 J.setP hp fun _ _ _=>id
theorem IterAt.self {X P:Addr->Prop}{H:AH}{s:Shared}{sr:Src}{i:Nat}{I:Addr}{S:List Addr}{A:Around}{E:Value->Shared->Prop}{Q:Value->Shared->Prop}(J:IterAt B X P H s.heap sr i I S) (q:Q (.ref I) s) :
  wpAny B.M A (pyIter (.ref I)) Q E s:=
 J.it.inv (fun _ _ _ _ _ a _ _=>wpAny_pyIter_rangeiter a q) (fun _ _ _ _ _ _ _ _ _ e=>wpAny_pyIter_tupleiter e q) (fun _ _ _ _ _ _ _ _ _ e=>wpAny_pyIter_listiter e q) (fun _ _ _ e=>wpAny_pyIter_listiter e q) fun _ _ _ _ _ a _ _=>wpAny_pyIter_enum a q
theorem updRs_at {i:Nat}:∀ {ts:List Nat}{vs:List MV}{ρ ρ':RH},vs.length=ts.length->(i∉ts->ρ i=ρ' i)->updRs ρ ts vs i=updRs ρ' ts vs i
 | [],_,_,_,_,h=>h Yz
 | _::_,[],_,_,hl,_=>nomatch hl
 | t::ts,v::vs,ρ,ρ',hl,h=>updRs_at (ts:=ts) (vs:=vs) (Nat.succ.inj hl) fun hi=>by
  by_cases e:i=t
  ·exact (if_pos e).trans (if_pos e).symm
  ·exact (if_neg e).trans ((h fun z=>(Zr.mp z).elim e hi).trans (if_neg e).symm)
theorem updRs_clr {ρ:RH}{ts:List Nat}{vs:List MV}(hl:vs.length=ts.length):updRs (clr ρ ts) ts vs=updRs ρ ts vs:=funext fun i=>updRs_at hl fun hi=>if_neg hi
theorem clr_of_upd {ρ:RH}{ts:List Nat}{vs:List MV}:∀ i v,clr ρ ts i=some v->(updRs ρ ts vs) i=some v:=by
 have key:∀ (ts:List Nat) (vs:List MV) (ρ:RH) (i:Nat) v,i∉ts->ρ i=some v->(updRs ρ ts vs) i=some v:=by
  intro ts
  induction ts with
  | nil=>intro vs ρ i v _ h;unfold updRs;exact h
  | cons t ts ih=>
   intro vs ρ i v hi h
   induction vs using List.casesOn with
   | nil=>exact h
   | cons w ws=>
    unfold updRs
    refine ih ws _ i v (fun z=>hi (.tail _ z)) ?_
    unfold updR
    rw[if_neg (fun (z:i=t)=>hi (by rw[z];exact .head _))];exact h
 intro i v h
 unfold clr at h
 split at h
 ·exact ncs h
 ·rename_i q;exact key ts vs ρ i v q h
theorem nextL_len {H:AH}{sr:Src}{i:Nat}{vs:List MV}(h:sr.nextL H i=some (some vs)):vs.length=sr.width:=by
 induction sr using Mine.Src.casesOn with
 | «ints» l=>simp only [Src.nextL,Option.some.injEq,Zw] at h;obtain ⟨_,_,rfl⟩:=h;rfl
 | fix xs=>simp only [Src.nextL,Option.some.injEq,Zw] at h;obtain ⟨_,_,rfl⟩:=h;rfl
 | lst a=>
  simp only [Src.nextL] at h
  split at h
  ·simp only [Option.some.injEq,Zw] at h;obtain ⟨_,_,rfl⟩:=h;rfl
  ·exact ncs h
 | enm a=>
  simp only [Src.nextL] at h
  split at h
  ·simp only [Option.some.injEq,Zw] at h;obtain ⟨_,_,rfl⟩:=h;rfl
  ·exact ncs h
structure LInv (B:Base) (ce:Env) (P:Addr->Prop) (H0:AH) (h0:Heap) (sr:Src) (I:Addr) (S:List Addr) (D:Addr) (ρ:RH) (H':AH) (s':Shared) (i:Nat) (items:Array Value) (c:Nat):Prop where
 k:Ok B H' s'
 x:Ext H0 h0 H' s'.heap
 J:IterAt B (fun b=>b=D) P H' s'.heap sr i I S
 F:FrOK B ce ρ H' s'.heap
 O:Own B ce P H' s'.heap
 hd:s'.heap.get? D=some (seqObj "list" items c)
 hD:H' D=none
section
variable {B:Base}{ce:Env}{P:Addr->Prop}{H0 H' H2:AH}{h0:Heap}{sr:Src}{I:Addr}{S:List Addr}{D:Addr}{ρ:RH}{s' s2:Shared}{i:Nat}{items:Array Value}{c:Nat}
theorem LInv.go (L:LInv B ce P H0 h0 sr I S D ρ H' s' i items c) (k:Ok B H2 s2) (x:Ext H' s'.heap H2 s2.heap):LInv B ce P H0 h0 sr I S D ρ H2 s2 i items c:=
 aE3 (x D _ (notMut_none L.hD) L.hd) fun y1 _ y3=>⟨k,L.x.trans x,L.J.ext x.toP,L.F.ext x,L.O.ext x,y1,y3 L.hD⟩
theorem LInv.push (L:LInv B ce P H0 h0 sr I S D ρ H' s' i items c) (u:Value) (hDS:D∉S) (hDP:¬P D) (hD0:B.h₀.get? D=none) (hb:∀ b o,¬Mut (H0 b)->h0.get? b=some o->b≠D) :
  ∃ c',LInv B ce P H0 h0 sr I S D ρ H' { s' with heap:=s'.heap.update D (Obj.mapSeq fun z=>z.push u) } i (items.push u) c':=by
 have sb:=Heap.SameBut.update s'.heap D (Obj.mapSeq fun z=>z.push u)
 have frD:∀ b,b=ce.locals∨(∃ n,ce.cells.lookup n=some b)->b≠D:=fun b hb e=>hb.elim (fun hb=>Exists.elim L.F.ns fun m hm=>xE3 hm.1 fun o es n ho=>by
   rw[e] at hb;rw[← hb,L.hd] at ho;exact nomatch (congrArg Obj.data (Option.some.inj ho.1)).trans ho.2.1) fun hn=>Exists.elim hn fun n hn=>aE2 (L.F.cel n b hn) fun _ h=>xE2 h fun v o ho=>by
   rw[e,L.hd] at ho;exact nomatch (congrArg Obj.data (Option.some.inj ho.1)).trans ho.2
 refine⟨_,L.k.still (S:=[D]) (t:=s'.toks) (fun b hb=>by rw[Zl.mp hb];exact⟨L.hD,hD0⟩) fun b o hb e=>(sb.2 b fun z=>hb (z▸.head _)).trans e,fun b o m e=>aE3 (L.x b o m e) fun y1 y2 y3=>⟨(sb.2 b (hb b o m e)).trans y1,y2,y3⟩,
  ⟨L.J.it.mono (fun b hb o z=>(sb.2 b fun q=>hDS (q▸hb)).trans z) fun a o m p z=>⟨(sb.2 a fun q=>p (.inr q)).trans z,m,p⟩,L.J.priv⟩,
  L.F.keep fun b o hb e=>(sb.2 b (frD b hb)).trans e,⟨L.O.loc,fun b pb=>aE3 (L.O.priv b pb) fun a1 a2 a3=>⟨a1,a2,Exists.elim a3 fun o ho=>⟨o,(sb.2 b fun q=>hDP (q▸pb)).trans ho⟩⟩⟩,get?_update_seq L.hd _,L.hD⟩
end
theorem comp_core (g:B.Good) {elt:ME}{ts:List Nat}{src:MR}{conds:MEs}{relt target iter:Expr}{ifs:List Expr}{scope:Scope}{pos fpos:Pos}{use:Option (Value->Sem Unit)}
  (hsrc:SrcOK B T d kd ts.length src iter) (tg:TgtOK B ts target) (hc:CondsOK B T d (kdC scope kd) conds ifs) (he:EvOK B T d (kdC scope kd) elt relt) (sc:ScopeOK B kd scope ts)
  (hs:∀ env x,foldedSetIterable iter env x=pure x)
  {A:Around}{env:Env}{ρ:RH}{H:AH}{s:Shared}{Q:MV->AH->Prop}{Q':Value->Shared->Prop}(rm:Room (d+3) A) (hk:∀ x,env.kindOf x=kd x) (F:FrOK B env ρ H s.heap) (k:Ok B H s)
  (h:wpE (sig B T d) (.comp elt ts src conds) ρ H Q)
  (fin:∀ D C H' s',Ok B H' s'->Ext H s.heap H' s'.heap->Q (.ref D) H'->(∃ m,s'.heap.Ns C m)->H' C=none->B.h₀.get? C=none->(∀ b o,¬Mut (H b)->s.heap.get? b=some o->b≠C)->compPost B.M A NoE use Q' (.ref D) C (.ok .next) s') :
  wpAny B.M A (comprehension (.ListComp relt [⟨target,iter,ifs,0⟩] scope pos) scope env fpos (newList []) false (eval iter env) use) Q' NoE s:=by
 replace h:=dComp h
 refine wpAny_comprehension_free rfl (hs env) (closureFor_is fun n hn=>F.cov n (by rw[hk];exact sc.free n hn)) sc.kind (fun x hx hl=>?_) ?_
 ·obtain ⟨n,kx⟩:=x
  have hl':kx=.local:=hl
  subst hl'
  show List.lookup n scope.names=some .local
  induction z:List.lookup n scope.names using Option.casesOn with
  | none=>
   have:∀ (l:List (Str × NameKind)) kx,(n,kx)∈l->List.lookup n l≠none:=by
    intro l
    induction l with
    | nil=>intro _ h;exact nnl h
    | cons y r ih=>
     intro kx h e
     obtain ⟨m,ky⟩:=y
     rw[Zt] at e
     by_cases q:n=m
     ·subst q;simp at e
     ·have nb:(n == m)=false:=beq_eq_false_iff_ne.mpr q
      rw[nb] at e
      rcases Zr.mp h with h | h
      ·cases h;exact q rfl
      ·exact ih kx h e
   exact absurd z (this _ _ hx)
  | some k'=>rw[nodup_key sc.nd (mem_of_lookupK z) hx]
 refine hsrc A env ρ H s _ (fun _=>False) rm hk F k (fun _ h=>h.elim) h _ fun sr I S H2 s2 k2 x2 J2 hS hw pp10=>?_
 refine xE2 pp10 fun Iv N h=>aE2 h fun hI0 hstep=>?_
 refine wpAny_newList ?_ (by rw[sizeLine_eq];simp)
 have hdD:s2.heap.get? s2.heap.objs.size=none:=Z9 (Zk _)
 have hD2:H2 s2.heap.objs.size=none:=k2.fresh (Zk _)
 have hD0:B.h₀.get? s2.heap.objs.size=none:=dead_base k2 hdD
 generalize hDe:s2.heap.objs.size=D at hdD hD2 hD0
 generalize hobj:(⟨.type "list",none,.seq ([]:List Value).toArray 0,#[]⟩ : Obj)=ob
 have hget3:(s2.heap.push ob).get? D=some (seqObj "list" #[] 0):=by rw[← hDe,← hobj];exact Z0 _ rfl
 have k3:Ok B H2 { s2 with heap:=s2.heap.push ob }:=k2.push (t:=s2.toks) ob
 have x3:Ext H2 s2.heap H2 (s2.heap.push ob):=Ext.push k2 ob
 have F3:FrOK B env ρ H2 (s2.heap.push ob):=(F.ext x2).ext x3
 have J3:IterAt B (fun b=>b=D) (fun _=>False) H2 (s2.heap.push ob) sr 0 I S:=
  (J2.setP (X':=fun b=>b=D) (P':=fun _=>False) (fun _ _ _=>id) fun b o e _ q=>by rw[q,hdD] at e;exact ncs e).ext x3.toP
 have hDS:D∉S:=fun z=>by obtain ⟨o,ho⟩:=J2.alive D z;rw[hdD] at ho;exact ncs ho
 refine comp_env (s:={ s2 with heap:=s2.heap.push ob }) k3 F3 hk sc fun cenv h4 P hC k4 keep4 F4 O4 hP4 hst hkc=>?_
 generalize hce:({ cenv with scope:=relabel scope env }:Env)=ce at F4 O4 hst hkc
 have hcl:ce.locals=cenv.locals:=by rw[← hce]
 have keep4':∀ b o,(s2.heap.push ob).get? b=some o->h4.get? b=some o:=keep4
 have hCD:cenv.locals≠D:=by rw[hC];intro z;have:=Yn hget3;rw[← z] at this;exact Y2 _ this
 have J4:IterAt B (fun b=>b=D) P H2 h4 sr 0 I S:=(J3.toP fun b o e p=>Yj.mpr (hP4 b p) (Yn e)).ext (Ext.keepAll keep4').toP
 have hDP:¬P D:=fun p=>Yj.mpr (hP4 D p) (Yn hget3)
 have xs4:Ext H s.heap H2 h4:=x2.trans (x3.trans (Ext.keepAll keep4'))
 have hbD:∀ b o,¬Mut (H b)->s.heap.get? b=some o->b≠D:=fun b o m e z=>by rw[z] at e m;rw[(x2 D o m e).1] at hdD;exact nsc hdD
 have hsz:∀ b o,¬Mut (H b)->s.heap.get? b=some o->b<(s2.heap.push ob).objs.size:=fun b o m e=>Yn ((x2.trans x3) b o m e).1
 have loop:codeAny B.M A (.compLoop (.ListComp relt [⟨target,iter,ifs,0⟩] scope pos) 0 (.ref I) (.ref D) ce) (compPost B.M A NoE use Q' (.ref D) cenv.locals) { s2 with heap:=h4 }:=by
  refine codeAny_compLoop_any (fun n s'=>∃ i acc H' items c,n=N+1 - i∧Iv i acc H'∧items.toList.map strip=acc∧LInv B ce P H s.heap sr I S D (clr ρ ts) H' s' i items c) (fun n s5 hinv=>?_) (N+1)
   (xI5 0 [] H2 #[] 0 (aI4 rfl hI0 rfl ⟨k4,xs4,J4,F4,O4,keep4' _ _ hget3,hD2⟩))
  refine xE5 hinv fun i acc H5 items c h=>aE4 h fun en hIv hit5 L5=>aE3 (hstep i acc H5 hIv) fun hiN hal hm=>optE (sr.nextL H5 i) (fun hnx=>by rw[hnx] at hm;exact hm.elim) fun o hnx=>?_
  rw[en]
  have stillD:∀ h',Still P S H5 s5.heap h'->h'.get? D=some (seqObj "list" items c):=fun h' st=>st D _ hDP hDS (notMut_none L5.hD) L5.hd
  have stillX:∀ h',Still P S H5 s5.heap h'->Ext H s.heap H5 h':=fun h' st b o m e=>aE3 (L5.x b o m e) fun y1 y2 y3=>aI3 (st b o (fun p=>Yj.mpr (hP4 b p) (hsz b o m e)) (hS b o m e) y2 y1) y2 y3
  refine it_turn (o:=o) (N:=fun s₁=>compPost B.M A NoE use Q' (.ref D) cenv.locals (.ok .next) s₁) g rm.1 L5.k L5.J L5.F L5.O tg hw hst hnx (fun ho h' k6 st F6 O6=>?_) fun vs ho s6 k6 st F6 O6 J6=>?_
  ·rw[hnx,ho] at hm
   refine fin D cenv.locals (upd H5 D (.list acc)) { s5 with heap:=h' } (k6.adopt hD0 ⟨items,c,stillD h' st,hit5,by unfold LIM;exact Zf hal (by decide)⟩) (fun b o m e=>aE3 (stillX h' st b o m e) fun y1 y2 y3=>⟨y1,?_⟩) (hm D L5.hD) ?_ ?_ ?_ fun b o m e z=>?_
   ·unfold upd
    rw[if_neg (hbD b o m e)];exact⟨y2,y3⟩
   ·rw[← hcl];exact⟨_,F6.ns.choose_spec.1⟩
   ·unfold upd;rw[if_neg hCD,← hcl];exact L5.F.loc
   ·rw[← hcl];exact (O4.priv _ O4.loc).2.1
   ·have q1:=hsz b o m e
    rw[z,hC] at q1
    exact Y2 _ q1
  ·rw[hnx,ho] at hm
   rw[updRs_clr ((nextL_len (hnx.trans (by rw[ho]))).trans hw)] at F6
   have L6:LInv B ce P H s.heap sr I S D (clr ρ ts) H5 s6 (i+1) items c:=⟨k6,stillX _ st,J6,F6.weak clr_of_upd,O6,stillD _ st,L5.hD⟩
   refine (hc A ce (updRs ρ ts vs) H5 s6 _ rm hkc F6 k6 hm).then_ fun b H7 s7 k7 x7 h7=>boolE b (fun e=>?_) fun e=>?_
   ·rw[if_pos e] at h7 ⊢
    refine (he A ce (updRs ρ ts vs) H7 s7 _ rm hkc (F6.ext x7) k7 h7).then_ fun u H8 s8 k8 x8 h8=>?_
    have L8:=(L6.go k7 x7).go k8 x8
    have hsz:items.size≤1000:=by
     have:=congrArg List.length hit5
     simp only [Zc,Z6] at this
     lia
    exact call_meets PySem.F.slot_list_append ⟨_,L8.hd,rfl⟩ PySem.F.entry_list_append (PySem.F.args_list_append_2 _ _) (list_append D items c u (by rw[sizeLine_eq];exact Zf hsz (by decide))) ⟨L8.hd,Exists.elim (L8.push u hDS hDP hD0 hbD) fun c' L9=>
     ⟨N+1 - (i+1),sub_dn hiN,xI5 (i+1) (acc++[strip u]) H8 (items.push u) c' (aI4 rfl h8 (by rw[Array.toList_push,Yg,hit5];rfl) L9)⟩⟩
   ·rw[if_neg (by rw[e];exact nofun)] at h7 ⊢
    exact⟨N+1 - (i+1),sub_dn hiN,xI5 (i+1) acc H7 items c (aI4 rfl h7 hit5 (L6.go k7 x7))⟩
 have st4:IterAt B (fun b=>b=D) P H2 h4 sr 0 I S:=J4
 exact codeAny_compStart_list loop (IterAt.self (s:={ s2 with heap:=h4 }) st4 loop)
end
section
variable {B:Base}{T:Tab}{d:Nat}{kd:Str->Option NameKind}
theorem ev_comp (g:B.Good) {elt:ME}{ts:List Nat}{src:MR}{conds:MEs}{relt target iter:Expr}{ifs:List Expr}{scope:Scope}{pos:Pos}
  (hsrc:SrcOK B T d kd ts.length src iter) (tg:TgtOK B ts target) (hc:CondsOK B T d (kdC scope kd) conds ifs) (he:EvOK B T d (kdC scope kd) elt relt) (sc:ScopeOK B kd scope ts)
  (hs:∀ env x,foldedSetIterable iter env x=pure x):EvOK B T d kd (.comp elt ts src conds) (.ListComp relt [⟨target,iter,ifs,0⟩] scope pos):=by
 intro A env ρ H s Q rm hk F k h
 unfold W
 rw[eval_ListComp]
 refine comp_core g hsrc tg hc he sc hs rm hk F k h fun D C H' s' k' x' q q0_ hC hC0 hCd=>xE1 q0_ fun m hm=>⟨m,hm,fun h' sb=>?_⟩
 have kp:∀ b o,b∉([C]:List Addr)->s'.heap.get? b=some o->h'.get? b=some o:=fun b o hb e=>(sb.2 b fun z=>hb (z▸.head _)).trans e
 refine⟨H',(aI3 (k'.still (t:=s'.toks) (fun b hb=>by rw[Zl.mp hb];exact⟨hC,hC0⟩) kp) (fun b o m e=>?_) q)⟩
 refine aE2 (x' b o m e) fun y1 y2=>?_
 exact⟨(sb.2 b (hCd b o m e)).trans y1,y2⟩
noncomputable def ExRes (B:Base) (env:Env) (P:Addr->Prop) (H:AH) (h:Heap) (Q:Fl->RH->AH->Prop) (f:Flow) (s':Shared):Prop:=
 ∃ fl ρ' H',(match fl,f with | .next,.next=>True | .brk,.brk=>True | .cont,.cont=>True | .ret v,.ret x=>strip x=v | _,_=>False)∧Ok B H' s'∧ExtP P H h H' s'.heap∧FrOK B env ρ' H' s'.heap∧Own B env P H' s'.heap∧Q fl ρ' H'
noncomputable def ExOK (B:Base) (T:Tab) (d:Nat) (kd:Str->Option NameKind) (ok:Nat->Bool) (st:MS) (r:Stmt):Prop:=
 ∀ A env ρ H s (P:Addr->Prop) (Q:Fl->RH->AH->Prop),Room (d+3) A->(∀ x,env.kindOf x=kd x)->(∀ i,ok i=true->StoreOk B env P i)->FrOK B env ρ H s.heap->Own B env P H s.heap->Ok B H s->wpS (sig B T d) st ρ H Q->
  wpAny B.M A (exec r env) (ExRes B env P H s.heap Q) NoE s
noncomputable def ExsOK (B:Base) (T:Tab) (d:Nat) (kd:Str->Option NameKind) (ok:Nat->Bool) (st:MSs) (r:List Stmt):Prop:=
 ∀ A env ρ H s (P:Addr->Prop) (Q:Fl->RH->AH->Prop),Room (d+3) A->(∀ x,env.kindOf x=kd x)->(∀ i,ok i=true->StoreOk B env P i)->FrOK B env ρ H s.heap->Own B env P H s.heap->Ok B H s->wpL (sig B T d) st ρ H Q->
  wpAny B.M A (execs r env) (ExRes B env P H s.heap Q) NoE s
theorem ExRes.after {env:Env}{P:Addr->Prop}{H H':AH}{h h':Heap}{Q:Fl->RH->AH->Prop}{f:Flow}{s':Shared}(e:ExRes B env P H' h' Q f s') (x:ExtP P H h H' h'):ExRes B env P H h Q f s':=
 xE3 e fun fl ρ H2 h=>aE4 h fun a b c r=>xI3 fl ρ H2 (aI4 a b (x.trans c) r)
theorem ExRes.cs {env:Env}{P:Addr->Prop}{H:AH}{h:Heap}{Q:Fl->RH->AH->Prop}{f:Flow}{s':Shared}{R:Prop}(e:ExRes B env P H h Q f s')
  (q:∀ ρ' H',Ok B H' s'->ExtP P H h H' s'.heap->FrOK B env ρ' H' s'.heap->Own B env P H' s'.heap->(f=.next∧Q .next ρ' H'->R)∧(f=.brk∧Q .brk ρ' H'->R)∧(f=.cont∧Q .cont ρ' H'->R)∧(∀ v x,f=.ret x->strip x=v->Q (.ret v) ρ' H'->R)):R:=
 xE3 e fun fl ρ' H' h=>aE6 h fun hf k x F O q0=>aE4 (q ρ' H' k x F O) fun a b c d=>by
  induction fl using Mine.Fl.casesOn with
  | next=>induction f using PySem.Flow.casesOn with | next=>exact a ⟨rfl,q0⟩ | _=>exact False.elim hf
  | brk=>induction f using PySem.Flow.casesOn with | brk=>exact b ⟨rfl,q0⟩ | _=>exact False.elim hf
  | cont=>induction f using PySem.Flow.casesOn with | cont=>exact c ⟨rfl,q0⟩ | _=>exact False.elim hf
  | ret v=>induction f using PySem.Flow.casesOn with | ret x=>exact d v x rfl hf q0 | _=>exact False.elim hf
theorem ex_asgComp (g:B.Good) {ok:Nat->Bool}{y:Nat}{elt:ME}{ts:List Nat}{src:MR}{conds:MEs}{relt target iter:Expr}{ifs:List Expr}{scope:Scope}{pos py spos:Pos}
  (hsrc:SrcOK B T d kd ts.length src iter) (tg:TgtOK B ts target) (hc:CondsOK B T d (kdC scope kd) conds ifs) (he:EvOK B T d (kdC scope kd) elt relt) (sc:ScopeOK B kd scope ts)
  (hs:∀ env x,foldedSetIterable iter env x=pure x) (hy:ok y=true)
  (hsw:∀ env:Env,env.scope.kind=.function->(∀ x,env.kindOf x=kd x)->swapsWith (.ListComp relt [⟨target,iter,ifs,0⟩] scope pos) (some (.Name (B.nm y) py)) spos.line env=pure true) :
  ExOK B T d kd ok (.asg (.name y) (.comp elt ts src conds)) (.Assign [.Name (B.nm y) py] (.ListComp relt [⟨target,iter,ifs,0⟩] scope pos) spos):=by
 intro A env ρ H s P Q rm hk hst F O k h
 replace h:=xAsg h
 rw[exec_Assign_Name_used _ _ _ _ (hsw env F.kind hk)]
 refine wpAny_bind (wpAny_standAt (wpAny_bind ?_))
 show wpAny _ A (do let _ ← comprehension (.ListComp relt [⟨target,iter,ifs,0⟩] scope pos) scope env _ (newList []) false (eval iter env) (some (assign (.Name (B.nm y) py) env))) _ _ s
 refine wpAny_bind (wpAny_mono (comp_core (use:=some (assign (.Name (B.nm y) py) env)) (Q':=fun _ s'=>ExRes B env P H s.heap Q .next s') g hsrc tg hc he sc hs rm hk F k h
  fun D C H' s' k' x' q q1_ hC hC0 hCd=>xE1 q1_ fun m hm=>?_) (fun _ s' hq=>wpAny_pure (wpAny_pure hq)) fun _ _ e=>e)
 have F':=F.ext x'
 have O':=O.ext x'
 have nPC:¬P C:=fun p=>by
  refine hide fun R done=>?_
  refine aE3 (O.priv C p) fun a1 a2 t1_0=>xE1 t1_0 fun o ho=>?_
  refine done ?_
  exact hCd C o (notMut_none a1) ho rfl
 refine wpAny_assign_Name (store_var g k' F' O' (hst y hy) fun s2 k2 x2 F2 O2=>?_)
 refine hide fun R done=>?_
 refine xE3 hm fun oc es ep t2_0=>aE2 t2_0 fun hoc hr=>?_
 refine done ?_
 have yc:=x2 C oc nPC (notMut_none hC) hoc
 refine⟨m,⟨oc,es,ep,yc.1,hr⟩,fun h' sb=>?_⟩
 have kp:∀ b o,b∉([C]:List Addr)->s2.heap.get? b=some o->h'.get? b=some o:=fun b o hb e=>(sb.2 b fun z=>hb (z▸.head _)).trans e
 have nC:∀ b,b=env.locals∨(∃ n,env.cells.lookup n=some b)->b≠C:=by
  rintro b (rfl | ⟨n,hn⟩) z
  ·exact nPC (z▸O.loc)
  ·refine aE2 (F.cel n b hn) fun c1 t3_0=>xE2 t3_0 fun v o t3_1=>aE2 t3_1 fun ho _=>?_
   exact hCd b o (notMut_none c1) ho z
 refine⟨.next,_,H',trivial,k2.still (t:=s2.toks) (fun b hb=>by rw[Zl.mp hb];exact⟨hC,hC0⟩) kp,fun b o np m e=>?_,F2.keep fun b o hb e=>(sb.2 b (nC b hb)).trans e,⟨O2.loc,fun b pb=>?_⟩,q⟩
 ·refine aE3 (x' b o m e) fun y1 y2 y3=>?_
  refine hide fun R done=>?_
  refine aE3 (x2 b o np y2 y1) fun z1 z2 z3=>?_
  refine done ?_
  exact (aI3 ((sb.2 b (hCd b o m e)).trans z1) z2 (fun q=>z3 (y3 q)))
 ·refine aE3 (O2.priv b pb) fun a1 a2 t6_0=>xE1 t6_0 fun o ho=>?_
  exact (aI3 a1 a2 ⟨o,(sb.2 b fun z=>nPC (z▸pb)).trans ho⟩)
end
section
variable {B:Base}{T:Tab}{d:Nat}{kd:Str->Option NameKind}{ok:Nat->Bool}
noncomputable def TOK (B:Base) (T:Tab) (d:Nat) (kd:Str->Option NameKind) (ok:Nat->Bool) (t:MT) (rt:Expr):Prop:=
 ∀ A env ρ H s (P:Addr->Prop) v (Q:RH->AH->Prop),Room (d+3) A->(∀ x,env.kindOf x=kd x)->(∀ i,ok i=true->StoreOk B env P i)->FrOK B env ρ H s.heap->Own B env P H s.heap->Ok B H s->wpA (sig B T d) t (strip v) ρ H Q->
  wpAny B.M A (assign rt env v) (fun _ s'=>∃ ρ' H',Ok B H' s'∧ExtP P H s.heap H' s'.heap∧FrOK B env ρ' H' s'.heap∧Own B env P H' s'.heap∧Q ρ' H') NoE s
theorem t_name (g:B.Good) {i:Nat}{p:Pos}(hi:ok i=true):TOK B T d kd ok (.name i) (.Name (B.nm i) p):=by
 intro A env ρ H s P v Q rm hk hst F O k h
 exact wpAny_assign_Name (store_var g k F O (hst i hi) fun s' k' x' F' O'=>(xI2 _ H (aI5 k' x' F' O' h)))
theorem ent_put {hsh:Int}{tk:Tok}{v:Value}{a:Nat}(hn:B.nmT.Nodup) (ha:a<B.N) (hv:notRaw (strip v)=true) {es:List DictEntry}{l:List (Nat × MV)}(h:All2 (EntRel B) es l):All2 (EntRel B) (putL (B.nm a) hsh (.str (B.nm a) tk) v es) (setNs l a (strip v)):=by
 induction h with
 | nil=>exact .cons ⟨ha,⟨tk,rfl⟩,rfl,hv⟩ .nil
 | @cons en p _ _ hx hr ih=>
  obtain ⟨j,pv⟩:=p
  refine aE4 hx fun h1 p1_1 h3 h4=>?_
  obtain ⟨t,h2⟩:=p1_1
  dsimp only at h1 h2 h3 h4
  unfold putL setNs
  by_cases q:j=a
  ·subst q
   have e:en.key.isStr (B.nm j)=true:=by rw[h2];exact beq_self_eq_true _
   rw[e,if_pos rfl,if_pos rfl]
   exact .cons ⟨h1,⟨t,h2⟩,rfl,hv⟩ hr
  ·have e:en.key.isStr (B.nm a)=false:=by
    rw[h2]
    exact beq_eq_false_iff_ne.mpr fun z=>q (Base.nm_inj hn h1 ha z)
   rw[e,if_neg q]
   exact .cons ⟨h1,⟨t,h2⟩,h3,h4⟩ ih
theorem putL_len {name:Str}{hsh:Int}{key v:Value}:∀ (es:List DictEntry),(putL name hsh key v es).length≤es.length+1
 | []=>Zk _
 | e::r=>by
  unfold putL
  split
  ·exact Xc _
  ·have:=putL_len (name:=name) (hsh:=hsh) (key:=key) (v:=v) r
   simp only [Zm];exact Ye this
theorem no_ref:∀ {es:List DictEntry}{l:List (Nat × MV)},All2 (EntRel B) es l->es.any (·.refKey)=false
 | _,_,.nil=>rfl
 | _,_,.cons (a:=en) hx hr=>by
  refine aE3 hx fun _ p2_1 _=>?_
  refine xE1 p2_1 fun t e=>?_
  rw[List.any_cons,no_ref hr,Bool.or_false]
  unfold DictEntry.refKey
  rw[e]
theorem store_attr (g:B.Good) (tb:TabOk B T) {A:Around}{H:AH}{s:Shared}{x C dx:Addr}{l:List (Nat × MV)}{a:Nat}{v:Value}{Q:Unit->Shared->Prop}{E:Value->Shared->Prop}(k:Ok B H s) (hx:H x=some (.inst C dx)) (hd:H dx=some (.ns l))
  (ha:T.at_ C a=true) (hv:notRaw (strip v)=true) (hlen:(setNs l a (strip v)).length≤500)
  (q:∀ h' tk,Ok B (upd H dx (.ns (setNs l a (strip v)))) { s with heap:=h',toks:=tk }->Ext H s.heap (upd H dx (.ns (setNs l a (strip v)))) h'->Q () { s with heap:=h',toks:=tk }) :
  wpAny B.M A (setAttr (.ref x) (B.nm a) v) Q E s:=by
 refine hide fun R done=>?_
 refine xE2 (k.inst hx hd) fun es n t3_0=>aE4 t3_0 fun h1 h2 h3 I=>?_
 refine aE6 (tb.at_ C a ha) fun hN hg hh hf hs hp=>?_
 refine done ?_
 have ht:takerIn B.K C (B.nm a)=some none:=by unfold takerIn;rw[hf];rfl
 refine set_plain (k.X g) I hs (osa_open (s:={ s with toks:=s.toks+1 }) ((k.toks (s.toks+1)).X g) I hp ht fun b=>?_)
 refine hide fun R done=>?_
 refine xE1 (any_some hh) fun cd t5_0=>aE2 t5_0 fun hc hd'=>?_
 obtain ⟨hxg,-,-,-⟩:=I
 refine done ?_
 refine wpAny_bind (wpAny_pure (wpAny_bind (wpAny_bind (wpAny_loadPart hxg (wpAny_bind ((looks_clsIn ((k.toks (s.toks+1)).X g) hc).here ?_))))))
 rw[hd']
 refine wpAny_pure (a:=some dx) (wpAny_bind (wpAny_pure (wpAny_bind ?_)))
 unfold nsSet
 refine wpAny_bind (wpAny_bind (wpAny_askSetting (wpAny_pure (wpAny_bind (wpAny_mkText (wpAny_bind (wpAny_loadPart h1 ?_)))))))
 dsimp only
 have c:(!es.toArray.any (·.key.isStr (B.nm a)) && es.toArray.any (·.refKey))=false:=by
  have:es.toArray.any (·.refKey)=false:=by
   rw[← Array.any_toList];exact no_ref h2
  rw[this,Bool.and_false]
 rw[aRefKeyMayBeTheName_at,c]
 refine wpAny_updatePart h1 ?_
 have e2:=putName_dict (B.nm a) (PyData.keyHash B.w.params (B.nm a)) (.str (B.nm a) (s.toks+1)) v es n
 have hget:(s.heap.update dx (Obj.putName (B.nm a) (PyData.keyHash B.w.params (B.nm a)) (.str (B.nm a) (s.toks+1)) v)).get? dx=some (dictOf (putL (B.nm a) (PyData.keyHash B.w.params (B.nm a)) (.str (B.nm a) (s.toks+1)) v es) (putN (B.nm a) es n)):=by
  rw[← e2];exact Heap.get?_update_self _ h1 (by rw[e2];rfl)
 have hll:es.length=l.length:=h2.length
 have hpl:=putL_len (name:=B.nm a) (hsh:=PyData.keyHash B.w.params (B.nm a)) (key:=.str (B.nm a) (s.toks+1)) (v:=v) es
 refine wpAny_bind (wpAny_lookBehind hget (pastItsLine_dict (by rw[Y6,sizeLine_eq];exact Zf hpl (Ye (Zf (Y9 hll) (Zf t3_0.2.2.1 (by decide)))))) ?_)
 have sb:=Heap.SameBut.update s.heap dx (Obj.putName (B.nm a) (PyData.keyHash B.w.params (B.nm a)) (.str (B.nm a) (s.toks+1)) v)
 exact wpAny_pure (q _ _ (k.store (t:=s.toks+1+1) hd trivial sb ⟨_,_,hget,ent_put g.nd hN hv h2,hlen⟩) (Ext.store hd trivial sb))
theorem t_attr (g:B.Good) (tb:TabOk B T) {e:ME}{r:Expr}{a:Nat}{p:Pos}(he:EvOK B T d kd e r):TOK B T d kd ok (.attr e a) (.Attribute r (B.nm a) p):=by
 intro A env ρ H s P v Q rm hk hst F O k h
 rw[arm_assign_Attribute]
 refine wpAny_bind (wpAny_holding ((he A env ρ H s _ rm hk F k h).then_ fun u H1 s1 k1 x1 pp5=>?_))
 refine hide fun R done=>?_
 refine xE4 pp5 fun x C dx l t7_0=>aE7 t7_0 fun e1 e2 e3 e4 e5 e6 q=>?_
 refine done ?_
 have:=strip_ref e1;subst this
 refine wpAny_bind (wpAny_standAt (wpAny_bind (wpAny_holding (store_attr g tb k1 e2 e3 e4 e5 e6 fun h' tk k2 x2=>?_))))
 refine wpAny_release ?_
 exact (xI2 ρ _ (aI5 k2 ((x1.trans x2).toP) ((F.ext x1).ext x2) ((O.ext x1).ext x2) q))
theorem set_list {A:Around}{H:AH}{s:Shared}{l:Addr}{xs:List MV}{i:Int}{t:Tok}{v:Value}{Q:Unit->Shared->Prop}{E:Value->Shared->Prop}(k:Ok B H s) (hl:H l=some (.list xs)) (h0:0≤i) (hn:i<xs.length)
  (q:∀ h',Ok B (upd H l (.list (xs.set i.toNat (strip v)))) { s with heap:=h' }->Ext H s.heap (upd H l (.list (xs.set i.toNat (strip v)))) h'->Q () { s with heap:=h' }):wpAny B.M A (setItem (.ref l) (.int i t) v) Q E s:=by
 refine xE2 (k.list hl) fun items n t8_0=>aE3 t8_0 fun ho hm hL=>?_
 have hsz:items.size=xs.length:=by rw[← Z6];exact map_len hm
 have hL':xs.length≤1000000:=hL
 have hT:s.TypeIs (.ref l) "list":=⟨_,ho,rfl⟩
 unfold setItem
 try with_reducible refine wpAny_holding ?_
 refine wpAny_bind (wpAny_sequenceKey hT (by decide) ?_)
 refine wpAny_bind (wpAny_callSpecial?_slot (name:=Str.ofString "__setitem__") hT PySem.slot_list_setitem
  (wpAny_call_entry PySem.slot_list_setitem hT PySem.entry_list_setitem ?_ (PySem.args_list_setitem _ _ _)))
 show wpAny _ _ (Builtin.List.listSubscript? (.int i t) >>= _) _ _ s
 refine wpAny_bind (wpAny_listSubscript_int (fitsIndex_of h0 (Xs hn (Yu (X7.mpr hL') (by decide)))) ?_)
 refine xE1 (Wd h0) fun j e9_1=>?_
 subst e9_1
 have hj:j<items.size:=by lia
 have hx':items[j]?=some items[j]:=Array.getElem?_eq_getElem hj
 show wpAny _ _ ((seqItemAt l j >>= fun r=>pure (r.map (j,·))) >>= _) _ _ s
 refine wpAny_bind (wpAny_bind (wpAny_seqItemAt ho rfl (wpAny_pure ?_)))
 rw[hx']
 show wpAny _ _ (setSeqItemAt l j v >>= _) _ _ s
 refine aE2 (k.lstore (ys:=xs.set j (strip v)) (t:=s.toks) hl ho (fun z=>z.setIfInBounds j v) (by rw[Array.toList_setIfInBounds,List.map_set,hm]) (by rw[Zp];exact hL)) fun a1 a2=>?_
 refine wpAny_bind (wpAny_setSeqItemAt ho rfl ?_)
 first
  | exact wpAny_bind (wpAny_pure (wpAny_pure ⟨.none,rfl,wpAny_pure (q _ a1 a2)⟩))
  | exact wpAny_pure ⟨.none,rfl,wpAny_pure (q _ a1 a2)⟩
theorem t_sub (g:B.Good) {e i:ME}{r ri:Expr}{p:Pos}(he:EvOK B T d kd e r) (hi:EvOK B T d kd i ri):TOK B T d kd ok (.sub e i) (.Subscript r ri p):=by
 intro A env ρ H s P v Q rm hk hst F O k h
 rw[arm_assign_Subscript]
 refine wpAny_bind (wpAny_holding ((he A env ρ H s _ rm hk F k h).then_ fun u H1 s1 k1 x1 h1=>?_))
 refine wpAny_bind (wpAny_holding ((hi A env ρ H1 s1 _ rm hk (F.ext x1) k1 h1).then_ fun w H2 s2 k2 x2 pp5=>?_))
 refine hide fun R done=>?_
 obtain ⟨x,n,xs,e1,e2,e3,e4,e5,q⟩:=pp5
 have:=strip_ref e1;subst this
 obtain ⟨t,rfl⟩:=strip_int e2
 refine done ?_
 refine wpAny_bind (wpAny_standAt (wpAny_bind (wpAny_holding (set_list k2 e3 e4 e5 fun h' k3 x3=>?_))))
 refine wpAny_release ?_
 exact (xI2 ρ _ (aI5 k3 (((x1.trans x2).trans x3).toP) (((F.ext x1).ext x2).ext x3) (((O.ext x1).ext x2).ext x3) q))
theorem t_subk (g:B.Good) {e:ME}{r:Expr}{m:Nat}{pk p:Pos}(he:EvOK B T d kd e r):TOK B T d kd ok (.subk e) (.Subscript r (.Constant (.str "at") m pk) p):=by
 intro A env ρ H s P v Q rm hk hst F O k h
 rw[arm_assign_Subscript]
 refine wpAny_bind (wpAny_holding ((he A env ρ H s _ rm hk F k h).then_ fun u H1 s1 k1 x1 pp5=>?_))
 refine hide fun R done=>?_
 refine xE3 pp5 fun x c a t13_0=>aE3 t13_0 fun e1 e2 q=>?_
 refine done ?_
 have:=strip_ref e1;subst this
 refine wpAny_bind (wpAny_holding (wpAny_Constant_str ?_))
 refine hide fun R done=>?_
 refine xE2 (k1.rep x _ e2) fun cv iv t14_0=>aE3 t14_0 fun hc hi hd=>?_
 refine done ?_
 refine wpAny_bind (wpAny_standAt (wpAny_bind (wpAny_holding (wpAny_setItem_pairs (s:={ s1 with toks:=s1.toks+1 }) (k:=("at" : Str)) (knd:=strKind B.prog B.w) (strKind_is B.prog B.w _ _) hd (fun h' hm sb=>?_) (by rw[sizeLine_eq];simp)))))
 refine wpAny_release ?_
 have hm':h'.DictOf (strKind B.prog B.w) x [(("cells" : Str),cv),(("at" : Str),v)]:=by
  have e:stored [(("cells" : Str),cv),(("at" : Str),iv)] ("at" : Str) v=[(("cells" : Str),cv),(("at" : Str),v)]:=by
   unfold stored;simp [key_ne]
  rw[← e];exact hm
 exact (xI2 ρ _ (aI5 (k1.store (o:=.pot c (strip v)) (t:=s1.toks+1+1) e2 trivial sb ⟨cv,v,hc,rfl,hm'⟩) ((x1.trans (Ext.store e2 trivial sb)).toP) ((F.ext x1).ext (Ext.store e2 trivial sb)) ((O.ext x1).ext (Ext.store e2 trivial sb)) q))
end
section
variable {B:Base}{T:Tab}{d:Nat}{kd:Str->Option NameKind}{ok:Nat->Bool}
theorem isRef_ne {v:Value}(h:∀ a,strip v≠.ref a):∀ a,v≠.ref a:=fun a e=>h a (by rw[e];rfl)
theorem ex_expr {e:ME}{r:Expr}{p:Pos}(he:EvOK B T d kd e r) (hs:∀ l env,swapsWith r none l env=pure false):ExOK B T d kd ok (.expr e) (.Expr r p):=by
 intro A env ρ H s P Q rm hk hst F O k h
 replace h:=xExpr h
 refine wpAny_Expr ((he A env ρ H s _ rm hk F k h).then_ fun v H1 s1 k1 x1 q0_=>aE2 q0_ fun h1 q=>?_) (by unfold interactive;rw[F.kind];rfl) (hs _ _)
 have hv:=isRef_ne h1
 induction v using PySem.Value.casesOn with
 | ref a=>exact hv a rfl
 | _=>exact⟨.next,ρ,H1,trivial,k1,x1.toP,F.ext x1,O.ext x1,q⟩
noncomputable def OneT:Expr->Bool
 | .Name .. | .Attribute .. | .Subscript ..=>true
 | _=>false
theorem ex_asg {t:MT}{rt:Expr}{e:ME}{r:Expr}{p:Pos}(ht:TOK B T d kd ok t rt) (he:EvOK B T d kd e r) (h1:OneT rt=true)
  (hs:∀ env:Env,env.scope.kind=.function->(∀ x,env.kindOf x=kd x)->swapsWith r (some rt) p.line env=pure false):ExOK B T d kd ok (.asg t e) (.Assign [rt] r p):=by
 intro A env ρ H s P Q rm hk hst F O k h
 replace h:=xAsg h
 have hw:swappedStores [rt] r env=pure none:=by cases rt<;>first | rfl | cases h1
 refine wpAny_Assign_stores ((he A env ρ H s _ rm hk F k h).then_ fun v H1 s1 k1 x1 q=>?_) (hs env F.kind hk) hw
 have e1:(assignEach [rt] env).map (·.2)=[assign rt env]:=by cases rt<;>first | rfl | cases h1
 rw[e1]
 show wpAny B.M A (assign rt env v) _ _ _
 refine wpAny_mono (ht A env ρ H1 s1 P v _ rm hk hst (F.ext x1) (O.ext x1) k1 q) (fun _ s2 pp2=>?_) fun _ _ e=>e
 refine hide fun R done=>?_
 refine xE2 pp2 fun ρ' H2 t0_0=>aE5 t0_0 fun k2 x2 F2 O2 q2=>?_
 refine done ?_
 exact⟨.next,ρ',H2,trivial,k2,x1.toP.trans x2,F2,O2,q2⟩
inductive TsOK (B:Base) (T:Tab) (d:Nat) (kd:Str->Option NameKind) (ok:Nat->Bool):List MT->List Expr->Prop
 | nil:TsOK B T d kd ok [] []
 | cons {t:MT}{rt:Expr}{ts:List MT}{rts:List Expr}:TOK B T d kd ok t rt->OneT rt=true->TsOK B T d kd ok ts rts->TsOK B T d kd ok (t::ts) (rt::rts)
set_option tactic.hygienic true in
theorem TsOK.each {ts:List MT}{rts:List Expr}{env:Env}(h:TsOK B T d kd ok ts rts):(assignEach rts env).map (·.2)=rts.map (fun r=>assign r env)∧(assignEach rts env).length=ts.length∧(assignEach rts env).findIdx? (·.1)=none:=by
 induction h with
 | nil=>exact (aI3 rfl rfl rfl)
 | cons _ h1 _ ih=>
  rename_i t rt ts rts _ _
  have e:assignEach (rt::rts) env=(false,assign rt env)::assignEach rts env:=by cases rt<;>first | rfl | cases h1
  rw[e]
  refine (aI3 (by rw[Z7,ih.1];rfl) (by rw[Zm,Zm,ih.2.1]) ?_)
  rw[List.findIdx?_cons,ih.2.2];rfl
theorem order_ok {ts:List MT}{rts:List Expr}(h:TsOK B T d kd ok ts rts):∀ {A:Around}{env:Env}{ρ:RH}{H:AH}{s:Shared}{P:Addr->Prop}{vs:List Value}{Q:RH->AH->Prop},Room (d+3) A->(∀ x,env.kindOf x=kd x)->(∀ i,ok i=true->StoreOk B env P i)->FrOK B env ρ H s.heap->Own B env P H s.heap->Ok B H s->
  wpAs (sig B T d) ts (vs.map strip) ρ H Q->wpAny B.M A (assignInOrder (rts.map fun r=>assign r env) vs) (fun _ s'=>∃ ρ' H',Ok B H' s'∧ExtP P H s.heap H' s'.heap∧FrOK B env ρ' H' s'.heap∧Own B env P H' s'.heap∧Q ρ' H') NoE s:=by
 induction h with
 | nil=>
  intro A env ρ H s P vs Q rm hk hst F O k q
  induction vs using List.casesOn with
  | nil=>
   exact wpAny_pure (xI2 ρ H (aI5 k .refl F O q))
  | cons v vs=>exact False.elim q
 | cons ht h1 _ ih=>
  intro A env ρ H s P vs Q rm hk hst F O k q
  induction vs using List.casesOn with
  | nil=>exact False.elim q
  | cons v vs=>
   rw[Z7]
   unfold assignInOrder
   refine wpAny_bind (wpAny_holding (wpAny_mono (ht A env ρ H s P v _ rm hk hst F O k q) (fun _ s1 pp2=>?_) fun _ _ e=>e))
   refine hide fun R done=>?_
   refine xE2 pp2 fun ρ1 H1 t1_0=>aE5 t1_0 fun k1 x1 F1 O1 q1=>?_
   refine done ?_
   exact wpAny_mono (ih rm hk hst F1 O1 k1 q1) (fun _ s2 q1_=>xE2 q1_ fun ρ2 H2 n101_=>aE5 n101_ fun k2 x2 F2 O2 q2=>(xI2 ρ2 H2 (aI5 k2 (x1.trans x2) F2 O2 q2))) fun _ _ e=>e
theorem tup_items {H:AH}{s:Shared}(k:Ok B H s) {a:Addr}{xs:List MV}(h:H a=some (.tup xs)):∃ items:Array Value,s.heap.IsTuple a items∧items.toList.map strip=xs:=by
 refine xE1 (k.rep _ _ h) fun items t2_0=>aE3 t2_0 fun h1 h2 _=>?_
 exact⟨items,h1,h2⟩
theorem Ok.extBut {H:AH}{s:Shared}(k:Ok B H s) {h':Heap}{t:Nat}(e:Heap.ExtBut s.heap.objs.size s.heap h'):Ok B H { s with heap:=h',toks:=t }∧Ext H s.heap H h':=by
 have keep:∀ b o,s.heap.get? b=some o->h'.get? b=some o:=fun b o x=>e b o (Yd (Yn x)) x
 exact⟨k.keep keep,Ext.keepAll keep⟩
theorem ex_asgT {ts:List MT}{rts:List Expr}{e:ME}{r:Expr}{n:Nat}{pt p:Pos}(hts:TsOK B T d kd ok ts rts) (he:EvOK B T d kd e r)
  (hs:∀ (env:Env),swapsWithSole [.Tuple rts n pt] r p.line env=pure false)
  (hw:∀ env:Env,env.scope.kind=.function->(∀ x,env.kindOf x=kd x)->swappedStores [.Tuple rts n pt] r env=pure none):ExOK B T d kd ok (.asgT ts e) (.Assign [.Tuple rts n pt] r p):=by
 intro A env ρ H s P Q rm hk hst F O k h
 replace h:=xAsgT h
 refine Assign_Tuple ((he A env ρ H s _ rm hk F k h).then_ fun v H1 s1 k1 x1 q2_=>xE2 q2_ fun a xs n201_=>aE4 n201_ fun e1 e2 e3 q=>?_) (hs env) (hw env F.kind hk)
 have:=strip_ref e1;subst this
 refine hide fun R done=>?_
 refine xE1 (tup_items k1 e2) fun items t3_0=>aE2 t3_0 fun ht hm=>?_
 have hl:items.size=xs.length:=by rw[← Z6];exact map_len hm
 refine aE3 (hts.each (env:=env)) fun z1 z2 z3=>?_
 refine done ?_
 refine wpAny_assign_Tuple rm.1 ht (by rw[z2,hl,e3]) z3 fun h' eb=>?_
 rw[z1]
 refine aE2 (k1.extBut (t:=s1.toks) eb) fun k2 x2=>?_
 refine wpAny_mono (order_ok (Q:=fun ρ H=>Q .next ρ H) hts rm hk hst ((F.ext x1).ext x2) ((O.ext x1).ext x2) k2 (by rw[hm];exact q)) (fun _ s3 pp2=>?_) fun _ _ e=>e
 refine hide fun R done=>?_
 refine xE2 pp2 fun ρ' H3 t6_0=>aE5 t6_0 fun k3 x3 F3 O3 q3=>?_
 refine done ?_
 exact⟨.next,ρ',H3,trivial,k3,(x1.trans x2).toP.trans x3,F3,O3,q3⟩
theorem updR_comm {ρ:RH}{i j:Nat}{v w:MV}(h:i≠j):updR (updR ρ i v) j w=updR (updR ρ j w) i v:=by
 funext x
 unfold updR
 by_cases a:x=j
 ·have b:¬x=i:=fun z=>h (z.symm.trans a)
  simp only [if_pos a,if_neg b]
 ·simp only [if_neg a]
theorem rev_ok (g:B.Good):∀ {is:List Nat},(∀ i∈is,ok i=true)->∀ {A:Around}{env:Env}{ρ:RH}{H:AH}{s:Shared}{P:Addr->Prop}{vs:List Value}{Q:RH->AH->Prop},vs.length=is.length->(∀ i,ok i=true->StoreOk B env P i)->FrOK B env ρ H s.heap->Own B env P H s.heap->Ok B H s->
  Q (updRs ρ is (vs.map strip)) H->wpAny B.M A (assignInOrder (is.map fun i=>bindName env (B.nm i)) vs) (fun _ s'=>∃ ρ' H',Ok B H' s'∧ExtP P H s.heap H' s'.heap∧FrOK B env ρ' H' s'.heap∧Own B env P H' s'.heap∧Q ρ' H') NoE s:=by
 intro is
 induction is with
 | nil=>
  intro _ A env ρ H s P vs Q hl hst F O k q
  induction vs using List.casesOn with
  | nil=>exact wpAny_pure (xI2 ρ H (aI5 k .refl F O q))
  | cons _ _=>simp at hl
 | cons i is ih=>
  intro hok A env ρ H s P vs Q hl hst F O k q
  induction vs using List.casesOn with
  | nil=>simp at hl
  | cons v vs=>
   rw[Z7]
   unfold assignInOrder
   refine wpAny_bind (wpAny_holding (wpAny_bindName (store_var g k F O (hst i (hok i (.head _))) fun s1 k1 x1 F1 O1=>?_)))
   exact wpAny_mono (ih (fun j hj=>hok j (.tail _ hj)) (by simpa using hl) hst F1 O1 k1 (by rw[Z7] at q;exact q)) (fun _ s2 q3_=>xE2 q3_ fun ρ2 H2 n301_=>aE5 n301_ fun k2 x2 F2 O2 q2=>(xI2 ρ2 H2 (aI5 k2 (x1.trans x2) F2 O2 q2))) fun _ _ e=>e
theorem wpAs_names {S:Sig}:∀ {is:List Nat}{vs:List MV}{ρ:RH}{H:AH}{Q:RH->AH->Prop},wpAs S (is.map MT.name) vs ρ H Q->vs.length=is.length∧Q (updRs ρ is vs) H
 | [],[],_,_,_,h=>⟨rfl,h⟩
 | [],_::_,_,_,_,h=>False.elim h
 | _::_,[],_,_,_,h=>False.elim h
 | i::is,v::vs,ρ,H,Q,h=>
  aE2 (wpAs_names (is:=is) (vs:=vs) h) fun a b=>⟨congrArg (· + 1) a,b⟩
theorem updRs_out {i:Nat}{v:MV}:∀ {is:List Nat}{xs:List MV}{ρ:RH},i∉is->updRs (updR ρ i v) is xs=updR (updRs ρ is xs) i v
 | [],_,_,_=>rfl
 | _::_,[],_,_=>rfl
 | j::is,x::xs,ρ,h=>by
  show updRs (updR (updR ρ i v) j x) is xs=_
  rw[updR_comm (i:=i) (j:=j) fun z=>by subst z;exact h (.head _)]
  exact updRs_out fun z=>h (.tail _ z)
theorem updRs_end {i:Nat}{v:MV}:∀ {is:List Nat}{xs:List MV}{ρ:RH},xs.length=is.length->updRs ρ (is++[i]) (xs++[v])=updR (updRs ρ is xs) i v
 | [],[],_,_=>rfl
 | [],_::_,_,h=>nomatch h
 | _::_,[],_,h=>nomatch h
 | j::is,x::xs,ρ,h=>updRs_end (is:=is) (xs:=xs) (ρ:=updR ρ j x) (Nat.succ.inj h)
theorem updRs_rev:∀ {is:List Nat}{xs:List MV}{ρ:RH},is.Nodup->xs.length=is.length->updRs ρ is.reverse xs.reverse=updRs ρ is xs
 | [],[],_,_,_=>rfl
 | [],_::_,_,_,h=>nomatch h
 | _::_,[],_,_,h=>nomatch h
 | i::is,x::xs,ρ,hn,h=>by
  have hn:=Yc.mp hn
  rw[Xu,Xu,updRs_end (by rw[X4,X4];exact Nat.succ.inj h),updRs_rev hn.2 (Nat.succ.inj h)]
  exact (updRs_out hn.1).symm
theorem ex_asgW (g:B.Good) {is:List Nat}{rts:List Expr}{e:ME}{r:Expr}{n:Nat}{pt p:Pos}(he:EvOK B T d kd e r) (hok:∀ i∈is,ok i=true) (hnd:is.Nodup)
  (hs:∀ (env:Env),swapsWithSole [.Tuple rts n pt] r p.line env=pure false)
  (hw:∀ env:Env,env.scope.kind=.function->(∀ x,env.kindOf x=kd x)->swappedStores [.Tuple rts n pt] r env=pure (some (is.map B.nm))):ExOK B T d kd ok (.asgT (is.map MT.name) e) (.Assign [.Tuple rts n pt] r p):=by
 intro A env ρ H s P Q rm hk hst F O k h
 replace h:=xAsgT h
 refine Assign_Tuple_swapped ((he A env ρ H s _ rm hk F k h).then_ fun v H1 s1 k1 x1 q4_=>xE2 q4_ fun a xs n401_=>aE4 n401_ fun e1 e2 e3 q=>?_) (hs env) (hw env F.kind hk)
 have:=strip_ref e1;subst this
 refine hide fun R done=>?_
 refine xE1 (tup_items k1 e2) fun items t7_0=>aE2 t7_0 fun ht hm=>?_
 have hl:items.size=xs.length:=by rw[← Z6];exact map_len hm
 refine aE2 (wpAs_names q) fun hvl q=>?_
 refine done ?_
 rw[Zc,show is.length=items.size by rw[hl,hvl]]
 refine PySem.wpAny_unpackItems_tuple rm.1 ht fun h' eb=>?_
 refine aE2 (k1.extBut (t:=s1.toks) eb) fun k2 x2=>?_
 have e4:((is.map B.nm).reverse.map fun n=>bindName env n)=is.reverse.map fun i=>bindName env (B.nm i):=by rw[← W6,Y0];rfl
 rw[e4]
 refine wpAny_mono (rev_ok g (is:=is.reverse) (fun i hi=>hok i (X3.mp hi)) (vs:=items.toList.reverse) (Q:=fun ρ' H'=>Q .next ρ' H') (by rw[X4,X4,Z6,hl,hvl]) hst ((F.ext x1).ext x2) ((O.ext x1).ext x2) k2 ?_) (fun _ s3 q5_=>xE2 q5_ fun ρ' H3 n501_=>aE5 n501_ fun k3 x3 F3 O3 q3=>⟨.next,ρ',H3,trivial,k3,(x1.trans x2).toP.trans x3,F3,O3,q3⟩) fun _ _ e=>e
 rw[W6,hm]
 rw[updRs_rev hnd hvl];exact q
theorem ex_if {t:ME}{a b:MSs}{rt:Expr}{ra rb:List Stmt}{p:Pos}(ht:TrOK B T d kd t rt) (ha:ExsOK B T d kd ok a ra) (hb:ExsOK B T d kd ok b rb):ExOK B T d kd ok (.ifS t a b) (.If rt ra rb p):=by
 intro A env ρ H s P Q rm hk hst F O k h
 replace h:=xIfS h
 refine wpAny_If ((ht A env ρ H s (fun c H'=>if c=true then wpL (sig B T d) a ρ H' Q else wpL (sig B T d) b ρ H' Q) rm hk F k h).then_ fun c H1 s1 k1 x1 q=>?_)
 induction c using Bool.casesOn with
 | true=>exact wpAny_mono (ha A env ρ H1 s1 P Q rm hk hst (F.ext x1) (O.ext x1) k1 q) (fun f s' e=>e.after x1.toP) fun _ _ e=>e
 | false=>exact wpAny_mono (hb A env ρ H1 s1 P Q rm hk hst (F.ext x1) (O.ext x1) k1 q) (fun f s' e=>e.after x1.toP) fun _ _ e=>e
theorem exs_nil:ExsOK B T d kd ok .nil []:=by
 intro A env ρ H s P Q rm hk hst F O k h
 replace h:=lNil h
 exact wpAny_execs_nil ⟨.next,ρ,H,trivial,k,.refl,F,O,h⟩
theorem exs_cons {st:MS}{r:MSs}{rs:Stmt}{rr:List Stmt}(hs:ExOK B T d kd ok st rs) (hr:ExsOK B T d kd ok r rr):ExsOK B T d kd ok (.cons st r) (rs::rr):=by
 intro A env ρ H s P Q rm hk hst F O k h
 replace h:=lCons h
 refine wpAny_execs_cons (wpAny_mono (hs A env ρ H s P _ rm hk hst F O k h) (fun f s1 pp2=>?_) fun _ _ e=>e)
 refine hide fun R done=>?_
 obtain ⟨fl,ρ1,H1,hf,k1,x1,F1,O1,q⟩:=pp2
 refine done ?_
 induction fl using Mine.Fl.casesOn with
 | next=>
  induction f using PySem.Flow.casesOn with
  | next=>exact wpAny_mono (hr A env ρ1 H1 s1 P Q rm hk hst F1 O1 k1 q) (fun f s' e=>e.after x1) fun _ _ e=>e
  | _=>exact hf.elim
 | brk=>induction f using PySem.Flow.casesOn with
  | brk=>exact⟨.brk,ρ1,H1,trivial,k1,x1,F1,O1,q⟩
  | _=>exact hf.elim
 | cont=>induction f using PySem.Flow.casesOn with
  | cont=>exact⟨.cont,ρ1,H1,trivial,k1,x1,F1,O1,q⟩
  | _=>exact hf.elim
 | ret v=>induction f using PySem.Flow.casesOn with
  | ret x=>exact⟨.ret v,ρ1,H1,hf,k1,x1,F1,O1,q⟩
  | _=>exact hf.elim
theorem ex_ret {e:ME}{r:Expr}{p:Pos}(he:EvOK B T d kd e r):ExOK B T d kd ok (.ret e) (.Return (some r) p):=by
 intro A env ρ H s P Q rm hk hst F O k h
 replace h:=xRet h
 exact wpAny_Return_some ((he A env ρ H s _ rm hk F k h).then_ fun v H1 s1 k1 x1 q=>⟨.ret (strip v),ρ,H1,rfl,k1,x1.toP,F.ext x1,O.ext x1,q⟩)
theorem ex_retN {p:Pos}:ExOK B T d kd ok .retN (.Return none p):=by
 intro A env ρ H s P Q rm hk hst F O k h
 replace h:=xRetN h
 exact wpAny_Return_none ⟨.ret .none,ρ,H,rfl,k,.refl,F,O,h⟩
theorem ex_brk {p:Pos}:ExOK B T d kd ok .brk (.Break p):=by
 intro A env ρ H s P Q rm hk hst F O k h
 replace h:=xBrk h
 exact wpAny_Break ⟨.brk,ρ,H,trivial,k,.refl,F,O,h⟩
theorem ex_cont {p:Pos}:ExOK B T d kd ok .cont (.Continue p):=by
 intro A env ρ H s P Q rm hk hst F O k h
 replace h:=xCont h
 exact wpAny_Continue ⟨.cont,ρ,H,trivial,k,.refl,F,O,h⟩
theorem ex_dead {r:Stmt}:ExOK B T d kd ok .dead r:=by
 intro A env ρ H s P Q rm hk hst F O k h
 exact False.elim h
theorem ex_while {t:ME}{b:MSs}{rt:Expr}{rb:List Stmt}{p:Pos}(ht:TrOK B T d kd t rt) (hb:ExsOK B T d kd ok b rb):ExOK B T d kd ok (.whileS t b) (.While rt rb [] p):=by
 intro A env ρ H s P Q rm hk hst F O k h
 replace h:=xWhileS h
 refine hide fun R done=>?_
 obtain ⟨I,⟨n,h0⟩,step⟩:=h
 refine done ?_
 refine wpAny_While (codeAny_whileLoop (fun n s'=>∃ ρ' H',I n ρ' H'∧Ok B H' s'∧ExtP P H s.heap H' s'.heap∧FrOK B env ρ' H' s'.heap∧Own B env P H' s'.heap) (fun n s1 pp2=>?_) n (xI2 ρ H (aI5 h0 k .refl F O)))
 refine hide fun R done=>?_
 obtain ⟨ρ1,H1,hI,k1,x1,F1,O1⟩:=pp2
 refine done ?_
 refine (ht A env ρ1 H1 s1 (fun c H'=>if c=true then wpL (sig B T d) b ρ1 H' fun fl ρ H=>match fl with
    | .next | .cont=>∃ m,m<n∧I m ρ H
    | .brk=>Q .next ρ H
    | .ret v=>Q (.ret v) ρ H
   else Q .next ρ1 H') rm hk F1 k1 (step n ρ1 H1 hI)).then_ fun c H2 s2 k2 x2 q=>?_
 induction c using Bool.casesOn with
 | false=>exact wpAny_execs_nil ⟨.next,ρ1,H2,trivial,k2,x1.trans x2.toP,F1.ext x2,O1.ext x2,q⟩
 | true=>
  refine wpAny_mono (hb A env ρ1 H2 s2 P _ rm hk hst (F1.ext x2) (O1.ext x2) k2 q) (fun f s3 pp2=>pp2.cs fun ρ3 H3 k3 x3 F3 O3=>?_) fun _ _ e=>e.elim
  have x13:=(x1.trans x2.toP).trans x3
  refine aI4 (fun z=>?_) (fun z=>?_) (fun z=>?_) fun v x e e2 q3=>?_
  ·rw[z.1];exact Exists.elim z.2 fun m hm=>⟨m,hm.1,xI2 ρ3 H3 (aI5 hm.2 k3 x13 F3 O3)⟩
  ·rw[z.1];exact⟨.next,ρ3,H3,trivial,k3,x13,F3,O3,z.2⟩
  ·rw[z.1];exact Exists.elim z.2 fun m hm=>⟨m,hm.1,xI2 ρ3 H3 (aI5 hm.2 k3 x13 F3 O3)⟩
  ·rw[e];exact⟨.ret v,ρ3,H3,e2,k3,x13,F3,O3,q3⟩
theorem next_L {H:AH}{sr:Src}{i:Nat}(hw:sr.width=1) {o:Option MV}(h:sr.next H i=some o):sr.nextL H i=some (o.map fun v=>[v]):=by
 induction sr using Mine.Src.casesOn with
 | «ints» l=>simp only [Src.next,Option.some.injEq] at h;subst h;simp [Src.nextL,Option.map_map,Function.comp_def]
 | fix xs=>simp only [Src.next,Option.some.injEq] at h;subst h;rfl
 | lst a=>
  simp only [Src.next] at h
  simp only [Src.nextL]
  split at h
  ·have h:=Option.some.inj h;subst h;rfl
  ·exact ncs h
 | enm a=>cases hw
theorem ex_for (g:B.Good) {x:Nat}{src:MR}{b:MSs}{iter:Expr}{rb:List Stmt}{px p:Pos}(hsrc:SrcOK B T d kd 1 src iter) (hx:ok x=true) (hb:ExsOK B T d kd ok b rb)
  (hs:∀ env x,foldedSetIterable iter env x=pure x):ExOK B T d kd ok (.forS x src b) (.For (.Name (B.nm x) px) iter rb [] p):=by
 intro A env ρ H s P Q rm hk hst F O k h
 replace h:=xForS h
 refine wpAny_For ?_ (hs env)
 refine wpAny_mono (hsrc A env ρ H s _ P rm hk F k (fun b hb=>let ⟨a1,_,a3⟩:=O.priv b hb;⟨a1,a3⟩) h
  (fun it s₂=>codeAny B.M A (.forLoop (.Name (B.nm x) px) it rb [] env) (fun r s'=>match r with | .ok f=>ExRes B env P H s.heap Q f s' | .error e=>cameBackBy B.M A env NoE e s') s₂) ?_)
  (fun v s1 h1=>h1) fun _ _ e=>e
 intro sr I S H2 s2 k2 x2 J2 hS hw ⟨Iv,N,h0,step⟩
 have stillX:∀ {H5 h5 h'},ExtP P H s.heap H5 h5->Still P S H5 h5 h'->ExtP P H s.heap H5 h':=fun x5 st b o np m e=>by
  refine hide fun R done=>?_
  obtain ⟨y1,y2,y3⟩:=x5 b o np m e
  refine done ?_
  exact (aI3 (st b o np (hS b o m e) y2 y1) y2 y3)
 refine codeAny_forLoop_any (fun n s'=>∃ i ρ' H',n=N+1 - i∧Iv i ρ' H'∧Ok B H' s'∧ExtP P H s.heap H' s'.heap∧IterAt B (fun _=>False) P H' s'.heap sr i I S∧FrOK B env ρ' H' s'.heap∧Own B env P H' s'.heap) (fun n s5 hinv=>?_) (N+1)
  (xI3 0 ρ H2 (aI7 rfl h0 k2 x2.toP J2 (F.ext x2) (O.ext x2)))
 refine xE3 hinv fun i ρ5 H5 h=>aE7 h fun en hI k5 x5 J5 F5 O5=>aE2 (step i ρ5 H5 hI) fun hiN hm=>optE (sr.next H5 i) (fun hnx=>by rw[hnx] at hm;exact hm.elim) fun o hnx=>?_
 rw[en]
 rw[hnx] at hm
 refine it_turn (ts:=[x]) (N:=fun s₁=>wpAny B.M A (execs [] env) (fun f s₃=>ExRes B env P H s.heap Q f s₃) _ s₁) (G:=fun s₂=>_) g rm.1 k5 J5 F5 O5 .one (by rw[hw];rfl) (fun t ht=>by rw[Zl.mp ht];exact hst x hx) (next_L hw hnx) (fun ho h' k6 st F6 O6=>?_) fun vs ho s6 k6 st F6 O6 J6=>?_
 ·induction o using Option.casesOn with
  | some _=>cases ho
  | none=>exact wpAny_execs_nil ⟨.next,ρ5,H5,trivial,k6,stillX x5 st,F6,O6,hm⟩
 ·induction o using Option.casesOn with
  | none=>cases ho
  | some v=>
   rw[← Option.some.inj ho] at F6
   refine wpAny_mono (hb A env (updR ρ5 x v) H5 s6 P _ rm hk hst F6 O6 k6 hm) (fun f s7 pp2=>pp2.cs fun ρ7 H7 k7 x7 F7 O7=>?_) fun _ _ e=>e.elim
   have x57:=(stillX x5 st).trans x7
   have go:Iv (i+1) ρ7 H7->∃ m,m<N+1 - i∧∃ i ρ' H',m=N+1 - i∧Iv i ρ' H'∧Ok B H' s7∧ExtP P H s.heap H' s7.heap∧IterAt B (fun _=>False) P H' s7.heap sr i I S∧FrOK B env ρ' H' s7.heap∧Own B env P H' s7.heap:=
    fun q7=>⟨N+1 - (i+1),by omega,xI3 (i+1) ρ7 H7 (aI7 rfl q7 k7 x57 (J6.ext x7) F7 O7)⟩
   refine aI4 (fun z=>?_) (fun z=>?_) (fun z=>?_) fun v x e e2 q3=>?_
   ·rw[z.1];exact go z.2
   ·rw[z.1];exact⟨.next,ρ7,H7,trivial,k7,x57,F7,O7,z.2⟩
   ·rw[z.1];exact go z.2
   ·rw[e];exact⟨.ret v,ρ7,H7,e2,k7,x57,F7,O7,q3⟩
end
noncomputable def KasOK (lt:Nat->Nat->Bool) (n:Nat) {α:Type}:KasT α->(α->Prop)->Prop
 | .ret a,Q=>Q a
 | .ask i j k,Q=>i<n∧j<n∧KasOK lt n (k (lt i j)) Q
theorem KasOK.bind {lt:Nat->Nat->Bool}{n:Nat}{α β:Type}{f:α->KasT β}{Q:β->Prop}:∀ (t:KasT α),KasOK lt n t (fun a=>KasOK lt n (f a) Q)->KasOK lt n (t.bind f) Q
 | .ret a,h=>h
 | .ask i j k,h=>⟨h.1,h.2.1,KasOK.bind (k (lt i j)) h.2.2⟩
theorem KasOK.mono {lt:Nat->Nat->Bool}{n:Nat}{α:Type}{Q Q':α->Prop}(hQ:∀ a,Q a->Q' a):∀ (t:KasT α),KasOK lt n t Q->KasOK lt n t Q'
 | .ret a,h=>hQ a h
 | .ask i j k,h=>⟨h.1,h.2.1,KasOK.mono hQ (k (lt i j)) h.2.2⟩
structure Weak (lt:Nat->Nat->Bool):Prop where
 asym:∀ a b,lt a b=true->lt b a=false
 ntr:∀ a b c,lt b a=false->lt c b=false->lt c a=false
section
variable {lt:Nat->Nat->Bool}{n:Nat}
theorem Weak.irr (w:Weak lt) (a:Nat):lt a a=false:=by
 induction h:lt a a using Bool.casesOn with
 | false=>rfl
 | true=>exact (w.asym a a h)▸h.symm▸rfl
noncomputable def gt (p:Array Nat) (i:Nat):Nat:=p.getD i 0
noncomputable def RngOK (n:Nat) (p:Array Nat):Prop:=p.toList.Perm (List.range n)
theorem RngOK.size {p:Array Nat}(h:RngOK n p):p.size=n:=by
 have:=h.length_eq
 simpa using this
theorem RngOK.bd {p:Array Nat}(h:RngOK n p) {i:Nat}(hi:i<n):gt p i<n:=by
 have hs:=h.size
 have hi':i<p.size:=by lia
 have e:gt p i=p[i]:=by simp [gt,Array.getD,hi']
 have hm:p[i]∈p.toList:=by simp
 rw[e]
 exact Yp.mp (h.mem_iff.mp hm)
theorem gt_of {p q:Array Nat}{i j:Nat}(h:p[i]?=q[j]?):gt p i=gt q j:=by
 unfold gt
 rw[Array.getD_eq_getD_getElem?,Array.getD_eq_getD_getElem?,h]
theorem RngOK.rev {p:Array Nat}(h:RngOK n p) (i j:Nat):RngOK n (kas_rev p i j):=
 (Array.perm_iff_toList_perm.mp (mirror_perm p i j _)).trans h
theorem RngOK.bub {p:Array Nat}(h:RngOK n p) (i j:Nat):RngOK n (bubble p i j):=
 (Array.perm_iff_toList_perm.mp (bubble_perm p i j)).trans h
noncomputable def le (lt:Nat->Nat->Bool) (x y:Nat):Prop:=lt y x=false
theorem Weak.trans (w:Weak lt) {a b c:Nat}(h1:le lt a b) (h2:le lt b c):le lt a c:=w.ntr a b c h1 h2
theorem Weak.refl (w:Weak lt) (a:Nat):le lt a a:=w.irr a
theorem Weak.of_lt (w:Weak lt) {a b:Nat}(h:lt a b=true):le lt a b:=w.asym a b h
noncomputable def Up (lt:Nat->Nat->Bool) (p:Array Nat) (m:Nat):Prop:=∀ i j,i≤j->j<m->le lt (gt p i) (gt p j)
noncomputable def Down (lt:Nat->Nat->Bool) (p:Array Nat) (m:Nat):Prop:=∀ i j,i≤j->j<m->le lt (gt p j) (gt p i)
noncomputable def Same (lt:Nat->Nat->Bool) (p:Array Nat) (a b:Nat):Prop:=∀ i j,a≤i->i<b->a≤j->j<b->le lt (gt p i) (gt p j)
theorem Up.step (w:Weak lt) {p:Array Nat}{m:Nat}(h:Up lt p m) (h1:le lt (gt p (m - 1)) (gt p m)):Up lt p (m+1):=by
 intro i j hij hj
 by_cases e:j=m
 ·subst e
  by_cases e2:i=j
  ·subst e2;exact w.refl _
  ·exact w.trans (h i (j - 1) (Xf (Xr hij e2)) (Xe (Xr hij e2))) h1
 ·exact h i j hij (by lia)
theorem Down.step (w:Weak lt) {p:Array Nat}{m:Nat}(h:Down lt p m) (h1:le lt (gt p m) (gt p (m - 1))):Down lt p (m+1):=by
 intro i j hij hj
 by_cases e:j=m
 ·subst e
  by_cases e2:i=j
  ·subst e2;exact w.refl _
  ·exact w.trans h1 (h i (j - 1) (Xf (Xr hij e2)) (Xe (Xr hij e2)))
 ·exact h i j hij (by lia)
theorem asc_ok (w:Weak lt) {p:Array Nat}(hp:RngOK n p) {M:Nat}(hM:M≤n):∀ (f m:Nat),1≤m->m+f=M->Up lt p m->KasOK lt n (kas_asc p f m) fun m'=>1≤m'∧m'≤M∧Up lt p m':=by
 intro f
 induction f with
 | zero=>exact fun m h1 hn h=>⟨h1,Y9 hn,h⟩
 | succ f ih=>
  intro m h1 hn h
  have hm:m<M:=hn▸Xm (Xl f)
  have hmn:=Zv hm hM
  refine⟨hp.bd hmn,hp.bd (Ze (Xi _ _) hmn),boolE (lt (p.getD m 0) (p.getD (m - 1) 0)) (fun hc=>?_) fun hc=>?_⟩
  ·rw[hc];exact⟨h1,Yl hm,h⟩
  ·rw[hc];exact ih (m+1) (Xl _) ((Xh m f).trans hn) (h.step w hc)
theorem gt_rev {p:Array Nat}{i j:Nat}(hj:j≤p.size) (k:Nat):gt (kas_rev p i j) k=if i≤k∧k<j then gt p (i+j - 1 - k) else gt p k:=by
 have h:=getElem?_mirror_all hj k (i:=i)
 unfold kas_rev
 split
 ·rename_i q;rw[if_pos q] at h;exact gt_of h
 ·rename_i q;rw[if_neg q] at h;exact gt_of h
theorem Down.rev_same (w:Weak lt) {p:Array Nat}{i j m:Nat}(hj:j≤p.size) (h:Down lt p m) (hs:Same lt p i j):Down lt (kas_rev p i j) m:=by
 intro a b hab hb
 have eqv:∀ k,le lt (gt (kas_rev p i j) k) (gt p k)∧le lt (gt p k) (gt (kas_rev p i j) k):=by
  intro k
  rw[gt_rev hj]
  split
  ·rename_i q
   exact aE2 (lo1 q) fun q1 q2=>⟨hs _ _ q1 q2 q.1 q.2,hs _ _ q.1 q.2 q1 q2⟩
  ·exact⟨w.refl _,w.refl _⟩
 exact w.trans (eqv b).1 (w.trans (h a b hab hb) (eqv a).2)
theorem Same.one (w:Weak lt) (p:Array Nat) (m:Nat):Same lt p (m+1 - (0+1)) (m+1):=fun i j a b c d=>by
 rw[Yq (Yt b) a,Yq (Yt d) c];exact w.refl _
theorem desc_ok (w:Weak lt) {M:Nat}(hM:M≤n):∀ (f:Nat) (p:Array Nat) (m q:Nat),RngOK n p->q+1≤m->m+f=M->Down lt p m->Same lt p (m - (q+1)) m->
  KasOK lt n (kas_desc f p m q) fun r=>RngOK n r.1∧r.2.2+1≤r.2.1∧r.2.1≤M∧Down lt r.1 r.2.1∧Same lt r.1 (r.2.1 - (r.2.2+1)) r.2.1:=by
 intro f
 induction f with
 | zero=>exact fun p m q hp hq hn hd hs=>⟨hp,hq,Y9 hn,hd,hs⟩
 | succ f ih=>
  intro p m q hp hq hn hd hs
  have hmM:m<M:=hn▸Xm (Xl f)
  have hm:=Zv hmM hM
  have h1:m - 1<m:=Wy (Zv (Xl q) hq) Wr
  have h0:m - (q+1)≤m - 1:=Wq (Ye (Z2 q)) m
  have hn':m+1+f=M:=(Xh m f).trans hn
  have b2:=hp.bd (Ya h1 hm)
  have hms:m≤p.size:=by rw[hp.size];exact Yl hm
  have key:∀ i,m - (q+1)≤i->i<m->le lt (gt p (m - 1)) (gt p i)∧le lt (gt p i) (gt p (m - 1)):=fun i a b=>⟨hs _ _ h0 h1 a b,hs _ _ a b h0 h1⟩
  refine⟨hp.bd hm,b2,boolE (lt (p.getD m 0) (p.getD (m - 1) 0)) (fun hc=>?_) fun hc=>?_⟩
  ·rw[hc]
   have hle:le lt (gt p m) (gt p (m - 1)):=w.of_lt hc
   show KasOK lt n (if q > 0 then _ else _) _
   by_cases h0':q > 0
   ·rw[if_pos h0']
    have hle':le lt (gt (kas_rev p (m - (q+1)) m) m) (gt (kas_rev p (m - (q+1)) m) (m - 1)):=by
     rw[gt_rev hms,gt_rev hms,if_neg (fun z=>Y2 _ z.2),if_pos ⟨h0,h1⟩]
     exact w.trans hle (key _ ((lo1 ⟨h0,h1⟩).1) ((lo1 ⟨h0,h1⟩).2)).1
    exact ih _ (m+1) 0 (hp.rev _ _) (Ye (Z2 m)) hn' ((hd.rev_same w hms hs).step w hle') (.one w _ m)
   ·rw[if_neg h0']
    exact ih p (m+1) 0 hp (Ye (Z2 m)) hn' (hd.step w hle) (.one w _ m)
  ·rw[hc]
   refine⟨b2,hp.bd hm,boolE (lt (p.getD (m - 1) 0) (p.getD m 0)) (fun hd2=>?_) fun hd2=>?_⟩
   ·rw[hd2];exact⟨hp,hq,Yl hmM,hd,hs⟩
   ·rw[hd2]
    have k1:le lt (gt p (m - 1)) (gt p m):=hc
    have k2:le lt (gt p m) (gt p (m - 1)):=hd2
    refine ih p (m+1) (q+1) hp (Ye hq) hn' (hd.step w k2) fun i j a b c d=>?_
    rw[Nat.add_sub_add_right] at a c
    have at_:∀ i,m - (q+1)≤i->i<m+1->le lt (gt p (m - 1)) (gt p i)∧le lt (gt p i) (gt p (m - 1)):=fun i a b=>
     (Nat.lt_succ_iff_lt_or_eq.mp b).elim (key i a) fun e=>by rw[e];exact⟨k1,k2⟩
    exact w.trans (at_ i a b).2 (at_ j c d).1
theorem tail3_ok (w:Weak lt) {p:Array Nat}{m:Nat}(hp:RngOK n p) (h1:1≤m) (hm:m≤n) (hd:Down lt p m):KasOK lt n (kas_tail3 m n p) fun r=>1≤r.1∧r.1≤n∧RngOK n r.2∧Up lt r.2 r.1:=by
 have hms:m≤p.size:=by rw[hp.size];exact hm
 unfold kas_tail3
 refine KasOK.bind _ (KasOK.mono (fun m' h=>⟨h.1,h.2.1,hp.rev _ _,h.2.2⟩) _ (asc_ok w (hp.rev 0 m) (Zk n) (n - m) m h1 (Nat.add_sub_cancel' hm) fun i j hij hj=>?_))
 rw[gt_rev hms,gt_rev hms,if_pos ⟨Z2 _,Ze hij hj⟩,if_pos ⟨Z2 _,hj⟩]
 exact hd _ _ (Wq hij _) (z1 h1)
theorem descPart_ok (w:Weak lt) {p:Array Nat}{m:Nat}(hp:RngOK n p) (h1:1≤m) (hm:m<n) (hd:Down lt p (m+1)):KasOK lt n (kas_descPart m n p) fun r=>1≤r.1∧r.1≤n∧RngOK n r.2∧Up lt r.2 r.1:=by
 unfold kas_descPart
 refine KasOK.bind _ (KasOK.mono (fun r h=>aE5 h fun a b c d e=>?_) _ (desc_ok w (Zk n) (n - (m+1)) p (m+1) 0 hp (Ye (Z2 m)) (Nat.add_sub_cancel' hm) hd (.one w p m)))
 have h1':=Zf (Ye (Z2 _)) b
 split
 ·exact tail3_ok w (a.rev _ _) h1' c (d.rev_same w (by rw[a.size];exact c) e)
 ·exact tail3_ok w a h1' c d
theorem asc_stop (w:Weak lt) {p:Array Nat}(hp:RngOK n p):∀ (f m:Nat),1≤m->m+f=n->Up lt p m->KasOK lt n (kas_asc p f m) fun m'=>1≤m'∧m'≤n∧Up lt p m'∧(m'<n->lt (gt p m') (gt p (m' - 1))=true):=by
 intro f
 induction f with
 | zero=>exact fun m h1 hn h=>⟨h1,Y9 hn,h,fun z=>absurd hn (Yd z)⟩
 | succ f ih=>
  intro m h1 hn h
  have hmn:m<n:=hn▸Xm (Xl f)
  refine⟨hp.bd hmn,hp.bd (Ze (Xi _ _) hmn),boolE (lt (p.getD m 0) (p.getD (m - 1) 0)) (fun hc=>?_) fun hc=>?_⟩
  ·rw[hc];exact⟨h1,Yl hmn,h,fun _=>hc⟩
  ·rw[hc];exact ih (m+1) (Xl _) ((Xh m f).trans hn) (h.step w hc)
theorem count_ok (w:Weak lt) {p:Array Nat}(hp:RngOK n p) (hn:1≤n):KasOK lt n (kas_count n p) fun r=>1≤r.1∧r.1≤n∧RngOK n r.2∧Up lt r.2 r.1:=by
 have hsz:=hp.size
 unfold kas_count
 have hone:Up lt p 1:=fun i j hij hj=>by
  have ei:i=0:=by lia
  have ej:j=0:=by lia
  subst ei ej;exact w.refl _
 have h:=asc_stop w hp (n - 1) 1 (Zk _) (W0 hn) hone
 refine KasOK.bind _ (KasOK.mono (fun m pp1=>?_) _ h)
 obtain ⟨a,b,c,d⟩:=pp1
 ·split
  ·exact⟨a,b,hp,c⟩
  ·rename_i hne
   have hlt:m<n:=by
    have:m≠n:=fun z=>hne (by rw[z];exact beq_self_eq_true _)
    lia
   split
   ·refine⟨hp.bd hn,hp.bd (Ze (Xi _ _) hlt),?_⟩
    cases hc:lt (p.getD 0 0) (p.getD (m - 1) 0) with
    | true=>simp only [if_true];exact⟨a,b,hp,c⟩
    | false=>
     simp only [Yo,if_false]
     have eqv:∀ i j,i<m->j<m->le lt (gt p i) (gt p j):=fun i j hi hj=>w.trans (c i (m - 1) (Xf hi) (Xe a)) (w.trans hc (c 0 j (by lia) hj))
     refine descPart_ok w (hp.rev _ _) a hlt (Down.step w (fun i j hij hj=>?_) ?_)
     ·rw[gt_rev (by lia),gt_rev (by lia),if_pos (by lia),if_pos (⟨Z2 _,Ze hij hj⟩)]
      exact eqv _ _ (z1 a) (z1 a)
     ·rw[gt_rev (by lia),gt_rev (by lia),if_neg (by lia),if_pos (⟨Z2 _,Xe a⟩)]
      exact w.trans (w.of_lt (d hlt)) (eqv _ _ (Xe a) (by lia))
   ·have e1:m=1:=by lia
    subst e1
    refine descPart_ok w hp a hlt (Down.step w (fun i j hij hj=>?_) (w.of_lt (d hlt)))
    have ei:i=0:=by lia
    have ej:j=0:=by lia
    subst ei ej;exact w.refl _
theorem place_ok (w:Weak lt) {p:Array Nat}{k:Nat}(hp:RngOK n p) (hk:k<n) (hu:Up lt p k):∀ (f l r:Nat),l≤r->r≤k->r - l≤f->(∀ i,i<l->le lt (gt p i) (gt p k))->(∀ i,r≤i->i<k->le lt (gt p k) (gt p i))->
  KasOK lt n (kas_place p k f l r) fun m=>m≤k∧(∀ i,i<m->le lt (gt p i) (gt p k))∧∀ i,m≤i->i<k->le lt (gt p k) (gt p i):=by
 intro f
 induction f with
 | zero=>exact fun l r hl hr hf a b=>⟨Zf hl hr,a,fun i hi hk=>b i (Zf (Nat.le_of_sub_eq_zero (Nat.le_zero.mp hf)) hi) hk⟩
 | succ f ih=>
  intro l r hl hr hf a b
  unfold kas_place
  split
  ·rename_i h
   exact⟨Zf hl hr,a,fun i hi hk=>b i (Zf h hi) hk⟩
  ·rename_i h
   have q:=mid_ok hf (Wz.mp h)
   generalize (l+r) / 2=m at q
   refine aE4 q fun q1 q2 q3 q4=>?_
   have mk:=Zv q2 hr
   refine⟨hp.bd hk,hp.bd (Ya mk hk),boolE (lt (p.getD k 0) (p.getD m 0)) (fun hc=>?_) fun hc=>?_⟩
   ·rw[hc]
    exact ih l m q1 (Yl mk) q3 a fun i hi hik=>w.trans (w.of_lt hc) (hu _ _ hi hik)
   ·rw[hc]
    exact ih (m+1) r q2 hr q4 (fun i hi=>w.trans (hu i m (Yt hi) mk) hc) b
theorem gt_bub {p:Array Nat}{k d:Nat}(hk:k<p.size) (hd:d≤k) (i:Nat):gt (bubble p k d) i=if i=k - d then gt p k else if k - d<i∧i≤k then gt p (i - 1) else gt p i:=by
 have h:=getElem?_bubble hk d hd i
 split
 ·rename_i q;rw[if_pos q] at h;exact gt_of h
 ·rename_i q
  rw[if_neg q] at h
  split
  ·rename_i q2;rw[if_pos q2] at h;exact gt_of h
  ·rename_i q2;rw[if_neg q2] at h;exact gt_of h
theorem bub_up (w:Weak lt) {p:Array Nat}{k l:Nat}(hk:k<p.size) (a:l≤k) (hu:Up lt p k) (b:∀ i,i<l->le lt (gt p i) (gt p k)) (c:∀ i,l≤i->i<k->le lt (gt p k) (gt p i)):Up lt (bubble p k (k - l)) (k+1):=by
 have v:=fun i=>gt_bub (i:=i) hk (Xi k l)
 rw[Nat.sub_sub_self a] at v
 have v1:∀ {i},i<l->gt (bubble p k (k - l)) i=gt p i:=fun {i} h=>by rw[v,if_neg (Yd h),if_neg fun z=>Nat.lt_asymm h z.1]
 have v2:gt (bubble p k (k - l)) l=gt p k:=by rw[v,if_pos rfl]
 have v3:∀ {i},l<i->i≤k->gt (bubble p k (k - l)) i=gt p (i - 1):=fun {i} h z=>by rw[v,if_neg (Y5 h),if_pos ⟨h,z⟩]
 have pr:∀ {j},l<j->j≤k->j - 1<k:=fun h z=>Zv (Wy (Ze (Z2 _) h) Wr) z
 intro i j hij hj
 have hj:=Yt hj
 rcases We i l with i1 | i1 | i1
 ·rw[v1 i1]
  rcases We j l with j1 | j1 | j1
  ·rw[v1 j1];exact hu i j hij (Zv j1 a)
  ·rw[j1,v2];exact b i i1
  ·rw[v3 j1 hj];exact hu i (j - 1) (Xf (Ya i1 j1)) (pr j1 hj)
 ·rw[i1,v2]
  rcases Nat.lt_or_eq_of_le (i1▸hij:l≤j) with j1 | j1
  ·rw[v3 j1 hj];exact c _ (Xf j1) (pr j1 hj)
  ·rw[← j1,v2];exact w.refl _
 ·have j1:=Zv i1 hij
  rw[v3 i1 (Zf hij hj),v3 j1 hj]
  exact hu _ _ (Nat.sub_le_sub_right hij 1) (pr j1 hj)
theorem bin_ok' (w:Weak lt):∀ (f:Nat) (p:Array Nat) (k:Nat),RngOK n p->k+f=n->Up lt p k->KasOK lt n (kas_bin f p k) fun p'=>RngOK n p'∧Up lt p' n:=by
 intro f
 induction f with
 | zero=>exact fun p k hp hk hu=>⟨hp,hk▸hu⟩
 | succ f ih=>
  intro p k hp hk hu
  have hkn:k<n:=hk▸Xm (Xl f)
  exact KasOK.bind _ (KasOK.mono (fun l h=>ih _ (k+1) (hp.bub _ _) ((Xh k f).trans hk) (bub_up w (hp.size.symm▸hkn) h.1 hu h.2.1 h.2.2)) _
   (place_ok w hp hkn hu k 0 k (Z2 _) (Zk _) (Zk _) (fun i hi=>absurd hi (Va i)) fun i hi hk=>absurd hk (Yj.mpr hi)))
theorem rng_ok:RngOK n (Wi (List.range n)):=by unfold RngOK;simp
theorem asc_flat {p:Array Nat}(hp:RngOK n p) (hf:∀ i j,i<n->j<n->lt i j=false):∀ (f m:Nat),m+f=n->KasOK lt n (kas_asc p f m) fun m'=>m'=n:=by
 intro f
 induction f with
 | zero=>exact fun m h=>h
 | succ f ih=>
  intro m h
  have hm:m<n:=h▸Xm (Xl f)
  have b1:=hp.bd hm
  have b2:=hp.bd (Ze (Xi m 1) hm)
  refine⟨b1,b2,?_⟩
  rw[show lt (p.getD m 0) (p.getD (m - 1) 0)=false from hf _ _ b1 b2]
  exact ih (m+1) ((Xh m f).trans h)
theorem KasOK.and {α:Type}{Q Q':α->Prop}:∀ (t:KasT α),KasOK lt n t Q->KasOK lt n t Q'->KasOK lt n t fun a=>Q a∧Q' a
 | .ret a,h,h'=>⟨h,h'⟩
 | .ask i j k,h,h'=>⟨h.1,h.2.1,KasOK.and (k (lt i j)) h.2.2 h'.2.2⟩
theorem KasOK.pure_imp {α:Type}{P:Prop}{Q:α->Prop} [Decidable P]:∀ (t:KasT α),KasOK lt n t (fun _=>True)->(P->KasOK lt n t Q)->KasOK lt n t fun a=>P->Q a
 | .ret a,_,h=>h
 | .ask i j k,h0,h=>⟨h0.1,h0.2.1,KasOK.pure_imp (k (lt i j)) h0.2.2 fun p=>(h p).2.2⟩
theorem sort_ok (w:Weak lt) (hn:1≤n):KasOK lt n (kas_sort n) fun p=>(RngOK n p∧Up lt p n)∧((∀ i j,i<n->j<n->lt i j=false)->p=Wi (List.range n)):=by
 classical
 have h1:KasOK lt n (kas_sort n) fun p=>RngOK n p∧Up lt p n:=by
  unfold kas_sort
  refine KasOK.bind _ (KasOK.mono (fun r pp1=>?_) _ (count_ok w rng_ok hn))
  obtain ⟨a,b,c,d⟩:=pp1
  split
  ·have e:max r.1 1=r.1:=by lia
   rw[e]
   exact bin_ok' w _ _ _ c (W0 (Yl ‹_›)) d
  ·have e:r.1=n:=by lia
   exact⟨c,by rw[← e];exact d⟩
 refine KasOK.and _ h1 (KasOK.pure_imp _ (KasOK.mono (fun _ _=>trivial) _ h1) fun hf=>?_)
 unfold kas_sort kas_count
 refine KasOK.bind _ (KasOK.bind _ (KasOK.mono (fun m hm=>?_) _ (asc_flat rng_ok hf (n - 1) 1 (W0 hn))))
 subst hm
 rw[if_pos (beq_self_eq_true _)]
 show KasOK lt m (if m<m then _ else KasT.ret _) _
 rw[if_neg (Y2 _)]
 rfl
end
theorem lexLe_total:∀ (a b:List Int),lexLe a b=true∨lexLe b a=true
 | [],_=>.inl (by cases ‹List Int›<;>rfl)
 | _::_,[]=>.inr rfl
 | a::as,b::bs=>by
  unfold lexLe
  by_cases e:a=b
  ·subst e;simp only [beq_self_eq_true,if_true];exact lexLe_total as bs
  ·have e1:(a == b)=false:=beq_eq_false_iff_ne.mpr e
   have e2:(b == a)=false:=beq_eq_false_iff_ne.mpr (Ne.symm e)
   rw[e1,e2]
   simp only [Yo,if_false,decide_eq_true_eq]
   lia
theorem lexLe_trans:∀ (a b c:List Int),lexLe a b=true->lexLe b c=true->lexLe a c=true
 | [],_,c,_,_=>by cases c<;>rfl
 | _::_,[],_,h,_=>by cases h
 | _::_,_::_,[],_,h=>by cases h
 | a::as,b::bs,c::cs,h1,h2=>by
  unfold lexLe at h1 h2 ⊢
  by_cases e1:a=b<;>by_cases e2:b=c
  ·subst e1 e2
   simp only [beq_self_eq_true,if_true] at h1 h2 ⊢
   exact lexLe_trans as bs cs h1 h2
  ·subst e1
   have e3:(a == c)=false:=beq_eq_false_iff_ne.mpr e2
   rw[e3] at h2 ⊢;exact h2
  ·subst e2
   have e3:(a == b)=false:=beq_eq_false_iff_ne.mpr e1
   rw[e3] at h1 ⊢;exact h1
  ·have e3:(a == b)=false:=beq_eq_false_iff_ne.mpr e1
   have e4:(b == c)=false:=beq_eq_false_iff_ne.mpr e2
   rw[e3] at h1
   rw[e4] at h2
   simp only [Yo,if_false,decide_eq_true_eq] at h1 h2
   have e5:(a == c)=false:=beq_eq_false_iff_ne.mpr (by lia)
   rw[e5]
   simp only [Yo,if_false,decide_eq_true_eq]
   exact Int.lt_trans h1 h2
noncomputable def ltOf (kz:List (List Int)) (i j:Nat):Bool:=!lexLe (kz.getD j []) (kz.getD i [])
theorem ltOf_weak (kz:List (List Int)):Weak (ltOf kz):=by
 refine⟨fun a b h=>?_,fun a b c h1 h2=>?_⟩
 ·unfold ltOf at h ⊢
  rcases lexLe_total (kz.getD a []) (kz.getD b []) with q | q
  ·rw[q];rfl
  ·rw[q] at h;cases h
 ·unfold ltOf at h1 h2 ⊢
  simp only [Wx] at h1 h2 ⊢
  exact lexLe_trans _ _ _ h1 h2
theorem zip_getD {α β:Type}{x:α}{y:β}:∀ {as:List α}{bs:List β},as.length=bs.length->as.zip bs=(List.range as.length).map fun i=>(as.getD i x,bs.getD i y)
 | [],[],_=>rfl
 | a::as,b::bs,h=>by
  rw[Xa,Zm,List.range_succ_eq_map,Z7,Y0]
  have ih:=@zip_getD α β x y as bs (by simpa using h)
  rw[ih]
  simp [Function.comp_def]
theorem out_of {rev:Bool}{kz:List (List Int)}{xs:List MV}{p:Array Nat}(hl:kz.length=xs.length) (hp:RngOK xs.length p) (hu:Up (ltOf (katRev rev kz)) p xs.length)
  (hf:(∀ i j,i<xs.length->j<xs.length->ltOf (katRev rev kz) i j=false)->p=Wi (List.range xs.length)) :
  SortOut rev kz xs (katRev rev (p.toList.map fun i=>(katRev rev xs).getD i .none)):=by
 have hl':(katRev rev kz).length=(katRev rev xs).length:=by rw[kat_len,kat_len,hl]
 have hxl:(katRev rev xs).length=xs.length:=kat_len _ _
 have hps:p.size=xs.length:=hp.size
 have permz:(p.toList.map fun i=>((katRev rev kz).getD i [],(katRev rev xs).getD i .none)).Perm (kz.zip xs):=by
  have h1:((katRev rev kz).zip (katRev rev xs)).Perm (kz.zip xs):=by
   induction rev using Bool.casesOn with
   | false=>exact List.Perm.refl _
   | true=>
    show (kz.reverse.zip xs.reverse).Perm _
    have:kz.reverse.zip xs.reverse=(kz.zip xs).reverse:=(List.reverse_zipWith hl).symm
    rw[this];exact List.reverse_perm _
  refine List.Perm.trans ?_ h1
  rw[zip_getD (x:=([]:List Int)) (y:=MV.none) hl',kat_len,hl]
  exact hp.map _
 have pw:(p.toList.map fun i=>((katRev rev kz).getD i [],(katRev rev xs).getD i MV.none)).Pairwise fun a b=>lexLe a.1 b.1=true:=by
  rw[Xv,Yv]
  intro i j hi hj hij
  have hi':i<p.size:=by simpa using hi
  have hj':j<p.size:=by simpa using hj
  have q:=hu i j (Yl hij) (by lia)
  unfold le ltOf at q
  simp only [Wx] at q
  have e1:gt p i=p.toList[i]:=by simp [gt,Array.getD,hi']
  have e2:gt p j=p.toList[j]:=by simp [gt,Array.getD,hj']
  rw[e1,e2] at q
  exact q
 refine⟨?_,fun q0_=>xE1 q0_ fun z hz=>?_⟩
 ·induction rev using Bool.casesOn with
  | false=>exact⟨_,(aI3 permz (by rw[Y0];rfl) pw)⟩
  | true=>
   refine⟨_,(aI3 ((List.reverse_perm _).trans permz) ?_ ?_)⟩
   ·show ((p.toList.map fun i=>xs.reverse.getD i MV.none)).reverse=_
    rw[W6,Y0];rfl
   ·show List.Pairwise (fun a b:List Int × MV=>lexLe b.1 a.1=true) _
    rw[List.pairwise_reverse];exact pw
 ·have hall:∀ i,i<xs.length->(katRev rev kz).getD i []=z:=fun i hi=>by
   have hi2:i<(katRev rev kz).length:=by rw[kat_len,hl];exact hi
   have:(katRev rev kz).getD i []=(katRev rev kz)[i]:=by simp [Zb,hi2]
   rw[this]
   have hm:(katRev rev kz)[i]∈katRev rev kz:=List.getElem_mem _
   refine hz _ ?_
   induction rev using Bool.casesOn with
   | false=>exact hm
   | true=>exact X3.mp hm
  have:=hf fun i j hi hj=>by
   unfold ltOf
   rw[hall i hi,hall j hj]
   rcases lexLe_total z z with q | q<;>rw[q]<;>rfl
  rw[this]
  have e:(List.range xs.length).map (fun i=>(katRev rev xs).getD i MV.none)=katRev rev xs:=by
   apply List.ext_getElem
   ·simp [hxl]
   ·intro i h1 h2
    simp [Zb,h2]
  show katRev rev ((List.range xs.length).map fun i=>(katRev rev xs).getD i MV.none)=xs
  rw[e]
  induction rev using Bool.casesOn with
  | false=>rfl
  | true=>show xs.reverse.reverse=xs;simp
section
variable {B:Base}
noncomputable def KeyV (h:Heap) (v:Value) (z:List Int):Prop:=
 (∃ i t,v=.int i t∧z=[i])∨∃ a o i j t u n,v=.ref a∧h.get? a=some o∧o.cls=.type "tuple"∧o.data=.seq #[.int i t,.int j u] n∧z=[i,j]
theorem keyV_of {H:AH}{s:Shared}(k:Ok B H s) {v:Value}{z:List Int}(h:KeyIs H (strip v) z):KeyV s.heap v z:=by
 rcases h with ⟨i,e1,e2⟩ | ⟨a,i,j,e1,e2,e3⟩
 ·obtain ⟨t,rfl⟩:=strip_int e1
  exact .inl (xI2 i t ⟨rfl,e2⟩)
 ·have:=strip_ref e1;subst this
  refine hide fun R done=>?_
  obtain ⟨items,⟨o,h1,h2,n,h3⟩,h4,_⟩:=k.rep a _ e2
  obtain ⟨u1,u2,q1,q2,q3⟩:=map_cons2 h4
  obtain ⟨t1,rfl⟩:=strip_int q2
  obtain ⟨t2,rfl⟩:=strip_int q3
  obtain rfl:items = #[.int i t1,.int j t2]:=by rw[← Xg (xs:=items),q1]
  refine done ?_
  exact .inr (xI7 a o i j t1 t2 n (aI5 rfl h1 h2 h3 e3))
theorem kas_of_ok {lt:Nat->Nat->Bool}{n:Nat}{ask:Nat->Nat->(Bool->Shared->Prop)->Shared->Prop}{s:Shared}{α:Type}{Q:α->Prop}(ha:∀ i j C,i<n->j<n->C (lt i j) s->ask i j C s):∀ (t:KasT α),KasOK lt n t Q->t.kasWp ask (fun a s'=>s'=s∧Q a) s
 | .ret a,h=>⟨rfl,h⟩
 | .ask i j k,h=>ha i j _ h.1 h.2.1 (kas_of_ok ha (k (lt i j)) h.2.2)
theorem all2_getD {α β:Type}{R:α->β->Prop}{x:α}{y:β}{as:List α}{bs:List β}(h:All2 R as bs):∀ i,i<as.length->R (as.getD i x) (bs.getD i y):=by
 induction h with
 | nil=>exact fun i h=>absurd h (Va i)
 | cons r _ ih=>exact fun i h=>by induction i using Nat.casesOn with | zero=>exact r | succ i=>exact ih i (W7 h)
theorem all2_rev {α β:Type}{R:α->β->Prop}{as:List α}{bs:List β}(h:All2 R as bs) (b:Bool):All2 R (katRev b as) (katRev b bs):=by
 induction b using Bool.casesOn with
 | false=>exact h
 | true=>
  have app:∀ {as:List α}{bs:List β}{cs:List α}{ds:List β},All2 R as bs->All2 R cs ds->All2 R (as++cs) (bs++ds):=by
   intro as bs cs ds h1 h2
   induction h1 with
   | nil=>exact h2
   | cons r _ ih=>exact .cons r ih
  show All2 R as.reverse bs.reverse
  induction h with
  | nil=>exact .nil
  | cons r _ ih=>rw[Xu,Xu];exact app ih (.cons r .nil)
theorem key_kind {s:Shared}{A:Around}{E:Value->Shared->Prop}{ks:List Value}{kz:List (List Int)}{m:Nat}{Q:SortKind->Shared->Prop}(hk:All2 (KeyV s.heap) ks kz) (hm:∀ z∈kz,z.length=m) (h2:2≤ks.length)
  (q1:(∀ v∈ks,∃ i t,v=.int i t)->Q oneType' s) (q2:(∀ v∈ks,∃ a,v=.ref a)->Q (tuples' true) s):wpAny B.M A (keyKind' ks.toArray) Q E s:=by
 by_cases hm1:m=1
 ·have hi:∀ v∈ks,∃ i t,v=.int i t:=by
   clear h2 q1 q2
   induction hk with
   | nil=>intro v h;exact nnl h
   | cons r _ ih=>
    intro v h
    rcases Zr.mp h with rfl | h
    ·rcases r with ⟨i,t,e,_⟩ | ⟨a,o,i,j,t,u,n,_,_,_,_,e⟩
     ·exact (xI2 i t e)
     ·have:=hm _ (.head _);rw[e,hm1] at this;simp at this
    ·exact ih (fun z hz=>hm z (.tail _ hz)) v h
  have e:=ksk_kind (keys:=ks.toArray) (kz:=ks.map numOf) (intsAre_map ks hi) (by simpa using h2)
  rw[e]
  exact wpAny_pure (q1 hi)
 ·have hr:∃ fs,KatTups s.heap ks fs∧fs.length=ks.length∧(∀ v∈fs,∃ i t,v=.int i t)∧∀ v∈ks,∃ a,v=.ref a:=by
   clear h2 q1 q2
   induction hk with
   | nil=>exact⟨[],(aI4 .nil rfl (fun v h=>nomatch h) (fun v h=>nomatch h))⟩
   | cons r _ ih=>
    refine xE1 (ih fun z hz=>hm z (.tail _ hz)) fun fs t5_0=>aE4 t5_0 fun f1 f2 f3 f4=>?_
    rcases r with ⟨i,t,_,e⟩ | ⟨a,o,i,j,t,u,n,rfl,h1,h2,h3,_⟩
    ·have:=hm _ (.head _);rw[e] at this;exact absurd this.symm (by simpa using hm1)
    ·refine⟨.int i t::fs,(aI4 (.cons h1 h2 h3 rfl f1) (by simp [f2]) (fun v hv=>?_) (fun v hv=>?_))⟩
     ·rcases Zr.mp hv with rfl | hv
      ·exact (xI2 i t rfl)
      ·exact f3 v hv
     ·rcases Zr.mp hv with rfl | hv
      ·exact⟨a,rfl⟩
      ·exact f4 v hv
  refine xE1 hr fun fs t6_0=>aE4 t6_0 fun f1 f2 f3 f4=>?_
  refine kat_kind (T:=.type "int") f1 (t6_0.2.1▸Zv (by decide) h2) (fun v hv=>?_) (by decide) ?_
  ·refine xE2 (f3 v hv) fun i t e7_2=>?_
   subst e7_2
   exact Looks.now
  ·exact q2 f4
theorem key_ask {s:Shared}{A:Around}{κ:SortKind}{ks:List Value}{kz:List (List Int)}(hk:All2 (KeyV s.heap) ks kz) (hκ:(κ=oneType'∧∀ v∈ks,∃ i t,v=.int i t)∨(κ=tuples' true∧∀ v∈ks,∃ a,v=.ref a))
  {i j:Nat}{C:Bool->Shared->Prop}(hi:i<ks.length) (hj:j<ks.length) (c:C (ltOf kz i j) s):kas_ask B.prog B.w A κ ks i j C s:=by
 have ki:=all2_getD (x:=Value.none) (y:=([]:List Int)) hk i hi
 have kj:=all2_getD (x:=Value.none) (y:=([]:List Int)) hk j hj
 have mi:ks.getD i Value.none∈ks:=by simp [Zb,hi]
 have mj:ks.getD j Value.none∈ks:=by simp [Zb,hj]
 unfold kas_ask
 unfold ltOf at c
 rcases hκ with ⟨rfl,hv⟩ | ⟨rfl,hv⟩
 ·refine xE2 (hv _ mi) fun x t ex=>?_
  refine hide fun R done=>?_
  refine xE2 (hv _ mj) fun y u ey=>?_
  refine done ?_
  rcases ki with ⟨x',t',e1,e2⟩ | ⟨_,_,_,_,_,_,_,e1,_⟩
  ·rcases kj with ⟨y',u',e3,e4⟩ | ⟨_,_,_,_,_,_,_,e3,_⟩
   ·rw[e1,e3]
    rw[e2,e4] at c
    refine kat_lt_int ?_
    have e:(!lexLe [y'] [x'])=decide (x'<y'):=by
     unfold lexLe
     by_cases q:y'=x'
     ·subst q;simp [lexLe]
     ·have:(y' == x')=false:=beq_eq_false_iff_ne.mpr q
      rw[this]
      simp only [Yo,if_false]
      by_cases q2:y'<x'
      ·have:¬x'<y':=by lia
       simp [q2,this]
      ·have:x'<y':=by lia
       simp [q2,this]
    rw[e] at c;exact c
   ·rw[ey] at e3;cases e3
  ·rw[ex] at e1;cases e1
 ·refine xE1 (hv _ mi) fun a ea=>?_
  refine xE1 (hv _ mj) fun b eb=>?_
  rcases ki with ⟨_,_,e1,_⟩ | ⟨a',o,i1,i2,t1,t2,n,e1,h1,h2,h3,e2⟩
  ·rw[ea] at e1;cases e1
  ·rcases kj with ⟨_,_,e3,_⟩ | ⟨b',o',j1,j2,u1,u2,n',e3,h4,h5,h6,e4⟩
   ·rw[eb] at e3;cases e3
   ·rw[e1,e3]
    rw[e2,e4] at c
    refine kat_lt h1 h3 h4 h6 ?_
    refine kat_cons (wpAny_eqBool_int ?_)
    have c':C (if j1 == i1 then (if j2 == i2 then false else !decide (j2<i2)) else !decide (j1<i1)) s:=by
     have e:(!lexLe [j1,j2] [i1,i2])=(if j1 == i1 then (if j2 == i2 then false else !decide (j2<i2)) else !decide (j1<i1)):=by
      simp only [lexLe]
      split
      ·split<;>rfl
      ·rfl
     rw[e] at c;exact c
    by_cases q1:i1=j1
    ·subst q1
     simp only [beq_self_eq_true,if_true] at c' ⊢
     refine kat_yes (kat_cons (wpAny_eqBool_int ?_))
     by_cases q2:i2=j2
     ·subst q2
      simp only [beq_self_eq_true,if_true] at c' ⊢
      exact kat_yes (kat_nil c')
     ·have n1:(i2 == j2)=false:=beq_eq_false_iff_ne.mpr q2
      have n2:(j2 == i2)=false:=beq_eq_false_iff_ne.mpr (Ne.symm q2)
      rw[n2] at c'
      rw[n1]
      simp only [Yo,if_false] at c'
      refine kat_no ?_
      show wpAny _ _ (oneLt' false _ _) _ _ _
      refine kat_one _ _ (PyProof.Rows.lt_int ?_)
      show C _ s
      have e:(!decide (j2<i2))=decide (i2<j2):=by
       by_cases q:j2<i2
       ·have:¬i2<j2:=by lia
        simp [q,this]
       ·have:i2<j2:=Vi.mpr ⟨Vf.mp q,fun z=>beq_eq_false_iff_ne.mp n2 z.symm⟩
        simp [q,this]
      rw[← e];exact c'
    ·have n1:(i1 == j1)=false:=beq_eq_false_iff_ne.mpr q1
     have n2:(j1 == i1)=false:=beq_eq_false_iff_ne.mpr (Ne.symm q1)
     rw[n2] at c'
     rw[n1]
     simp only [Yo,if_false] at c'
     refine kat_no ?_
     show wpAny _ _ (oneLt' true _ _) _ _ _
     refine oneLt_int ?_
     have e:(!decide (j1<i1))=decide (i1<j1):=by
      by_cases q:j1<i1
      ·have:¬i1<j1:=by lia
       simp [q,this]
      ·have:i1<j1:=Vi.mpr ⟨Vf.mp q,fun z=>beq_eq_false_iff_ne.mp n2 z.symm⟩
       simp [q,this]
     rw[← e];exact c'
end
theorem strip_raw {v u:Value}(h:strip v=.raw u):v=u:=by
 exact strip_el (P:=fun v=>v=u) h (fun z=>by cases z) (fun _ z=>by cases z) (fun _ _ z=>by cases z) (fun _ z=>by cases z) fun _ z=>by cases z;rfl
section
variable {B:Base}{T:Tab}{d:Nat}{kd:Str->Option NameKind}
set_option tactic.hygienic true in
theorem key_call {A:Around}{f x:Value}{H:AH}{s:Shared}{Q:MV->AH->Prop}(rm:Room d A) (k:Ok B H s) (h:wpKeyFn (sig B T d) (strip f) (strip x) H Q) :
  W B A (call f [x]) H s fun v H' _=>Q (strip v) H':=by
 unfold wpKeyFn at h
 split at h
 ·rename_i v hv
  obtain ⟨rfl,h⟩:=h
  have:=strip_raw hv;subst this
  refine asI.inv h fun i t e h=>?_
  subst e
  exact call_abs_int fun u tk=>⟨H,k.toks _,.refl,h⟩
 ·rename_i a ha
  have:=strip_ref ha;subst this
  rcases h with ⟨fn,sf,hm,h⟩ | h
  ·have ho:s.heap.get? a=some (methodObj (.ref fn) (.ref sf)):=k.rep a _ hm
   refine wpAny_call (method_call ho (codeAny_mono (h A s [.ref sf,x] rm k rfl) fun r s2 pp2=>?_))
   refine xE2 pp2 fun v H2 t1_0=>aE4 t1_0 fun e k2 x2 q=>?_
   subst e
   exact⟨H2,k2,x2,q⟩
  ·refine wpAny_call (codeAny_mono (h A s [x] rm k (by simp)) fun r s2 pp2=>?_)
   refine xE2 pp2 fun v H2 t2_0=>aE4 t2_0 fun e k2 x2 q=>?_
   subst e
   exact⟨H2,k2,x2,q⟩
 ·exact h.elim
structure Lone (B:Base) (H:AH) (h:Heap) (a:Addr) (items:List Value) (c:Nat):Prop where
 at_:h.get? a=some (seqObj "list" items.toArray c)
 un:H a=none
 un0:B.h₀.get? a=none
theorem Lone.ext {H H':AH}{h h':Heap}{a:Addr}{items:List Value}{c:Nat}(l:Lone B H h a items c) (x:Ext H h H' h'):Lone B H' h' a items c:=
 let y:=x a _ (notMut_none l.un) l.at_
 ⟨y.1,y.2.2 l.un,l.un0⟩
theorem Lone.set {H:AH}{s:Shared}{a:Addr}{items:List Value}{c:Nat}(l:Lone B H s.heap a items c) (k:Ok B H s) (f:Array Value->Array Value) {t:Nat} :
  ∃ c',Lone B H (s.heap.update a (Obj.mapSeq f)) a (f items.toArray).toList c'∧Ok B H { s with heap:=s.heap.update a (Obj.mapSeq f),toks:=t }∧ExtP (fun b=>b=a) H s.heap H (s.heap.update a (Obj.mapSeq f)):=by
 have sb:=Heap.SameBut.update s.heap a (Obj.mapSeq f)
 refine⟨_,⟨by rw[Xg];exact get?_update_seq l.at_ f,l.un,l.un0⟩,k.still (S:=[a]) (fun b hb=>by rw[Zl.mp hb];exact⟨l.un,l.un0⟩) fun b o hb e=>(sb.2 b fun z=>hb (z▸.head _)).trans e,fun b o np m e=>⟨(sb.2 b np).trans e,m,id⟩⟩
theorem Lone.other {H H':AH}{h h':Heap}{a b:Addr}{items:List Value}{c:Nat}(l:Lone B H h a items c) (x:ExtP (fun z=>z=b) H h H' h') (ne:a≠b):Lone B H' h' a items c:=
 let y:=x a _ ne (notMut_none l.un) l.at_
 ⟨y.1,y.2.2 l.un,l.un0⟩
theorem keys_fold {A:Around}{f:Value}{a kS:Addr}{Fin:List MV->AH->Prop}{E:Value->Shared->Prop}{H0:AH}{h0:Heap}(hne:a≠kS) (rm:Room d A) (hk0:∀ o,¬Mut (H0 kS)->h0.get? kS≠some o) {body:Value->PUnit->Sem (ForInStep PUnit)}
  (hb:∀ x (s:Shared) (C:Value->Shared->Prop),wpAny B.M A (call f [x]) (fun v s'=>wpAny B.M A (Builtin.List.listUpdate (.ref kS) (·.push v)) (fun _ s''=>C v s'') E s') (fun _ _=>False) s->wpAny B.M A (body x ⟨⟩) (fun r s'=>r=.yield ⟨⟩∧∃ v,C v s') E s) :
  ∀ (r done:List Value) (H:AH) (s:Shared) (c ca:Nat),Ok B H s->ExtP (fun b=>b=a) H0 h0 H s.heap->Lone B H s.heap kS done c->Lone B H s.heap a [] ca->done.length+r.length<64->wpKeys (sig B T d) (strip f) (r.map strip) H (fun ks H'=>Fin (done.map strip++ks) H')->
   wpAny B.M A (forIn r PUnit.unit body) (fun _ s'=>∃ H' keys c',Ok B H' s'∧ExtP (fun b=>b=a) H0 h0 H' s'.heap∧Lone B H' s'.heap kS keys c'∧Lone B H' s'.heap a [] ca∧keys.length=done.length+r.length∧Fin (keys.map strip) H') E s
 | [],done,H,s,c,ca,k,x0,l,la,hl,h=>by
  rw[Vj]
  have h:Fin (done.map strip++[]) H:=h
  rw[Y3] at h
  exact wpAny_pure ⟨H,done,c,k,x0,l,la,by simp,h⟩
 | x::r,done,H,s,c,ca,k,x0,l,la,hl,h=>by
  rw[Wu]
  rw[Zm] at hl
  refine wpAny_bind (wpAny_mono (hb x s (fun v s''=>∃ H' c',Ok B H' s''∧ExtP (fun b=>b=a) H0 h0 H' s''.heap∧Lone B H' s''.heap kS (done++[v]) c'∧Lone B H' s''.heap a [] ca∧wpKeys (sig B T d) (strip f) (r.map strip) H' fun ks H''=>Fin (done.map strip++strip v::ks) H'')
   (W.then_ (key_call rm k h) fun v H1 s1 k1 x1 q=>?_)) (fun q s' hq=>?_) fun _ _ e=>e)
  ·have l1:=l.ext x1
   have la1:=la.ext x1
   refine xE1 (l1.set (t:=s1.toks) k1 (fun z=>z.push v)) fun c' t3_0=>aE3 t3_0 fun l2 k2 x2=>?_
   refine listUpdate_at l1.at_ rfl ⟨H1,c',k2,fun b o np m e=>?_,by simpa using l2,la1.other x2 hne,q⟩ (by rw[Y6,sizeLine_eq];lia) (by rw[Array.size_push,Y6,sizeLine_eq];lia)
   refine aE3 ((x0.trans x1.toP) b o np m e) fun y1 y2 y3=>?_
   exact⟨(x2 b _ (fun z=>hk0 o (z▸m) (z▸e)) y2 y1).1,y2,y3⟩
  ·refine aE2 hq fun e5_0 t5_0=>?_
   subst e5_0
   refine xE3 t5_0 fun v H' c' t5_1=>aE5 t5_1 fun k' x' l' la' h'=>?_
   show wpAny B.M A (forIn r PUnit.unit body) _ E s'
   refine wpAny_mono (keys_fold hne rm hk0 hb r (done++[v]) H' s' c' ca k' x' l' la' (by rw[Zd,Zs];lia) (by simpa using h')) (fun _ s2 q0_=>xE3 q0_ fun H2 keys c2 n1_=>aE6 n1_ fun a1 a2 a3 a4 a5 a6=>⟨H2,keys,c2,a1,a2,a3,a4,by rw[a5,Zd,Zs,Zm];lia,a6⟩) fun _ _ e=>e
theorem sort_tail {A:Around}{H:AH}{s:Shared}{a kS:Addr}{rev:Bool}{keys:List Value}{c ca:Nat}{st:SortSt}{out:List Value}{P:PySem.Fin->Shared->Prop}{E:Value->Shared->Prop}(hne:a≠kS) (k:Ok B H s) (lk:Lone B H s.heap kS keys c) (la:Lone B H s.heap a [] ca)
  (hkl:keys.length<64) (hol:out.length<64) (hout:(arrOf st).map (·.2)=out.toArray) (hf:failedOf st=none)
  (fin:∀ h' c',Ok B H { s with heap:=h' }->(∀ b o,b≠a->b≠kS->¬Mut (H b)->s.heap.get? b=some o->h'.get? b=some o)->Lone B H h' a (katRev rev out) c'->P (.done (.ret .none)) { s with heap:=h' }) :
  wpAny B.M A (ksk_tail a rev ca (.ref kS) st) P E s:=by
 refine hide fun R done=>?_
 refine xE1 (lk.set (t:=s.toks) k fun _=>#[]) fun c1 t6_0=>aE3 t6_0 fun l1 k1 x1=>?_
 have la1:=la.other x1 hne
 refine xE1 (la1.set (s:={ s with heap:=s.heap.update kS (Obj.mapSeq fun _=>#[]) }) (t:=s.toks) k1 fun _=>(katRev rev out).toArray) fun c2 t7_0=>aE3 t7_0 fun l2 k2 x2=>?_
 refine done ?_
 unfold ksk_tail
 try dsimp only
 rw[hout,kat_outs]
 refine wpAny_bind (listUpdate_at lk.at_ rfl ?_ (by rw[Y6,sizeLine_eq];lia) (Z2 _))
 refine wpAny_bind (wpAny_letGo ?_)
 refine wpAny_bind (seqEpoch_at la1.at_ rfl ?_)
 refine wpAny_bind (listUpdate_at la1.at_ rfl ?_ (Z2 _) (by rw[Y6,kat_len,sizeLine_eq];lia))
 rw[hf]
 simp only [bne_self_eq_false,Yo,if_false]
 exact wpAny_pure (fin _ c2 k2 (fun b o h1 h2 m e=>(x2 b o h1 m (x1 b o h2 m e).1).1) l2)
theorem sort_end {A:Around}{H:AH}{s:Shared}{a kS:Addr}{rev:Bool}{keys items:List Value}{kz:List (List Int)}{m c ca:Nat}{P:PySem.Fin->Shared->Prop}{E:Value->Shared->Prop}(hne:a≠kS) (k:Ok B H s) (lk:Lone B H s.heap kS keys c) (la:Lone B H s.heap a [] ca)
  (hl:keys.length=items.length) (h64:items.length<64) (hk:All2 (KeyIs H) (keys.map strip) kz) (hm:∀ z∈kz,z.length=m)
  (fin:∀ h' tk c' out,Ok B H { s with heap:=h',toks:=tk }->(∀ b o,b≠a->b≠kS->¬Mut (H b)->s.heap.get? b=some o->h'.get? b=some o)->Lone B H h' a out c'->SortOut rev kz (items.map strip) (out.map strip)->P (.done (.ret .none)) { s with heap:=h',toks:=tk }) :
  wpAny B.M A (ksk_end a rev items.toArray ca (.ref kS) keys.toArray) P E s:=by
 have step:∀ t:Sem PySem.Fin,wpAny B.M A t P E s->wpAny B.M A (if rev=true then (do let _ ← rule "list.sort.reverse";t) else t) P E s:=by
  intro t ht
  split
  ·exact wpAny_bind (wpAny_rule ht)
  ·exact ht
 have hkz:kz.length=items.length:=by have:=hk.length;rw[Zc] at this;lia
 have hlr:(katRev rev keys).length=(katRev rev items).length:=by rw[kat_len,kat_len,hl]
 have kv:All2 (KeyV s.heap) keys kz:=(all2_map hk).imp fun v z h=>keyV_of k h
 have mapRev:∀ (l:List Value),(katRev rev l).map strip=katRev rev (l.map strip):=fun l=>by
  induction rev using Bool.casesOn with
  | false=>rfl
  | true=>show l.reverse.map strip=(l.map strip).reverse;rw[W6]
 have fin2:∀ (p:Array Nat) h' c',RngOK items.length p->Up (ltOf (katRev rev kz)) p items.length->((∀ i j,i<items.length->j<items.length->ltOf (katRev rev kz) i j=false)->p=Wi (List.range items.length))->
   Ok B H { s with heap:=h' }->(∀ b o,b≠a->b≠kS->¬Mut (H b)->s.heap.get? b=some o->h'.get? b=some o)->Lone B H h' a (katRev rev (p.toList.map fun i=>(katRev rev items).getD i Value.none)) c'->P (.done (.ret .none)) { s with heap:=h' }:=by
  intro p h' c' hp hu hf k' kp l'
  refine fin h' s.toks c' _ k' kp l' ?_
  have e:(katRev rev (p.toList.map fun i=>(katRev rev items).getD i Value.none)).map strip=katRev rev (p.toList.map fun i=>(katRev rev (items.map strip)).getD i .none):=by
   rw[mapRev]
   congr 1
   rw[Y0]
   refine Yb fun i _=>?_
   rw[← mapRev]
   simp only [Function.comp_apply,Zb,Zn]
   cases (katRev rev items)[i]?<;>rfl
  rw[e]
  exact out_of (by rw[Zc];exact hkz) (by rw[Zc];exact hp) (by rw[Zc];exact hu) (by rw[Zc];exact hf)
 unfold ksk_end
 try dsimp only
 refine step _ ?_
 by_cases h2:items.toArray.size<2
 ·rw[if_pos h2,if_pos h2]
  rw[Y6] at h2
  refine wpAny_bind (wpAny_pure ?_)
  rw[StateT.run_pure]
  refine wpAny_bind (wpAny_pure ?_)
  try dsimp only
  rw[kat_pairs rev hl]
  have hrange:(Wi (List.range items.length)).toList.map (fun i=>(katRev rev items).getD i Value.none)=katRev rev items:=by
   apply List.ext_getElem
   ·simp [kat_len]
   ·intro i h1 h2
    simp [Zb,h2]
  refine sort_tail (out:=katRev rev items) hne k lk la (by lia) (by rw[kat_len];exact h64) ?_ rfl fun h' c' k' kp l'=>?_
  ·show ((katRev rev keys).toArray.zip (katRev rev items).toArray).map (·.2)=_
   apply Array.toList_inj.mp
   rw[Array.toList_map,ksk_zip]
   rw[List.map_snd_zip (by rw[hlr];exact Zk _)]
  ·refine fin2 (Wi (List.range items.length)) h' c' rng_ok (fun i j hij hj=>?_) (fun _=>rfl) k' kp (by rw[hrange];exact l')
   have:i=j:=by lia
   subst this;exact (ltOf_weak _).refl _
 ·rw[if_neg h2,if_neg h2]
  rw[Y6] at h2
  have kr:All2 (KeyV s.heap) (katRev rev keys) (katRev rev kz):=all2_rev kv rev
  have go:∀ κ:SortKind,(κ=oneType'∧∀ v∈katRev rev keys,∃ i t,v=.int i t)∨(κ=tuples' true∧∀ v∈katRev rev keys,∃ a,v=.ref a)->
    wpAny B.M A ((sortRuns').run (SortSt.mk' κ ((katRev rev keys).toArray.zip (katRev rev items).toArray) #[] 7 none)) (fun r s'=>wpAny B.M A (ksk_tail a rev ca (.ref kS) r.2) P E s') E s:=by
   intro κ hκ
   have so:=sort_ok (n:=items.length) (ltOf_weak (katRev rev kz)) (by lia)
   have hw:=kas_of_ok (ask:=kas_ask B.prog B.w A κ (katRev rev keys)) (s:=s) (fun i j C hi hj c=>key_ask kr hκ (by rw[kat_len,hl];exact hi) (by rw[kat_len,hl];exact hj) c) (kas_sort items.length) so
   refine kat_run (Q:=fun st' s'=>wpAny B.M A (ksk_tail a rev ca (.ref kS) st') P E s') hlr (by rw[kat_len];exact Yj.mp h2) (by rw[kat_len];exact h64) (G:=fun p s'=>s'=s∧((RngOK items.length p∧Up (ltOf (katRev rev kz)) p items.length)∧((∀ i j,i<items.length->j<items.length->ltOf (katRev rev kz) i j=false)->p=Wi (List.range items.length)))) (fun p st' s' b1 b2 b3 b4=>?_) (by rw[kat_len];exact hw)
   refine hide fun R done=>?_
   obtain ⟨rfl,⟨b5,b6⟩,b7⟩:=b4
   refine done ?_
   exact sort_tail hne k lk la (by lia) (by rw[Zc,Z6,b1,kat_len];exact h64) (kat_snds hlr b2) b3 fun h' c' k' kp l'=>fin2 p h' c' b5 b6 b7 k' kp l'
  refine wpAny_bind (key_kind kv hm (by lia) (fun hi=>?_) fun hr=>?_)
  ·rw[kat_pairs rev hl]
   refine wpAny_bind (wpAny_mono (go oneType' (.inl ⟨rfl,fun v hv=>hi v ?_⟩)) (fun r s' h=>by obtain ⟨⟨⟩,st⟩:=r;exact h) fun _ _ e=>e)
   induction rev using Bool.casesOn with
   | false=>exact hv
   | true=>exact X3.mp hv
  ·rw[kat_pairs rev hl]
   refine wpAny_bind (wpAny_mono (go (tuples' true) (.inr ⟨rfl,fun v hv=>hr v ?_⟩)) (fun r s' h=>by obtain ⟨⟨⟩,st⟩:=r;exact h) fun _ _ e=>e)
   induction rev using Bool.casesOn with
   | false=>exact hv
   | true=>exact X3.mp hv
theorem sort_core {A:Around}{f:Value}{rev:Bool}{H:AH}{s:Shared}{a:Addr}{items:List Value}{c:Nat}{R:List MV->AH->Prop}{P:PySem.Fin->Shared->Prop}{E:Value->Shared->Prop}(rm:Room d A) (k:Ok B H s) (l:Lone B H s.heap a items c)
  (h:wpSort (sig B T d) (strip f) rev (items.map strip) H R)
  (fin:∀ H' s' out c',Ok B H' s'->ExtP (fun b=>b=a) H s.heap H' s'.heap->Lone B H' s'.heap a out c'->out.length<64->R (out.map strip) H'->P (.done (.ret .none)) s') :
  wpAny B.M A (ksk_tree a f rev) P E s:=by
 refine aE2 h fun p9_0 h=>?_
 refine aE2 p9_0 fun _ h64=>?_
 rw[Zc] at h64
 refine xE1 (l.set (t:=s.toks) k fun _=>#[]) fun c1 t10_0=>aE3 t10_0 fun l1 k1 x1=>?_
 have l1:Lone B H (s.heap.update a (Obj.mapSeq fun _=>#[])) a [] c1:=l1
 unfold ksk_tree
 refine wpAny_bind (listItems_at l.at_ rfl ?_)
 refine wpAny_bind (listUpdate_at l.at_ rfl ?_ (by rw[Y6,sizeLine_eq];lia) (Z2 _))
 refine wpAny_bind (seqEpoch_at l1.at_ rfl ?_)
 refine wpAny_bind (wpAny_newTuple ?_ (by show items.length≤_;rw[sizeLine_eq];lia))
 refine wpAny_bind (wpAny_newList ?_ (Z2 _))
 refine wpAny_holding ?_
 dsimp only
 generalize hh1:s.heap.update a (Obj.mapSeq fun _=>#[])=h1 at l1 k1 x1
 generalize hh2:h1.push { cls:=.type "tuple",data:=.seq items.toArray.toList.toArray }=h2
 have k2:Ok B H { s with heap:=h2 }:=by rw[← hh2];exact k1.push (t:=s.toks) _
 have x2:Ext H h1 H h2:=by rw[← hh2];exact Ext.push k1 _
 have l2:=l1.ext x2
 have k3:Ok B H { s with heap:=h2.push (seqObj "list" #[] 0) }:=k2.push (t:=s.toks) _
 have x3:Ext H h2 H (h2.push (seqObj "list" #[] 0)):=Ext.push k2 _
 have hd:h2.get? h2.objs.size=none:=Z9 (Zk _)
 have hne:a≠h2.objs.size:=Yd (Yn l2.at_)
 have lk:Lone B H (h2.push (seqObj "list" #[] 0)) h2.objs.size [] 0:=⟨Z0 _ rfl,k2.fresh (Zk _),dead_base k2 hd⟩
 have la:=l2.ext x3
 show wpAny B.M A (ksk_rest a f rev items.toArray c1 (.ref h2.objs.size)) P E { s with heap:=h2.push (seqObj "list" #[] 0) }
 have x03:ExtP (fun b=>b=a) H s.heap H (h2.push (seqObj "list" #[] 0)):=x1.trans (x2.trans x3).toP
 unfold ksk_rest
 refine wpAny_bind (wpAny_rule ?_)
 first
  | rw[List.forIn_toArray]
  | (rw[← Array.forIn_toList];simp only [List.toList_toArray])
 refine wpAny_bind (wpAny_mono (keys_fold (H0:=H) (h0:=s.heap) (a:=a) (kS:=h2.objs.size) (Fin:=fun ks H'=>∃ kz n,All2 (KeyIs H') ks kz∧(∀ k∈kz,k.length=n)∧∀ ys,SortOut rev kz (items.map strip) ys->R ys H') hne rm (fun o m e=>?_) (fun x s' C hx=>?_)
  items [] H { s with heap:=h2.push (seqObj "list" #[] 0) } 0 c1 k3 x03 lk la (by simpa using h64) (by simpa using h)) (fun _ s' hd=>?_) fun _ _ e=>e)
 ·have:=(x1.trans x2.toP) h2.objs.size o (Ne.symm hne) m e
  rw[hd] at this;cases this.1
 ·refine wpAny_bind (wpAny_attempt (wpAny_mono hx (fun v s'' hv=>?_) fun _ _ hF=>hF.elim))
  exact wpAny_bind (wpAny_mono hv (fun _ s3 c3=>wpAny_pure ⟨rfl,v,c3⟩) fun _ _ e=>e)
 ·obtain ⟨H',keys,c',k',x',lk',la',hkl,kz,n,hkz,hn,hfin⟩:=hd
  try dsimp only
  refine wpAny_bind (listItems_at lk'.at_ rfl ?_)
  refine sort_end hne k' lk' la' (by simpa using hkl) h64 hkz hn fun h' tk c2 out k2' kp l2' so=>?_
  refine fin H' _ out c2 k2' (fun b o np m e=>?_) l2' (by
   obtain ⟨⟨ps,hp,e,_⟩,_⟩:=so
   have h1:=congrArg List.length e
   have h2:=hp.length_eq
   simp only [Zc,List.length_zip] at h1 h2
   exact h1▸h2▸Ze (Nat.min_le_right _ _) h64) (hfin _ so)
  obtain ⟨y1,y2,y3⟩:=x' b o np m e
  refine⟨kp b o np (fun z=>?_) y2 y1,y2,y3⟩
  subst z
  have:=(x1.trans x2.toP) _ o np m e
  rw[hd] at this;cases this.1
end
section
variable {B:Base}{T:Tab}{d:Nat}{kd:Str->Option NameKind}
noncomputable def kwOf (rev:Bool) (rk:Expr) (p1 p2 p3:Pos) (n:Nat):List Keyword:=
 if rev then [⟨some "key",rk,p1⟩,⟨some "reverse",.Constant (.bool true) n p2,p3⟩] else [⟨some "key",rk,p1⟩]
noncomputable def kwVal (rev:Bool) (f:Value):List (Str × Value):=if rev then [(Str.ofString "key",f),(Str.ofString "reverse",.bool true)] else [(Str.ofString "key",f)]
theorem kw_eval {A:Around}{env:Env}{rev:Bool}{rk:Expr}{p1 p2 p3 pos:Pos}{n:Nat}{s:Shared}{E:Value->Shared->Prop}{Q:List (Str × Value)->Shared->Prop}(h:wpAny B.M A (eval rk env) (fun f s'=>Q (kwVal rev f) s') E s) :
  wpAny B.M A (evalAll ((backToKw pos (keywordEach (kwOf rev rk p1 p2 p3 n) env)).map (·.2))) (fun ks s'=>Q (((backToKw pos (keywordEach (kwOf rev rk p1 p2 p3 n) env)).filterMap (·.1)).zip ks) s') E s:=by
 induction rev using Bool.casesOn with
 | false=>exact kws_cons (wpAny_mono h (fun f s' q=>kws_nil q) fun _ _ e=>e)
 | true=>exact kws_cons (wpAny_mono h (fun f s' q=>kws_cons (wpAny_Constant_bool (kws_nil q))) fun _ _ e=>e)
theorem kw_all {env:Env}{rev:Bool}{rk:Expr}{p1 p2 p3 pos:Pos}{n:Nat}:(backToKw pos (keywordEach (kwOf rev rk p1 p2 p3 n) env)).all (·.1.isSome)=true∧(backToKw pos (keywordEach (kwOf rev rk p1 p2 p3 n) env)).any (·.1.isNone)=false:=by
 cases rev<;>exact⟨rfl,rfl⟩
set_option tactic.hygienic true in
theorem formKey {f:Value}(h:keyForm (strip f)):(∃ q,f=.ref q)∨f=.builtin "abs":=by
 unfold keyForm at h
 split at h
 ·rename_i a e;exact .inl ⟨a,strip_ref e⟩
 ·rename_i v e;exact .inr (by rw[strip_raw e];exact h)
 ·exact h.elim
theorem tree_of {f:Value}(h:keyForm (strip f)) (a:Addr) (rev:Bool):Builtin.«list.sort» ⟨[.ref a],kwVal rev f⟩ = ksk_tree a f rev:=by
 rcases formKey h with ⟨q,rfl⟩ | rfl<;>cases rev
 ·exact ksk_t1 q a
 ·exact ksk_t2 q a true
 ·exact ksk_t4 "abs" a
 ·exact ksk_t5 "abs" a true
theorem args_of (rev:Bool) (a f:Value):argsOk "list.sort" ⟨[a],kwVal rev f⟩:=by
 cases rev
 ·exact ksk_l1 a f
 ·exact ksk_l2 a f _
theorem args_ofS (rev:Bool) (a f:Value):argsOk "sorted" ⟨[a],kwVal rev f⟩:=by
 cases rev
 ·exact ksk_s1 a f
 ·exact ksk_s2 a f _
theorem Ok.del {H:AH}{s:Shared}(k:Ok B H s) (x:Addr):Ok B (del H x) s:=by
 refine⟨fun a o e=>?_,k.gens,k.os,k.base,fun b m=>?_⟩
 ·unfold Mine.del at e
  split at e
  ·exact ncs e
  ·exact k.rep a o e
 ·unfold Mine.del at m
  split at m
  ·exact m.elim
  ·exact k.new b m
theorem lsort_call {A:Around}{f:Value}{rev:Bool}{H:AH}{s:Shared}{x:Addr}{xs:List MV}{Q:MV->AH->Prop}(rm:Room (d+3) A) (k:Ok B H s) (hx:H x=some (.list xs))
  (h:wpSort (sig B T d) (strip f) rev xs (del H x) fun ys H=>Q .none (upd H x (.list ys))):W B A (call (.builtin "list.sort") [.ref x] (kwVal rev f)) H s fun v H' _=>Q (strip v) H':=by
 refine hide fun R done=>?_
 refine xE2 (k.list hx) fun items n t0_0=>aE3 t0_0 fun ho hm hL=>?_
 refine done ?_
 subst hm
 have h0:B.h₀.get? x=none:=k.new x (by rw[hx];trivial)
 have rm1:Room d A.in1:=(Room.in1 rm).mono (by lia)
 refine wpAny_call_entry_kw slot_list_sort ⟨_,ho,rfl⟩ entry_list_sort ?_ (args_of rev _ _)
 rw[tree_of h.1.1]
 refine sort_core rm1 (k.del x) ⟨by rw[Xg];exact ho,by unfold Mine.del;rw[if_pos rfl],h0⟩ h fun H' s' out c' k' x' l' hlen q=>⟨.none,rfl,?_⟩
 refine⟨_,k'.adopt (o:=.list (out.map strip)) h0 ⟨out.toArray,c',l'.at_,by simp,by rw[Zc];unfold LIM;lia⟩,fun b o m e=>?_,q⟩
 have nb:b≠x:=fun z=>m (by rw[z,hx];trivial)
 refine hide fun R done=>?_
 refine aE3 (x' b o nb (by unfold Mine.del;rw[if_neg nb];exact m) e) fun y1 y2 y3=>?_
 refine done ?_
 refine⟨y1,?_⟩
 unfold upd
 rw[if_neg nb]
 exact⟨y2,fun z=>y3 (by unfold Mine.del;rw[if_neg nb];exact z)⟩
theorem eval_kcall {o:Expr}{name:Str}{apos pos:Pos}{env:Env}{rev:Bool}{rk:Expr}{p1 p2 p3:Pos}{n:Nat}(hb:plainBase o=true) (hp:apos.endLine=pos.line) :
  eval (.Call (.Attribute o name apos) [] (kwOf rev rk p1 p2 p3 n) pos) env=(do
   let ov ← eval o env
   standAt apos.atName
   let (f,first) ← holding [ov] (getMethod ov name (do return (← importBound o env).getD true))
   callWith pos f first (backTo pos (starEach [] env)) (backToKw pos (keywordEach (kwOf rev rk p1 p2 p3 n) env))):=by
 rw[arm_eval_Call,attributeBase_plain hb]
 have hform:methodCallForm (([]:List Expr).length+(kwOf rev rk p1 p2 p3 n).length) (backTo pos (starEach [] env)) (backToKw pos (keywordEach (kwOf rev rk p1 p2 p3 n) env))=true:=by
  cases rev<;>rfl
 unfold methodCall
 rw[hform]
 have e2:methodCallPos true o env apos pos=pure pos:=by
  unfold methodCallPos
  simp [hp]
 rw[e2]
 rfl
theorem ev_lsortK (g:B.Good) {e key:ME}{r rk:Expr}{rev:Bool}{apos pos p1 p2 p3:Pos}{n:Nat}(he:EvOK B T d kd e r) (hkey:EvOK B T d kd key rk) (hb:plainBase r=true) (hp:apos.endLine=pos.line) :
  EvOK B T d kd (.lsortK e key rev) (.Call (.Attribute r "sort" apos) [] (kwOf rev rk p1 p2 p3 n) pos):=by
 intro A env ρ H s Q rm hk F k h
 replace h:=dLsortK h
 unfold W
 rw[eval_kcall hb hp]
 refine wpAny_bind ((he A env ρ H s _ rm hk F k h).then_ fun u H1 s1 k1 x1 q0_=>xE2 q0_ fun x xs0 n1_=>aE3 n1_ fun e1 hx0 h1=>wpAny_bind (wpAny_standAt (wpAny_bind (wpAny_holding ?_))))
 have:=strip_ref e1;subst this
 refine hide fun R done=>?_
 refine xE2 (k1.list hx0) fun items0 n0 t2_0=>aE2 t2_0 fun ho0 _=>?_
 refine done ?_
 refine getMethod_lst ho0 rfl rfl slot_list_sort type_list_sort ?_
 refine callWith_builtin_kwB rfl kw_all.2 (evalArgs_kw_nil kw_all.1 (kw_eval (Q:=fun kw s'=>wpAny B.M A (call (.builtin "list.sort") ([.ref x]++[]) kw) _ NoE s') ?_))
 refine (hkey A env ρ H1 s1 _ rm hk (F.ext x1) k1 h1).then_ fun f H2 s2 k2 x2 pp5=>?_
 refine hide fun R done=>?_
 refine xE1 pp5 fun xs t3_0=>aE2 t3_0 fun hx hso=>?_
 refine done ?_
 exact (lsort_call rm k2 hx hso).ext (x1.trans x2)
theorem sorted_call {A:Around}{f:Value}{H:AH}{s:Shared}{x:Addr}{xs:List MV}{Q:MV->AH->Prop}(rm:Room (d+3) A) (k:Ok B H s) (hx:H x=some (.list xs))
  (h:wpSort (sig B T d) (strip f) false xs H fun ys H=>∀ a,H a=none->Q (.ref a) (upd H a (.list ys))):W B A (call (.builtin "sorted") [.ref x] (kwVal false f)) H s fun v H' _=>Q (strip v) H':=by
 refine hide fun R done=>?_
 refine xE2 (k.list hx) fun items n t4_0=>aE3 t4_0 fun ho hm hL=>?_
 refine done ?_
 subst hm
 have h64:items.toList.length<64:=by have:=h.1.2;rw[Zc] at this;exact this
 have rm2:Room d A.in1.in1:=(Room.in1 (Room.in1 rm)).mono (by lia)
 refine call_function_entry_kw kind_sorted plain_sorted entry_sorted (args_ofS false _ _) ?_
 unfold Builtin.«sorted»
 refine wpAny_bind (m:=checkCount "sorted" 1 1 _) (wpAny_pure ?_)
 refine wpAny_bind (collect_list (vs:=items.toList) ⟨_,ho,rfl,n,by simp⟩ ?_ (by rw[sizeLine_eq];lia))
 refine wpAny_bind (wpAny_newList ?_ (by rw[sizeLine_eq];lia))
 have keep1:∀ b o,s.heap.get? b=some o->((s.heap.push (seqObj "list" #[] 0)).update s.heap.objs.size (Obj.mapSeq (· ++ items.toList.toArray))).get? b=some o:=fun b o q=>by
  have hlt:b<s.heap.objs.size:=Yn q
  rw[Heap.get?_update_ne _ _ _ _ (Yd hlt),Heap.get?_push_ne _ _ _ (Yd hlt)]
  exact q
 generalize hh1:(s.heap.push (seqObj "list" #[] 0)).update s.heap.objs.size (Obj.mapSeq (· ++ items.toList.toArray))=h1 at keep1
 have k1:Ok B H { s with heap:=h1 }:=k.keep (t:=s.toks) keep1
 have x1:Ext H s.heap H h1:=Ext.keepAll keep1
 have hd:h1.get? h1.objs.size=none:=Z9 (Zk _)
 have k2:Ok B H { s with heap:=h1.push (seqObj "list" items.toList.toArray 0) }:=k1.push (t:=s.toks) _
 have x2:Ext H s.heap H (h1.push (seqObj "list" items.toList.toArray 0)):=x1.trans (Ext.push k1 _)
 have l2:Lone B H (h1.push (seqObj "list" items.toList.toArray 0)) h1.objs.size items.toList 0:=⟨Z0 _ rfl,k1.fresh (Zk _),dead_base k1 hd⟩
 show wpAny _ _ _ _ _ { s with heap:=h1.push (seqObj "list" items.toList.toArray 0) }
 refine wpAny_bind (wpAny_holding (wpAny_call_entry_kw slot_list_sort ⟨_,l2.at_,rfl⟩ entry_list_sort ?body (args_of false _ _)))
 case body=>
  show wpAny B.M A.in1.in1 (Builtin.«list.sort» ⟨[.ref h1.objs.size],kwVal false f⟩) _ _ _
  rw[tree_of h.1.1]
  refine sort_core rm2 k2 l2 h fun H' s' out c' k' x' l' hlen q=>⟨.none,rfl,?_⟩
  refine wpAny_pure ⟨_,rfl,?_⟩
  refine⟨_,k'.adopt (o:=.list (out.map strip)) l'.un0 ⟨out.toArray,c',l'.at_,by simp,by rw[Zc];unfold LIM;lia⟩,fun b o m e=>?_,q _ l'.un⟩
  have nb:b≠h1.objs.size:=fun z=>by rw[z] at e;have:=keep1 _ _ e;rw[hd] at this;exact ncs this
  refine hide fun R done=>?_
  refine aE3 (x2 b o m e) fun z1 z2 z3=>?_
  refine aE3 (x' b o nb z2 z1) fun y1 y2 y3=>?_
  refine done ?_
  refine⟨y1,?_⟩
  unfold upd
  rw[if_neg nb]
  exact⟨y2,fun z=>y3 (z3 z)⟩
theorem ev_sortedK (g:B.Good) {i:Nat}{e key:ME}{r rk:Expr}{p pos p1 p2 p3:Pos}{n:Nat}(he:EvOK B T d kd e r) (hkey:EvOK B T d kd key rk) (hns:notStar r=true)
  (hk:kd (B.nm i)=some .globalImplicit) (hm:nsIn B.K mainGlobals (B.nm i)=some none) (hb:bootBuiltins (B.nm i)=some (.builtin "sorted")) (hn:B.nm i≠"__name__") (hd:(B.nm i == ("__debug__" : Str))=false) :
  EvOK B T d kd (.sortedK i e key) (.Call (.Name (B.nm i) p) [r] (kwOf false rk p1 p2 p3 n) pos):=by
 intro A env ρ H s Q rm hk' F k h
 replace h:=dSortK h
 refine wpAny_Call_Name_kw ((W.load_builtin g k F ((hk' _).trans hk) hm hb hn hd (Q:=fun v H' _=>v=.builtin "sorted"∧H'=H) ⟨rfl,rfl⟩).then_ fun v H1 s1 k1 x1 pp5=>?_)
 refine aE2 pp5 fun e1 e2=>?_
 subst e1 e2
 have e3:starEach [r] env=(false,eval r env)::starEach [] env:=starEach_cons hns
 rw[e3]
 refine callWith_builtin_kwB (by rfl) kw_all.2 (evalArgs_kwB (x:=eval r env) (rest:=[]) kw_all.1 ?_)
 refine spliced_cons ((he A env ρ H1 s1 _ rm hk' (F.ext x1) k1 h).then_ fun u H2 s2 k2 x2 h2=>spliced_nil ?_)
 refine kw_eval (Q:=fun kw s'=>wpAny B.M A (call (.builtin "sorted") ([]++[u]) kw) _ NoE s') ?_
 refine (hkey A env ρ H2 s2 _ rm hk' ((F.ext x1).ext x2) k2 h2).then_ fun f H3 s3 k3 x3 pp5=>?_
 refine xE2 pp5 fun x xs t8_0=>aE3 t8_0 fun e4 hx hso=>?_
 have:=strip_ref e4;subst this
 exact (sorted_call rm k3 hx hso).ext (x1.trans (x2.trans x3))
end
noncomputable section
structure Tabs where
 N:Nat
 nm:Nat->Str
 gv:Nat->Option Value
 bv:Nat->Option Value
 fns:Nat->Option Addr
 cls:Nat->Option (Addr × Addr)
structure TabsOK (B:Base) (X:Tabs):Prop where
 N:X.N=B.N
 nm:X.nm=B.nm
 names:∀ i,i<B.N->(B.nm i == ("__debug__" : Str))=false∧(B.nm i == ("__classdict__" : Str))=false∧B.nm i≠"__name__"
 gv:∀ i v,X.gv i=some v->i<B.N∧nsIn B.K mainGlobals (B.nm i)=some (some v)
 bv:∀ i v,X.bv i=some v->i<B.N∧nsIn B.K mainGlobals (B.nm i)=some none∧bootBuiltins (B.nm i)=some v
 fns:∀ i f,X.fns i=some f->X.gv i=some (.ref f)∧fnIn B.K f=true
 cls:∀ i C f,X.cls i=some (C,f)->X.gv i=some (.ref C)∧keepIn B.K (.ref C)=true∧makesIn B.K C=true∧findIn B.K (.ref C) "__init__" = some (some (.ref f))∧typeIn B.K (.ref f)=some (.type "function")
noncomputable abbrev KD:=Str->Option NameKind
noncomputable def kdF:List (Str × NameKind)->Str->Option NameKind
 | [],_=>none
 | (n,k)::r,x=>if sEq x n then some k else kdF r x
theorem kdF_eq:∀ (l:List (Str × NameKind)) (x:Str),kdF l x=l.lookup x
 | [],_=>rfl
 | (n,k)::r,x=>by
  unfold kdF
  rw[Zt]
  by_cases h:x=n
  ·have:sEq x n=true:=sEq_iff.mpr h
   rw[this,beq_iff_eq.mpr h];rfl
  ·have h1:sEq x n=false:=by
    cases q:sEq x n with
    | false=>rfl
    | true=>exact absurd (sEq_iff.mp q) h
   have h2:(x == n)=false:=beq_eq_false_iff_ne.mpr h
   rw[h1,h2];exact kdF_eq r x
noncomputable def kdCF (scope:Scope) (kd:KD):KD:=fun x=>(kdF scope.names x).map fun k=>if (k == .free && kd x == some .cell) then .cell else k
theorem kdCF_eq (scope:Scope) (kd:KD):kdCF scope kd=kdC scope kd:=by
 funext x
 unfold kdCF kdC
 rw[kdF_eq]
theorem an1 {a b:Bool}(h:(a && b)=true):a=true:=by cases a;exact h;rfl
theorem an2 {a b:Bool}(h:(a && b)=true):b=true:=by cases a;exact Zq h;exact h
theorem orK {a b:Bool}{P:Prop}(h:(a || b)=true) (q1:a=true->P) (q2:b=true->P):P:=by cases a;exact q2 h;exact q1 rfl
theorem noB {a:Bool}(h:(!a)=true):a=false:=by cases a;rfl;exact Zq h
noncomputable def isCst0 (e:ME):Bool:=by cases e with | cst v=>exact decide (v=.int 0) | _=>exact false
theorem isCst0.inv {e:ME}(h:isCst0 e=true):e=.cst (.int 0):=by cases e with | cst v=>exact congrArg ME.cst (of_decide_eq_true h) | _=>exact Zq h
/- a text,looked at kind by kind -/
noncomputable def onName (r:Expr) (kk:Str->Pos->Bool):Bool:=by induction r using Expr.casesOn with | Name x p=>exact kk x p | _=>exact false
@[elab_as_elim] theorem onName.inv {P:Expr->Prop}{r:Expr}{kk:Str->Pos->Bool}(h:onName r kk=true) (z:∀ x p,kk x p=true->P (.Name x p)):P r:=by revert h;induction r using Expr.casesOn with | Name x p=>exact z x p | _=>exact nft
noncomputable def onCon (r:Expr) (kk:Const->Bool):Bool:=by induction r using Expr.casesOn with | Constant x n p=>exact kk x | _=>exact false
@[elab_as_elim] theorem onCon.inv {P:Expr->Prop}{r:Expr}{kk:Const->Bool}(h:onCon r kk=true) (z:∀ x n p,kk x=true->P (.Constant x n p)):P r:=by revert h;induction r using Expr.casesOn with | Constant x n p=>exact z x n p | _=>exact nft
noncomputable def onAttr (r:Expr) (kk:Expr->Str->Pos->Bool):Bool:=by induction r using Expr.casesOn with | Attribute q x p=>exact kk q x p | _=>exact false
@[elab_as_elim] theorem onAttr.inv {P:Expr->Prop}{r:Expr}{kk:Expr->Str->Pos->Bool}(h:onAttr r kk=true) (z:∀ q x p,kk q x p=true->P (.Attribute q x p)):P r:=by revert h;induction r using Expr.casesOn with | Attribute q x p=>exact z q x p | _=>exact nft
noncomputable def onSub (r:Expr) (kk:Expr->Expr->Bool):Bool:=by induction r using Expr.casesOn with | Subscript q i p=>exact kk q i | _=>exact false
@[elab_as_elim] theorem onSub.inv {P:Expr->Prop}{r:Expr}{kk:Expr->Expr->Bool}(h:onSub r kk=true) (z:∀ q i p,kk q i=true->P (.Subscript q i p)):P r:=by revert h;induction r using Expr.casesOn with | Subscript q i p=>exact z q i p | _=>exact nft
noncomputable def onSlice (r:Expr) (kk:Option Expr->Option Expr->Option Expr->Bool):Bool:=by induction r using Expr.casesOn with | Slice l u t p=>exact kk l u t | _=>exact false
@[elab_as_elim] theorem onSlice.inv {P:Expr->Prop}{r:Expr}{kk:Option Expr->Option Expr->Option Expr->Bool}(h:onSlice r kk=true) (z:∀ l u t p,kk l u t=true->P (.Slice l u t p)):P r:=by revert h;induction r using Expr.casesOn with | Slice l u t p=>exact z l u t p | _=>exact nft
noncomputable def onUn (r:Expr) (kk:UnaryOp->Expr->Bool):Bool:=by induction r using Expr.casesOn with | UnaryOp o q p=>exact kk o q | _=>exact false
@[elab_as_elim] theorem onUn.inv {P:Expr->Prop}{r:Expr}{kk:UnaryOp->Expr->Bool}(h:onUn r kk=true) (z:∀ o q p,kk o q=true->P (.UnaryOp o q p)):P r:=by revert h;induction r using Expr.casesOn with | UnaryOp o q p=>exact z o q p | _=>exact nft
noncomputable def onBin (r:Expr) (kk:Expr->Operator->Expr->Bool):Bool:=by induction r using Expr.casesOn with | BinOp a o b p=>exact kk a o b | _=>exact false
@[elab_as_elim] theorem onBin.inv {P:Expr->Prop}{r:Expr}{kk:Expr->Operator->Expr->Bool}(h:onBin r kk=true) (z:∀ a o b p,kk a o b=true->P (.BinOp a o b p)):P r:=by revert h;induction r using Expr.casesOn with | BinOp a o b p=>exact z a o b p | _=>exact nft
noncomputable def onCmp (r:Expr) (kk:Expr->List CmpOp->List Expr->Bool):Bool:=by induction r using Expr.casesOn with | Compare a o b p=>exact kk a o b | _=>exact false
@[elab_as_elim] theorem onCmp.inv {P:Expr->Prop}{r:Expr}{kk:Expr->List CmpOp->List Expr->Bool}(h:onCmp r kk=true) (z:∀ a o b p,kk a o b=true->P (.Compare a o b p)):P r:=by revert h;induction r using Expr.casesOn with | Compare a o b p=>exact z a o b p | _=>exact nft
noncomputable def onBop (r:Expr) (kk:BoolOp->List Expr->Bool):Bool:=by induction r using Expr.casesOn with | BoolOp o a p=>exact kk o a | _=>exact false
@[elab_as_elim] theorem onBop.inv {P:Expr->Prop}{r:Expr}{kk:BoolOp->List Expr->Bool}(h:onBop r kk=true) (z:∀ o a p,kk o a=true->P (.BoolOp o a p)):P r:=by revert h;induction r using Expr.casesOn with | BoolOp o a p=>exact z o a p | _=>exact nft
noncomputable def onIte (r:Expr) (kk:Expr->Expr->Expr->Bool):Bool:=by induction r using Expr.casesOn with | IfExp t a b p=>exact kk t a b | _=>exact false
@[elab_as_elim] theorem onIte.inv {P:Expr->Prop}{r:Expr}{kk:Expr->Expr->Expr->Bool}(h:onIte r kk=true) (z:∀ t a b p,kk t a b=true->P (.IfExp t a b p)):P r:=by revert h;induction r using Expr.casesOn with | IfExp t a b p=>exact z t a b p | _=>exact nft
noncomputable def onCall (r:Expr) (kk:Expr->List Expr->List Keyword->Pos->Bool):Bool:=by induction r using Expr.casesOn with | Call f a k p=>exact kk f a k p | _=>exact false
@[elab_as_elim] theorem onCall.inv {P:Expr->Prop}{r:Expr}{kk:Expr->List Expr->List Keyword->Pos->Bool}(h:onCall r kk=true) (z:∀ f a k p,kk f a k p=true->P (.Call f a k p)):P r:=by revert h;induction r using Expr.casesOn with | Call f a k p=>exact z f a k p | _=>exact nft
noncomputable def onList (r:Expr) (kk:List Expr->Bool):Bool:=by induction r using Expr.casesOn with | List a p=>exact kk a | _=>exact false
@[elab_as_elim] theorem onList.inv {P:Expr->Prop}{r:Expr}{kk:List Expr->Bool}(h:onList r kk=true) (z:∀ a p,kk a=true->P (.List a p)):P r:=by revert h;induction r using Expr.casesOn with | List a p=>exact z a p | _=>exact nft
noncomputable def onTup (r:Expr) (kk:List Expr->Bool):Bool:=by induction r using Expr.casesOn with | Tuple a n p=>exact kk a | _=>exact false
@[elab_as_elim] theorem onTup.inv {P:Expr->Prop}{r:Expr}{kk:List Expr->Bool}(h:onTup r kk=true) (z:∀ a n p,kk a=true->P (.Tuple a n p)):P r:=by revert h;induction r using Expr.casesOn with | Tuple a n p=>exact z a n p | _=>exact nft
noncomputable def onDict (r:Expr) (kk:List (Option Expr)->List Expr->Bool):Bool:=by induction r using Expr.casesOn with | Dict a b p=>exact kk a b | _=>exact false
@[elab_as_elim] theorem onDict.inv {P:Expr->Prop}{r:Expr}{kk:List (Option Expr)->List Expr->Bool}(h:onDict r kk=true) (z:∀ a b p,kk a b=true->P (.Dict a b p)):P r:=by revert h;induction r using Expr.casesOn with | Dict a b p=>exact z a b p | _=>exact nft
noncomputable def onLC (r:Expr) (kk:Expr->List Comprehension->Scope->Pos->Bool):Bool:=by induction r using Expr.casesOn with | ListComp e g c p=>exact kk e g c p | _=>exact false
@[elab_as_elim] theorem onLC.inv {P:Expr->Prop}{r:Expr}{kk:Expr->List Comprehension->Scope->Pos->Bool}(h:onLC r kk=true) (z:∀ e g c p,kk e g c p=true->P (.ListComp e g c p)):P r:=by revert h;induction r using Expr.casesOn with | ListComp e g c p=>exact z e g c p | _=>exact nft
noncomputable def onMNot (r:ME) (kk:ME->Bool):Bool:=by induction r using ME.casesOn with | not e=>exact kk e | _=>exact false
@[elab_as_elim] theorem onMNot.inv {P:ME->Prop}{r:ME}{kk:ME->Bool}(h:onMNot r kk=true) (z:∀ e,kk e=true->P (.not e)):P r:=by revert h;induction r using ME.casesOn with | not e=>exact z e | _=>exact nft
noncomputable def onMCmp (r:ME) (kk:CmpOp->ME->ME->Bool):Bool:=by induction r using ME.casesOn with | cmp o a b=>exact kk o a b | _=>exact false
@[elab_as_elim] theorem onMCmp.inv {P:ME->Prop}{r:ME}{kk:CmpOp->ME->ME->Bool}(h:onMCmp r kk=true) (z:∀ o a b,kk o a b=true->P (.cmp o a b)):P r:=by revert h;induction r using ME.casesOn with | cmp o a b=>exact z o a b | _=>exact nft
noncomputable def onMBop (r:ME) (kk:Bool->ME->ME->Bool):Bool:=by induction r using ME.casesOn with | bop o a b=>exact kk o a b | _=>exact false
@[elab_as_elim] theorem onMBop.inv {P:ME->Prop}{r:ME}{kk:Bool->ME->ME->Bool}(h:onMBop r kk=true) (z:∀ o a b,kk o a b=true->P (.bop o a b)):P r:=by revert h;induction r using ME.casesOn with | bop o a b=>exact z o a b | _=>exact nft
section
variable {α:Type}
noncomputable def on0 (l:List α):Bool:=by cases l with | nil=>exact true | _=>exact false
@[elab_as_elim] theorem on0.inv {P:List α->Prop}{l:List α}(h:on0 l=true) (q:P []):P l:=by cases l with | nil=>exact q | _=>exact Zq h
noncomputable def onC (l:List α) (k:α->List α->Bool):Bool:=by cases l with | cons a b=>exact k a b | _=>exact false
@[elab_as_elim] theorem onC.inv {P:List α->Prop}{l:List α}{k:α->List α->Bool}(h:onC l k=true) (q:∀ a b,k a b=true->P (a::b)):P l:=by cases l with | cons a b=>exact q a b h | _=>exact Zq h
noncomputable def on1 (l:List α) (k:α->Bool):Bool:=onC l fun a b=>on0 b && k a
@[elab_as_elim] theorem on1.inv {P:List α->Prop}{l:List α}{k:α->Bool}(h:on1 l k=true) (q:∀ a,k a=true->P [a]):P l:=onC.inv h fun a b h=>on0.inv (P:=fun b=>P (a::b)) (an1 h) (q a (an2 h))
noncomputable def on2 (l:List α) (k:α->α->Bool):Bool:=onC l fun a b=>on1 b (k a)
@[elab_as_elim] theorem on2.inv {P:List α->Prop}{l:List α}{k:α->α->Bool}(h:on2 l k=true) (q:∀ a b,k a b=true->P [a,b]):P l:=onC.inv h fun a b h=>on1.inv (P:=fun b=>P (a::b)) h (q a)
noncomputable def onNo (o:Option α):Bool:=by cases o with | none=>exact true | _=>exact false
@[elab_as_elim] theorem onNo.inv {P:Option α->Prop}{o:Option α}(h:onNo o=true) (q:P none):P o:=by cases o with | none=>exact q | _=>exact Zq h
noncomputable def onSo (o:Option α) (k:α->Bool):Bool:=by cases o with | some a=>exact k a | _=>exact false
@[elab_as_elim] theorem onSo.inv {P:Option α->Prop}{o:Option α}{k:α->Bool}(h:onSo o k=true) (q:∀ a,k a=true->P (some a)):P o:=by cases o with | some a=>exact q a h | _=>exact Zq h
end
noncomputable def isNm (X:Tabs) (i:Nat) (r:Expr):Bool:=onName r fun x _=>sEq x (X.nm i)
noncomputable def isStr (s:Str) (r:Expr):Bool:=onCon r fun c=>by cases c with | str x=>exact sEq x s | _=>exact false
@[elab_as_elim] theorem isStr.inv {P:Expr->Prop}{s:Str}{r:Expr}(h:isStr s r=true) (q:∀ n p,P (.Constant (.str s) n p)):P r:=onCon.inv h fun c n p h=>by
 cases c with
 | str x=>exact (sEq_iff.mp h:x=s)▸q n p
 | _=>exact Zq h
noncomputable def asCst (c:Const):Option MV:=by cases c with | none=>exact some .none | bool b=>exact some (.bool b) | int i=>exact some (.int i) | _=>exact none
noncomputable def onAt (X:Tabs) (a:Nat) (r:Expr) (k:Expr->Bool):Bool:=onAttr r fun q x _=>sEq x (X.nm a) && k q
noncomputable def isKw (k:Keyword) (s:Str):Bool:=onSo k.arg fun y=>sEq y s
noncomputable def isComp (r:Expr):Bool:=by cases r with | ListComp | SetComp | DictComp=>exact true | _=>exact false
noncomputable def plainTest (r:Expr):Bool:=by cases r with | Name | Call | Attribute | Subscript | Constant=>exact true | _=>exact false
theorem plainTest_eq {r:Expr}(h:plainTest r=true) (env:Env) (whole:Sem Value):isTrue r env whole=(do let v ← whole;standAt r.pos;holding [v] (truthy v)):=by
 cases r<;>first | rfl | cases h
structure Checks where
 e:KD->ME->Expr->Bool
 es:KD->MEs->List Expr->Bool
 tr:KD->ME->Expr->Bool
 al:KD->Bool->ME->List Expr->Bool
 cs:KD->MEs->List Expr->Bool
 r:KD->MR->Expr->Bool
noncomputable def okT (X:Tabs) (ts:List Nat) (target:Expr):Bool:=onC ts fun t us=>(on0 us && isNm X t target) || on1 us fun u=>onTup target fun es=>on2 es fun a b=>isNm X t a && isNm X u b
noncomputable def okScope (X:Tabs) (kd:KD) (scope:Scope) (ts:List Nat):Bool:=
 decide (scope.kind=.function) && decide ((scope.names.map (·.1)).Nodup) &&
 (scope.names.all fun (n,k)=>k != .free || kd n == some .cell || kd n == some .free) &&
 ((List.range X.N).all fun i=>!(kdF scope.names (X.nm i) == some .local || kdF scope.names (X.nm i) == some .cell) || ts.contains i) &&
 (ts.all fun t=>decide (t<X.N) && (kdF scope.names (X.nm t) == some .local || kdF scope.names (X.nm t) == some .cell))
noncomputable def isSet (r:Expr):Bool:=by cases r with | Set=>exact true | _=>exact false
noncomputable def isBfn (X:Tabs) (kd:KD) (i:Nat) (v:Value):Bool:=kd (X.nm i) == some .globalImplicit && decide (X.bv i=some v)
noncomputable def isEnm (m:MR):Bool:=by cases m with | enm=>exact true | _=>exact false
noncomputable def wid (m:MR):Nat:=cond (isEnm m) 2 1
noncomputable def okComp (X:Tabs) (c:Checks) (kd:KD) (ts:List Nat) (src:MR) (conds:MEs) (elt:ME) (relt:Expr) (scope:Scope) (gc:Comprehension):Bool:=
 decide (gc.is_async=0) && (okT X ts gc.target && (!isSet gc.iter && (okScope X kd scope ts && (c.r kd src gc.iter && (ts.length == wid src && (c.cs (kdCF scope kd) conds gc.ifs && c.e (kdCF scope kd) elt relt))))))
noncomputable def stepC (X:Tabs) (c:Checks):Checks where
 e kd e r:=match e with
  | .var i=>isNm X i r && (decide (i<X.N) && varKind (kd (X.nm i)))
  | .cst v=>onCon r fun k=>decide (asCst k=some v)
  | .glob i v=>isNm X i r && (kd (X.nm i) == some .globalImplicit && onSo (X.gv i) fun u=>decide (strip u=v))
  | .bfn i b=>isNm X i r && (decide (b=.abs) && isBfn X kd i (.builtin "abs"))
  | .attr e a=>onAt X a r fun q=>plainBase q && c.e kd e q
  | .bnd e m=>onAt X m r fun q=>plainBase q && c.e kd e q
  | .sub e i=>onSub r fun q ri=>c.e kd e q && (c.e kd i ri && notSlice ri)
  | .subk e k=>onSub r fun q i=>isStr (keyOf k) i && c.e kd e q
  | .sliceTo e hi=>onSub r fun q i=>onSlice i fun l u t=>onNo l && (onNo t && onSo u fun ri=>c.e kd e q && c.e kd hi ri)
  | .sliceFrom e lo=>onSub r fun q i=>onSlice i fun l u t=>onNo u && (onNo t && onSo l fun ri=>c.e kd e q && c.e kd lo ri)
  | .neg e=>onUn r fun o q=>decide (o=.USub) && c.e kd e q
  | .bin op a b=>onBin r fun ra o rb=>decide (o=op) && (c.e kd a ra && c.e kd b rb)
  | .cmp op a b=>onCmp r fun ra os rbs=>on1 os fun o=>on1 rbs fun rb=>decide (o=op) && (c.e kd a ra && (c.e kd b rb && !behindInMarks op rb))
  | .bop isAnd a b=>onBop r fun o rs=>on2 rs fun ra rb=>decide (o=if isAnd then .And else .Or) && (c.e kd a ra && c.e kd b rb)
  | .not _=>false
  | .ite t a b=>onIte r fun rt ra rb=>c.tr kd t rt && (c.e kd a ra && c.e kd b rb)
  | .call i f args=>onCall r fun q rs ks _=>isNm X i q && (on0 ks && (kd (X.nm i) == some .globalImplicit && (X.fns i == some f && c.es kd args rs)))
  | .mcall e m args=>onCall r fun q rs ks pos=>on0 ks && onAttr q fun q x apos=>sEq x (X.nm m) && (plainBase q && (decide (rs.length<30) && (apos.endLine == pos.line && (c.e kd e q && c.es kd args rs))))
  | .new i C f args=>onCall r fun q rs ks _=>isNm X i q && (on0 ks && (kd (X.nm i) == some .globalImplicit && (X.cls i == some (C,f) && c.es kd args rs)))
  | .bcall i b args=>onCall r fun q rs ks _=>isNm X i q && (on0 ks && (isBfn X kd i (bfVal b) && c.es kd args rs))
  | .sortedK i e key=>onCall r fun q rs ks _=>isNm X i q && (on1 ks fun k=>on1 rs fun a=>isBfn X kd i (.builtin "sorted") && (notStar a && (isKw k "key" && (c.e kd e a && c.e kd key k.value))))
  | .lsortK e key rev=>onCall r fun q rs ks pos=>onAttr q fun q x apos=>sEq x "sort" && (on0 rs && (plainBase q && (apos.endLine == pos.line && (c.e kd e q &&
    ((!rev && on1 ks fun k=>isKw k "key" && c.e kd key k.value) || (rev && on2 ks fun k k2=>isKw k "key" && (isKw k2 "reverse" && (onCon k2.value (fun b=>decide (b=.bool true)) && c.e kd key k.value))))))))
  | .list es=>onList r fun rs=>decide (rs.length≤100) && c.es kd es rs
  | .tup es=>onTup r fun rs=>decide (rs.length≤100) && c.es kd es rs
  | .dict2 a b=>onDict r fun ks vs=>on2 ks fun k1 k2=>onSo k1 fun k1=>isStr "cells" k1 && onSo k2 fun k2=>isStr "at" k2 && on2 vs fun ra rb=>c.e kd a ra && c.e kd b rb
  | .comp elt ts src conds=>onLC r fun relt gs scope _=>on1 gs fun gc=>okComp X c kd ts src conds elt relt scope gc
 es kd es rs:=match es with
  | .nil=>on0 rs
  | .cons e es=>onC rs fun r rs=>notStar r && (c.e kd e r && c.es kd es rs)
 tr kd e r:=(plainTest r && c.e kd e r) || ((onMNot e fun e=>onUn r fun o q=>decide (o=.Not) && c.tr kd e q) ||
  ((onMCmp e fun op a b=>onCmp r fun ra os rbs=>on1 os fun o=>on1 rbs fun rb=>decide (o=op) && (c.e kd a ra && (c.e kd b rb && !behindInMarks op rb))) ||
   (onMBop e fun isAnd a b=>onBop r fun o rs=>decide (o=if isAnd then .And else .Or) && c.al kd isAnd (.bop isAnd a b) rs)))
 al kd isAnd e rs:=onC rs fun r rs=>(on0 rs && c.tr kd e r) || onMBop e fun i a b=>i == isAnd && (c.tr kd a r && c.al kd isAnd b rs)
 cs kd es rs:=match es with
  | .nil=>on0 rs
  | .cons e es=>onC rs fun r rs=>c.tr kd e r && c.cs kd es rs
 r kd m r:=match m with
  | .seq e=>c.e kd e r
  | .enm e=>onCall r fun q rs ks _=>on0 ks && (((List.range X.N).any fun i=>isNm X i q && isBfn X kd i (.type "enumerate")) && c.es kd (.cons e .nil) rs)
  | .rng lo hi step n=>onCall r fun q rs ks _=>on0 ks && (((List.range X.N).any fun i=>isNm X i q && isBfn X kd i (.type "range")) &&
    ((decide (n=1∧step=true) && (isCst0 lo && c.es kd (.cons hi .nil) rs)) || ((decide (n=2∧step=true) && c.es kd (.cons lo (.cons hi .nil)) rs) ||
     (decide (n=3∧step=false) && c.es kd (.cons lo (.cons hi (.cons (.neg (.cst (.int 1))) .nil))) rs))))
noncomputable def chk (X:Tabs):Nat->Checks
 | 0=>⟨fun _ _ _=>false,fun _ _ _=>false,fun _ _ _=>false,fun _ _ _ _=>false,fun _ _ _=>false,fun _ _ _=>false⟩
 | n+1=>stepC X (chk X n)
structure Sound (B:Base) (T:Tab) (d:Nat) (c:Checks):Prop where
 e:∀ kd e r,c.e kd e r=true->EvOK B T d kd e r
 es:∀ kd es rs,c.es kd es rs=true->EvsOK B T d kd es rs
 tr:∀ kd e r,c.tr kd e r=true->TrOK B T d kd e r
 al:∀ kd i e rs,c.al kd i e rs=true->AllOK B T d kd i e rs
 cs:∀ kd es rs,c.cs kd es rs=true->CondsOK B T d kd es rs
 r:∀ kd m r,c.r kd m r=true->SrcOK B T d kd (wid m) m r
theorem kwIs {s:Str}:∀ {k:Keyword},isKw k s=true->k=⟨some s,k.value,k.pos⟩
 | ⟨a,v,p⟩,h=>congrArg (fun o=>Keyword.mk o v p) (onSo.inv (P:=fun o=>o=some s) h fun y h=>congrArg some (sEq_iff.mp h))
theorem compIs:∀ {g:Comprehension},g.is_async=0->g=⟨g.target,g.iter,g.ifs,0⟩
 | ⟨_,_,_,_⟩,rfl=>rfl
section
variable {B:Base}{X:Tabs}
theorem nameIs (hX:TabsOK B X) {x:Str}{i:Nat}(h:sEq x (X.nm i)=true):x=B.nm i:=by rw[← hX.nm];exact sEq_iff.mp h
@[elab_as_elim] theorem isNm.inv {P:Expr->Prop}(hX:TabsOK B X) {i:Nat}{r:Expr}(h:isNm X i r=true) (q:∀ p,P (.Name (B.nm i) p)):P r:=onName.inv h fun x p h=>(nameIs hX h:x=B.nm i)▸q p
@[elab_as_elim] theorem onAt.inv {P:Expr->Prop}(hX:TabsOK B X) {a:Nat}{r:Expr}{k:Expr->Bool}(h:onAt X a r k=true) (q:∀ e p,k e=true->P (.Attribute e (B.nm a) p)):P r:=onAttr.inv h fun e x p h=>(nameIs hX (an1 h):x=B.nm a)▸q e p (an2 h)
theorem okT_tgt (hX:TabsOK B X) {ts:List Nat}{t:Expr}(h:okT X ts t=true):TgtOK B ts t:=
 onC.inv (P:=fun ts=>TgtOK B ts t) h fun t' us h=>orK h
  (fun h=>on0.inv (P:=fun us=>TgtOK B (t'::us) t) (an1 h) (isNm.inv (P:=TgtOK B [t']) hX (an2 h) fun p=>.one))
  (fun h=>on1.inv (P:=fun us=>TgtOK B (t'::us) t) h fun u h=>onTup.inv (P:=TgtOK B [t',u]) h fun es n p h=>on2.inv (P:=fun es=>TgtOK B [t',u] (.Tuple es n p)) h fun a b h=>
   isNm.inv (P:=fun a=>TgtOK B [t',u] (.Tuple [a,b] n p)) hX (an1 h) fun p1=>isNm.inv (P:=fun b=>TgtOK B [t',u] (.Tuple [.Name _ p1,b] n p)) hX (an2 h) fun p2=>.two)
end
theorem okScope_ok {B:Base}{X:Tabs}(hX:TabsOK B X) {kd:KD}{scope:Scope}{ts:List Nat}(h:okScope X kd scope ts=true):ScopeOK B kd scope ts:=by
 unfold okScope at h
 simp only [Zy,decide_eq_true_eq,Z8,hX.N,hX.nm] at h
 refine hide fun R done=>?_
 obtain ⟨⟨⟨⟨h1,h2⟩,h3⟩,h4⟩,h5⟩:=h
 refine done ?_
 refine⟨h1,h2,fun n hn=>?_,fun i hi hk=>?_,fun t ht=>?_⟩
 ·have:=h3 (n,.free) hn
  simpa using this
 ·have:=h4 i (Yp.mpr hi)
  rw[kdF_eq] at this
  rcases hk with hk | hk<;>(rw[hk] at this;simpa using this)
 ·have:=h5 t ht
  rw[kdF_eq] at this
  simpa using this
end
section
variable {B:Base}{T:Tab}{d:Nat}{X:Tabs}{c:Checks}
theorem ev_cst {kd:KD}{v:MV}{k:Const}{n:Nat}{p:Pos}(h:asCst k=some v):EvOK B T d kd (.cst v) (.Constant k n p):=by
 cases k<;>cases h
 ·exact ev_none
 ·exact ev_bool
 ·exact ev_int
theorem isKd {hX:TabsOK B X}{kd:KD}{i:Nat}(h:(kd (X.nm i) == some .globalImplicit)=true):kd (B.nm i)=some .globalImplicit:=hX.nm▸eq_of_beq h
theorem SrcOK.wid {kd:KD}{ts:List Nat}{m:MR}{r:Expr}(h:SrcOK B T d kd (wid m) m r) (e:(ts.length == Mine.wid m)=true):SrcOK B T d kd ts.length m r:=(eq_of_beq e).symm▸h
structure CompOK (B:Base) (T:Tab) (d:Nat) (kd:KD) (ts:List Nat) (src:MR) (conds:MEs) (elt:ME) (relt target iter:Expr) (ifs:List Expr) (scope:Scope):Prop where
 src:SrcOK B T d kd ts.length src iter
 tg:TgtOK B ts target
 cs:CondsOK B T d (kdC scope kd) conds ifs
 e:EvOK B T d (kdC scope kd) elt relt
 sc:ScopeOK B kd scope ts
 st:∀ env x,foldedSetIterable iter env x=pure x
theorem noSet {r:Expr}(h:isSet r=false) (env:Env) (x:Value):foldedSetIterable r env x=pure x:=by
 cases r<;>first | rfl | cases h
theorem okComp_ok (hX:TabsOK B X) (S:Sound B T d c) {kd:KD}{ts:List Nat}{src:MR}{conds:MEs}{elt:ME}{relt:Expr}{scope:Scope}{gc:Comprehension}(h:okComp X c kd ts src conds elt relt scope gc=true) :
  gc=⟨gc.target,gc.iter,gc.ifs,0⟩∧CompOK B T d kd ts src conds elt relt gc.target gc.iter gc.ifs scope:=by
 have h1:=an2 h
 have h2:=an2 h1
 have h3:=an2 h2
 have h4:=an2 h3
 have h5:=an2 h4
 have e:=kdCF_eq scope kd
 exact⟨compIs (of_decide_eq_true (an1 h)),⟨(S.r _ _ _ (an1 h4)).wid (an1 h5),okT_tgt hX (an1 h1),e▸S.cs _ _ _ (an1 (an2 h5)),e▸S.e _ _ _ (an2 (an2 h5)),okScope_ok hX (an1 h3),noSet (noB (an1 h2))⟩⟩
theorem CompOK.ev (g:B.Good) {kd:KD}{ts:List Nat}{src:MR}{conds:MEs}{elt:ME}{relt target iter:Expr}{ifs:List Expr}{scope:Scope}{pos:Pos}(z:CompOK B T d kd ts src conds elt relt target iter ifs scope):EvOK B T d kd (.comp elt ts src conds) (.ListComp relt [⟨target,iter,ifs,0⟩] scope pos):=
 ev_comp g z.src z.tg z.cs z.e z.sc z.st
theorem bfnIs (hX:TabsOK B X) {kd:KD}{i:Nat}{v:Value}(h:isBfn X kd i v=true):kd (B.nm i)=some .globalImplicit∧i<B.N∧nsIn B.K mainGlobals (B.nm i)=some none∧bootBuiltins (B.nm i)=some v:=
 ⟨isKd (hX:=hX) (an1 h),hX.bv i v (of_decide_eq_true (an2 h))⟩
theorem snd_e1 (g:B.Good) (tb:TabOk B T) (nm:NmOk B) (hX:TabsOK B X) (S:Sound B T d c) (kd:KD):∀ (e:ME) (r:Expr),(stepC X c).e kd e r=true->EvOK B T d kd e r
 | .var i,r,h=>isNm.inv hX (an1 h) fun p=>
  have hi:i<B.N:=hX.N▸of_decide_eq_true (an1 (an2 h))
  ev_var hi (hX.nm▸an2 (an2 h)) (hX.names i hi).1 (hX.names i hi).2.1
 | .cst v,r,h=>onCon.inv h fun k n p h=>ev_cst (of_decide_eq_true h)
 | .glob i v,r,h=>isNm.inv hX (an1 h) fun p=>by
  have h2:=an2 (an2 h)
  induction hu:X.gv i using Option.casesOn with
  | none=>rw[hu] at h2;exact Zq h2
  | some u=>
   rw[hu] at h2
   refine aE2 (hX.gv i u hu) fun hi e1=>?_
   have e2:strip u=v:=of_decide_eq_true h2
   exact e2▸ev_glob g (isKd (hX:=hX) (an1 (an2 h))) e1 (hX.names i hi).1
 | .bfn i b,r,h=>isNm.inv hX (an1 h) fun p=>
  have e:b=.abs:=of_decide_eq_true (an1 (an2 h))
  have z:=bfnIs hX (an2 (an2 h))
  have n:=hX.names i z.2.1
  e▸ev_bfn g z.1 z.2.2.1 z.2.2.2 n.2.2 n.1
 | .attr e a,r,h=>onAt.inv hX h fun q p h=>ev_attr g tb (S.e _ _ _ (an2 h)) (an1 h)
 | .bnd e m,r,h=>onAt.inv hX h fun q p h=>ev_bnd g tb (S.e _ _ _ (an2 h)) (an1 h)
 | .sub e i,r,h=>onSub.inv h fun q ri p h=>ev_sub (S.e _ _ _ (an1 h)) (S.e _ _ _ (an1 (an2 h))) (an2 (an2 h))
 | .subk e k,r,h=>onSub.inv h fun q i p h=>isStr.inv (P:=fun i=>EvOK B T d kd (.subk e k) (.Subscript q i p)) (an1 h) fun n p2=>ev_subk (S.e _ _ _ (an2 h))
 | .sliceTo e hi,r,h=>onSub.inv h fun q i p h=>onSlice.inv (P:=fun i=>EvOK B T d kd (.sliceTo e hi) (.Subscript q i p)) h fun l u t p2 h=>
  onNo.inv (P:=fun l=>EvOK B T d kd (.sliceTo e hi) (.Subscript q (.Slice l u t p2) p)) (an1 h) (onNo.inv (P:=fun t=>EvOK B T d kd (.sliceTo e hi) (.Subscript q (.Slice none u t p2) p)) (an1 (an2 h))
   (onSo.inv (P:=fun u=>EvOK B T d kd (.sliceTo e hi) (.Subscript q (.Slice none u none p2) p)) (an2 (an2 h)) fun ri h=>ev_sliceTo (S.e _ _ _ (an1 h)) (S.e _ _ _ (an2 h))))
 | .sliceFrom e hi,r,h=>onSub.inv h fun q i p h=>onSlice.inv (P:=fun i=>EvOK B T d kd (.sliceFrom e hi) (.Subscript q i p)) h fun l u t p2 h=>
  onNo.inv (P:=fun u=>EvOK B T d kd (.sliceFrom e hi) (.Subscript q (.Slice l u t p2) p)) (an1 h) (onNo.inv (P:=fun t=>EvOK B T d kd (.sliceFrom e hi) (.Subscript q (.Slice l none t p2) p)) (an1 (an2 h))
   (onSo.inv (P:=fun l=>EvOK B T d kd (.sliceFrom e hi) (.Subscript q (.Slice l none none p2) p)) (an2 (an2 h)) fun ri h=>ev_sliceFrom (S.e _ _ _ (an1 h)) (S.e _ _ _ (an2 h))))
 | .neg e,r,h=>onUn.inv h fun o q p h=>
  have eo:o=.USub:=of_decide_eq_true (an1 h)
  eo▸ev_neg (S.e _ _ _ (an2 h))
 | .bin op a b,r,h=>onBin.inv h fun ra o rb p h=>
  have eo:o=op:=of_decide_eq_true (an1 h)
  eo▸ev_bin (S.e _ _ _ (an1 (an2 h))) (S.e _ _ _ (an2 (an2 h)))
 | .cmp op a b,r,h=>onCmp.inv h fun ra os rbs p h=>on1.inv (P:=fun os=>EvOK B T d kd (.cmp op a b) (.Compare ra os rbs p)) h fun o h=>on1.inv (P:=fun rbs=>EvOK B T d kd (.cmp op a b) (.Compare ra [o] rbs p)) h fun rb h=>
  have eo:o=op:=of_decide_eq_true (an1 h)
  eo▸ev_cmp (S.e _ _ _ (an1 (an2 h))) (S.e _ _ _ (an1 (an2 (an2 h)))) (eo▸noB (an2 (an2 (an2 h))))
 | .bop isAnd a b,r,h=>onBop.inv h fun o rs p h=>on2.inv (P:=fun rs=>EvOK B T d kd (.bop isAnd a b) (.BoolOp o rs p)) h fun ra rb h=>
  have eo:o=(if isAnd then .And else .Or):=of_decide_eq_true (an1 h)
  eo▸ev_bool2 (S.e _ _ _ (an1 (an2 h))) (S.e _ _ _ (an2 (an2 h)))
 | .not e,r,h=>Zq h
 | .ite t a b,r,h=>onIte.inv h fun rt ra rb p h=>ev_ite (S.tr _ _ _ (an1 h)) (S.e _ _ _ (an1 (an2 h))) (S.e _ _ _ (an2 (an2 h)))
 | .call i f args,r,h=>onCall.inv h fun q rs ks p h=>isNm.inv (P:=fun q=>EvOK B T d kd (.call i f args) (.Call q rs ks p)) hX (an1 h) fun p2=>
  have h1:=an2 h
  have h2:=an2 h1
  on0.inv (P:=fun ks=>EvOK B T d kd (.call i f args) (.Call (.Name _ p2) rs ks p)) (an1 h1)
   (have z:=hX.fns i f (eq_of_beq (an1 (an2 h2)))
    have y:=hX.gv i _ z.1
    ev_call g (S.es _ _ _ (an2 (an2 h2))) (isKd (hX:=hX) (an1 h2)) y.2 (hX.names i y.1).1 z.2)
 | .mcall e m args,r,h=>onCall.inv h fun q rs ks p h=>on0.inv (P:=fun ks=>EvOK B T d kd (.mcall e m args) (.Call q rs ks p)) (an1 h)
  (onAttr.inv (P:=fun q=>EvOK B T d kd (.mcall e m args) (.Call q rs [] p)) (an2 h) fun q x apos h=>
   have h1:=an2 h
   have h2:=an2 h1
   have h3:=an2 h2
   have h4:=an2 h3
   (nameIs hX (an1 h):x=B.nm m)▸ev_mcall g tb nm (S.e _ _ _ (an1 h4)) (S.es _ _ _ (an2 h4)) (an1 h1) (of_decide_eq_true (an1 h2)) (eq_of_beq (an1 h3)))
 | .new i C f args,r,h=>onCall.inv h fun q rs ks p h=>isNm.inv (P:=fun q=>EvOK B T d kd (.new i C f args) (.Call q rs ks p)) hX (an1 h) fun p2=>
  have h1:=an2 h
  have h2:=an2 h1
  on0.inv (P:=fun ks=>EvOK B T d kd (.new i C f args) (.Call (.Name _ p2) rs ks p)) (an1 h1)
   (have z:=hX.cls i C f (eq_of_beq (an1 (an2 h2)))
    have y:=hX.gv i _ z.1
    ev_new g (S.es _ _ _ (an2 (an2 h2))) (isKd (hX:=hX) (an1 h2)) y.2 (hX.names i y.1).1 z.2.1 z.2.2.1 z.2.2.2.1 z.2.2.2.2)
 | .bcall i b args,r,h=>onCall.inv h fun q rs ks p h=>isNm.inv (P:=fun q=>EvOK B T d kd (.bcall i b args) (.Call q rs ks p)) hX (an1 h) fun p2=>
  have h1:=an2 h
  have h2:=an2 h1
  on0.inv (P:=fun ks=>EvOK B T d kd (.bcall i b args) (.Call (.Name _ p2) rs ks p)) (an1 h1)
   (have z:=bfnIs hX (an1 h2)
    have n:=hX.names i z.2.1
    ev_bcall g (S.es _ _ _ (an2 h2)) z.1 z.2.2.1 z.2.2.2 n.2.2 n.1)
 | .sortedK i e key,r,h=>onCall.inv h fun q rs ks p h=>isNm.inv (P:=fun q=>EvOK B T d kd (.sortedK i e key) (.Call q rs ks p)) hX (an1 h) fun p2=>
  on1.inv (P:=fun ks=>EvOK B T d kd (.sortedK i e key) (.Call (.Name _ p2) rs ks p)) (an2 h) fun k h=>on1.inv (P:=fun rs=>EvOK B T d kd (.sortedK i e key) (.Call (.Name _ p2) rs [k] p)) h fun a h=>
   have h1:=an2 h
   have h2:=an2 h1
   have z:=bfnIs hX (an1 h)
   have n:=hX.names i z.2.1
   (kwIs (an1 h2)).symm▸ev_sortedK (p2:=p) (p3:=p) (n:=0) g (S.e _ _ _ (an1 (an2 h2))) (S.e _ _ _ (an2 (an2 h2))) (an1 h1) z.1 z.2.2.1 z.2.2.2 n.2.2 n.1
 | .lsortK e key rev,r,h=>onCall.inv h fun q rs ks p h=>onAttr.inv (P:=fun q=>EvOK B T d kd (.lsortK e key rev) (.Call q rs ks p)) h fun q x apos h=>
  have h1:=an2 h
  have h2:=an2 h1
  have h3:=an2 h2
  have h4:=an2 h3
  (sEq_iff.mp (an1 h):x = "sort")▸on0.inv (P:=fun rs=>EvOK B T d kd (.lsortK e key rev) (.Call (.Attribute q "sort" apos) rs ks p)) (an1 h1)
   (orK (an2 h4)
    (fun h=>(noB (an1 h):rev=false)▸on1.inv (P:=fun ks=>EvOK B T d kd (.lsortK e key false) (.Call (.Attribute q "sort" apos) [] ks p)) (an2 h) fun k h=>
     (kwIs (an1 h)).symm▸ev_lsortK (rev:=false) (p2:=p) (p3:=p) (n:=0) g (S.e _ _ _ (an1 h4)) (S.e _ _ _ (an2 h)) (an1 h2) (eq_of_beq (an1 h3)))
    (fun h=>(an1 h:rev=true)▸on2.inv (P:=fun ks=>EvOK B T d kd (.lsortK e key true) (.Call (.Attribute q "sort" apos) [] ks p)) (an2 h) fun k k2 h=>
     have a1:=an2 h
     have a2:=an2 a1
     (kwIs (an1 h)).symm▸(kwIs (an1 a1)).symm▸onCon.inv (P:=fun v=>EvOK B T d kd (.lsortK e key true) (.Call (.Attribute q "sort" apos) [] [⟨some "key",k.value,k.pos⟩,⟨some "reverse",v,k2.pos⟩] p)) (an1 a2) fun b n p2 hb=>
      (of_decide_eq_true hb:b=.bool true)▸ev_lsortK (rev:=true) g (S.e _ _ _ (an1 h4)) (S.e _ _ _ (an2 a2)) (an1 h2) (eq_of_beq (an1 h3))))
 | .list es,r,h=>onList.inv h fun rs p h=>ev_list (S.es _ _ _ (an2 h)) (of_decide_eq_true (an1 h))
 | .tup es,r,h=>onTup.inv h fun rs n p h=>ev_tup (S.es _ _ _ (an2 h)) (of_decide_eq_true (an1 h))
 | .dict2 a b,r,h=>onDict.inv h fun ks vs p h=>on2.inv (P:=fun ks=>EvOK B T d kd (.dict2 a b) (.Dict ks vs p)) h fun k1 k2 h=>
  onSo.inv (P:=fun k1=>EvOK B T d kd (.dict2 a b) (.Dict [k1,k2] vs p)) h fun k1 h=>isStr.inv (P:=fun k1=>EvOK B T d kd (.dict2 a b) (.Dict [some k1,k2] vs p)) (an1 h) fun n1 p1=>
   onSo.inv (P:=fun k2=>EvOK B T d kd (.dict2 a b) (.Dict [some (.Constant _ n1 p1),k2] vs p)) (an2 h) fun k2 h=>isStr.inv (P:=fun k2=>EvOK B T d kd (.dict2 a b) (.Dict [some (.Constant _ n1 p1),some k2] vs p)) (an1 h) fun n2 p2=>
    on2.inv (P:=fun vs=>EvOK B T d kd (.dict2 a b) (.Dict [some (.Constant _ n1 p1),some (.Constant _ n2 p2)] vs p)) (an2 h) fun ra rb h=>ev_dict2 (S.e _ _ _ (an1 h)) (S.e _ _ _ (an2 h))
 | .comp elt ts src conds,r,h=>onLC.inv h fun relt gs scope p h=>on1.inv (P:=fun gs=>EvOK B T d kd (.comp elt ts src conds) (.ListComp relt gs scope p)) h fun gc h=>
  have z:=okComp_ok hX S h
  z.1.symm▸z.2.ev g
theorem snd_al (S:Sound B T d c) {kd:KD}{isAnd:Bool}{e:ME}{rs:List Expr}(h:(stepC X c).al kd isAnd e rs=true):AllOK B T d kd isAnd e rs:=
 onC.inv h fun r rs h=>orK h
  (fun h=>on0.inv (P:=fun rs=>AllOK B T d kd isAnd e (r::rs)) (an1 h) (all_one (S.tr _ _ _ (an2 h))))
  (fun h=>onMBop.inv (P:=fun e=>AllOK B T d kd isAnd e (r::rs)) h fun i a b h=>(eq_of_beq (an1 h)).symm▸all_cons (S.tr _ _ _ (an1 (an2 h))) (S.al _ _ _ _ (an2 (an2 h))))
theorem snd_tr (S:Sound B T d c) {kd:KD}{e:ME}{r:Expr}(h:(stepC X c).tr kd e r=true):TrOK B T d kd e r:=
 orK h (fun h=>tr_of_ev (S.e _ _ _ (an2 h)) fun env whole=>plainTest_eq (an1 h) env whole) fun h=>orK h
  (fun h=>onMNot.inv (P:=fun e=>TrOK B T d kd e r) h fun e h=>onUn.inv h fun o q p h=>(of_decide_eq_true (an1 h):o=.Not)▸tr_not (S.tr _ _ _ (an2 h))) fun h=>orK h
  (fun h=>onMCmp.inv (P:=fun e=>TrOK B T d kd e r) h fun op a b h=>onCmp.inv h fun ra os rbs p h=>on1.inv (P:=fun os=>TrOK B T d kd (.cmp op a b) (.Compare ra os rbs p)) h fun o h=>on1.inv (P:=fun rbs=>TrOK B T d kd (.cmp op a b) (.Compare ra [o] rbs p)) h fun rb h=>
   have eo:o=op:=of_decide_eq_true (an1 h)
   eo▸tr_cmp (S.e _ _ _ (an1 (an2 h))) (S.e _ _ _ (an1 (an2 (an2 h)))) (eo▸noB (an2 (an2 (an2 h)))))
  (fun h=>onMBop.inv (P:=fun e=>TrOK B T d kd e r) h fun isAnd a b h=>onBop.inv h fun o rs p h=>(of_decide_eq_true (an1 h):o=(if isAnd then .And else .Or))▸tr_bool (S.al _ _ _ _ (an2 h)))
theorem snd_r (g:B.Good) (hX:TabsOK B X) (S:Sound B T d c) {kd:KD}:∀ {m:MR}{r:Expr},(stepC X c).r kd m r=true->SrcOK B T d kd (wid m) m r
 | .seq e,r,h=>src_seq (S.e _ _ _ h)
 | .enm e,r,h=>onCall.inv h fun q rs ks p h=>on0.inv (P:=fun ks=>SrcOK B T d kd 2 (.enm e) (.Call q rs ks p)) (an1 h) (by
  refine xE1 (List.any_eq_true.mp (an1 (an2 h))) fun i t1_0=>aE2 t1_0 fun hi h1=>?_
  have z:=bfnIs hX (an2 h1)
  have n:=hX.names i z.2.1
  exact isNm.inv (P:=fun q=>SrcOK B T d kd 2 (.enm e) (.Call q rs [] p)) hX (an1 h1) fun p2=>src_enm g z.1 z.2.2.1 z.2.2.2 n.2.2 n.1 (S.es _ _ _ (an2 (an2 h))))
 | .rng lo hi step n,r,h=>onCall.inv h fun q rs ks p h=>on0.inv (P:=fun ks=>SrcOK B T d kd 1 (.rng lo hi step n) (.Call q rs ks p)) (an1 h) (by
  refine xE1 (List.any_eq_true.mp (an1 (an2 h))) fun i t2_0=>aE2 t2_0 fun hi h1=>?_
  have z:=bfnIs hX (an2 h1)
  have w:=hX.names i z.2.1
  refine isNm.inv (P:=fun q=>SrcOK B T d kd 1 (.rng lo _ step n) (.Call q rs [] p)) hX (an1 h1) fun p2=>orK (an2 (an2 h)) (fun h=>?_) fun h=>orK h (fun h=>?_) fun h=>?_
  ·refine aE2 (of_decide_eq_true (an1 h)) fun e3_0 e3_1=>?_
   subst e3_0
   subst e3_1
   exact (isCst0.inv (an1 (an2 h))).symm▸src_rng1 g z.1 z.2.2.1 z.2.2.2 w.2.2 w.1 (S.es _ _ _ (an2 (an2 h)))
  ·refine aE2 (of_decide_eq_true (an1 h)) fun e4_0 e4_1=>?_
   subst e4_0
   subst e4_1
   exact src_rng2 g z.1 z.2.2.1 z.2.2.2 w.2.2 w.1 (S.es _ _ _ (an2 h))
  ·refine aE2 (of_decide_eq_true (an1 h)) fun e5_0 e5_1=>?_
   subst e5_0
   subst e5_1
   exact src_rng3 g z.1 z.2.2.1 z.2.2.2 w.2.2 w.1 (S.es _ _ _ (an2 h)))
theorem snd_step (g:B.Good) (tb:TabOk B T) (nm:NmOk B) (hX:TabsOK B X) (S:Sound B T d c):Sound B T d (stepC X c) where
 e kd:=snd_e1 g tb nm hX S kd
 es kd es:=match es with
  | .nil=>fun rs h=>on0.inv h evs_nil
  | .cons e es=>fun rs h=>onC.inv h fun r rs h=>evs_cons (an1 h) (S.e _ _ _ (an1 (an2 h))) (S.es _ _ _ (an2 (an2 h)))
 tr kd e r h:=snd_tr S h
 al kd i e rs h:=snd_al S h
 cs kd es:=match es with
  | .nil=>fun rs h=>on0.inv h conds_nil
  | .cons e es=>fun rs h=>onC.inv h fun r rs h=>conds_cons (S.tr _ _ _ (an1 h)) (S.cs _ _ _ (an2 h))
 r kd m r h:=snd_r g hX S h
theorem snd (g:B.Good) (tb:TabOk B T) (nm:NmOk B) (hX:TabsOK B X):∀ n,Sound B T d (chk X n)
 | 0=>⟨fun _ _ _ h=>Zq h,fun _ _ _ h=>Zq h,fun _ _ _ h=>Zq h,fun _ _ _ _ h=>Zq h,fun _ _ _ h=>Zq h,fun _ _ _ h=>Zq h⟩
 | n+1=>snd_step g tb nm hX (snd g tb nm hX n)
end
noncomputable section
noncomputable def notName (r:Expr):Bool:=by cases r with | Name=>exact false | _=>exact true
noncomputable def swapNames (kd:KD) (ts:List Expr) (line:Nat):List Str:=ts.filterMap fun
 | .Name id pos=>if kd id == some .local && pos.line == line then some id else none
 | _=>none
noncomputable def swapB (kd:KD) (ts:List Expr) (value:Expr):Option (Option (List Str)):=match value with
 | .Tuple vs _ _=>
  if !(ts.length == 2 || ts.length == 3) || vs.length != ts.length then some none
  else if vs.any (fun | .Starred ..=>true | _=>false) then some none
  else if (swapNames kd ts ((ts.head?.map (·.pos.line)).getD 0)).length != ts.length || (swapNames kd ts ((ts.head?.map (·.pos.line)).getD 0)).eraseDups.length != (swapNames kd ts ((ts.head?.map (·.pos.line)).getD 0)).length then some none
  else if vs.all (foldedForSure 8) then some none
  else if vs.all (constantsAlone 8) then none
  else some (some (swapNames kd ts ((ts.head?.map (·.pos.line)).getD 0)))
 | _=>some none
noncomputable def onExS (r:Stmt) (kk:Expr->Bool):Bool:=by induction r using Stmt.casesOn with | Expr q p=>exact kk q | _=>exact false
@[elab_as_elim] theorem onExS.inv {P:Stmt->Prop}{r:Stmt}{kk:Expr->Bool}(h:onExS r kk=true) (z:∀ q p,kk q=true->P (.Expr q p)):P r:=by revert h;induction r using Stmt.casesOn with | Expr q p=>exact z q p | _=>exact nft
noncomputable def onAsg (r:Stmt) (kk:List Expr->Expr->Pos->Bool):Bool:=by induction r using Stmt.casesOn with | Assign a q p=>exact kk a q p | _=>exact false
@[elab_as_elim] theorem onAsg.inv {P:Stmt->Prop}{r:Stmt}{kk:List Expr->Expr->Pos->Bool}(h:onAsg r kk=true) (z:∀ a q p,kk a q p=true->P (.Assign a q p)):P r:=by revert h;induction r using Stmt.casesOn with | Assign a q p=>exact z a q p | _=>exact nft
noncomputable def onIf (r:Stmt) (kk:Expr->List Stmt->List Stmt->Bool):Bool:=by induction r using Stmt.casesOn with | If t a b p=>exact kk t a b | _=>exact false
@[elab_as_elim] theorem onIf.inv {P:Stmt->Prop}{r:Stmt}{kk:Expr->List Stmt->List Stmt->Bool}(h:onIf r kk=true) (z:∀ t a b p,kk t a b=true->P (.If t a b p)):P r:=by revert h;induction r using Stmt.casesOn with | If t a b p=>exact z t a b p | _=>exact nft
noncomputable def onWhile (r:Stmt) (kk:Expr->List Stmt->List Stmt->Bool):Bool:=by induction r using Stmt.casesOn with | While t a b p=>exact kk t a b | _=>exact false
@[elab_as_elim] theorem onWhile.inv {P:Stmt->Prop}{r:Stmt}{kk:Expr->List Stmt->List Stmt->Bool}(h:onWhile r kk=true) (z:∀ t a b p,kk t a b=true->P (.While t a b p)):P r:=by revert h;induction r using Stmt.casesOn with | While t a b p=>exact z t a b p | _=>exact nft
noncomputable def onFor (r:Stmt) (kk:Expr->Expr->List Stmt->List Stmt->Bool):Bool:=by induction r using Stmt.casesOn with | For t i a b p=>exact kk t i a b | _=>exact false
@[elab_as_elim] theorem onFor.inv {P:Stmt->Prop}{r:Stmt}{kk:Expr->Expr->List Stmt->List Stmt->Bool}(h:onFor r kk=true) (z:∀ t i a b p,kk t i a b=true->P (.For t i a b p)):P r:=by revert h;induction r using Stmt.casesOn with | For t i a b p=>exact z t i a b p | _=>exact nft
noncomputable def onRet (r:Stmt) (kk:Option Expr->Bool):Bool:=by induction r using Stmt.casesOn with | Return o p=>exact kk o | _=>exact false
@[elab_as_elim] theorem onRet.inv {P:Stmt->Prop}{r:Stmt}{kk:Option Expr->Bool}(h:onRet r kk=true) (z:∀ o p,kk o=true->P (.Return o p)):P r:=by revert h;induction r using Stmt.casesOn with | Return o p=>exact z o p | _=>exact nft
noncomputable def onBrk (r:Stmt) (kk:Pos->Bool):Bool:=by induction r using Stmt.casesOn with | Break p=>exact kk p | _=>exact false
@[elab_as_elim] theorem onBrk.inv {P:Stmt->Prop}{r:Stmt}{kk:Pos->Bool}(h:onBrk r kk=true) (z:∀ p,kk p=true->P (.Break p)):P r:=by revert h;induction r using Stmt.casesOn with | Break p=>exact z p | _=>exact nft
noncomputable def onCont (r:Stmt) (kk:Pos->Bool):Bool:=by induction r using Stmt.casesOn with | Continue p=>exact kk p | _=>exact false
@[elab_as_elim] theorem onCont.inv {P:Stmt->Prop}{r:Stmt}{kk:Pos->Bool}(h:onCont r kk=true) (z:∀ p,kk p=true->P (.Continue p)):P r:=by revert h;induction r using Stmt.casesOn with | Continue p=>exact z p | _=>exact nft
noncomputable def onMComp (r:ME) (kk:ME->List Nat->MR->MEs->Bool):Bool:=by induction r using ME.casesOn with | comp e t m c=>exact kk e t m c | _=>exact false
@[elab_as_elim] theorem onMComp.inv {P:ME->Prop}{r:ME}{kk:ME->List Nat->MR->MEs->Bool}(h:onMComp r kk=true) (z:∀ e t m c,kk e t m c=true->P (.comp e t m c)):P r:=by revert h;induction r using ME.casesOn with | comp e t m c=>exact z e t m c | _=>exact nft
noncomputable def onTName (r:MT) (kk:Nat->Bool):Bool:=by induction r using MT.casesOn with | name i=>exact kk i | _=>exact false
@[elab_as_elim] theorem onTName.inv {P:MT->Prop}{r:MT}{kk:Nat->Bool}(h:onTName r kk=true) (z:∀ i,kk i=true->P (.name i)):P r:=by revert h;induction r using MT.casesOn with | name i=>exact z i | _=>exact nft
theorem swI {β:Type}{c:Prop} [Decidable c] {a x:β}{rest:Option β}{S:Sem β}(h:(if c then some a else rest)=some x) (q:rest=some x->S=pure x):(if c then pure a else S)=pure x:=by
 by_cases e:c
 ·rw[if_pos e] at h ⊢;exact congrArg pure (Option.some.inj h)
 ·rw[if_neg e] at h ⊢;exact q h
theorem swN {β:Type}{c:Prop} [Decidable c] {x:β}{rest:Option β}{S U:Sem β}(h:(if c then none else rest)=some x) (q:rest=some x->S=pure x):(if c then U else S)=pure x:=by
 by_cases e:c
 ·rw[if_pos e] at h;exact nomatch h
 ·rw[if_neg e] at h ⊢;exact q h
theorem swapB_ok {kd:KD}{ts:List Expr}{value:Expr}{n:Nat}{pt:Pos}{x:Option (List Str)}(h:swapB kd ts value=some x) (env:Env) (hf:env.scope.kind=.function) (hk:∀ x,env.kindOf x=kd x):swappedStores [.Tuple ts n pt] value env=pure x:=by
 have hb:env.blockKind=.function:=by unfold Env.blockKind;rw[hf];rfl
 obtain rfl:env.kindOf=kd:=funext hk
 cases value with
 | Tuple vs k p=>
  unfold swappedStores
  dsimp only
  rw[hb]
  exact swI ((Bool.or_false _).symm▸h) fun h=>swI h fun h=>swI h fun h=>swI h fun h=>swN h fun h=>congrArg pure (Option.some.inj h)
 | _=>exact congrArg pure (Option.some.inj h)
noncomputable def swC (kd:KD) (y:Str) (pl vl:Nat) (scope:Scope):Bool:=kd y == some .local && pl == vl && !(scope.names.any fun (n,k)=>n == y && (k == .local || k == .cell))
noncomputable def okA (X:Tabs) (ck:Checks) (kd:KD) (ok:Nat->Bool) (t:MT) (r:Expr):Bool:=match t with
 | .name i=>isNm X i r && ok i
 | .attr e a=>onAt X a r (ck.e kd e)
 | .sub e i=>onSub r fun q ri=>ck.e kd e q && ck.e kd i ri
 | .subk e=>onSub r fun q i=>isStr "at" i && ck.e kd e q
noncomputable def okAs (X:Tabs) (ck:Checks) (kd:KD) (ok:Nat->Bool):List MT->List Expr->Bool
 | [],rs=>on0 rs
 | t::ts,rs=>onC rs fun r rs=>OneT r && (okA X ck kd ok t r && okAs X ck kd ok ts rs)
noncomputable def namesOf:List MT->Option (List Nat)
 | []=>some []
 | .name i::ts=>(namesOf ts).map (i :: ·)
 | _::_=>none
structure ChecksS where
 s:MS->Stmt->Bool
 l:MSs->List Stmt->Bool
noncomputable def okAsg (X:Tabs) (ck:Checks) (kd:KD) (ok:Nat->Bool) (t:MT) (e:ME) (rt q:Expr):Bool:=
 ((!isComp q || notName rt) && (OneT rt && (okA X ck kd ok t rt && ck.e kd e q))) ||
 onTName t fun y=>onName rt fun x py=>sEq x (X.nm y) && (ok y && onLC q fun relt gs scope pos=>cond (swC kd x py.line pos.line scope)
  (onMComp e fun elt ts src conds=>on1 gs fun gc=>okComp X ck kd ts src conds elt relt scope gc) (ck.e kd e (.ListComp relt gs scope pos)))
noncomputable def okAsgT (X:Tabs) (ck:Checks) (kd:KD) (ok:Nat->Bool) (ts:List MT) (rts:List Expr) (q:Expr):Bool:=onSo (swapB kd rts q) fun w=>(onNo w && okAs X ck kd ok ts rts) ||
 onSo w fun ns=>onSo (namesOf ts) fun is=>decide (ns=is.map X.nm) && (is.all ok && decide is.Nodup)
noncomputable def stepS (X:Tabs) (ck:Checks) (kd:KD) (ok:Nat->Bool) (c:ChecksS):ChecksS where
 s st r:=match st with
  | .expr e=>onExS r fun q=>!isComp q && ck.e kd e q
  | .asg t e=>onAsg r fun rts q p=>on1 rts fun rt=>okAsg X ck kd ok t e rt q
  | .asgT ts e=>onAsg r fun rts q p=>on1 rts fun rt=>onTup rt fun rts=>ck.e kd e q && okAsgT X ck kd ok ts rts q
  | .ifS t a b=>onIf r fun rt ra rb=>ck.tr kd t rt && (c.l a ra && c.l b rb)
  | .whileS t b=>onWhile r fun rt rb re=>on0 re && (ck.tr kd t rt && c.l b rb)
  | .forS x src b=>onFor r fun rt iter rb re=>isNm X x rt && (on0 re && (ok x && (!isSet iter && (!isEnm src && (ck.r kd src iter && c.l b rb)))))
  | .ret e=>onRet r fun o=>onSo o (ck.e kd e)
  | .retN=>onRet r onNo
  | .brk=>onBrk r fun _=>true
  | .cont=>onCont r fun _=>true
  | .dead=>true
 l st r:=match st with
  | .nil=>on0 r
  | .cons s ss=>onC r fun r rs=>c.s s r && c.l ss rs
noncomputable def chkS (X:Tabs) (ck:Checks) (kd:KD) (ok:Nat->Bool):Nat->ChecksS
 | 0=>⟨fun _ _=>false,fun _ _=>false⟩
 | n+1=>stepS X ck kd ok (chkS X ck kd ok n)
end
structure SoundS (B:Base) (T:Tab) (d:Nat) (kd:KD) (ok:Nat->Bool) (c:ChecksS):Prop where
 s:∀ st r,c.s st r=true->ExOK B T d kd ok st r
 l:∀ st r,c.l st r=true->ExsOK B T d kd ok st r
section
variable {B:Base}{T:Tab}{d:Nat}{X:Tabs}{ck:Checks}{kd:KD}{ok:Nat->Bool}{c:ChecksS}
theorem noComp {q:Expr}(h:isComp q=false) (t:Option Expr) (l:Nat) (env:Env):swapsWith q t l env=pure false:=by
 cases q<;>first | rfl | cases h
theorem noName {rt:Expr}(h:notName rt=true) (q:Expr) (l:Nat) (env:Env):swapsWith q (some rt) l env=pure false:=by
 unfold swapsWith
 split
 ·cases rt with
  | Name=>exact Zq h
  | _=>rfl
 ·rfl
theorem okA_t (g:B.Good) (tb:TabOk B T) (hX:TabsOK B X) (S:Sound B T d ck):∀ {t:MT}{r:Expr},okA X ck kd ok t r=true->TOK B T d kd ok t r
 | .name i,r,h=>isNm.inv hX (an1 h) fun p=>t_name g (an2 h)
 | .attr e a,r,h=>onAt.inv hX h fun q p h=>t_attr g tb (S.e _ _ _ h)
 | .sub e i,r,h=>onSub.inv h fun q ri p h=>t_sub g (S.e _ _ _ (an1 h)) (S.e _ _ _ (an2 h))
 | .subk e,r,h=>onSub.inv h fun q ri p h=>isStr.inv (P:=fun ri=>TOK B T d kd ok (.subk e) (.Subscript q ri p)) (an1 h) fun n p=>t_subk g (S.e _ _ _ (an2 h))
theorem okAs_t (g:B.Good) (tb:TabOk B T) (hX:TabsOK B X) (S:Sound B T d ck):∀ {ts:List MT}{rs:List Expr},okAs X ck kd ok ts rs=true->TsOK B T d kd ok ts rs:=by
 intro ts
 induction ts with
 | nil=>
  intro rs h
  exact on0.inv h .nil
 | cons t ts ih=>
  intro rs h
  exact onC.inv h fun r rs h=>.cons (okA_t g tb hX S (an1 (an2 h))) (an1 h) (ih (an2 (an2 h)))
theorem namesOf_eq:∀ {ts:List MT}{is:List Nat},namesOf ts=some is->ts=is.map MT.name
 | [],is,h=>by cases h;rfl
 | .name i::ts,is,h=>by
  simp only [namesOf,Zw] at h
  obtain ⟨is',h1,rfl⟩:=h
  rw[namesOf_eq h1];rfl
 | .attr .. :: _,_,h=>by cases h
 | .sub .. :: _,_,h=>by cases h
 | .subk .. :: _,_,h=>by cases h
theorem swC_ok {y:Str}{py pos:Pos}{scope:Scope}{b:Bool}(h:swC kd y py.line pos.line scope=b) (relt:Expr) (gs:List Comprehension) (l:Nat) (env:Env) (hf:env.scope.kind=.function) (hk:∀ x,env.kindOf x=kd x) :
  swapsWith (.ListComp relt gs scope pos) (some (.Name y py)) l env=pure b:=by
 have hb:env.blockKind=.function:=by unfold Env.blockKind;rw[hf];rfl
 show pure (env.blockKind == .function && env.kindOf y == some .local && py.line == pos.line && !(scope.names.any fun (n,k)=>n == y && (k == .local || k == .cell)))=_
 rw[hb,hk]
 exact congrArg pure h
theorem snd_asg (g:B.Good) (tb:TabOk B T) (hX:TabsOK B X) (S:Sound B T d ck) {t:MT}{e:ME}{rt q:Expr}{p:Pos}(h:okAsg X ck kd ok t e rt q=true):ExOK B T d kd ok (.asg t e) (.Assign [rt] q p):=
 orK h
  (fun h=>ex_asg (okA_t g tb hX S (an1 (an2 (an2 h)))) (S.e _ _ _ (an2 (an2 (an2 h)))) (an1 (an2 h)) fun env hf hk=>orK (an1 h) (fun h=>noComp (noB h) _ _ _) fun h=>noName h _ _ _)
  (fun h=>onTName.inv (P:=fun t=>ExOK B T d kd ok (.asg t e) (.Assign [rt] q p)) h fun y h=>onName.inv (P:=fun rt=>ExOK B T d kd ok (.asg (.name y) e) (.Assign [rt] q p)) h fun x py h=>by
    have h1:=an2 h
    have e0:x=B.nm y:=nameIs hX (an1 h)
    subst e0
    refine onLC.inv (P:=fun q=>ExOK B T d kd ok (.asg (.name y) e) (.Assign [.Name (B.nm y) py] q p)) (an2 h1) fun relt gs scope pos h=>?_
    cases hsw:swC kd (B.nm y) py.line pos.line scope with
    | true=>
     rw[hsw] at h
     exact onMComp.inv (P:=fun e=>ExOK B T d kd ok (.asg (.name y) e) (.Assign [.Name (B.nm y) py] (.ListComp relt gs scope pos) p)) h fun elt ts src conds h=>
      on1.inv (P:=fun gs=>ExOK B T d kd ok (.asg (.name y) (.comp elt ts src conds)) (.Assign [.Name (B.nm y) py] (.ListComp relt gs scope pos) p)) h fun gc h=>
       have z:=okComp_ok hX S h
       z.1.symm▸ex_asgComp g z.2.src z.2.tg z.2.cs z.2.e z.2.sc z.2.st (an1 h1) (swC_ok hsw relt _ _)
    | false=>
     rw[hsw] at h
     exact ex_asg (t_name g (an1 h1)) (S.e _ _ _ h) rfl (swC_ok hsw relt gs _))
theorem snd_asgT (g:B.Good) (tb:TabOk B T) (hX:TabsOK B X) (S:Sound B T d ck) {ts:List MT}{e:ME}{rts:List Expr}{q:Expr}{n:Nat}{pt p:Pos}(h1:ck.e kd e q=true) (h:okAsgT X ck kd ok ts rts q=true):ExOK B T d kd ok (.asgT ts e) (.Assign [.Tuple rts n pt] q p):=by
 have hs:∀ (env:Env),swapsWithSole [.Tuple rts n pt] q p.line env=pure false:=fun env=>noName (rt:=.Tuple rts n pt) rfl q p.line env
 unfold okAsgT at h
 cases hsw:swapB kd rts q with
 | none=>rw[hsw] at h;exact Zq h
 | some w=>
  rw[hsw] at h
  have sw:=swapB_ok (n:=n) (pt:=pt) hsw
  exact orK h
   (fun h=>ex_asgT (okAs_t g tb hX S (an2 h)) (S.e _ _ _ h1) hs fun env hf hk=>onNo.inv (P:=fun w=>swappedStores [.Tuple rts n pt] q env=pure w->_) (an1 h) id (sw env hf hk))
   (fun h=>by
    cases w with
    | none=>exact Zq h
    | some ns=>
     revert h
     show onSo (namesOf ts) _=true->_
     cases his:namesOf ts with
     | none=>exact fun h=>Zq h
     | some is=>
      intro h
      have h9:(decide (ns=is.map X.nm) && (is.all ok && decide is.Nodup))=true:=h
      have e1:=namesOf_eq his
      subst e1
      exact ex_asgW g (S.e _ _ _ h1) (Z8.mp (an1 (an2 h9))) (of_decide_eq_true (an2 (an2 h9))) hs fun env hf hk=>(sw env hf hk).trans (congrArg (fun l=>pure (some l)) (hX.nm▸of_decide_eq_true (an1 h9))))
theorem sndS_step (g:B.Good) (tb:TabOk B T) (hX:TabsOK B X) (S:Sound B T d ck) (C:SoundS B T d kd ok c):SoundS B T d kd ok (stepS X ck kd ok c) where
 l st:=match st with
  | .nil=>fun r h=>on0.inv h exs_nil
  | .cons s ss=>fun r h=>onC.inv h fun r rs h=>exs_cons (C.s _ _ (an1 h)) (C.l _ _ (an2 h))
 s st:=match st with
  | .expr e=>fun r h=>onExS.inv h fun q p h=>ex_expr (S.e _ _ _ (an2 h)) fun l env=>noComp (noB (an1 h)) none l env
  | .asg t e=>fun r h=>onAsg.inv h fun rts q p h=>on1.inv (P:=fun rts=>ExOK B T d kd ok (.asg t e) (.Assign rts q p)) h fun rt h=>snd_asg g tb hX S h
  | .asgT ts e=>fun r h=>onAsg.inv h fun rts q p h=>on1.inv (P:=fun rts=>ExOK B T d kd ok (.asgT ts e) (.Assign rts q p)) h fun rt h=>
   onTup.inv (P:=fun rt=>ExOK B T d kd ok (.asgT ts e) (.Assign [rt] q p)) h fun rts n pt h=>snd_asgT g tb hX S (an1 h) (an2 h)
  | .ifS t a b=>fun r h=>onIf.inv h fun rt ra rb p h=>ex_if (S.tr _ _ _ (an1 h)) (C.l _ _ (an1 (an2 h))) (C.l _ _ (an2 (an2 h)))
  | .whileS t b=>fun r h=>onWhile.inv h fun rt rb re p h=>on0.inv (P:=fun re=>ExOK B T d kd ok (.whileS t b) (.While rt rb re p)) (an1 h) (ex_while (S.tr _ _ _ (an1 (an2 h))) (C.l _ _ (an2 (an2 h))))
  | .forS x src b=>fun r h=>onFor.inv h fun rt iter rb re p h=>isNm.inv (P:=fun rt=>ExOK B T d kd ok (.forS x src b) (.For rt iter rb re p)) hX (an1 h) fun p2=>
   have h1:=an2 h
   have h2:=an2 h1
   have h3:=an2 h2
   have h4:=an2 h3
   on0.inv (P:=fun re=>ExOK B T d kd ok (.forS x src b) (.For (.Name _ p2) iter rb re p)) (an1 h1)
    (ex_for g ((show wid src=1 from congrArg (fun b=>cond b 2 1) (noB (an1 h4)))▸S.r _ _ _ (an1 (an2 h4))) (an1 h2) (C.l _ _ (an2 (an2 h4))) (noSet (noB (an1 h3))))
  | .ret e=>fun r h=>onRet.inv h fun o p h=>onSo.inv (P:=fun o=>ExOK B T d kd ok (.ret e) (.Return o p)) h fun q h=>ex_ret (S.e _ _ _ h)
  | .retN=>fun r h=>onRet.inv h fun o p h=>onNo.inv (P:=fun o=>ExOK B T d kd ok .retN (.Return o p)) h ex_retN
  | .brk=>fun r h=>onBrk.inv h fun p _=>ex_brk
  | .cont=>fun r h=>onCont.inv h fun p _=>ex_cont
  | .dead=>fun r _=>ex_dead
theorem sndS (g:B.Good) (tb:TabOk B T) (hX:TabsOK B X) (S:Sound B T d ck):∀ n,SoundS B T d kd ok (chkS X ck kd ok n)
 | 0=>⟨fun _ _ h=>Zq h,fun _ _ h=>Zq h⟩
 | n+1=>sndS_step g tb hX S (sndS g tb hX S n)
end
theorem zip_lookup {names:List Str}(hn:names.Nodup):∀ {vals:List Value},vals.length=names.length->names.filterMap (fun n=>((names.zip vals).lookup n).map (n,·))=names.zip vals:=by
 induction names with
 | nil=>intro vals h;rfl
 | cons n r ih=>
  intro vals h
  induction vals using List.casesOn with
  | nil=>simp at h
  | cons v vs=>
   rw[Yc] at hn
   rw[Xa,X5]
   have e0:List.lookup n ((n,v)::r.zip vs)=some v:=by rw[Zt];simp
   rw[e0,Yx]
   dsimp only
   congr 1
   have key:∀ (l:List Str),(∀ m∈l,m≠n)->l.filterMap (fun m=>(List.lookup m ((n,v)::r.zip vs)).map (m,·))=l.filterMap (fun m=>((r.zip vs).lookup m).map (m,·)):=by
    intro l
    induction l with
    | nil=>intro _;rfl
    | cons m l ihl=>
     intro hl
     have ne:(m == n)=false:=beq_eq_false_iff_ne.mpr (hl m (.head _))
     rw[X5,X5,Zt,ne,ihl fun x hx=>hl x (.tail _ hx)]
   rw[key r fun m hm q=>hn.1 (q▸hm)]
   exact ih hn.2 (by simpa using h)
theorem zip_some {names:List Str}:∀ {vals:List Value},vals.length=names.length->∀ n∈names,((names.zip vals).lookup n).isNone=false:=by
 induction names with
 | nil=>intro vals h n hn;exact nnl hn
 | cons m r ih=>
  intro vals h n hn
  induction vals using List.casesOn with
  | nil=>simp at h
  | cons v vs=>
   rw[Xa,Zt]
   by_cases q:n=m
   ·subst q;simp
   ·have:(n == m)=false:=beq_eq_false_iff_ne.mpr q
    rw[this]
    rcases Zr.mp hn with hn | hn
    ·exact absurd hn q
    ·exact ih (by simpa using h) n hn
theorem ifs_ {α:Type}{c:Prop} [Decidable c] {x y z:α}(h:¬c) (e:y=z):(if c then x else y)=z:=(if_neg h).trans e
theorem bdp_ {α β:Type}{m:Sem α}{x:α}{f:α->Sem β}{z:Sem β}(h:m=pure x) (e:f x=z):(m >>= f)=z:=by rw[h];exact e
theorem fin_ {α β σ:Type}{k:Nat}{l:List α}{x:σ}{f:α × β->σ->Sem (ForInStep σ)}:forIn (l.zip (List.drop k [])) x f=pure x:=by rw[List.drop_nil,List.zip_nil_right];rfl
theorem noE_ {α:Type}{l:List α}{p:α->Bool}(h:∀ n∈l,p n=false):¬(!(l.filter p).isEmpty)=true:=by
 rw[W9.mpr fun n hn=>by rw[h n hn];exact nofun];exact nofun
theorem bind_plain {fd:FuncData}{as:List Arg}{ds:List Expr}{vals:List Value}(hp:fd.params=⟨[],as,none,[],[],none,ds⟩) (hd:fd.defaults=.none) (hn:(as.map (·.arg)).Nodup) (hl:vals.length=as.length) :
  bindArgs fd ⟨vals,[]⟩ = pure ((as.map (·.arg)).zip vals):=by
 have hl':vals.length=(as.map (·.arg)).length:=by rw[Zc];exact hl
 unfold bindArgs
 rw[hp,hd]
 refine ifs_ (fun h=>Y2 _ (Y8 (of_decide_eq_true (an1 h)) hl')) ?_
 refine ifs_ (noE_ fun n hn=>zip_some hl' n (Xy hn)) ?_
 exact bdp_ fin_ (bdp_ (x:=(_,[])) rfl (congrArg pure ((congrArg (List.filterMap _) (Y3 _)).trans (zip_lookup hn hl'))))
noncomputable section
noncomputable def fnOf (d:Data):Option FuncData:=by induction d using PySem.Data.casesOn with | func fd=>exact some fd | _=>exact none
noncomputable def fnData (K:Frag) (f:Addr):Option FuncData:=(K.lookup f).bind fun o=>fnOf o.data
noncomputable def onBody (b:FuncBody) (k:List Stmt->Bool):Bool:=by induction b using PySem.FuncBody.casesOn with | stmts l=>exact k l | expr=>exact false
noncomputable def onPar (p:Arguments) (k:List Arg->Bool):Bool:=on0 p.posonlyargs && (onNo p.vararg && (on0 p.kwonlyargs && (on0 p.kw_defaults && (onNo p.kwarg && k p.args))))
noncomputable def isNon (v:Value):Bool:=by induction v using PySem.Value.casesOn with | none=>exact true | _=>exact false
noncomputable def okN (X:Tabs) (names:List (Str × NameKind)) (i:Nat):Bool:=decide (i<X.N) && (kdF names (X.nm i) == some .local || kdF names (X.nm i) == some .cell)
noncomputable def okPs (X:Tabs):List Nat->List Arg->Bool
 | [],l=>on0 l
 | p::ps,l=>onC l fun a as=>sEq a.arg (X.nm p) && (decide (p<X.N) && okPs X ps as)
noncomputable def okHd (K:Frag) (fd:FuncData):Bool:=fd.globals == mainGlobals && (fd.builtins == builtinsNs && (codeIn K fd.code fd.qualname && (!fd.scope.isCoroutine && (!fd.scope.isGenerator && decide (fd.scope.kind=.function)))))
noncomputable def okFn (X:Tabs) (K:Frag) (n:Nat) (f:Addr) (ps:List Nat) (st:MSs):Bool:=onSo (fnData K f) fun fd=>onPar fd.params fun as=>onBody fd.body fun body=>
 okPs X ps as && (decide ps.Nodup && (isNon fd.defaults && (on0 fd.closure && (okHd K fd && ((fd.scope.names.all fun x=>x.2 != .free) && (ps.all (okN X fd.scope.names) &&
   (chkS X (chk X n) (kdF fd.scope.names) (okN X fd.scope.names) n).l st body))))))
end
theorem onSo.get {α:Type}{P:Prop}{o:Option α}{k:α->Bool}(h:onSo o k=true) (q:∀ a,o=some a->k a=true->P):P:=by induction o using Option.casesOn with | some a=>exact q a rfl h | _=>exact Zq h
theorem onBody.get {P:Prop}{b:FuncBody}{k:List Stmt->Bool}(h:onBody b k=true) (q:∀ l,b=.stmts l->k l=true->P):P:=by induction b using PySem.FuncBody.casesOn with | stmts l=>exact q l rfl h | expr=>exact Zq h
theorem onPar.get {P:Prop}{k:List Arg->Bool}:∀ {p:Arguments},onPar p k=true->(p=⟨[],p.args,none,[],[],none,p.defaults⟩->k p.args=true->P)->P
 | ⟨a,b,c,d,e,f,g⟩,h,q=>by
  have h1:=an2 h
  have h2:=an2 h1
  have h3:=an2 h2
  have h4:=an2 h3
  have e1:a=[]:=on0.inv (P:=fun a=>a=[]) (an1 h) rfl
  have e2:c=none:=onNo.inv (P:=fun a=>a=none) (an1 h1) rfl
  have e3:d=[]:=on0.inv (P:=fun a=>a=[]) (an1 h2) rfl
  have e4:e=[]:=on0.inv (P:=fun a=>a=[]) (an1 h3) rfl
  have e5:f=none:=onNo.inv (P:=fun a=>a=none) (an1 h4) rfl
  exact q (by rw[e1,e2,e3,e4,e5]) (an2 h4)
theorem isNon.inv {v:Value}(h:isNon v=true):v=.none:=by induction v using PySem.Value.casesOn with | none=>rfl | _=>exact Zq h
theorem fnData.inv {K:Frag}{f:Addr}{fd:FuncData}(h:fnData K f=some fd):∃ o,K.lookup f=some o∧o.data=.func fd:=by
 refine xE1 (Option.bind_eq_some_iff.mp h) fun o t0_0=>aE2 t0_0 fun h1 h2=>?_
 refine⟨o,h1,?_⟩
 induction hd:o.data using PySem.Data.casesOn with
 | func fd'=>rw[hd] at h2;exact congrArg Data.func (Option.some.inj h2)
 | _=>rw[hd] at h2;exact nomatch h2
theorem okPs_names {B:Base}{X:Tabs}(hX:TabsOK B X):∀ {ps:List Nat}{as:List Arg},okPs X ps as=true->as.map (·.arg)=ps.map B.nm∧∀ p∈ps,p<B.N:=by
 intro ps
 induction ps with
 | nil=>
  intro as h
  exact on0.inv (P:=fun as=>as.map (·.arg)=[]∧_) h ⟨rfl,fun _ h=>absurd h Yz⟩
 | cons p ps ih=>
  intro as h
  exact onC.inv (P:=fun as=>as.map (·.arg)=(p::ps).map B.nm∧_) h fun a as h=>
  have z:=ih (an2 (an2 h))
  ⟨by rw[Z7,Z7,z.1,nameIs hX (an1 h)],Vg.mpr ⟨hX.N▸of_decide_eq_true (an1 (an2 h)),z.2⟩⟩
theorem okN_ok {B:Base}{X:Tabs}(hX:TabsOK B X) {names:List (Str × NameKind)}{q:Nat}(h:okN X names q=true):q<B.N∧(names.lookup (B.nm q)=some .local∨names.lookup (B.nm q)=some .cell):=
 ⟨hX.N▸of_decide_eq_true (an1 h),by
  have h2:=an2 h
  rw[kdF_eq,hX.nm] at h2
  exact orK h2 (fun h=>.inl (eq_of_beq h)) fun h=>.inr (eq_of_beq h)⟩
noncomputable def Bnd (B:Base) (kind:Str->Option NameKind) (ρ:RH) (m cm:Str->Option Value):Prop:=
 ∀ i v,ρ i=some v->i<B.N->(kind (B.nm i)=some .local->∃ x,m (B.nm i)=some x∧strip x=v)∧(kind (B.nm i)=some .cell->∃ x,cm (B.nm i)=some x∧strip x=v)
theorem bnd_all {B:Base}(hn:B.nmT.Nodup) {kind:Str->Option NameKind}:∀ {ps:List Nat}{vals:List Value}{ρ:RH}{m cm:Str->Option Value},(∀ p∈ps,p<B.N)->(∀ p∈ps,kind (B.nm p)=some .local∨kind (B.nm p)=some .cell)->vals.length=ps.length->Bnd B kind ρ m cm->
  Bnd B kind (updRs ρ ps (vals.map strip)) (bindL kind ((ps.map B.nm).zip vals) m) (bindC kind ((ps.map B.nm).zip vals) cm)
 | [],[],_,_,_,_,_,_,h=>h
 | [],_::_,_,_,_,_,_,hl,_=>by simp at hl
 | _::_,[],_,_,_,_,_,hl,_=>by simp at hl
 | p::ps,v::vs,ρ,m,cm,hN,hk,hl,h=>by
  rw[Z7,Z7,Xa]
  unfold updRs bindL bindC
  refine bnd_all hn (fun q hq=>hN q (.tail _ hq)) (fun q hq=>hk q (.tail _ hq)) (by simpa using hl) fun i u e hi=>?_
  have hpN:=hN p (.head _)
  unfold updR at e
  by_cases q:i=p
  ·subst q
   rw[if_pos rfl] at e
   have e:=Option.some.inj e;subst e
   rcases hk i (.head _) with hk | hk
   ·rw[if_pos hk]
    exact⟨fun _=>⟨v,by simp,rfl⟩,fun z=>by rw[hk] at z;cases z⟩
   ·rw[if_neg (by rw[hk];decide),if_neg (by rw[hk];decide)]
    exact⟨fun z=>(by rw[hk] at z;cases z),fun _=>⟨v,by simp,rfl⟩⟩
  ·rw[if_neg q] at e
   refine aE2 (h i u e hi) fun h1 h2=>?_
   have ne:B.nm i≠B.nm p:=fun z=>q (Base.nm_inj hn hi hpN z)
   refine⟨fun z=>?_,fun z=>?_⟩
   ·refine xE1 (h1 z) fun x t2_0=>aE2 t2_0 fun a b=>?_
    exact⟨x,by split<;>simp [ne,a],b⟩
   ·refine xE1 (h2 z) fun x t3_0=>aE2 t3_0 fun a b=>?_
    exact⟨x,by split<;>simp [ne,a],b⟩
noncomputable def retQ (Q:MV->AH->Prop) (fl:Fl) (_:RH) (H':AH):Prop:=match fl with | .ret v=>Q v H' | .next=>Q .none H' | _=>False
section
variable {B:Base}{H:AH}{s s₁:Shared}{env:Env}
theorem Ok.inCall {L:Addr}{m:Str->Option Value}(k:Ok B H s) (C:InCall s L m s₁):Ok B H s₁:=by
 refine xE2 C.same fun h' tk e4_2=>?_
 subst e4_2
 exact k.keep C.keep
theorem Ok.above (k:Ok B H s) {b:Addr}(hb:s.heap.objs.size≤b):H b=none∧B.h₀.get? b=none:=⟨k.fresh hb,dead_base k (Z9 hb)⟩
theorem end_fn {P:Addr->Prop}{Q:MV->AH->Prop}{h':Heap}(hx:∀ b,P b->s.heap.get? b=none) (keep:∀ b o,s.heap.get? b=some o->h'.get? b=some o) {f':Flow}{s':Shared}(z:ExRes B env P H h' (retQ Q) f' s') :
  ∃ v H',(Except.ok (Flow.ret (match f' with | .ret v=>v | _=>.none)):Result)=.ok (.ret v)∧Ok B H' s'∧Ext H s.heap H' s'.heap∧Q (strip v) H':=by
 obtain ⟨fl',ρ2,H2,hfl,k5,x5,F5,O5,q⟩:=z
 have x6:Ext H s.heap H2 s'.heap:=fun b o m e=>x5 b o (fun pb=>nomatch (hx b pb).symm.trans e) m (keep b o e)
 induction fl' using Mine.Fl.casesOn with
 | next=>induction f' using PySem.Flow.casesOn with
  | next=>exact (xI2 .none H2 (aI4 rfl k5 x6 q))
  | _=>exact hfl.elim
 | ret v=>induction f' using PySem.Flow.casesOn with
  | ret y=>exact (xI2 y H2 (aI4 rfl k5 x6 ((show strip y=v from hfl)▸q)))
  | _=>exact hfl.elim
 | _=>exact q.elim
noncomputable def ownC (env:Env) (b:Addr):Prop:=b=env.locals∨∃ x,env.cells.lookup x=some b
theorem ns_some {h:Heap}{L:Addr}{m:Str->Option Value}(n:h.Ns L m):∃ o,h.get? L=some o:=let ⟨o,_,_,ho,_⟩:=n;⟨o,ho⟩
theorem fr_cells (g:B.Good) {ps:List Nat}{vals:List Value}(k:Ok B H s) (hL:s.heap.objs.size≤env.locals) (hkf:env.scope.kind=.function) (hgl:env.globals=mainGlobals) (hbl:env.builtins=builtinsNs)
  (C:InCallC s env.locals (bindL env.kindOf ((ps.map B.nm).zip vals) fun _=>none) env.cells (bindC env.kindOf ((ps.map B.nm).zip vals) fun _=>none) s₁)
  (hN:∀ p∈ps,p<B.N) (hk:∀ p∈ps,env.kindOf (B.nm p)=some .local∨env.kindOf (B.nm p)=some .cell) (hvl:vals.length=ps.length)
  (nf:∀ x,env.kindOf x≠some .free) (hc:∀ x,env.kindOf x=some .cell->∃ c,env.cells.lookup x=some c) :
  FrOK B env (updRs (fun _=>none) ps (vals.map strip)) H s₁.heap∧Own B env (ownC env) H s₁.heap:=by
 have bb:=bnd_all (B:=B) g.nd (kind:=env.kindOf) (ps:=ps) (vals:=vals) (ρ:=fun _=>none) (m:=fun _=>none) (cm:=fun _=>none) hN hk hvl fun i v e=>nomatch e
 have ab:∀ x c,env.cells.lookup x=some c->s.heap.objs.size≤c:=fun x c hc=>Zf hL (Yl (C.above x c (mem_of_lookup hc)))
 refine⟨⟨hkf,hgl,hbl,⟨_,C.toInCall.ns,fun i v e hi=>⟨(bb i v e hi).1,fun z=>?_⟩⟩,(k.above hL).1,fun x c hc=>⟨(k.above (ab x c hc)).1,_,C.cell x c hc⟩,fun x x' c hc hc'=>name_of_addr C.apart (mem_of_lookup hc) (mem_of_lookup hc'),fun x hx=>hx.elim (hc x) fun z=>absurd z (nf x)⟩,.inl rfl,fun b hb=>?_⟩
 ·rcases z with z | z
  ·refine xE1 ((bb i v e hi).2 z) fun x t6_0=>aE2 t6_0 fun c1 c2=>?_
   refine xE1 (hc _ z) fun c hc=>?_
   exact (xI2 c x (aI3 hc (c1▸C.cell _ _ hc) c2))
  ·exact absurd z (nf _)
 ·rcases hb with rfl | ⟨x,hx⟩
  ·exact (aI3 ((k.above hL).1) ((k.above hL).2) (ns_some C.toInCall.ns))
  ·refine xE1 (C.cell x b hx) fun oc t8_0=>aE2 t8_0 fun hoc _=>?_
   exact (aI3 ((k.above (ab x b hx)).1) ((k.above (ab x b hx)).2) ⟨oc,hoc⟩)
end
theorem hd_nodup {B:Base}(g:B.Good) {ps:List Nat}(hN:∀ p∈ps,p<B.N) (h:ps.Nodup):(ps.map B.nm).Nodup:=
 Xv.mpr (List.Pairwise.imp_of_mem (fun ha hb ne e=>ne (Base.nm_inj g.nd (hN _ ha) (hN _ hb) e)) h)
theorem spec_fn {B:Base}{T:Tab}{X:Tabs}{d n:Nat}(g:B.Good) (tb:TabOk B T) (nm:NmOk B) (hX:TabsOK B X) {f:Addr}{ps:List Nat}{st:MSs}(hf:okFn X B.K n f ps st=true) {vs:List MV}{H:AH}{Q:MV->AH->Prop}(hl:vs.length=ps.length)
  (h:wpL (sig B T d) st (updRs (fun _=>none) ps vs) H (retQ Q)):SpecCall B (d+4) f vs H Q:=
 onSo.get hf fun fd hfd hf=>onPar.get hf fun hpar hf=>onBody.get hf fun body hbody h1=>by
 have h2:=an2 h1
 have h3:=an2 h2
 have h4:=an2 h3
 have h5:=an2 h4
 have h6:=an2 h5
 have h7:=an2 h6
 have hd:=an1 h5
 have d2:=an2 hd
 have d3:=an2 d2
 have d4:=an2 d3
 have d5:=an2 d4
 have hkf:fd.scope.kind=.function:=of_decide_eq_true (an2 d5)
 have hn:=okPs_names hX (an1 h1)
 have kok:=fun q (hq:okN X fd.scope.names q=true)=>okN_ok hX hq
 have all:=Z8.mp (an1 h7)
 have isSome:∀ (x:Str) (N0:Nat),fd.scope.names.lookup x=some .cell->((cellsFrom N0 fd.scope.names []).lookup x).isSome=true:=fun x N0 hx=>by
  refine xE1 (cells_has fd.scope.names N0 [] x (mem_of_lookupK hx)) fun c hc=>?_
  refine xE1 (lookup_of_key hc) fun c' hc'=>?_
  rw[hc'];rfl
 have so:=(sndS (d:=d) (kd:=kdF fd.scope.names) (ok:=okN X fd.scope.names) g tb hX (snd g tb nm hX n) n).l st body (an2 h7)
 intro A s vals rm k hv
 have hvl:vals.length=ps.length:=by rw[← hl,← hv,Zc]
 have hal:fd.params.args.length=ps.length:=by have:=congrArg List.length hn.1;rw[Zc,Zc] at this;exact this
 have hbind:=bind_plain (vals:=vals) hpar (isNon.inv (an1 h3)) (hn.1▸hd_nodup g hn.2 (of_decide_eq_true (an1 h2))) (hvl.trans hal.symm)
 rw[hn.1] at hbind
 refine xE1 (fnData.inv hfd) fun o t11_0=>aE2 t11_0 fun ho hdat=>?_
 refine xE4 g.top fun p loose mg mb TR=>?_
 refine codeAny_call_cells rm.depth ((k.X g) _ _ ho) hdat (TR.keeps k.base).nolimit (codeRec_of (k.X g) (an1 d3)) hbody hbind (on0.inv (P:=fun a=>a=[]) (an1 h4) rfl) (fun x hx=>?_) (fun s₁ C=>?_) (noB (an1 d4)) (noB (an1 d5)) hkf
 ·refine xE1 (Z3.mp (Vb hx).1) fun q t13_0=>aE2 t13_0 fun hq e=>?_
  exact e▸(kok q (all q hq)).2.imp id fun z=>⟨z,isSome _ _ z⟩
 ·generalize hce:callEnvC fd s.heap.objs.size f=env at C ⊢
  have hloc:env.locals=s.heap.objs.size:=by rw[← hce];rfl
  have hkind:∀ x,env.kindOf x=fd.scope.names.lookup x:=fun x=>by rw[← hce];rfl
  have hcel:∀ x,env.kindOf x=some .cell->∃ c,env.cells.lookup x=some c:=fun x hx=>X6.mp (by rw[hkind] at hx;rw[← hce];exact isSome x _ hx)
  have FO:=fr_cells (ps:=ps) (vals:=vals) g k (Y9 hloc.symm) (by rw[← hce];exact hkf) (by rw[← hce];exact eq_of_beq (an1 hd)) (by rw[← hce];exact eq_of_beq (an1 d2)) C hn.2 (fun q hq=>by rw[hkind];exact (kok q (all q hq)).2) hvl
   (fun x hx=>by
    rw[hkind] at hx
    have:=Z8.mp (an1 h6) _ (mem_of_lookupK hx)
    exact Zq this) hcel
  refine wpAny_mono (so (A.deeper env) env _ H s₁ (ownC env) (retQ Q) (Room.deeper rm) (fun x=>by rw[hkind,kdF_eq]) (fun i hi=>⟨(kok i hi).1,?_⟩) FO.1 FO.2 (k.inCall C.toInCall) (hv.symm▸h)) (fun fl s2 z=>end_fn (fun b pb=>?_) C.toInCall.keep z) fun _ _ e=>e.elim
  ·rw[hkind]
   exact (kok i hi).2.imp id fun z=>⟨z,let ⟨c,hc⟩:=hcel _ ((hkind _).trans z);⟨c,hc,.inr ⟨_,hc⟩⟩⟩
  ·refine Z9 ?_
   rcases pb with rfl | ⟨x,hx⟩
   ·exact Y9 hloc.symm
   ·exact hloc▸Yl (C.above x b (mem_of_lookup hx))
noncomputable def cellOf (d:Data):Option Value:=by induction d using PySem.Data.casesOn with | cell v=>exact v | _=>exact none
noncomputable def okCell (K:Frag) (cc D:Addr):Bool:=onSo (K.lookup cc) fun o=>decide (cellOf o.data=some (.ref D))
noncomputable def fieldsOf (d:Data):Option (Array Value):=by induction d using PySem.Data.casesOn with | fields vs=>exact some vs | _=>exact none
noncomputable def strOf (v:Value):Option Str:=by induction v using PySem.Value.casesOn with | str s=>exact some s | _=>exact none
noncomputable def refOf (v:Value):Option Addr:=by induction v using PySem.Value.casesOn with | ref a=>exact some a | _=>exact none
noncomputable def okFile (K:Frag) (prog:Program) (cda:Addr):Bool:=onSo (K.lookup cda) fun o=>onSo (fieldsOf o.data) fun vs=>onSo (vs[2]?:Option Value) fun v=>onSo (strOf v) fun file=>prog.main.file == file
noncomputable def okL (X:Tabs) (names:List (Str × NameKind)) (i:Nat):Bool:=decide (i<X.N) && kdF names (X.nm i) == some .local
noncomputable def okSupC (K:Frag) (prog:Program) (D f2 C cc:Addr) (names:List (Str × NameKind)):Bool:=
 (kdF names "super" == some .globalImplicit) && ((kdF names "__class__" == some .free) && (okCell K cc D && ((clsIn K D).isSome && ((clsIn K C).isSome && (decide (mroIn K C (.ref D)=some true) && (decide (nsIn K mainGlobals "super" = some none) &&
 (!(prog.main.scope.names.lookup ("super" : Str)).isSome && (decide (nsIn K cStatics "thirdparty.any" = some none) && (decide (ks_superIn K C D "__init__" = some (some (.ref f2))) && (decide (typeIn K (.ref f2)=some (.type "function")) && fnIn K f2))))))))))
noncomputable def okSup (X:Tabs) (K:Frag) (prog:Program) (n:Nat) (f D f2 C:Addr) (ps:List Nat) (args:MEs) (st:MSs):Bool:=onSo (fnData K f) fun fd=>onPar fd.params fun as=>onBody fd.body fun body=>
 onC body fun s0 body=>onExS s0 fun q=>onCall q fun q rs ks pos=>on0 ks && onAttr q fun q an apos=>onCall q fun q r0 k0 _=>on0 r0 && (on0 k0 && onName q fun sn _=>
  sEq sn "super" && (sEq an "__init__" && on1 fd.closure fun cl=>onSo (refOf fd.code) fun cda=>
   sEq cl.1 "__class__" && (okPs X ps as && (decide ps.Nodup && (!on0 ps && (isNon fd.defaults && (okHd K fd &&
   ((fd.scope.names.all fun x=>x.2 != .cell) && ((fd.scope.names.all fun x=>x.2 != .free || sEq x.1 "__class__") && (ps.all (okL X fd.scope.names) &&
   (okFile K prog cda && (okSupC K prog D f2 C cl.2 fd.scope.names && (!on0 rs && (apos.endLine == pos.line && (decide (rs.length<30) &&
   ((chk X n).es (kdF fd.scope.names) args rs && (chkS X (chk X n) (kdF fd.scope.names) (okL X fd.scope.names) n).l st body))))))))))))))))
theorem eval_mcallA {o:Expr}{name:Str}{apos pos:Pos}{rs:List Expr}{env:Env}(hn:∀ r∈rs,notStar r=true) (hl:rs.length<30) (hp:apos.endLine=pos.line) :
  eval (.Call (.Attribute o name apos) rs [] pos) env=(do
   let ov ← attributeBase o name env (eval o env)
   standAt apos.atName
   let (f,first) ← holding [ov] (getMethod ov name (do return (← importBound o env).getD true))
   callWith pos f first (backTo pos (starEach rs env)) []):=by
 rw[arm_eval_Call]
 have hform:methodCallForm (rs.length+([]:List Keyword).length) (backTo pos (starEach rs env)) (backToKw pos (keywordEach [] env))=true:=by
  unfold methodCallForm
  have h1:(backTo pos (starEach rs env)).all (!·.1)=true:=by
   have:=plain_args (env:=env) (pos:=pos) hn
   rw[Z8]
   intro x hx
   rw[List.any_eq_false] at this
   simpa using this x hx
  rw[h1]
  show (true && true && decide (rs.length+0+0<30))=true
  simp;omega
 unfold methodCall
 rw[hform]
 have e2:methodCallPos true o env apos pos=pure pos:=by
  unfold methodCallPos
  simp [hp]
 rw[e2]
 rfl
theorem rev_lookup {names:List Str}(hn:names.Nodup):∀ {vals:List Value}{x:Str}{v:Value},(names.zip vals).lookup x=some v->(names.zip vals).reverse.lookup x=some v:=by
 induction names with
 | nil=>intro vals x v h;cases h
 | cons n r ih=>
  intro vals x v h
  induction vals using List.casesOn with
  | nil=>cases h
  | cons u us=>
   rw[Yc] at hn
   rw[Xa,Zt] at h
   rw[Xa,Xu]
   have app:∀ (l:List (Str × Value)) (q:Str × Value) (w:Value),l.lookup x=some w->(l++[q]).lookup x=some w:=by
    intro l
    induction l with
    | nil=>intro q w h;cases h
    | cons y l ih=>
     intro q w h
     obtain ⟨a,b⟩:=y
     rw[List.cons_append,Zt]
     rw[Zt] at h
     induction hx:x == a using Bool.casesOn with
     | true=>rw[hx] at h;exact h
     | false=>rw[hx] at h;exact ih q w h
   have app2:∀ (l:List (Str × Value)),(∀ y∈l,y.1≠x)->(l++[(n,u)]).lookup x=List.lookup x [(n,u)]:=by
    intro l
    induction l with
    | nil=>intro _;rfl
    | cons y l ih=>
     intro hl
     obtain ⟨a,b⟩:=y
     have ne:(x == a)=false:=beq_eq_false_iff_ne.mpr fun z=>hl (a,b) (.head _) z.symm
     rw[List.cons_append,Zt,ne]
     exact ih fun z hz=>hl z (.tail _ hz)
   by_cases q:x=n
   ·subst q
    simp at h
    subst h
    rw[app2]
    ·simp
    ·rintro ⟨a,b⟩ hy rfl
     exact hn.1 (Vb (X3.mp hy)).1
   ·have ne:(x == n)=false:=beq_eq_false_iff_ne.mpr q
    rw[ne] at h
    exact app _ _ _ (ih hn.2 h)
theorem cell_none {B:Base}{H:AH}{s:Shared}(k:Ok B H s) {c:Addr}{v:Option Value}(hc:s.heap.IsCell c v):H c=none:=by
 refine xE1 hc fun o t0_0=>aE2 t0_0 fun ho hd=>?_
 have no:∀ {o':Obj}{d:Data},s.heap.get? c=some o'->o'.data=d->d=.cell v:=fun h1 h2=>h2.symm.trans ((congrArg Obj.data (Option.some.inj (h1.symm.trans ho))).trans hd)
 induction q:H c using Option.casesOn with
 | none=>rfl
 | some ao=>
  have r:=k.rep c ao q
  induction ao using Mine.AO.casesOn with
  | list xs=>obtain ⟨items,n,h1,_⟩:=r;exact nomatch no h1 rfl
  | tup xs=>obtain ⟨items,⟨o',h1,_,n,h2⟩,_⟩:=r;exact nomatch no h1 h2
  | ro xs=>obtain ⟨items,⟨o',h1,_,n,h2⟩,_⟩:=r;exact nomatch no h1 h2
  | inst C d=>exact nomatch no (show s.heap.get? c=some (instObj C d) from r) rfl
  | ns l=>obtain ⟨es,n,h1,_⟩:=r;exact nomatch no h1 rfl
  | meth f sf=>exact nomatch no (show s.heap.get? c=some (methodObj (.ref f) (.ref sf)) from r) rfl
  | pot a b=>obtain ⟨_,_,_,_,o',es,ep,h1,_,h2,_⟩:=r;exact nomatch no h1 h2
theorem bindL_rev:∀ (l:List (Str × Value)) (m:Str->Option Value) (x:Str),bindL (fun _=>some .local) l m x=match l.reverse.lookup x with | some v=>some v | none=>m x
 | [],m,x=>rfl
 | (n,v)::r,m,x=>by
  unfold bindL
  rw[if_pos rfl,bindL_rev r,Xu]
  have app:∀ (l:List (Str × Value)),(l++[(n,v)]).lookup x=match l.lookup x with | some w=>some w | none=>if x=n then some v else none:=by
   intro l
   induction l with
   | nil=>
    rw[List.nil_append,Zt]
    by_cases q:x=n
    ·subst q;simp
    ·have:(x == n)=false:=beq_eq_false_iff_ne.mpr q
     rw[this,if_neg q];rfl
   | cons y l ih=>
    obtain ⟨a,b⟩:=y
    rw[List.cons_append,Zt,Zt,ih]
    cases x == a<;>rfl
  rw[app]
  induction r.reverse.lookup x using Option.casesOn with
  | some w=>rfl
  | none=>
   dsimp only
   by_cases q:x=n
   ·rw[if_pos q,if_pos q]
   ·rw[if_neg q,if_neg q]
theorem updRs_in {v:MV}{i:Nat}:∀ (ps:List Nat) (us:List MV) (ρ:RH),updRs ρ ps us i=some v->i∈ps∨ρ i=some v
 | [],us,ρ,h=>.inr h
 | _::_,[],ρ,h=>.inr h
 | q::ps,u::us,ρ,h=>(updRs_in ps us (updR ρ q u) h).elim (fun h=>.inl (.tail _ h)) fun h=>by
  by_cases e:i=q
  ·exact .inl (e▸.head _)
  ·exact .inr ((if_neg e).symm.trans h)
theorem fr_plain {B:Base}{H:AH}{s:Shared}{h':Heap}{env:Env}(g:B.Good) {ps:List Nat}{vals:List Value}(k:Ok B H s) (hL:env.locals=s.heap.objs.size) (hkf:env.scope.kind=.function) (hgl:env.globals=mainGlobals) (hbl:env.builtins=builtinsNs)
  (hns:h'.Ns s.heap.objs.size fun x=>((ps.map B.nm).zip vals).reverse.lookup x) (hN:∀ p∈ps,p<B.N) (hk:∀ p∈ps,env.kindOf (B.nm p)=some .local) (hvl:vals.length=ps.length)
  (cel:∀ n c,env.cells.lookup n=some c->H c=none∧∃ v,h'.IsCell c v) (inj:∀ n n' c,env.cells.lookup n=some c->env.cells.lookup n'=some c->n=n') (cov:∀ n,env.kindOf n=some .cell∨env.kindOf n=some .free->∃ c,env.cells.lookup n=some c) :
  FrOK B env (updRs (fun _=>none) ps (vals.map strip)) H h'∧Own B env (fun b=>b=env.locals) H h':=by
 have bb:=bnd_all (B:=B) g.nd (kind:=fun _=>some .local) (ps:=ps) (vals:=vals) (ρ:=fun _=>none) (m:=fun _=>none) (cm:=fun _=>none) hN (fun q hq=>.inl rfl) hvl fun i v e=>nomatch e
 have ab:=k.above (Y9 hL.symm)
 refine⟨⟨hkf,hgl,hbl,⟨_,hL▸hns,fun i v e hi=>⟨fun _=>?_,fun z=>?_⟩⟩,ab.1,cel,inj,cov⟩,rfl,fun b hb=>hb▸(aI3 ab.1 ab.2 (hL▸ns_some hns))⟩
 ·refine xE1 ((bb i v e hi).1 rfl) fun y t2_0=>aE2 t2_0 fun a b=>?_
  rw[bindL_rev] at a
  refine⟨y,?_,b⟩
  cases q:((ps.map B.nm).zip vals).reverse.lookup (B.nm i) with
  | some u=>rw[q] at a;exact a
  | none=>rw[q] at a;exact nomatch a
 ·have z2:=hk i ((updRs_in _ _ _ e).resolve_right fun z=>nomatch z)
  exact z.elim (fun z=>nomatch z2.symm.trans z) fun z=>nomatch z2.symm.trans z
theorem refOf.inv {v:Value}{a:Addr}(h:refOf v=some a):v=.ref a:=by induction v using PySem.Value.casesOn with | ref b=>exact congrArg Value.ref (Option.some.inj h) | _=>exact nomatch h
theorem strOf.inv {v:Value}{s:Str}(h:strOf v=some s):∃ t,v=.str s t:=by induction v using PySem.Value.casesOn with | str b t=>exact⟨t,Option.some.inj h▸rfl⟩ | _=>exact nomatch h
theorem fieldsOf.inv {v:Data}{a:Array Value}(h:fieldsOf v=some a):v=.fields a:=by induction v using PySem.Data.casesOn with | fields b=>exact congrArg Data.fields (Option.some.inj h) | _=>exact nomatch h
theorem cellOf.inv {d:Data}{v:Value}(h:cellOf d=some v):d=.cell (some v):=by induction d using PySem.Data.casesOn with | cell w=>exact congrArg Data.cell h | _=>exact nomatch h
theorem okCell.inv {K:Frag}{cc D:Addr}(h:okCell K cc D=true) {h':Heap}(X:K.In h'):h'.IsCell cc (some (.ref D)):=
 onSo.get h fun o ho h=>⟨o,X _ _ ho,cellOf.inv (of_decide_eq_true h)⟩
theorem clsIn.inv {K:Frag}{C:Addr}{cd:ClassData}{h':Heap}(X:K.In h') (h:clsIn K C=some cd):∃ o,h'.get? C=some o∧o.data=.cls cd:=by
 revert h
 unfold clsIn
 induction e:K.lookup C using Option.casesOn with
 | none=>exact ncs
 | some o=>
  induction o using PySem.Obj.casesOn with
  | mk c d dt sl=>induction dt using PySem.Data.casesOn with | cls x=>exact fun h=>⟨_,X _ _ e,congrArg Data.cls (Option.some.inj h)⟩ | _=>exact ncs
theorem hd_arg {B:Base}{as:List Arg}{ps:List Nat}{vals:List Value}{x:Addr}{vs:List MV}(hn:as.map (·.arg)=ps.map B.nm) (h0:on0 ps=false) (hv:vals.map strip=.ref x::vs) (hnd:(ps.map B.nm).Nodup) :
  ∃ a0 p₀,as.head?=some a0∧p₀∈ps∧a0.arg=B.nm p₀∧((ps.map B.nm).zip vals).reverse.lookup a0.arg=some (.ref x):=by
 induction ps using List.casesOn with
 | nil=>exact Zq h0
 | cons p₀ ps=>induction as using List.casesOn with
  | nil=>exact nomatch hn
  | cons a0 as=>induction vals using List.casesOn with
   | nil=>exact nomatch hv
   | cons v₀ vals=>
    have e:a0.arg=B.nm p₀:=(List.cons.inj hn).1
    have ev:v₀=.ref x:=strip_ref (List.cons.inj hv).1
    exact (xI2 a0 p₀ (aI4 rfl (.head _) e (by rw[e];exact rev_lookup hnd (by rw[Z7,Xa,Zt,ev];simp))))
theorem super_end {B:Base}{T:Tab}{d:Nat}{A:Around}{s:Shared}{h' h2':Heap}{env:Env}{f2:Addr}{ps:List Nat}{args:MEs}{st:MSs}{rs:List Expr}{body:List Stmt}{pos:Pos}{x:Addr}{vs:List MV}{H:AH}{Q:MV->AH->Prop}{tk:Nat}{kd:KD}{ok:Nat->Bool}(g:B.Good)
  (k2:Ok B H { s with heap:=h2',toks:=tk }) (x2:Ext H h' H h2') (F:FrOK B env (updRs (fun _=>none) ps (.ref x::vs)) H h') (O:Own B env (fun b=>b=env.locals) H h') (rm1:Room (d+3) (A.deeper env))
  (hk':∀ x,env.kindOf x=kd x) (hst:∀ i,ok i=true->StoreOk B env (fun b=>b=env.locals) i) (hf2:fnIn B.K f2=true) (sa:EvsOK B T d kd args rs) (so:ExsOK B T d kd ok st body)
  (h:wpEs (sig B T d) args (updRs (fun _=>none) ps (.ref x::vs)) H fun us H'=>SpecCall B d f2 (.ref x::us) H' fun v H''=>wpL (sig B T d) st (updRs (fun _=>none) ps (.ref x::vs)) H'' (retQ Q))
  {Z:Flow->Shared->Prop}(fin:∀ f' s',ExRes B env (fun b=>b=env.locals) H h' (retQ Q) f' s'->Z f' s') {Ee:Value->Shared->Prop}{fbody:List Stmt} :
  wpAny B.M (A.deeper env) (callWith pos (.ref h2'.objs.size) [] (backTo pos (starEach rs env)) []) (fun _ s'=>PySem.wpAt B.M (A.deeper env) (.func fbody env) (execs body env) Z Ee s') Ee { s with heap:=h2'.push (methodObj (.ref f2) (.ref x)),toks:=tk+1 }:=by
 have k3:Ok B H { s with heap:=h2'.push (methodObj (.ref f2) (.ref x)),toks:=tk+1 }:=k2.push _
 have x13:=x2.trans (Ext.push k2 (methodObj (.ref f2) (.ref x)))
 have hq3:(h2'.push (methodObj (.ref f2) (.ref x))).get? h2'.objs.size=some (methodObj (.ref f2) (.ref x)):=Z0 _ rfl
 have hqH:H h2'.objs.size=none:=k2.fresh (Zk _)
 refine callWith_of (P:=MethP B.K h2'.objs.size f2 (.ref x)) (by rw[plain_args sa.1];rfl) (keeps_M hf2) (evalArgs_of sa.1 ((sa.2 (A.deeper env) env _ H _ _ pos rm1 hk' (F.ext x13) k3 h).then_ fun us H4 s4 k4 x4 q4=>?_))
 have hq4:=x4 _ _ (notMut_none hqH) hq3
 refine⟨⟨hq4.1,k4.X g⟩,wpAny_call (method_call hq4.1 (codeAny_mono (q4 (A.deeper env) s4 (.ref x::us) (rm1.mono (Wl _ _)) k4 rfl) fun r s5 q0_=>xE2 q0_ fun v H5 n1_=>aE4 n1_ fun e5 k5 x5 q5=>?_))⟩
 subst e5
 have x15:=x13.trans (x4.trans x5)
 exact wpAt_of_wpAny (wpAny_mono (so (A.deeper env) env _ H5 s5 (fun b=>b=env.locals) _ rm1 hk' hst (F.ext x15) (O.ext x15) k5 q5) (fun f' s' e=>fin f' s' (e.after x15.toP)) fun _ _ e=>e.elim)
theorem super_walk {B:Base}{T:Tab}{d:Nat}{A:Around}{s:Shared}{h':Heap}{env:Env}{f D f2 C cc cda:Addr}{fd:FuncData}{ar:Arg}{o:Obj}{ps:List Nat}{args:MEs}{st:MSs}{rs:List Expr}{body:List Stmt}{p0 p1 pe apos pos:Pos}{x dx:Addr}{vs:List MV}{H:AH}{Q:MV->AH->Prop}{tk:Nat}{kd:KD}{ok:Nat->Bool}
  (g:B.Good) (k1:Ok B H { s with heap:=h',toks:=tk }) (X1:B.K.In h') (F:FrOK B env (updRs (fun _=>none) ps (.ref x::vs)) H h') (O:Own B env (fun b=>b=env.locals) H h') (rm1:Room (d+3) (A.deeper env))
  (hk':∀ x,env.kindOf x=kd x) (hst:∀ i,ok i=true->StoreOk B env (fun b=>b=env.locals) i) (hks:env.kindOf "super" = some .globalImplicit) (hkc:env.kindOf "__class__" = some .free) (hcl:env.cells.lookup ("__class__" : Str)=some cc) (hcel:h'.IsCell cc (some (.ref D)))
  (hfu:env.func=some f) (ho:h'.get? f=some o) (hdat:o.data=.func fd) (har:(fd.params.posonlyargs++fd.params.args).head?=some ar) (hco:env.code=.ref cda) (hself:env.kindOf ar.arg=some .local) {m:Str->Option Value}(hns:h'.Ns env.locals m) (hm:m ar.arg=some (.ref x))
  {names:List (Str × NameKind)}(hfile:okFile B.K B.prog cda=true) (hsup:okSupC B.K B.prog D f2 C cc names=true) (hx:H x=some (.inst C dx))
  (hlen:rs.length<30) (hpos:apos.endLine=pos.line) (sa:EvsOK B T d kd args rs) (so:ExsOK B T d kd ok st body)
  (h:wpEs (sig B T d) args (updRs (fun _=>none) ps (.ref x::vs)) H fun us H'=>SpecCall B d f2 (.ref x::us) H' fun v H''=>wpL (sig B T d) st (updRs (fun _=>none) ps (.ref x::vs)) H'' (retQ Q))
  {Z:Flow->Shared->Prop}(fin:∀ f' s',ExRes B env (fun b=>b=env.locals) H h' (retQ Q) f' s'->Z f' s') {Ee:Value->Shared->Prop}{fbody:List Stmt} :
  PySem.wpAt B.M (A.deeper env) (.func fbody env) (execs (.Expr (.Call (.Attribute (.Call (.Name "super" p0) [] [] p1) "__init__" apos) rs [] pos) pe::body) env) Z Ee { s with heap:=h',toks:=tk }:=by
 have s2:=an2 hsup
 have s3:=an2 s2
 have s4:=an2 s3
 have s5:=an2 s4
 have s6:=an2 s5
 have s7:=an2 s6
 have s8:=an2 s7
 have s9:=an2 s8
 have s10:=an2 s9
 have s11:=an2 s10
 refine xE4 g.top fun p loose mg mb TR=>?_
 have TR2:=TR.keeps k1.base
 obtain ⟨oc,hoc,fs,hfs,file,tf,h2s,hfile⟩ : ∃ oc,h'.get? cda=some oc∧∃ fs,oc.data=.fields fs∧∃ file tf,fs[2]?=some (.str file tf)∧((B.prog.main.file:Str) == file)=true:=
  onSo.get hfile fun oc h1 h=>onSo.get h fun fs h2 h=>onSo.get h fun v h3 h=>onSo.get h fun file h4 h=>let ⟨tf,h5⟩:=strOf.inv h4;⟨oc,X1 _ _ h1,fs,fieldsOf.inv h2,file,tf,h5▸h3,h⟩
 refine xE1 (X6.mp (an1 s4)) fun cdD hD=>?_
 refine xE1 (clsIn.inv X1 hD) fun oD t5_0=>aE2 t5_0 fun hD1 hD2=>?_
 refine xE1 (X6.mp (an1 s5)) fun cdC hC=>?_
 have hxi:h'.get? x=some (instObj C dx):=k1.rep x _ hx
 refine ks_wpAt_execs_cons (ks_wpAt_Expr_any (ks_wpAt_MethodCall (pl:=do return (← importBound (.Call (.Name (Str.ofString "super") p0) [] [] p1) env).getD true) ?_ (eval_mcallA sa.1 hlen hpos)) (by unfold interactive;rw[F.kind];rfl) rfl)
 refine ks_wpAt_super_base (fd:=fd) (ar:=ar) hks hkc (by decide +kernel) hfu ho hdat har hco hoc hfs h2s hfile (noB (an1 s8)) ?_
 refine ks_loadName_global F.kind hks (loadGlobal_builtin (mg:=mg) (mb:=mb) (by rw[F.gl];exact TR2.g) (mg_none_of X1 TR2.g (of_decide_eq_true (an1 s7))) (by rw[F.bl];exact TR2.b) ((TR2.builtins _ (by decide +kernel)).trans (by kernel_rfl)) ⟨rfl,?_⟩)
 refine wpAny_loadName_free F.kind hkc hcl hcel ?_
 refine wpAny_loadName_local F.kind hself hns hm ?_
 refine ks_wpAny_isType_cls hD1 hD2 ⟨rfl,?_⟩
 refine ks_wpAny_call_super hD1 hD2 hxi rfl (fun c e=>nomatch e) (looks_mroIn X1 (of_decide_eq_true (an1 s6))) (fun h2' e2 kp=>?_)
 have X2:B.K.In h2':=(k1.keep (t:=tk) kp).X g
 obtain ⟨of,hof,hofc⟩ : ∃ of,h2'.get? f2=some of∧of.cls=.type "function":=by
  refine xE1 (Zw.mp (show (B.K.lookup f2).map (·.cls)=some (.type "function") from of_decide_eq_true (an1 s11))) fun of t7_0=>aE2 t7_0 fun a b=>?_
  exact⟨of,X2 _ _ a,b⟩
 have hsup:alongIn B.K "__init__" ((cdC.mro.dropWhile (· != .ref D)).drop 1)=some (some (.ref f2)):=by
  have z:ks_superIn B.K C D "__init__" = _:=of_decide_eq_true (an1 s10)
  unfold ks_superIn at z;rw[hC] at z;exact z
 have hxC:x≠C:=by
  rintro rfl
  refine xE1 (clsIn.inv X1 hC) fun oC t8_0=>aE2 t8_0 fun a b=>?_
  rw[hxi] at a
  exact nomatch (congrArg Obj.data (Option.some.inj a)).trans b
 refine ks_wpAny_getMethod_super (l₀:=cdC.mro) e2 (looks_opaque X2 (of_decide_eq_true (an1 s9))) (fun A Q E s k q=>wpAny_bind ((looks_clsIn X2 hC) A _ E s k (wpAny_pure q))) rfl X2 hsup hof hofc hxC (by decide +kernel) ?_
 exact super_end g (k1.keep (t:=tk) kp) (Ext.keepAll kp) F O rm1 hk' hst (an2 s11) sa so h fin
theorem onC.get {α:Type}{P:Prop}{l:List α}{k:α->List α->Bool}(h:onC l k=true) (q:∀ a b,l=a::b->k a b=true->P):P:=by induction l using List.casesOn with | cons a b=>exact q a b rfl h | _=>exact Zq h
theorem super_run {B:Base}{T:Tab}{X:Tabs}{d n:Nat}(g:B.Good) (tb:TabOk B T) (nm:NmOk B) (hX:TabsOK B X) {f D f2 C cda:Addr}{ps:List Nat}{args:MEs}{st:MSs}{fd:FuncData}{p0 p1 pe apos pos:Pos}{rs:List Expr}{body:List Stmt}{cn:Str}{cc:Addr}
  (hfd:fnData B.K f=some fd) (hpar:fd.params=⟨[],fd.params.args,none,[],[],none,fd.params.defaults⟩) (hbody:fd.body=.stmts (.Expr (.Call (.Attribute (.Call (.Name "super" p0) [] [] p1) "__init__" apos) rs [] pos) pe::body))
  (hclo:fd.closure=[(cn,cc)]) (hcode:fd.code=.ref cda)
  (hf:(sEq cn "__class__" && (okPs X ps fd.params.args && (decide ps.Nodup && (!on0 ps && (isNon fd.defaults && (okHd B.K fd &&
   ((fd.scope.names.all fun x=>x.2 != .cell) && ((fd.scope.names.all fun x=>x.2 != .free || sEq x.1 "__class__") && (ps.all (okL X fd.scope.names) &&
   (okFile B.K B.prog cda && (okSupC B.K B.prog D f2 C cc fd.scope.names && (!on0 rs && (apos.endLine == pos.line && (decide (rs.length<30) &&
   ((chk X n).es (kdF fd.scope.names) args rs && (chkS X (chk X n) (kdF fd.scope.names) (okL X fd.scope.names) n).l st body)))))))))))))))=true)
  {x dx:Addr}{vs:List MV}{H:AH}{Q:MV->AH->Prop}(hx:H x=some (.inst C dx)) (hl:(MV.ref x::vs).length=ps.length)
  (h:wpEs (sig B T d) args (updRs (fun _=>none) ps (.ref x::vs)) H fun us H'=>SpecCall B d f2 (.ref x::us) H' fun v H''=>wpL (sig B T d) st (updRs (fun _=>none) ps (.ref x::vs)) H'' (retQ Q)) :
  SpecCall B (d+4) f (.ref x::vs) H Q:=by
 have h1:=an2 hf
 have h2:=an2 h1
 have h3:=an2 h2
 have h4:=an2 h3
 have h5:=an2 h4
 have h6:=an2 h5
 have h7:=an2 h6
 have h8:=an2 h7
 have h9:=an2 h8
 have h10:=an2 h9
 have h11:=an2 h10
 have h12:=an2 h11
 have h13:=an2 h12
 have h14:=an2 h13
 have hd:=an1 h5
 have d2:=an2 hd
 have d3:=an2 d2
 have d4:=an2 d3
 have d5:=an2 d4
 have s1:=an1 h10
 have s2:=an2 s1
 have s3:=an2 s2
 have s4:=an2 s3
 have s5:=an2 s4
 have s6:=an2 s5
 have s7:=an2 s6
 have s8:=an2 s7
 have s9:=an2 s8
 have s10:=an2 s9
 have s11:=an2 s10
 have ecn:cn = "__class__":=sEq_iff.mp (an1 hf)
 have hkf:fd.scope.kind=.function:=of_decide_eq_true (an2 d5)
 have hn:=okPs_names hX (an1 h1)
 have hnd:=hd_nodup g hn.2 (of_decide_eq_true (an1 h2))
 have kl:∀ i,okL X fd.scope.names i=true->i<B.N∧fd.scope.names.lookup (B.nm i)=some .local:=fun i hi=>⟨hX.N▸of_decide_eq_true (an1 hi),by
  have:=eq_of_beq (an2 hi)
  rw[kdF_eq,hX.nm] at this;exact this⟩
 have kloc:∀ q∈ps,fd.scope.names.lookup (B.nm q)=some .local:=fun q hq=>(kl q (Z8.mp (an1 h8) q hq)).2
 have hks0:fd.scope.names.lookup ("super" : Str)=some .globalImplicit:=by rw[← kdF_eq];exact eq_of_beq (an1 s1)
 have hkc0:fd.scope.names.lookup ("__class__" : Str)=some .free:=by rw[← kdF_eq];exact eq_of_beq (an1 s2)
 have nocell:=Z8.mp (an1 h6)
 have so:=(sndS (d:=d) (kd:=kdF fd.scope.names) (ok:=okL X fd.scope.names) g tb hX (snd g tb nm hX n) n).l st body (an2 h14)
 have sa:=(snd (d:=d) g tb nm hX n).es _ args rs (an1 h14)
 intro A s vals rm k hv
 have hvl:vals.length=ps.length:=by rw[← hl,← hv,Zc]
 have hal:fd.params.args.length=ps.length:=by have:=congrArg List.length hn.1;rw[Zc,Zc] at this;exact this
 have hbind:=bind_plain (vals:=vals) hpar (isNon.inv (an1 h4)) (hn.1▸hnd) (hvl.trans hal.symm)
 rw[hn.1] at hbind
 refine xE1 (fnData.inv hfd) fun o t9_0=>aE2 t9_0 fun ho hdat=>?_
 refine xE4 g.top fun p loose mg mb TR=>?_
 refine ks_codeAny_call_defAt (fd:=fd) (body:=_) rm.depth ((k.X g) _ _ ho) hdat (TR.keeps k.base).nolimit (codeRec_of (k.X g) (an1 d3)) hbody (BindsTo.of_eq hbind) (fun y hy e=>by have:=nocell y hy;rw[e] at this;exact Zq this) (fun y hy=>?_) (fun h' hns keep=>?_) (noB (an1 d4)) (noB (an1 d5)) hkf
 ·refine xE1 (Z3.mp (Vb hy).1) fun q t11_0=>aE2 t11_0 fun hq e=>?_
  exact e▸kloc q hq
 ·generalize hce:callEnv fd s.heap.objs.size f=env
  have hloc:env.locals=s.heap.objs.size:=by rw[← hce];rfl
  have hkind:∀ x,env.kindOf x=fd.scope.names.lookup x:=fun x=>by rw[← hce];rfl
  have hcells:env.cells=[(cn,cc)]:=by rw[← hce];exact hclo
  have hek:env.scope.kind=.function:=by rw[← hce];exact hkf
  have hgl:env.globals=mainGlobals:=by rw[← hce];exact eq_of_beq (an1 hd)
  have hbl:env.builtins=builtinsNs:=by rw[← hce];exact eq_of_beq (an1 d2)
  have hkc:env.kindOf "__class__" = some .free:=(hkind _).trans hkc0
  have hks:env.kindOf "super" = some .globalImplicit:=(hkind _).trans hks0
  have hcl:env.cells.lookup ("__class__" : Str)=some cc:=by rw[hcells,ecn];rfl
  have ce:∀ n c,env.cells.lookup n=some c->n=cn∧c=cc:=fun n c hc=>by rw[hcells] at hc;exact Prod.mk.inj (Zl.mp (mem_of_lookup hc))
  have k1:Ok B H { s with heap:=h',toks:=s.toks+((ps.map B.nm).zip vals).length }:=k.keep keep
  have X1':B.K.In h':=k1.X g
  have hcel:h'.IsCell cc (some (.ref D)):=okCell.inv (an1 s3) X1'
  have FO:=fr_plain (ps:=ps) (vals:=vals) g k hloc hek hgl hbl hns hn.2 (fun q hq=>(hkind _).trans (kloc q hq)) hvl (fun y c hc=>(ce y c hc).2▸⟨cell_none k1 hcel,_,hcel⟩) (fun y y' c hc hc'=>(ce y c hc).1.trans (ce y' c hc').1.symm)
   (fun y hy=>by
    rw[hkind] at hy
    rcases hy with hy | hy
    ·exact Zq (nocell _ (mem_of_lookupK hy))
    ·exact⟨cc,(sEq_iff.mp (Z8.mp (an1 h7) _ (mem_of_lookupK hy)):y = "__class__")▸hcl⟩)
  rw[hv] at FO
  refine xE2 (hd_arg hn.1 (noB (an1 h3)) hv hnd) fun a0 p₀ t12_0=>aE4 t12_0 fun e1 e2 e3 e4=>?_
  refine super_walk (o:=o) (ar:=a0) (m:=fun x=>((ps.map B.nm).zip vals).reverse.lookup x) g k1 X1' FO.1 FO.2 (Room.deeper rm) (fun x=>by rw[hkind,kdF_eq]) (fun i hi=>⟨(kl i hi).1,.inl (by rw[hkind];exact (kl i hi).2)⟩) hks hkc hcl hcel (by rw[← hce];rfl) (X1' _ _ ho) hdat (by rw[hpar];exact e1) (by rw[← hce];exact hcode) (by rw[hkind,e3];exact kloc _ e2) (by rw[hloc];exact hns) e4 (an1 h9) (an1 h10) hx (of_decide_eq_true (an1 h13)) (eq_of_beq (an1 h12)) sa so h fun f' s' z=>end_fn (fun b pb=>?_) keep z
  rw[pb,hloc]
  exact Z9 (Zk _)
theorem spec_super {B:Base}{T:Tab}{X:Tabs}{d n:Nat}(g:B.Good) (tb:TabOk B T) (nm:NmOk B) (hX:TabsOK B X) {f D f2 C:Addr}{ps:List Nat}{args:MEs}{st:MSs}(hf:okSup X B.K B.prog n f D f2 C ps args st=true)
  {x dx:Addr}{l:List (Nat × MV)}{vs:List MV}{H:AH}{Q:MV->AH->Prop}(hx:H x=some (.inst C dx)) (hdx:H dx=some (.ns l)) (hl:(MV.ref x::vs).length=ps.length)
  (h:wpEs (sig B T d) args (updRs (fun _=>none) ps (.ref x::vs)) H fun us H'=>SpecCall B d f2 (.ref x::us) H' fun v H''=>wpL (sig B T d) st (updRs (fun _=>none) ps (.ref x::vs)) H'' (retQ Q)) :
  SpecCall B (d+4) f (.ref x::vs) H Q:=
 onSo.get hf fun fd hfd hf=>onPar.get hf fun hpar hf=>onBody.get hf fun body hbody hf=>by
 revert hbody
 refine onC.inv (P:=fun b=>fd.body=.stmts b->SpecCall B (d+4) f (.ref x::vs) H Q) hf fun s0 body hf=>?_
 refine onExS.inv (P:=fun s0=>fd.body=.stmts (s0::body)->SpecCall B (d+4) f (.ref x::vs) H Q) hf fun q pe hf=>?_
 refine onCall.inv (P:=fun q=>fd.body=.stmts (.Expr q pe::body)->SpecCall B (d+4) f (.ref x::vs) H Q) hf fun q rs ks pos hf=>?_
 refine on0.inv (P:=fun ks=>fd.body=.stmts (.Expr (.Call q rs ks pos) pe::body)->SpecCall B (d+4) f (.ref x::vs) H Q) (an1 hf) ?_
 refine onAttr.inv (P:=fun q=>fd.body=.stmts (.Expr (.Call q rs [] pos) pe::body)->SpecCall B (d+4) f (.ref x::vs) H Q) (an2 hf) fun q an apos hf=>?_
 refine onCall.inv (P:=fun q=>fd.body=.stmts (.Expr (.Call (.Attribute q an apos) rs [] pos) pe::body)->SpecCall B (d+4) f (.ref x::vs) H Q) hf fun q r0 k0 p1 hf=>?_
 refine on0.inv (P:=fun r0=>fd.body=.stmts (.Expr (.Call (.Attribute (.Call q r0 k0 p1) an apos) rs [] pos) pe::body)->SpecCall B (d+4) f (.ref x::vs) H Q) (an1 hf) ?_
 refine on0.inv (P:=fun k0=>fd.body=.stmts (.Expr (.Call (.Attribute (.Call q [] k0 p1) an apos) rs [] pos) pe::body)->SpecCall B (d+4) f (.ref x::vs) H Q) (an1 (an2 hf)) ?_
 refine onName.inv (P:=fun q=>fd.body=.stmts (.Expr (.Call (.Attribute (.Call q [] [] p1) an apos) rs [] pos) pe::body)->SpecCall B (d+4) f (.ref x::vs) H Q) (an2 (an2 hf)) fun sn p0 hf=>?_
 rw[sEq_iff.mp (an1 hf),sEq_iff.mp (an1 (an2 hf))]
 intro hbody
 refine onC.get (an2 (an2 hf)) fun cl crest hclo hf=>onSo.get (an2 hf) fun cda hcode hf2=>?_
 obtain ⟨cn,cc⟩:=cl
 exact super_run g tb nm hX hfd hpar hbody (hclo.trans (by rw[on0.inv (P:=fun l=>l=[]) (an1 hf) rfl])) (refOf.inv hcode) hf2 hx hl h
theorem ift_ {α:Type}{c:Prop} [Decidable c] {x y z:α}(h:c) (e:x=z):(if c then x else y)=z:=(if_pos h).trans e
theorem eqPure {M:Model}{A:Around}{α:Type}{m:Sem α}{x:α}{Q:α->Shared->Prop}{E:Value->Shared->Prop}{s:Shared}(q:Q x s) (e:m=pure x):wpAny M A m Q E s:=e▸wpAny_pure q
theorem fin1_ {α σ:Type}{x:α}{b b':σ}{f:α->σ->Sem (ForInStep σ)}(h:f x b=pure (.yield b')):forIn [x] b f=pure b':=by rw[Wu,h];rfl
theorem lk1 {a:Str}{v:Value}{l:List (Str × Value)}:List.lookup a ((a,v)::l)=some v:=by rw[Zt,beq_self_eq_true]
theorem lk2 {a b:Str}{v:Value}{l:List (Str × Value)}(h:a≠b):List.lookup a ((b,v)::l)=List.lookup a l:=by rw[Zt,beq_eq_false_iff_ne.mpr h]
theorem bind_dflt {s:Shared}{fd:FuncData}{a0 a1:Arg}{ds:List Expr}{v0 v1:Value}{t:Addr}{o:Obj}{k:Nat}(hp:fd.params=⟨[],[a0,a1],none,[],[],none,ds⟩) (hd:fd.defaults=.ref t) (ho:s.heap.get? t=some o) (hod:o.data=.seq #[v1] k) (hn:a0.arg≠a1.arg) :
  BindsTo s fd ⟨[v0],[]⟩ [(a0.arg,v0),(a1.arg,v1)]:=by
 intro M A E Q q
 unfold bindArgs
 rw[hp,hd]
 show wpAny M A (seqItems? (.ref t) >>= _) Q E s
 refine wpAny_bind (wpAny_seqItems ho hod (eqPure q ?_))
 refine ifs_ nofun ?_
 refine ifs_ (noE_ fun n hn=>?_) ?_
 ·rw[Zl.mp hn]
  exact congrArg Option.isNone lk1
 refine bdp_ (fin1_ (x:=(a1.arg,v1)) (ift_ (congrArg Option.isNone (show List.lookup a1.arg [(a0.arg,v0)]=none from lk2 (Ne.symm hn))) rfl)) (bdp_ (x:=(_,[])) rfl (congrArg pure ?_))
 show List.filterMap (fun n=>Option.map (fun x=>(n,x)) (List.lookup n [(a0.arg,v0),(a1.arg,v1)])) [a0.arg,a1.arg]=_
 rw[X5,lk1,X5,lk2 (Ne.symm hn),lk1];rfl
noncomputable def seqOf (d:Data):Option (Array Value):=by induction d using PySem.Data.casesOn with | seq vs=>exact some vs | _=>exact none
noncomputable def intOf (v:Value):Option Int:=by induction v using PySem.Value.casesOn with | int i=>exact some i | _=>exact none
theorem seqOf.inv {v:Data}{a:Array Value}(h:seqOf v=some a):∃ n,v=.seq a n:=by induction v using PySem.Data.casesOn with | seq b n=>exact⟨n,Option.some.inj h▸rfl⟩ | _=>exact nomatch h
theorem intOf.inv {v:Value}{i:Int}(h:intOf v=some i):∃ t,v=.int i t:=by induction v using PySem.Value.casesOn with | int j t=>exact⟨t,Option.some.inj h▸rfl⟩ | _=>exact nomatch h
noncomputable def okInt (K:Frag) (t:Addr) (z:Int):Bool:=onSo (K.lookup t) fun o=>onSo (seqOf o.data) fun vs=>on1 vs.toList fun v=>decide (intOf v=some z)
theorem on1.get {α:Type}{P:Prop}{l:List α}{k:α->Bool}(h:on1 l k=true) (q:∀ a,l=[a]->k a=true->P):P:=on1.inv (P:=fun l'=>l=l'->P) h (fun a h e=>q a e h) rfl
theorem on2.get {α:Type}{P:Prop}{l:List α}{k:α->α->Bool}(h:on2 l k=true) (q:∀ a b,l=[a,b]->k a b=true->P):P:=on2.inv (P:=fun l'=>l=l'->P) h (fun a b h e=>q a b e h) rfl
noncomputable def okDf (X:Tabs) (K:Frag) (n:Nat) (f:Addr) (p q:Nat) (z:Int) (st:MSs):Bool:=onSo (fnData K f) fun fd=>onPar fd.params fun as=>onBody fd.body fun body=>
 on2 as fun a0 a1=>on0 fd.closure && onSo (refOf fd.defaults) fun t=>okPs X [p,q] [a0,a1] && (p != q && (okInt K t z && (okHd K fd &&
   ((fd.scope.names.all fun x=>x.2 != .cell && x.2 != .free) && (okL X fd.scope.names p && (okL X fd.scope.names q &&
   (chkS X (chk X n) (kdF fd.scope.names) (okL X fd.scope.names) n).l st body))))))
theorem spec_dflt {B:Base}{T:Tab}{X:Tabs}{d n:Nat}(g:B.Good) (tb:TabOk B T) (nm:NmOk B) (hX:TabsOK B X) {f:Addr}{p q:Nat}{z:Int}{st:MSs}(hf:okDf X B.K n f p q z st=true) {u:MV}{H:AH}{Q:MV->AH->Prop}
  (h:wpL (sig B T d) st (updR (updR (fun _=>none) p u) q (.int z)) H (retQ Q)):SpecCall B (d+4) f [u] H Q:=
 onSo.get hf fun fd hfd hf=>onPar.get hf fun hpar hf=>onBody.get hf fun body hbody hf=>by
 refine on2.get hf fun a0 a1 eas hf=>?_
 rw[eas] at hpar
 refine onSo.get (an2 hf) fun t ht h1=>?_
 have h2:=an2 h1
 have h3:=an2 h2
 have h4:=an2 h3
 have h5:=an2 h4
 have h6:=an2 h5
 have h7:=an2 h6
 have hd:=an1 h4
 have d2:=an2 hd
 have d3:=an2 d2
 have d4:=an2 d3
 have d5:=an2 d4
 have hkf:fd.scope.kind=.function:=of_decide_eq_true (an2 d5)
 have hn:=okPs_names hX (an1 h1)
 have e0:a0.arg=B.nm p:=(List.cons.inj hn.1).1
 have e1:a1.arg=B.nm q:=(List.cons.inj (List.cons.inj hn.1).2).1
 have hpN:=hn.2 p (.head _)
 have hqN:=hn.2 q (.tail _ (.head _))
 have npq:p≠q:=bne_iff_ne.mp (an1 h2)
 have ne:B.nm p≠B.nm q:=fun w=>npq (Base.nm_inj g.nd hpN hqN w)
 have kl:∀ i,okL X fd.scope.names i=true->i<B.N∧fd.scope.names.lookup (B.nm i)=some .local:=fun i hi=>⟨hX.N▸of_decide_eq_true (an1 hi),by
  have:=eq_of_beq (an2 hi)
  rw[kdF_eq,hX.nm] at this;exact this⟩
 have no:=Z8.mp (an1 h5)
 have so:=(sndS (d:=d) (kd:=kdF fd.scope.names) (ok:=okL X fd.scope.names) g tb hX (snd g tb nm hX n) n).l st body (an2 h7)
 have kloc:∀ i∈[p,q],fd.scope.names.lookup (B.nm i)=some .local:=Vg.mpr ⟨(kl p (an1 h6)).2,Vg.mpr ⟨(kl q (an1 h7)).2,fun _ h=>absurd h Yz⟩⟩
 obtain ⟨ot,hto,i,tk,hvs⟩ : ∃ ot,B.K.lookup t=some ot∧∃ i tk,ot.data=.seq #[.int z i] tk:=onSo.get (an1 h3) fun ot h1 h=>onSo.get h fun vs h2 h=>on1.get h fun v ev h=>by
  refine xE1 (seqOf.inv h2) fun n e=>?_
  refine xE1 (intOf.inv (of_decide_eq_true h)) fun tk e3=>?_
  exact⟨ot,h1,tk,n,by rw[e,← e3,← ev,Xg]⟩
 intro A s vals rm k hv
 refine xE1 (List.map_eq_singleton_iff.mp hv) fun v₀ t2_0=>aE2 t2_0 fun e2_1 hv0=>?_
 subst e2_1
 refine xE1 (fnData.inv hfd) fun o t3_0=>aE2 t3_0 fun ho hdat=>?_
 refine xE4 g.top fun P0 loose mg mb TR=>?_
 have hbind:=bind_dflt (v0:=v₀) hpar (refOf.inv ht) ((k.X g) _ _ hto) hvs (by rw[e0,e1];exact ne)
 rw[e0,e1] at hbind
 refine codeAny_call_def rm.depth ((k.X g) _ _ ho) hdat (TR.keeps k.base).nolimit (codeRec_of (k.X g) (an1 d3)) hbody hbind (fun y hy e=>by have:=an1 (no y hy);rw[e] at this;exact Zq this) (fun y hy=>?_) (fun h' hns keep=>?_) (noB (an1 d4)) (noB (an1 d5)) hkf
 ·refine xE1 (Z3.mp (Vb (l₁:=[p,q].map B.nm) (l₂:=[v₀,.int z i]) hy).1) fun j t5_0=>aE2 t5_0 fun hj e=>?_
  exact e▸kloc j hj
 ·generalize hce:callEnv fd s.heap.objs.size f=env
  have hloc:env.locals=s.heap.objs.size:=by rw[← hce];rfl
  have hkind:∀ x,env.kindOf x=fd.scope.names.lookup x:=fun x=>by rw[← hce];rfl
  have hcells:env.cells=[]:=by rw[← hce];exact on0.inv (P:=fun l=>l=[]) (an1 hf) rfl
  have nc:∀ y c,¬env.cells.lookup y=some c:=fun y c hc=>by rw[hcells] at hc;exact nomatch hc
  have k1:Ok B H { s with heap:=h',toks:=s.toks+([(B.nm p,v₀),(B.nm q,Value.int z i)]:List (Str × Value)).length }:=k.keep keep
  have FO:=fr_plain (ps:=[p,q]) (vals:=[v₀,.int z i]) g k hloc (by rw[← hce];exact hkf) (by rw[← hce];exact eq_of_beq (an1 hd)) (by rw[← hce];exact eq_of_beq (an1 d2)) hns hn.2 (fun j hj=>(hkind _).trans (kloc j hj)) rfl (fun y c hc=>absurd hc (nc y c)) (fun y y' c hc=>absurd hc (nc y c))
   (fun y hy=>by
    rw[hkind] at hy
    exact hy.elim (fun hy=>Zq (an1 (no _ (mem_of_lookupK hy)))) fun hy=>Zq (an2 (no _ (mem_of_lookupK hy))))
  subst hv0
  refine wpAny_mono (so (A.deeper env) env _ H _ (fun b=>b=env.locals) (retQ Q) (Room.deeper rm) (fun x=>by rw[hkind,kdF_eq]) (fun j hj=>⟨(kl j hj).1,.inl (by rw[hkind];exact (kl j hj).2)⟩) FO.1 FO.2 k1 h) (fun f' s' z=>end_fn (fun b pb=>?_) keep z) fun _ _ e=>e.elim
  rw[pb,hloc]
  exact Z9 (Zk _)
end Mine
open PySem PySem.W PyProof.Rows
namespace PySem.W.Fast
theorem tw13711637086955495133:True:=⟨⟩
theorem tw17366212055906957992:True:=⟨⟩
theorem tw13040513554393375673:True:=⟨⟩
theorem tw1899037699745140742:True:=⟨⟩
theorem tw14149529951727756231:True:=⟨⟩
theorem tw3148581322163519743:True:=⟨⟩
theorem tw16291974419945794366:True:=⟨⟩
theorem tw6014570811104360729:True:=⟨⟩
theorem tw5580513101633523730:True:=⟨⟩
theorem tw13449745737063227173:True:=⟨⟩
theorem tw7190020039404965630:True:=⟨⟩
theorem tw17610982233121369893:True:=⟨⟩
theorem tw11811830140165808619:True:=⟨⟩
theorem tw14426802534516836094:True:=⟨⟩
theorem tw10233078282803097807:True:=⟨⟩
theorem tw9336032903631226954:True:=⟨⟩
theorem tw13532186825717653708:True:=⟨⟩
theorem tw7595143672494458769:True:=⟨⟩
theorem tw14478431536839906967:True:=⟨⟩
theorem tw12985691491690843191:True:=⟨⟩
theorem tw14928179468346391387:True:=⟨⟩
theorem tw13688423706313549539:True:=⟨⟩
theorem tw9292834791910299898:True:=⟨⟩
theorem tw11865465335136591032:True:=⟨⟩
theorem tw10517730518443820017:True:=⟨⟩
theorem tw8364352798987048363:True:=⟨⟩
theorem tw3528091816275206719:True:=⟨⟩
theorem tw1484084372833007577:True:=⟨⟩
theorem tw3724679409032509674:True:=⟨⟩
theorem tw10245715777217254969:True:=⟨⟩
theorem tw11868432963647006363:True:=⟨⟩
theorem tw5006980971893530156:True:=⟨⟩
theorem tw232943913406877455:True:=⟨⟩
theorem tw16649388703270521969:True:=⟨⟩
theorem tw2574441606739703953:True:=⟨⟩
theorem tw15830872493946478001:True:=⟨⟩
theorem tw629804928881013047:True:=⟨⟩
theorem tw226024182363668423:True:=⟨⟩
theorem tw1903922329509297294:True:=⟨⟩
theorem tw3334767175405200532:True:=⟨⟩
theorem tw13375060487819197600:True:=⟨⟩
theorem tw6351298518140491376:True:=⟨⟩
theorem tw12874250637687600963:True:=⟨⟩
theorem tw5079956520433470934:True:=⟨⟩
theorem tw138934021876686745:True:=⟨⟩
theorem tw3826210120337338492:True:=⟨⟩
theorem tw14166658693266857916:True:=⟨⟩
theorem tw10095328187980664302:True:=⟨⟩
theorem tw10047378888259945200:True:=⟨⟩
theorem tw2351231653143747166:True:=⟨⟩
theorem tw18408739434674010245:True:=⟨⟩
theorem tw8106920054905427164:True:=⟨⟩
theorem tw2309286802844894192:True:=⟨⟩
theorem tw1573958390990749106:True:=⟨⟩
theorem tw4660948091125621210:True:=⟨⟩
theorem tw824474522783384788:True:=⟨⟩
theorem tw12028849918027324398:True:=⟨⟩
theorem tw11370642473243357986:True:=⟨⟩
theorem tw9534425179431781067:True:=⟨⟩
theorem tw8587832059924856629:True:=⟨⟩
theorem tw8266519578811743957:True:=⟨⟩
theorem tw7588802167495325436:True:=⟨⟩
theorem tw3620072925768497541:True:=⟨⟩
theorem tw3028877431551525710:True:=⟨⟩
theorem tw1283875487214899642:True:=⟨⟩
theorem tw16266789304220830449:True:=⟨⟩
theorem tw17370989189164210946:True:=⟨⟩
theorem tw2855467546866956125:True:=⟨⟩
theorem tw14209021693781926614:True:=⟨⟩
theorem tw14532742157298693397:True:=⟨⟩
theorem tw16638538482433239525:True:=⟨⟩
theorem tw944603840052653266:True:=⟨⟩
theorem tw13756254433980345878:True:=⟨⟩
theorem tw17035007243658498730:True:=⟨⟩
theorem tw11872113101415091342:True:=⟨⟩
theorem tw2281572965560649849:True:=⟨⟩
theorem tw8776038268241289362:True:=⟨⟩
theorem tw13212762643914776860:True:=⟨⟩
theorem tw14134090278187301634:True:=⟨⟩
theorem tw7273369268796675976:True:=⟨⟩
theorem tw2774245575222537158:True:=⟨⟩
theorem tw14221421406359718971:True:=⟨⟩
theorem tw11663808792166067709:True:=⟨⟩
theorem tw16081740197686598242:True:=⟨⟩
theorem tw8338451038643370074:True:=⟨⟩
theorem tw7193654611174386645:True:=⟨⟩
theorem tw13430583904147616252:True:=⟨⟩
theorem tw7984324768544126642:True:=⟨⟩
theorem tw9243351087130279839:True:=⟨⟩
theorem tw14912784552529603958:True:=⟨⟩
theorem tw2528673929644438221:True:=⟨⟩
theorem tw5233831450478731643:True:=⟨⟩
theorem tw3114257064809977157:True:=⟨⟩
theorem tw903054332373803103:True:=⟨⟩
theorem tw3863440958555642329:True:=⟨⟩
theorem tw8732961386060095734:True:=⟨⟩
theorem tw14839535061370231687:True:=⟨⟩
theorem tw13842737729596396890:True:=⟨⟩
theorem tw14959550044224855107:True:=⟨⟩
theorem tw16420512957425743274:True:=⟨⟩
theorem tw17316087694911086099:True:=⟨⟩
theorem tw3224004405380552509:True:=⟨⟩
theorem tw432473340369977633:True:=⟨⟩
theorem tw7249952467899192071:True:=⟨⟩
theorem tw16789089165693197804:True:=⟨⟩
theorem tw17983600540509840693:True:=⟨⟩
theorem tw11507934483321024611:True:=⟨⟩
theorem tw14039748646181050680:True:=⟨⟩
theorem tw15376487742347690867:True:=⟨⟩
theorem tw5186261338413710314:True:=⟨⟩
theorem tw17228382225942665740:True:=⟨⟩
theorem tw7620681710782598650:True:=⟨⟩
theorem tw816884090786268234:True:=⟨⟩
theorem tw10483952761797916496:True:=⟨⟩
theorem tw1259687147422462436:True:=⟨⟩
theorem tw15787381769843320860:True:=⟨⟩
theorem tw17802881785239894952:True:=⟨⟩
theorem tw14867844076367376655:True:=⟨⟩
theorem tw13710096576282766415:True:=⟨⟩
theorem tw16891953591536283368:True:=⟨⟩
theorem tw9701844805787517123:True:=⟨⟩
theorem tw14564743754410187729:True:=⟨⟩
theorem tw16850121265854339783:True:=⟨⟩
theorem tw15910055422757049143:True:=⟨⟩
theorem tw14142652020784472014:True:=⟨⟩
theorem tw4532950937719822589:True:=⟨⟩
theorem tw11193828986036526318:True:=⟨⟩
theorem tw888191189028823460:True:=⟨⟩
theorem tw4130809265464631638:True:=⟨⟩
theorem tw7505414421899798375:True:=⟨⟩
theorem tw6373580957369528118:True:=⟨⟩
theorem tw3185832236318449480:True:=⟨⟩
theorem tw1445795589172965182:True:=⟨⟩
theorem tw12114997206259251576:True:=⟨⟩
theorem tw9844846213133832391:True:=⟨⟩
theorem tw10871747229092559739:True:=⟨⟩
theorem tw2948545868922293762:True:=⟨⟩
theorem tw3136057416121128462:True:=⟨⟩
theorem tw10233906721288532930:True:=⟨⟩
theorem tw4336683908599081452:True:=⟨⟩
theorem tw6135602667571141113:True:=⟨⟩
theorem tw10346960759871422975:True:=⟨⟩
theorem tw10551885536988438633:True:=⟨⟩
theorem tw2776274136231378091:True:=⟨⟩
theorem tw13621327226650215293:True:=⟨⟩
theorem tw3421492022167881339:True:=⟨⟩
theorem tw942396720978915197:True:=⟨⟩
theorem tw10898988881011733874:True:=⟨⟩
theorem tw1439468229087454895:True:=⟨⟩
theorem tw18445167598856017758:True:=⟨⟩
theorem tw2089661495186296450:True:=⟨⟩
theorem tw2098010379593784861:True:=⟨⟩
theorem tw12969525822301446318:True:=⟨⟩
theorem tw13496173784835052531:True:=⟨⟩
theorem tw13827663434205487991:True:=⟨⟩
theorem tw5584230902186509585:True:=⟨⟩
theorem tw5948491762639177103:True:=⟨⟩
theorem tw148317781585928552:True:=⟨⟩
theorem tw11191368806641062002:True:=⟨⟩
theorem tw15733462636906193371:True:=⟨⟩
theorem tw13230437169666354993:True:=⟨⟩
theorem tw7655857517701139015:True:=⟨⟩
theorem tw1198507034938466040:True:=⟨⟩
theorem tw5965198012493156571:True:=⟨⟩
theorem tw15325819957090033908:True:=⟨⟩
theorem tw4115617170699937338:True:=⟨⟩
theorem tw2445296340893323507:True:=⟨⟩
theorem tw7792988134901465660:True:=⟨⟩
theorem tw12523631346567973036:True:=⟨⟩
theorem tw7001059963941600446:True:=⟨⟩
theorem tw11615364584691111338:True:=⟨⟩
theorem tw5454791271017312280:True:=⟨⟩
theorem tw13416804084800200538:True:=⟨⟩
theorem tw14234972794212821009:True:=⟨⟩
theorem tw6988197864889105826:True:=⟨⟩
theorem tw14912944393038216461:True:=⟨⟩
theorem tw16395469859293956680:True:=⟨⟩
theorem tw11372803641563808063:True:=⟨⟩
theorem tw8680565502223758072:True:=⟨⟩
theorem tw15944859992429038854:True:=⟨⟩
theorem tw8054293087268452672:True:=⟨⟩
theorem tw16611329233430842506:True:=⟨⟩
theorem tw5572773193478518896:True:=⟨⟩
theorem tw8001050102341880531:True:=⟨⟩
theorem tw1228450920531134949:True:=⟨⟩
theorem tw11594845939798181163:True:=⟨⟩
theorem tw12539456262073940971:True:=⟨⟩
theorem tw12746423633680683083:True:=⟨⟩
theorem tw18147810176440091864:True:=⟨⟩
theorem tw10654442677003149300:True:=⟨⟩
theorem tw11361607750708078170:True:=⟨⟩
theorem tw5963027065114214915:True:=⟨⟩
theorem tw14989843434611948814:True:=⟨⟩
theorem tw12577917304125553780:True:=⟨⟩
theorem tw14251901321352598561:True:=⟨⟩
theorem tw16945324752461226637:True:=⟨⟩
theorem tw3691672020335782478:True:=⟨⟩
theorem tw13432860785999463522:True:=⟨⟩
theorem tw14429476661084950625:True:=⟨⟩
theorem tw3622720964844929011:True:=⟨⟩
theorem tw14633253675737914194:True:=⟨⟩
theorem tw7270734669937011963:True:=⟨⟩
theorem tw17485778600201435418:True:=⟨⟩
theorem tw2950778069671023109:True:=⟨⟩
theorem tw14397972057754409102:True:=⟨⟩
theorem tw10117943652850710423:True:=⟨⟩
theorem tw8270108680864607990:True:=⟨⟩
theorem tw13920400410189923578:True:=⟨⟩
theorem tw17627682178377608926:True:=⟨⟩
theorem tw14344120548757844055:True:=⟨⟩
theorem tw2118893183250050286:True:=⟨⟩
theorem tw6252397067735717996:True:=⟨⟩
theorem tw6663673957951441014:True:=⟨⟩
theorem tw13651213433133070514:True:=⟨⟩
theorem tw12164333616020079281:True:=⟨⟩
theorem tw9734978125613335792:True:=⟨⟩
theorem tw15496631140262416508:True:=⟨⟩
theorem tw17248190253935911544:True:=⟨⟩
theorem tw16122629907129773565:True:=⟨⟩
theorem tw6441649776421684512:True:=⟨⟩
theorem tw585404249284865509:True:=⟨⟩
theorem tw18076260126244695192:True:=⟨⟩
theorem tw11281159358847911279:True:=⟨⟩
theorem tw14315962134886893607:True:=⟨⟩
theorem tw4748919418597558118:True:=⟨⟩
theorem tw1073998849020687220:True:=⟨⟩
theorem tw12952738270988287651:True:=⟨⟩
theorem tw15809090711270761831:True:=⟨⟩
theorem tw6250006025817324524:True:=⟨⟩
theorem tw10709123872169647260:True:=⟨⟩
theorem tw10085268422295509696:True:=⟨⟩
theorem tw441392365433631916:True:=⟨⟩
theorem tw11473150259741028839:True:=⟨⟩
theorem tw1132927611035363487:True:=⟨⟩
theorem tw1889009272569048164:True:=⟨⟩
theorem tw14938622950583107431:True:=⟨⟩
theorem tw39835867877542263:True:=⟨⟩
theorem tw18307475452386143950:True:=⟨⟩
theorem tw14128038046433816739:True:=⟨⟩
theorem tw15800226006887549243:True:=⟨⟩
theorem tw11326675409351363477:True:=⟨⟩
theorem tw6996075287335606529:True:=⟨⟩
theorem tw7770445567038390326:True:=⟨⟩
theorem tw13021132549994098332:True:=⟨⟩
theorem tw11063236943621105563:True:=⟨⟩
theorem tw8888885741948142601:True:=⟨⟩
theorem tw1348042600697181061:True:=⟨⟩
theorem tw10152786514462242561:True:=⟨⟩
theorem tw16360938887420566548:True:=⟨⟩
theorem tw15951197874304278214:True:=⟨⟩
theorem tw10521387799535675142:True:=⟨⟩
theorem tw10325905045334649323:True:=⟨⟩
theorem tw7974565251886397457:True:=⟨⟩
theorem tw16372209706830347484:True:=⟨⟩
theorem tw12415818604004031996:True:=⟨⟩
theorem tw7428100836891875986:True:=⟨⟩
theorem tw13122265301227926730:True:=⟨⟩
theorem tw1677865172751190823:True:=⟨⟩
theorem tw10128548201671954723:True:=⟨⟩
theorem tw15220338247929334306:True:=⟨⟩
theorem tw5727839100411192735:True:=⟨⟩
theorem tw6581959654742910914:True:=⟨⟩
theorem tw12025784154099030936:True:=⟨⟩
theorem tw15655954702981939993:True:=⟨⟩
theorem tw8994607659231970432:True:=⟨⟩
theorem tw7943529305072788795:True:=⟨⟩
theorem tw18345564552300291968:True:=⟨⟩
theorem tw2750759093265333759:True:=⟨⟩
theorem tw5630833428299662752:True:=⟨⟩
theorem tw18405144088519326047:True:=⟨⟩
theorem tw3062924193023730136:True:=⟨⟩
theorem tw14354531617559720839:True:=⟨⟩
theorem tw3849806610337768584:True:=⟨⟩
theorem tw16220410750730469752:True:=⟨⟩
theorem tw16901748924502260681:True:=⟨⟩
theorem tw10430078928043777939:True:=⟨⟩
theorem tw13500942981940165726:True:=⟨⟩
theorem tw16013214748078410743:True:=⟨⟩
theorem tw730798286898790520:True:=⟨⟩
theorem tw7266778697162228721:True:=⟨⟩
theorem tw9703104683646998414:True:=⟨⟩
theorem tw12656994301139518419:True:=⟨⟩
theorem tw335514760351132380:True:=⟨⟩
theorem tw16997398034596183485:True:=⟨⟩
theorem tw1830260723675328124:True:=⟨⟩
theorem tw7270558952418337177:True:=⟨⟩
theorem tw5725192911322555421:True:=⟨⟩
theorem tw1669469379586519001:True:=⟨⟩
theorem tw3424552691214812837:True:=⟨⟩
theorem tw16027931585952606811:True:=⟨⟩
theorem tw13273436651892833706:True:=⟨⟩
theorem tw3388047665543680797:True:=⟨⟩
theorem tw14034109876359759395:True:=⟨⟩
theorem tw5817411751018867740:True:=⟨⟩
theorem tw2550958561810932828:True:=⟨⟩
theorem tw876608434750693618:True:=⟨⟩
theorem tw10415687340136842734:True:=⟨⟩
theorem tw12227267856110444959:True:=⟨⟩
theorem tw12838964977131777303:True:=⟨⟩
theorem tw10709086143360773699:True:=⟨⟩
theorem tw4586167839161270025:True:=⟨⟩
theorem tw15857500611241698078:True:=⟨⟩
theorem tw14765498376215277942:True:=⟨⟩
theorem tw14120145104520018885:True:=⟨⟩
theorem tw5246491958377060670:True:=⟨⟩
theorem tw5694988390027131317:True:=⟨⟩
theorem tw7198745395504174912:True:=⟨⟩
theorem tw13733268725548841138:True:=⟨⟩
theorem tw8118699677328698205:True:=⟨⟩
theorem tw12731503672489685580:True:=⟨⟩
theorem tw9442023058754909148:True:=⟨⟩
theorem tw1917723968553415865:True:=⟨⟩
theorem tw9512403111581375537:True:=⟨⟩
theorem tw5024650930810032042:True:=⟨⟩
theorem tw10919204667452224861:True:=⟨⟩
theorem tw7902215886855394049:True:=⟨⟩
theorem tw5240407752463754046:True:=⟨⟩
theorem tw17285808627692333178:True:=⟨⟩
theorem tw2999510330430014722:True:=⟨⟩
theorem tw9474085152754094743:True:=⟨⟩
theorem tw6907440385723003620:True:=⟨⟩
theorem tw3848817424077784118:True:=⟨⟩
theorem tw12623911782552976276:True:=⟨⟩
theorem tw9294853363837335297:True:=⟨⟩
theorem tw11900012391632513644:True:=⟨⟩
theorem tw15840658678487799632:True:=⟨⟩
theorem tw17883658943525312517:True:=⟨⟩
theorem tw2940204665072146382:True:=⟨⟩
theorem tw10533495495501531897:True:=⟨⟩
theorem tw16761465430131275844:True:=⟨⟩
theorem tw12508445448340031557:True:=⟨⟩
theorem tw10880937334552387576:True:=⟨⟩
theorem tw9227436987963563299:True:=⟨⟩
theorem tw12124358728475590744:True:=⟨⟩
theorem tw9667377049783973544:True:=⟨⟩
theorem tw3164001244112799637:True:=⟨⟩
theorem tw18226026436051248313:True:=⟨⟩
theorem tw16121393110502422446:True:=⟨⟩
theorem tw1470306262755606439:True:=⟨⟩
theorem tw2291153856167771844:True:=⟨⟩
theorem tw8996617373380092706:True:=⟨⟩
theorem tw11483675350735501887:True:=⟨⟩
theorem tw16669051673475730595:True:=⟨⟩
theorem tw11526907100401490862:True:=⟨⟩
theorem tw6340701040535710870:True:=⟨⟩
theorem tw13464351162852242150:True:=⟨⟩
theorem tw8750705728641587433:True:=⟨⟩
theorem tw2950647929116863670:True:=⟨⟩
theorem tw3635654666246658254:True:=⟨⟩
theorem tw6349657375133485892:True:=⟨⟩
theorem tw8771292895120005839:True:=⟨⟩
theorem tw13310737681235498219:True:=⟨⟩
theorem tw1864951825605712429:True:=⟨⟩
theorem tw14835879908968990012:True:=⟨⟩
theorem tw16829008229064470814:True:=⟨⟩
theorem tw6177280334024419421:True:=⟨⟩
theorem tw16421438928907842792:True:=⟨⟩
theorem tw14186500181366609411:True:=⟨⟩
theorem tw3266027557059990414:True:=⟨⟩
theorem tw10085743444739241646:True:=⟨⟩
theorem tw12475467290302268174:True:=⟨⟩
theorem tw5093944380831022193:True:=⟨⟩
theorem tw15099173418337668814:True:=⟨⟩
theorem tw5283868069902364240:True:=⟨⟩
theorem tw15315065182856223415:True:=⟨⟩
theorem tw5406936539840034368:True:=⟨⟩
theorem tw3235689680026284724:True:=⟨⟩
theorem tw682223868190299542:True:=⟨⟩
theorem tw6215089917107499080:True:=⟨⟩
theorem tw3371807813798442415:True:=⟨⟩
theorem tw14636344191333516731:True:=⟨⟩
theorem tw12526709499680705170:True:=⟨⟩
theorem tw6610758622405072873:True:=⟨⟩
theorem tw13436264210826876869:True:=⟨⟩
theorem tw3280615331118045857:True:=⟨⟩
theorem tw9357289583146732576:True:=⟨⟩
theorem tw731112764450107198:True:=⟨⟩
theorem tw5546145459236158711:True:=⟨⟩
theorem tw5496918396566295443:True:=⟨⟩
theorem tw8043346855164669850:True:=⟨⟩
theorem tw18413212892258118283:True:=⟨⟩
theorem tw2645590422545334024:True:=⟨⟩
theorem tw1004964921158036153:True:=⟨⟩
theorem tw14458370373764443377:True:=⟨⟩
theorem tw11430852102316277916:True:=⟨⟩
theorem tw15444538848251019350:True:=⟨⟩
theorem tw4882832734929600520:True:=⟨⟩
theorem tw17319443745930203423:True:=⟨⟩
theorem tw12103712338235088163:True:=⟨⟩
theorem tw13543275733118433491:True:=⟨⟩
theorem tw3364803598682322854:True:=⟨⟩
theorem tw5889305358595504485:True:=⟨⟩
theorem tw3534686009331290241:True:=⟨⟩
theorem tw2962373148767443580:True:=⟨⟩
theorem tw8510188854396309559:True:=⟨⟩
theorem tw4609246363237027106:True:=⟨⟩
theorem tw10436396280035374028:True:=⟨⟩
theorem tw9027003703415459995:True:=⟨⟩
theorem tw9865128179390691215:True:=⟨⟩
theorem tw15735218433399497056:True:=⟨⟩
theorem tw1535062522705127957:True:=⟨⟩
theorem tw4363232118814596877:True:=⟨⟩
theorem tw8801780347378651670:True:=⟨⟩
theorem tw1382335435262273064:True:=⟨⟩
theorem tw17758224803820024370:True:=⟨⟩
theorem tw1512133667962545583:True:=⟨⟩
theorem tw11629022166968641297:True:=⟨⟩
theorem tw12871869630798696677:True:=⟨⟩
theorem tw12304652333185109509:True:=⟨⟩
theorem tw9254258707486260241:True:=⟨⟩
theorem tw10724544998588210401:True:=⟨⟩
theorem tw18306220569075861775:True:=⟨⟩
theorem tw4394664971991022724:True:=⟨⟩
theorem tw10228490409835881926:True:=⟨⟩
theorem tw12110825982365574268:True:=⟨⟩
theorem tw6629808203496205225:True:=⟨⟩
theorem tw18330027498532115279:True:=⟨⟩
theorem tw4661907804376807899:True:=⟨⟩
theorem tw4357291985969230595:True:=⟨⟩
theorem tw12305294269197817922:True:=⟨⟩
theorem tw11476671719013873781:True:=⟨⟩
theorem tw13888118553782908137:True:=⟨⟩
theorem tw11085664365682550127:True:=⟨⟩
theorem tw10506723688658380254:True:=⟨⟩
theorem tw6429938458478587756:True:=⟨⟩
theorem tw15764456389580689388:True:=⟨⟩
theorem tw14206584736671186641:True:=⟨⟩
theorem tw13253059270158722701:True:=⟨⟩
theorem tw2297363982631624573:True:=⟨⟩
theorem tw8727488005422163023:True:=⟨⟩
theorem tw11769510921253717037:True:=⟨⟩
theorem tw11337189878816833706:True:=⟨⟩
theorem tw9249151519742927842:True:=⟨⟩
theorem tw10470322041420707437:True:=⟨⟩
theorem tw15048793676918625536:True:=⟨⟩
theorem tw15806639645996769929:True:=⟨⟩
theorem tw13048968515324955241:True:=⟨⟩
theorem tw13343976529944254732:True:=⟨⟩
theorem tw1611140599985729583:True:=⟨⟩
theorem tw705963378636383152:True:=⟨⟩
theorem tw9682940641776221681:True:=⟨⟩
theorem tw3888204036826833410:True:=⟨⟩
theorem tw10344274301664628865:True:=⟨⟩
theorem tw4068195464110938793:True:=⟨⟩
theorem tw10998712001453707836:True:=⟨⟩
theorem tw14040474889118474958:True:=⟨⟩
theorem tw5822354830615597790:True:=⟨⟩
theorem tw16745057824874917051:True:=⟨⟩
theorem tw4780591701603984485:True:=⟨⟩
theorem tw14563640329043863654:True:=⟨⟩
theorem tw6761671458773499448:True:=⟨⟩
theorem tw9646626955500526860:True:=⟨⟩
theorem tw5895997202471316017:True:=⟨⟩
theorem tw16246794747413965684:True:=⟨⟩
theorem tw9820243067015853205:True:=⟨⟩
theorem tw5605831142809742177:True:=⟨⟩
theorem tw9038617555320118623:True:=⟨⟩
theorem tw6245794937131204880:True:=⟨⟩
theorem tw2880580250206479255:True:=⟨⟩
theorem tw7844262908664085467:True:=⟨⟩
theorem tw8807831095550898279:True:=⟨⟩
theorem tw17039504485374562686:True:=⟨⟩
theorem tw18136689505139113632:True:=⟨⟩
theorem tw10282386032917505192:True:=⟨⟩
theorem tw5839816532487431875:True:=⟨⟩
theorem tw6417280014273000:True:=⟨⟩
theorem tw7849721117737235394:True:=⟨⟩
theorem tw14252202211872098960:True:=⟨⟩
theorem tw12917403349311621150:True:=⟨⟩
theorem tw18068847675294011345:True:=⟨⟩
theorem tw2578545160215898983:True:=⟨⟩
theorem tw11320137974235508385:True:=⟨⟩
theorem tw11994155147787243385:True:=⟨⟩
theorem tw8207774212713613071:True:=⟨⟩
theorem tw12943749631116809851:True:=⟨⟩
theorem tw7322572179685482985:True:=⟨⟩
theorem tw12889258157535115273:True:=⟨⟩
theorem tw1815028971036407593:True:=⟨⟩
theorem tw2862382413649741526:True:=⟨⟩
theorem tw13679566948834656531:True:=⟨⟩
theorem tw16466558131590817466:True:=⟨⟩
theorem tw17983653637948357726:True:=⟨⟩
theorem tw429649235898236623:True:=⟨⟩
theorem tw15123011132162419117:True:=⟨⟩
theorem tw15667785287647068883:True:=⟨⟩
theorem tw17040459476238631257:True:=⟨⟩
theorem tw13149648062262117207:True:=⟨⟩
theorem tw3619539620312123179:True:=⟨⟩
theorem tw11880431930650946503:True:=⟨⟩
theorem tw8309207221419314739:True:=⟨⟩
theorem tw15148194092538774618:True:=⟨⟩
theorem tw14557776041657964599:True:=⟨⟩
theorem tw9950372359703494033:True:=⟨⟩
theorem tw9937279274218653787:True:=⟨⟩
theorem tw17965694884959450288:True:=⟨⟩
theorem tw11165369527027038215:True:=⟨⟩
theorem tw16421617130643628391:True:=⟨⟩
theorem tw13808479628165925692:True:=⟨⟩
theorem tw9735986020224248652:True:=⟨⟩
theorem tw11863708178336127932:True:=⟨⟩
theorem tw17783105926033717100:True:=⟨⟩
theorem tw16466882507301151400:True:=⟨⟩
theorem tw15377735833647708967:True:=⟨⟩
theorem tw13276347035312407898:True:=⟨⟩
theorem tw2409742187365941025:True:=⟨⟩
theorem tw11995001274488381823:True:=⟨⟩
theorem tw15018741677051895829:True:=⟨⟩
theorem tw17537487602833151792:True:=⟨⟩
theorem tw14595752516750684051:True:=⟨⟩
theorem tw6026823838446805873:True:=⟨⟩
theorem tw13973585013205993319:True:=⟨⟩
theorem tw2982489939810548155:True:=⟨⟩
theorem tw8258930368104456835:True:=⟨⟩
theorem tw9615590514059701492:True:=⟨⟩
theorem tw12755814114960425892:True:=⟨⟩
theorem tw12772945765237077649:True:=⟨⟩
theorem tw5770666627100244132:True:=⟨⟩
theorem tw17230882130833207297:True:=⟨⟩
theorem tw11079673186792915374:True:=⟨⟩
theorem tw16885993963648766864:True:=⟨⟩
theorem tw1897059143317809382:True:=⟨⟩
theorem tw4279233359515093479:True:=⟨⟩
theorem tw16732158601431148950:True:=⟨⟩
theorem tw8791913572639788927:True:=⟨⟩
theorem tw15040145937010855345:True:=⟨⟩
theorem tw5882259549338933625:True:=⟨⟩
theorem tw17976932074135116374:True:=⟨⟩
theorem tw11281366876029244093:True:=⟨⟩
theorem tw11974799893606478452:True:=⟨⟩
theorem tw4202665285589043035:True:=⟨⟩
theorem tw12013315143705775842:True:=⟨⟩
theorem tw15097360298522012805:True:=⟨⟩
theorem tw9933527150708281748:True:=⟨⟩
theorem tw15287986197450385624:True:=⟨⟩
theorem tw6510203246260452209:True:=⟨⟩
theorem tw9999544118686319190:True:=⟨⟩
theorem tw7274338876761306542:True:=⟨⟩
theorem tw2813336659335685582:True:=⟨⟩
theorem tw13353200152957689765:True:=⟨⟩
theorem tw10470047677682135121:True:=⟨⟩
theorem tw9016365546621653327:True:=⟨⟩
theorem tw4519143155233445238:True:=⟨⟩
theorem tw10342260696468223880:True:=⟨⟩
theorem tw16842520387954293554:True:=⟨⟩
theorem tw5201143737894437340:True:=⟨⟩
theorem tw11046239417424566292:True:=⟨⟩
theorem tw8566791862464084169:True:=⟨⟩
theorem tw9205488255054621154:True:=⟨⟩
theorem tw14107515856093157486:True:=⟨⟩
theorem tw5536182593570554718:True:=⟨⟩
theorem tw6320145672655343393:True:=⟨⟩
theorem tw12798598611049300721:True:=⟨⟩
theorem tw15794692303130532775:True:=⟨⟩
theorem tw4742912081382321899:True:=⟨⟩
theorem tw9937700405209733169:True:=⟨⟩
theorem tw3845583497115056553:True:=⟨⟩
theorem tw14700242916386208667:True:=⟨⟩
theorem tw6698423889154955974:True:=⟨⟩
theorem tw15195764108891555482:True:=⟨⟩
theorem tw5583394314214393169:True:=⟨⟩
theorem tw1714335133150027849:True:=⟨⟩
theorem tw8350346275418452989:True:=⟨⟩
theorem tw4348744058158030536:True:=⟨⟩
theorem tw6441723276601936357:True:=⟨⟩
theorem tw14283020964947772060:True:=⟨⟩
theorem tw1187932469643298639:True:=⟨⟩
theorem tw10384205508554291263:True:=⟨⟩
theorem tw12939611044894215370:True:=⟨⟩
theorem tw1802480139922212523:True:=⟨⟩
theorem tw7925747113242923417:True:=⟨⟩
theorem tw14399024538997367707:True:=⟨⟩
theorem tw12315156379187827254:True:=⟨⟩
theorem tw4480077129568033352:True:=⟨⟩
theorem tw5473698803571602579:True:=⟨⟩
theorem tw8838976900248700839:True:=⟨⟩
theorem tw12816739338235650664:True:=⟨⟩
theorem tw3898954921074003196:True:=⟨⟩
theorem tw16724295727370717698:True:=⟨⟩
theorem tw7464311256470581404:True:=⟨⟩
theorem tw16373620521122643294:True:=⟨⟩
theorem tw1628553532816515937:True:=⟨⟩
theorem tw13177638606717238070:True:=⟨⟩
theorem tw13375989908359716744:True:=⟨⟩
theorem tw13225465992970571618:True:=⟨⟩
theorem tw722091279530244356:True:=⟨⟩
theorem tw5660338447149954550:True:=⟨⟩
theorem tw15053165041696646802:True:=⟨⟩
theorem tw15545109754863535340:True:=⟨⟩
theorem tw10807254964684570534:True:=⟨⟩
theorem tw16063638733202321101:True:=⟨⟩
theorem tw8060365165816414147:True:=⟨⟩
theorem tw4853158800849655467:True:=⟨⟩
theorem tw17045335398900354464:True:=⟨⟩
theorem tw10629065859133420004:True:=⟨⟩
theorem tw2418451892374700885:True:=⟨⟩
theorem tw4925795928290015373:True:=⟨⟩
theorem tw16343762230340040343:True:=⟨⟩
theorem tw13052677477070041709:True:=⟨⟩
theorem tw1264347086078311413:True:=⟨⟩
theorem tw11402780729707414624:True:=⟨⟩
theorem tw16940384624258910328:True:=⟨⟩
theorem tw114630033262321087:True:=⟨⟩
theorem tw12348985737753863293:True:=⟨⟩
theorem tw6360934118764030290:True:=⟨⟩
end PySem.W.Fast
open_top hd02 for PySem.Challenge.rw_rg0221_02
namespace Mine
open PySem PySem.W PySem.Calls PyProof.Rows PySem.SeqAt PySem.W.Fast
noncomputable def nmT:List Str:=[.ofString "append",.ofString "extend",.ofString "pop",.ofString "assigns",.ofString "levels",.ofString "reasons",.ofString "spots",.ofString "phases",.ofString "trail",.ofString "starts",.ofString "steps",.ofString "droppable",.ofString "activities",.ofString "seen",.ofString "unit_steps",.ofString "activity",.ofString "place",.ofString "heap",.ofString "watches",.ofString "clauses",.ofString "hook",.ofString "head",.ofString "told",.ofString "learnt_count",.ofString "proof",.ofString "rooted",.ofString "is_ok",.ofString "empty_step",.ofString "failed",.ofString "failed_at",.ofString "conflict_limit",.ofString "conflicts",.ofString "decisions",.ofString "learnt_room",.ofString "clause_bump",.ofString "part",.ofString "rested",.ofString "restarts",.ofString "limit",.ofString "step",.ofString "self",.ofString "len",.ofString "var",.ofString "one",.ofString "other",.ofString "n",.ofString "many",.ofString "push",.ofString "spot",.ofString "above",.ofString "is_before",.ofString "put",.ofString "is_held",.ofString "rise",.ofString "lit",.ofString "abs",.ofString "lits",.ofString "found",.ofString "sorted",.ofString "order_key",.ofString "tuple",.ofString "UNKNOWN",.ofString "NO_CLAUSE",.ofString "FALSE",.ofString "CoreHeap",.ofString "grow",.ofString "clause",.ofString "can_drop",.ofString "number",.ofString "list",.ofString "place_of",.ofString "value",.ofString "depth",.ofString "height",.ofString "cancel_until",.ofString "by_heights",.ofString "watch",.ofString "enqueue",.ofString "TRUE",.ofString "level",.ofString "count",.ofString "start",.ofString "range",.ofString "min",.ofString "gone",.ofString "conflict",.ofString "visit",.ofString "watching",.ofString "kept",.ofString "moved",.ofString "k",.ofString "late",.ofString "clause_of",.ofString "propagate_clauses",.ofString "ACTIVITY_TOP",.ofString "some",.ofString "is_reason",.ofString "worth_of",.ofString "unwatch",.ofString "pot",.ofString "at",.ofString "size",.ofString "_law_ladle",.ofString "begun",.ofString "known",.ofString "is_new",.ofString "is_broken",.ofString "left",.ofString "core",.ofString "uses",.ofString "sum",.ofString "enumerate",.ofString "turn",.ofString "worths",.ofString "_law_worths",.ofString "before",.ofString "held",.ofString "row",.ofString "state",.ofString "room",.ofString "_law_state",.ofString "used",.ofString "forget",.ofString "learnt_clauses",.ofString "is_sound",.ofString "new_level",.ofString "propagate",.ofString "script",.ofString "int",.ofString "cell",.ofString "_law_plain",.ofString "SatCore",.ofString "new_var",.ofString "_law_clause",.ofString "store",.ofString "lap",.ofString "_law_decided",.ofString "note_use",.ofString "_law_is_forgotten",.ofString "_law_closed",.ofString "FIRST_STEP",.ofString "LEARNT_ROOM",.ofString "__class__",.ofString "super",.ofString "__init__",.ofString "right",.ofString "below",.ofString "better_child",.ofString "best",.ofString "last",.ofString "sink",.ofString "RESTART_UNIT",.ofString "luby",.ofString "keg",.ofString "_law_stein",.ofString "ahead",.ofString "_law_core",.ofString "since",.ofString "_law_row",.ofString "amount",.ofString "_law_amounts",.ofString "is_anew",.ofString "pause"]
noncomputable def gvT:List (Nat × Value):=[(140,.int (1024) 196),(64,.ref 144),(61,.int (0) 357),(78,.int (1) 359),(63,.int (-1) 362),(62,.int (-1) 365),(70,.ref 155),(59,.ref 162),(92,.ref 169),(151,.int (32) 619),(141,.int (60) 621),(152,.ref 515),(131,.ref 611),(160,.ref 614),(154,.ref 621),(133,.ref 626),(156,.ref 633),(158,.ref 640),(136,.ref 647),(120,.ref 654)]
noncomputable def bvT:List (Nat × Value):=[(55,.builtin "abs"),(111,.type "enumerate"),(128,.type "int"),(41,.builtin "len"),(69,.type "list"),(83,.builtin "min"),(82,.type "range"),(58,.builtin "sorted"),(110,.builtin "sum"),(60,.type "tuple")]
noncomputable def fnT:List (Nat × Addr):=[(70,155),(59,162),(92,169),(152,515),(154,621),(133,626),(156,633),(158,640),(136,647),(120,654)]
noncomputable def clT:List (Nat × Addr × Addr):=[(64,144,36),(131,611,531)]
noncomputable def atS:List Nat:=[20,3,4,5,6,7,18,17,8,9,21,22,19,10,11,12,23,24,13,14,25,26,27,28,29,30,31,32,33,34,35,36,37]
noncomputable def atH:List Nat:=[38,39,15,17,16]
noncomputable def mtT:List (Addr × Nat × Addr):=[(611,65,197),(611,71,211),(611,72,218),(611,134,239),(611,76,246),(611,98,251),(611,73,258),(611,75,265),(611,16,279),(611,77,286),(611,125,293),(611,74,300),(611,93,307),(611,86,314),(611,89,321),(611,124,326),(611,132,356),(611,126,538),(611,162,601),(611,96,573),(611,97,580),(611,122,587),(144,46,43),(144,52,50),(144,50,57),(144,65,64),(144,51,71),(144,53,78),(144,147,85),(144,150,92),(144,47,99),(144,2,106)]
noncomputable def cSat:Addr:=611
noncomputable def cHeap:Addr:=144
noncomputable def a_CoreHeap_many:MSs:=
 (.cons (.ret (.bin .Sub (.bcall 41 .len (.cons (.attr (.var 40) 15) .nil)) (.cst (.int 1))))
  .nil)
noncomputable def a_CoreHeap_is_held:MSs:=
 (.cons (.ret (.cmp .GtE (.sub (.attr (.var 40) 16) (.var 42)) (.cst (.int 0))))
  .nil)
noncomputable def a_CoreHeap_is_before:MSs:=
 (.cons (.ifS (.cmp .NotEq (.sub (.attr (.var 40) 15) (.var 43)) (.sub (.attr (.var 40) 15) (.var 44))) (.cons (.ret (.cmp .Gt (.sub (.attr (.var 40) 15) (.var 43)) (.sub (.attr (.var 40) 15) (.var 44))))
  .nil) .nil)
  (.cons (.ret (.cmp .Lt (.var 43) (.var 44)))
  .nil))
noncomputable def a_CoreHeap_grow:MSs:=
 (.cons (.whileS (.cmp .Lt (.mcall (.var 40) 46 .nil) (.var 45)) (.cons (.expr (.mcall (.attr (.var 40) 15) 0 (.cons (.cst (.int 0)) .nil)))
  (.cons (.expr (.mcall (.attr (.var 40) 16) 0 (.cons (.neg (.cst (.int 1))) .nil)))
  (.cons (.expr (.mcall (.var 40) 47 (.cons (.mcall (.var 40) 46 .nil) .nil)))
  .nil))))
  .nil)
noncomputable def a_CoreHeap_put:MSs:=
 (.cons (.asg (.sub (.attr (.var 40) 17) (.var 48)) (.var 42))
  (.cons (.asg (.sub (.attr (.var 40) 16) (.var 42)) (.var 48))
  .nil))
noncomputable def a_CoreHeap_rise:MSs:=
 (.cons (.asg (.name 42) (.sub (.attr (.var 40) 17) (.var 48)))
  (.cons (.whileS (.cmp .Gt (.var 48) (.cst (.int 0))) (.cons (.asg (.name 49) (.bin .FloorDiv (.bin .Sub (.var 48) (.cst (.int 1))) (.cst (.int 2))))
  (.cons (.ifS (.not (.mcall (.var 40) 50 (.cons (.var 42) (.cons (.sub (.attr (.var 40) 17) (.var 49)) .nil)))) (.cons .brk
  .nil) .nil)
  (.cons (.expr (.mcall (.var 40) 51 (.cons (.var 48) (.cons (.sub (.attr (.var 40) 17) (.var 49)) .nil))))
  (.cons (.asg (.name 48) (.var 49))
  .nil)))))
  (.cons (.expr (.mcall (.var 40) 51 (.cons (.var 48) (.cons (.var 42) .nil))))
  .nil)))
noncomputable def a_CoreHeap_better_child:MSs:=
 (.cons (.asg (.name 107) (.bin .Add (.bin .Mult (.cst (.int 2)) (.var 48)) (.cst (.int 1))))
  (.cons (.ifS (.cmp .GtE (.var 107) (.bcall 41 .len (.cons (.attr (.var 40) 17) .nil))) (.cons (.ret (.neg (.cst (.int 1))))
  .nil) .nil)
  (.cons (.asg (.name 145) (.bin .Add (.var 107) (.cst (.int 1))))
  (.cons (.ifS (.bop true (.cmp .Lt (.var 145) (.bcall 41 .len (.cons (.attr (.var 40) 17) .nil))) (.mcall (.var 40) 50 (.cons (.sub (.attr (.var 40) 17) (.var 145)) (.cons (.sub (.attr (.var 40) 17) (.var 107)) .nil)))) (.cons (.ret (.var 145))
  .nil) .nil)
  (.cons (.ret (.var 107))
  .nil)))))
noncomputable def a_CoreHeap_sink:MSs:=
 (.cons (.asg (.name 42) (.sub (.attr (.var 40) 17) (.var 48)))
  (.cons (.asg (.name 146) (.mcall (.var 40) 147 (.cons (.var 48) .nil)))
  (.cons (.whileS (.bop true (.cmp .GtE (.var 146) (.cst (.int 0))) (.mcall (.var 40) 50 (.cons (.sub (.attr (.var 40) 17) (.var 146)) (.cons (.var 42) .nil)))) (.cons (.expr (.mcall (.var 40) 51 (.cons (.var 48) (.cons (.sub (.attr (.var 40) 17) (.var 146)) .nil))))
  (.cons (.asg (.name 48) (.var 146))
  (.cons (.asg (.name 146) (.mcall (.var 40) 147 (.cons (.var 48) .nil)))
  .nil))))
  (.cons (.expr (.mcall (.var 40) 51 (.cons (.var 48) (.cons (.var 42) .nil))))
  .nil))))
noncomputable def a_CoreHeap_push:MSs:=
 (.cons (.ifS (.mcall (.var 40) 52 (.cons (.var 42) .nil)) (.cons .retN
  .nil) .nil)
  (.cons (.expr (.mcall (.attr (.var 40) 17) 0 (.cons (.var 42) .nil)))
  (.cons (.asg (.sub (.attr (.var 40) 16) (.var 42)) (.bin .Sub (.bcall 41 .len (.cons (.attr (.var 40) 17) .nil)) (.cst (.int 1))))
  (.cons (.expr (.mcall (.var 40) 53 (.cons (.bin .Sub (.bcall 41 .len (.cons (.attr (.var 40) 17) .nil)) (.cst (.int 1))) .nil)))
  .nil))))
noncomputable def a_CoreHeap_pop:MSs:=
 (.cons (.ifS (.cmp .Eq (.bcall 41 .len (.cons (.attr (.var 40) 17) .nil)) (.cst (.int 0))) (.cons (.ret (.cst (.int 0)))
  .nil) .nil)
  (.cons (.asg (.name 148) (.sub (.attr (.var 40) 17) (.cst (.int 0))))
  (.cons (.asg (.name 149) (.mcall (.attr (.var 40) 17) 2 .nil))
  (.cons (.asg (.sub (.attr (.var 40) 16) (.var 148)) (.neg (.cst (.int 1))))
  (.cons (.ifS (.cmp .Gt (.bcall 41 .len (.cons (.attr (.var 40) 17) .nil)) (.cst (.int 0))) (.cons (.expr (.mcall (.var 40) 51 (.cons (.cst (.int 0)) (.cons (.var 149) .nil))))
  (.cons (.expr (.mcall (.var 40) 150 (.cons (.cst (.int 0)) .nil)))
  .nil)) .nil)
  (.cons (.ret (.var 148))
  .nil))))))
noncomputable def a_place_of:MSs:=
 (.cons (.ret (.ite (.cmp .Gt (.var 54) (.cst (.int 0))) (.bin .Mult (.cst (.int 2)) (.var 54)) (.bin .Sub (.cst (.int 1)) (.bin .Mult (.cst (.int 2)) (.var 54)))))
  .nil)
noncomputable def a_order_key:MSs:=
 (.cons (.ret (.tup (.cons (.bcall 55 .abs (.cons (.var 54) .nil)) (.cons (.var 54) .nil))))
  .nil)
noncomputable def a_Trail___init__:MSs:=
 (.cons (.asg (.attr (.var 40) 20) (.var 20))
  (.cons (.asg (.attr (.var 40) 3) (.list (.cons (.glob 61 (.int 0)) .nil)))
  (.cons (.asg (.attr (.var 40) 4) (.list (.cons (.cst (.int 0)) .nil)))
  (.cons (.asg (.attr (.var 40) 5) (.list (.cons (.glob 62 (.int (-1))) .nil)))
  (.cons (.asg (.attr (.var 40) 6) (.list (.cons (.cst (.int 0)) .nil)))
  (.cons (.asg (.attr (.var 40) 7) (.list (.cons (.glob 63 (.int (-1))) .nil)))
  (.cons (.asg (.attr (.var 40) 18) (.list (.cons (.list .nil) (.cons (.list .nil) .nil))))
  (.cons (.asg (.attr (.var 40) 17) (.new 64 144 36 .nil))
  (.cons (.asg (.attr (.var 40) 8) (.list .nil))
  (.cons (.asg (.attr (.var 40) 9) (.list .nil))
  (.cons (.asg (.attr (.var 40) 21) (.cst (.int 0)))
  (.cons (.asg (.attr (.var 40) 22) (.cst (.int 0)))
  (.cons (.asg (.attr (.var 40) 19) (.list .nil))
  (.cons (.asg (.attr (.var 40) 10) (.list .nil))
  (.cons (.asg (.attr (.var 40) 11) (.list .nil))
  (.cons (.asg (.attr (.var 40) 12) (.list .nil))
  (.cons (.asg (.attr (.var 40) 23) (.cst (.int 0)))
  .nil)))))))))))))))))
noncomputable def a_Trail_grow:MSs:=
 (.cons (.asg (.name 42) (.bcall 41 .len (.cons (.attr (.var 40) 3) .nil)))
  (.cons (.expr (.mcall (.attr (.var 40) 3) 0 (.cons (.glob 61 (.int 0)) .nil)))
  (.cons (.expr (.mcall (.attr (.var 40) 4) 0 (.cons (.cst (.int 0)) .nil)))
  (.cons (.expr (.mcall (.attr (.var 40) 5) 0 (.cons (.glob 62 (.int (-1))) .nil)))
  (.cons (.expr (.mcall (.attr (.var 40) 6) 0 (.cons (.cst (.int 0)) .nil)))
  (.cons (.expr (.mcall (.attr (.var 40) 7) 0 (.cons (.glob 63 (.int (-1))) .nil)))
  (.cons (.expr (.mcall (.attr (.var 40) 18) 0 (.cons (.list .nil) .nil)))
  (.cons (.expr (.mcall (.attr (.var 40) 18) 0 (.cons (.list .nil) .nil)))
  (.cons (.expr (.mcall (.attr (.var 40) 17) 65 (.cons (.var 42) .nil)))
  (.cons (.ret (.var 42))
  .nil))))))))))
noncomputable def a_Trail_value:MSs:=
 (.cons (.ret (.ite (.cmp .Gt (.var 54) (.cst (.int 0))) (.sub (.attr (.var 40) 3) (.var 54)) (.neg (.sub (.attr (.var 40) 3) (.neg (.var 54))))))
  .nil)
noncomputable def a_Trail_depth:MSs:=
 (.cons (.ret (.bcall 41 .len (.cons (.attr (.var 40) 9) .nil)))
  .nil)
noncomputable def a_Trail_store:MSs:=
 (.cons (.asg (.name 68) (.bcall 41 .len (.cons (.attr (.var 40) 19) .nil)))
  (.cons (.expr (.mcall (.attr (.var 40) 19) 0 (.cons (.bcall 69 .list (.cons (.var 66) .nil)) .nil)))
  (.cons (.expr (.mcall (.attr (.var 40) 10) 0 (.cons (.var 39) .nil)))
  (.cons (.expr (.mcall (.attr (.var 40) 11) 0 (.cons (.var 67) .nil)))
  (.cons (.expr (.mcall (.attr (.var 40) 12) 0 (.cons (.cst (.int 0)) .nil)))
  (.cons (.ifS (.var 67) (.cons (.asg (.attr (.var 40) 23) (.bin .Add (.attr (.var 40) 23) (.cst (.int 1))))
  .nil) .nil)
  (.cons (.ret (.var 68))
  .nil)))))))
noncomputable def a_Trail_watch:MSs:=
 (.cons (.asg (.name 56) (.sub (.attr (.var 40) 19) (.var 68)))
  (.cons (.expr (.mcall (.sub (.attr (.var 40) 18) (.call 70 155 (.cons (.sub (.var 56) (.cst (.int 0))) .nil))) 0 (.cons (.var 68) .nil)))
  (.cons (.expr (.mcall (.sub (.attr (.var 40) 18) (.call 70 155 (.cons (.sub (.var 56) (.cst (.int 1))) .nil))) 0 (.cons (.var 68) .nil)))
  .nil)))
noncomputable def a_Trail_unwatch:MSs:=
 (.cons (.forS 54 (.seq (.sliceTo (.sub (.attr (.var 40) 19) (.var 68)) (.cst (.int 2)))) (.cons (.asg (.name 16) (.call 70 155 (.cons (.var 54) .nil)))
  (.cons (.asg (.sub (.attr (.var 40) 18) (.var 16)) (.comp (.var 43) [43] (.seq (.sub (.attr (.var 40) 18) (.var 16))) (.cons (.cmp .NotEq (.var 43) (.var 68)) .nil)))
  .nil)))
  .nil)
noncomputable def a_Trail_height:MSs:=
 (.cons (.ifS (.cmp .NotEq (.mcall (.var 40) 71 (.cons (.var 54) .nil)) (.glob 63 (.int (-1)))) (.cons (.ret (.bin .Add (.mcall (.var 40) 72 .nil) (.cst (.int 1))))
  .nil) .nil)
  (.cons (.ret (.sub (.attr (.var 40) 4) (.bcall 55 .abs (.cons (.var 54) .nil))))
  .nil))
noncomputable def a_Trail_by_heights:MSs:=
 (.cons (.asg (.name 57) (.sortedK 58 (.var 56) (.glob 59 (.ref 162))))
  (.cons (.expr (.lsortK (.var 57) (.bnd (.var 40) 73) true))
  (.cons (.ret (.var 57))
  .nil)))
noncomputable def a_Trail_place:MSs:=
 (.cons (.ifS (.cmp .Lt (.bcall 41 .len (.cons (.sub (.attr (.var 40) 19) (.var 68)) .nil)) (.cst (.int 2))) (.cons (.expr (.mcall (.var 40) 74 (.cons (.cst (.int 0)) .nil)))
  .nil) .nil)
  (.cons (.asg (.name 56) (.mcall (.var 40) 75 (.cons (.sub (.attr (.var 40) 19) (.var 68)) .nil)))
  (.cons (.asg (.sub (.attr (.var 40) 19) (.var 68)) (.var 56))
  (.cons (.ifS (.cmp .Gt (.bcall 41 .len (.cons (.var 56) .nil)) (.cst (.int 1))) (.cons (.expr (.mcall (.var 40) 76 (.cons (.var 68) .nil)))
  .nil) .nil)
  (.cons (.ifS (.bop false (.cmp .Eq (.bcall 41 .len (.cons (.var 56) .nil)) (.cst (.int 0))) (.cmp .Eq (.mcall (.var 40) 71 (.cons (.sub (.var 56) (.cst (.int 0))) .nil)) (.glob 63 (.int (-1))))) (.cons (.ret (.var 68))
  .nil) .nil)
  (.cons (.ifS (.cmp .Eq (.mcall (.var 40) 71 (.cons (.sub (.var 56) (.cst (.int 0))) .nil)) (.glob 61 (.int 0))) (.cons (.ifS (.cmp .Eq (.bcall 41 .len (.cons (.var 56) .nil)) (.cst (.int 1))) (.cons (.expr (.mcall (.var 40) 77 (.cons (.sub (.var 56) (.cst (.int 0))) (.cons (.var 68) .nil))))
  .nil) (.cons (.ifS (.cmp .Eq (.mcall (.var 40) 71 (.cons (.sub (.var 56) (.cst (.int 1))) .nil)) (.glob 63 (.int (-1)))) (.cons (.expr (.mcall (.var 40) 74 (.cons (.sub (.attr (.var 40) 4) (.bcall 55 .abs (.cons (.sub (.var 56) (.cst (.int 1))) .nil))) .nil)))
  (.cons (.expr (.mcall (.var 40) 77 (.cons (.sub (.var 56) (.cst (.int 0))) (.cons (.var 68) .nil))))
  .nil)) .nil)
  .nil))
  .nil) .nil)
  (.cons (.ret (.glob 62 (.int (-1))))
  .nil)))))))
noncomputable def a_Trail_enqueue:MSs:=
 (.cons (.asg (.name 42) (.bcall 55 .abs (.cons (.var 54) .nil)))
  (.cons (.asg (.sub (.attr (.var 40) 3) (.var 42)) (.ite (.cmp .Gt (.var 54) (.cst (.int 0))) (.glob 78 (.int 1)) (.glob 63 (.int (-1)))))
  (.cons (.asg (.sub (.attr (.var 40) 4) (.var 42)) (.mcall (.var 40) 72 .nil))
  (.cons (.asg (.sub (.attr (.var 40) 5) (.var 42)) (.var 68))
  (.cons (.asg (.sub (.attr (.var 40) 6) (.var 42)) (.bcall 41 .len (.cons (.attr (.var 40) 8) .nil)))
  (.cons (.expr (.mcall (.attr (.var 40) 8) 0 (.cons (.var 54) .nil)))
  .nil))))))
noncomputable def a_Trail_new_level:MSs:=
 (.cons (.expr (.mcall (.attr (.var 40) 9) 0 (.cons (.bcall 41 .len (.cons (.attr (.var 40) 8) .nil)) .nil)))
  (.cons (.ifS (.cmp .IsNot (.attr (.var 40) 20) (.cst .none)) (.cons .dead .nil) .nil)
  .nil))
noncomputable def a_Trail_cancel_until:MSs:=
 (.cons (.asg (.name 80) (.bin .Sub (.mcall (.var 40) 72 .nil) (.var 79)))
  (.cons (.ifS (.cmp .LtE (.var 80) (.cst (.int 0))) (.cons .retN
  .nil) .nil)
  (.cons (.asg (.name 81) (.sub (.attr (.var 40) 9) (.var 79)))
  (.cons (.forS 48 (.rng (.bin .Sub (.bcall 41 .len (.cons (.attr (.var 40) 8) .nil)) (.cst (.int 1))) (.bin .Sub (.var 81) (.cst (.int 1))) false 3) (.cons (.asg (.name 42) (.bcall 55 .abs (.cons (.sub (.attr (.var 40) 8) (.var 48)) .nil)))
  (.cons (.asg (.sub (.attr (.var 40) 7) (.var 42)) (.sub (.attr (.var 40) 3) (.var 42)))
  (.cons (.asg (.sub (.attr (.var 40) 3) (.var 42)) (.glob 61 (.int 0)))
  (.cons (.asg (.sub (.attr (.var 40) 5) (.var 42)) (.glob 62 (.int (-1))))
  (.cons (.expr (.mcall (.attr (.var 40) 17) 47 (.cons (.var 42) .nil)))
  .nil))))))
  (.cons (.asg (.attr (.var 40) 8) (.sliceTo (.attr (.var 40) 8) (.var 81)))
  (.cons (.asg (.attr (.var 40) 9) (.sliceTo (.attr (.var 40) 9) (.var 79)))
  (.cons (.asg (.attr (.var 40) 21) (.bcall 83 .min (.cons (.attr (.var 40) 21) (.cons (.var 81) .nil))))
  (.cons (.asg (.attr (.var 40) 22) (.bcall 83 .min (.cons (.attr (.var 40) 22) (.cons (.var 81) .nil))))
  (.cons (.ifS (.cmp .IsNot (.attr (.var 40) 20) (.cst .none)) (.cons .dead .nil) .nil)
  .nil)))))))))
noncomputable def a_Trail_propagate_clauses:MSs:=
 (.cons (.whileS (.cmp .Lt (.attr (.var 40) 21) (.bcall 41 .len (.cons (.attr (.var 40) 8) .nil))) (.cons (.asg (.name 84) (.neg (.sub (.attr (.var 40) 8) (.attr (.var 40) 21))))
  (.cons (.asg (.attr (.var 40) 21) (.bin .Add (.attr (.var 40) 21) (.cst (.int 1))))
  (.cons (.asg (.name 85) (.mcall (.var 40) 86 (.cons (.var 84) .nil)))
  (.cons (.ifS (.cmp .NotEq (.var 85) (.glob 62 (.int (-1)))) (.cons (.asg (.attr (.var 40) 21) (.bcall 41 .len (.cons (.attr (.var 40) 8) .nil)))
  (.cons (.ret (.var 85))
  .nil)) .nil)
  .nil)))))
  (.cons (.ret (.glob 62 (.int (-1))))
  .nil))
noncomputable def a_Trail_visit:MSs:=
 (.cons (.asgT [(.name 87),(.name 88),(.name 85)] (.tup (.cons (.sub (.attr (.var 40) 18) (.call 70 155 (.cons (.var 84) .nil))) (.cons (.list .nil) (.cons (.glob 62 (.int (-1))) .nil)))))
  (.cons (.forS 48 (.rng (.cst (.int 0)) (.bcall 41 .len (.cons (.var 87) .nil)) true 1) (.cons (.asg (.name 68) (.sub (.var 87) (.var 48)))
  (.cons (.asg (.name 56) (.sub (.attr (.var 40) 19) (.var 68)))
  (.cons (.ifS (.cmp .Is (.var 56) (.cst .none)) (.cons .cont
  .nil) .nil)
  (.cons (.ifS (.cmp .Eq (.sub (.var 56) (.cst (.int 0))) (.var 84)) (.cons (.asgT [(.sub (.var 56) (.cst (.int 0))),(.sub (.var 56) (.cst (.int 1)))] (.tup (.cons (.sub (.var 56) (.cst (.int 1))) (.cons (.var 84) .nil))))
  .nil) .nil)
  (.cons (.ifS (.bop true (.cmp .NotEq (.mcall (.var 40) 71 (.cons (.sub (.var 56) (.cst (.int 0))) .nil)) (.glob 78 (.int 1))) (.mcall (.var 40) 89 (.cons (.var 68) (.cons (.var 56) .nil)))) (.cons .cont
  .nil) .nil)
  (.cons (.expr (.mcall (.var 88) 0 (.cons (.var 68) .nil)))
  (.cons (.ifS (.cmp .Eq (.mcall (.var 40) 71 (.cons (.sub (.var 56) (.cst (.int 0))) .nil)) (.glob 63 (.int (-1)))) (.cons (.asg (.name 85) (.var 68))
  (.cons (.expr (.mcall (.var 88) 1 (.cons (.sliceFrom (.var 87) (.bin .Add (.var 48) (.cst (.int 1)))) .nil)))
  (.cons .brk
  .nil))) .nil)
  (.cons (.ifS (.cmp .Eq (.mcall (.var 40) 71 (.cons (.sub (.var 56) (.cst (.int 0))) .nil)) (.glob 61 (.int 0))) (.cons (.expr (.mcall (.var 40) 77 (.cons (.sub (.var 56) (.cst (.int 0))) (.cons (.var 68) .nil))))
  .nil) .nil)
  .nil)))))))))
  (.cons (.asg (.sub (.attr (.var 40) 18) (.call 70 155 (.cons (.var 84) .nil))) (.var 88))
  (.cons (.ret (.var 85))
  .nil))))
noncomputable def a_Trail_moved:MSs:=
 (.cons (.forS 90 (.rng (.cst (.int 2)) (.bcall 41 .len (.cons (.var 56) .nil)) true 2) (.cons (.ifS (.cmp .NotEq (.mcall (.var 40) 71 (.cons (.sub (.var 56) (.var 90)) .nil)) (.glob 63 (.int (-1)))) (.cons (.asgT [(.sub (.var 56) (.cst (.int 1))),(.sub (.var 56) (.var 90))] (.tup (.cons (.sub (.var 56) (.var 90)) (.cons (.sub (.var 56) (.cst (.int 1))) .nil))))
  (.cons (.expr (.mcall (.sub (.attr (.var 40) 18) (.call 70 155 (.cons (.sub (.var 56) (.cst (.int 1))) .nil))) 0 (.cons (.var 68) .nil)))
  (.cons (.ret (.cst (.bool true)))
  .nil))) .nil)
  .nil))
  (.cons (.ret (.cst (.bool false)))
  .nil))
noncomputable def a_Trail_is_sound:MSs:=
 (.cons (.forS 68 (.rng (.cst (.int 0)) (.bcall 41 .len (.cons (.attr (.var 40) 19) .nil)) true 1) (.cons (.asg (.name 56) (.sub (.attr (.var 40) 19) (.var 68)))
  (.cons (.ifS (.bop true (.cmp .IsNot (.var 56) (.cst .none)) (.cmp .Gt (.bcall 41 .len (.cons (.var 56) .nil)) (.cst (.int 1)))) (.cons (.forS 90 (.rng (.cst (.int 0)) (.bcall 41 .len (.cons (.var 56) .nil)) true 1) (.cons (.asg (.name 46) (.bcall 41 .len (.cons (.comp (.var 43) [43] (.seq (.sub (.attr (.var 40) 18) (.call 70 155 (.cons (.sub (.var 56) (.var 90)) .nil)))) (.cons (.cmp .Eq (.var 43) (.var 68)) .nil)) .nil)))
  (.cons (.ifS (.cmp .NotEq (.var 46) (.ite (.cmp .Lt (.var 90) (.cst (.int 2))) (.cst (.int 1)) (.cst (.int 0)))) (.cons (.ret (.cst (.bool false)))
  .nil) .nil)
  .nil)))
  .nil) .nil)
  .nil)))
  (.cons (.forS 48 (.rng (.cst (.int 0)) (.bcall 41 .len (.cons (.attr (.var 40) 8) .nil)) true 1) (.cons (.asg (.name 54) (.sub (.attr (.var 40) 8) (.var 48)))
  (.cons (.ifS (.bop false (.cmp .NotEq (.mcall (.var 40) 71 (.cons (.var 54) .nil)) (.glob 78 (.int 1))) (.cmp .NotEq (.sub (.attr (.var 40) 6) (.bcall 55 .abs (.cons (.var 54) .nil))) (.var 48))) (.cons (.ret (.cst (.bool false)))
  .nil) .nil)
  (.cons (.asg (.name 68) (.sub (.attr (.var 40) 5) (.bcall 55 .abs (.cons (.var 54) .nil))))
  (.cons (.ifS (.cmp .NotEq (.var 68) (.glob 62 (.int (-1)))) (.cons (.forS 91 (.seq (.sub (.attr (.var 40) 19) (.var 68))) (.cons (.ifS (.bop true (.cmp .NotEq (.var 91) (.var 54)) (.bop false (.cmp .NotEq (.mcall (.var 40) 71 (.cons (.var 91) .nil)) (.glob 63 (.int (-1)))) (.cmp .Gt (.sub (.attr (.var 40) 6) (.bcall 55 .abs (.cons (.var 91) .nil))) (.var 48)))) (.cons (.ret (.cst (.bool false)))
  .nil) .nil)
  .nil))
  .nil) .nil)
  .nil)))))
  (.cons (.ret (.cmp .Eq (.bcall 41 .len (.cons (.comp (.var 43) [43] (.seq (.attr (.var 40) 3)) (.cons (.cmp .NotEq (.var 43) (.glob 61 (.int 0))) .nil)) .nil)) (.bcall 41 .len (.cons (.attr (.var 40) 8) .nil))))
  .nil)))
noncomputable def a_Search_new_var:MSs:=
 (.cons (.expr (.mcall (.attr (.var 40) 13) 0 (.cons (.cst (.bool false)) .nil)))
  (.cons (.expr (.mcall (.attr (.var 40) 14) 0 (.cons (.cst .none) .nil)))
  (.cons (.ret (.mcall (.var 40) 65 .nil))
  .nil)))
noncomputable def a_luby:MSs:=
 (.cons (.asgT [(.name 16),(.name 101)] (.tup (.cons (.bin .Add (.var 90) (.cst (.int 1))) (.cons (.cst (.int 1)) .nil))))
  (.cons (.whileS (.cmp .Lt (.var 101) (.var 16)) (.cons (.asg (.name 101) (.bin .Add (.bin .Mult (.cst (.int 2)) (.var 101)) (.cst (.int 1))))
  .nil))
  (.cons (.whileS (.cmp .NotEq (.var 16) (.var 101)) (.cons (.asg (.name 101) (.bin .FloorDiv (.var 101) (.cst (.int 2))))
  (.cons (.ifS (.cmp .Gt (.var 16) (.var 101)) (.cons (.asg (.name 16) (.bin .Sub (.var 16) (.var 101)))
  .nil) .nil)
  .nil)))
  (.cons (.ret (.bin .FloorDiv (.bin .Add (.var 101) (.cst (.int 1))) (.cst (.int 2))))
  .nil))))
noncomputable def a_SatCore_propagate:MSs:=
 (.cons (.whileS (.cst (.bool true)) (.cons (.asg (.name 85) (.mcall (.var 40) 93 .nil))
  (.cons (.ifS (.bop false (.cmp .NotEq (.var 85) (.glob 62 (.int (-1)))) (.cmp .Is (.attr (.var 40) 20) (.cst .none))) (.cons (.ret (.var 85))
  .nil) .nil)
  (.cons .dead
  (.cons .dead
  (.cons .dead
  (.cons .dead
  .nil))))))) .nil)
noncomputable def a_SatCore_is_reason:MSs:=
 (.cons (.asg (.name 54) (.sub (.sub (.attr (.var 40) 19) (.var 68)) (.cst (.int 0))))
  (.cons (.ret (.bop true (.cmp .Eq (.mcall (.var 40) 71 (.cons (.var 54) .nil)) (.glob 78 (.int 1))) (.cmp .Eq (.sub (.attr (.var 40) 5) (.bcall 55 .abs (.cons (.var 54) .nil))) (.var 68))))
  .nil))
noncomputable def a_SatCore_worth_of:MSs:=
 (.cons (.ret (.tup (.cons (.sub (.attr (.var 40) 12) (.var 68)) (.cons (.var 68) .nil))))
  .nil)
noncomputable def a_SatCore_forget:MSs:=
 (.cons (.asg (.name 95) (.list .nil))
  (.cons (.forS 68 (.rng (.cst (.int 0)) (.bcall 41 .len (.cons (.attr (.var 40) 19) .nil)) true 1) (.cons (.asg (.name 56) (.sub (.attr (.var 40) 19) (.var 68)))
  (.cons (.ifS (.bop true (.sub (.attr (.var 40) 11) (.var 68)) (.bop true (.cmp .IsNot (.var 56) (.cst .none)) (.bop true (.cmp .Gt (.bcall 41 .len (.cons (.var 56) .nil)) (.cst (.int 2))) (.not (.mcall (.var 40) 96 (.cons (.var 68) .nil)))))) (.cons (.expr (.mcall (.var 95) 0 (.cons (.var 68) .nil)))
  .nil) .nil)
  .nil)))
  (.cons (.expr (.lsortK (.var 95) (.bnd (.var 40) 97) false))
  (.cons (.forS 68 (.seq (.sliceTo (.var 95) (.bin .FloorDiv (.bcall 41 .len (.cons (.var 95) .nil)) (.cst (.int 2))))) (.cons (.expr (.mcall (.var 40) 98 (.cons (.var 68) .nil)))
  (.cons (.asg (.sub (.attr (.var 40) 19) (.var 68)) (.cst .none))
  (.cons (.asg (.attr (.var 40) 23) (.bin .Sub (.attr (.var 40) 23) (.cst (.int 1))))
  .nil))))
  (.cons (.asg (.attr (.var 40) 33) (.bin .Add (.bin .Add (.attr (.var 40) 33) (.bin .FloorDiv (.attr (.var 40) 33) (.cst (.int 8)))) (.cst (.int 1))))
  .nil)))))
noncomputable def a_SatCore_pause:MSs:=
 (.cons (.ifS (.cmp .GtE (.bin .Sub (.attr (.var 40) 31) (.attr (.var 40) 36)) (.bin .Mult (.glob 151 (.int 32)) (.call 152 515 (.cons (.attr (.var 40) 35) .nil)))) (.cons (.asgT [(.attr (.var 40) 35),(.attr (.var 40) 36),(.attr (.var 40) 37)] (.tup (.cons (.bin .Add (.attr (.var 40) 35) (.cst (.int 1))) (.cons (.attr (.var 40) 31) (.cons (.bin .Add (.attr (.var 40) 37) (.cst (.int 1))) .nil)))))
  (.cons (.expr (.mcall (.var 40) 74 (.cons (.cst (.int 0)) .nil)))
  (.cons (.ret (.cst (.bool true)))
  .nil))) .nil)
  (.cons (.ifS (.cmp .GtE (.attr (.var 40) 23) (.attr (.var 40) 33)) (.cons (.expr (.mcall (.var 40) 122 .nil))
  .nil) .nil)
  (.cons (.ret (.cst (.bool false)))
  .nil)))
noncomputable def a__law_stein:MSs:=
 (.cons (.asg (.name 100) (.subk (.var 153) true))
  (.cons (.asg (.subk (.var 153)) (.bin .Add (.var 100) (.cst (.int 1))))
  (.cons (.ret (.bin .Mod (.bin .Mod (.ite (.cmp .Lt (.var 100) (.bcall 41 .len (.cons (.subk (.var 153) false) .nil))) (.sub (.subk (.var 153) false) (.var 100)) (.bin .Add (.bin .Add (.bin .Mult (.bin .Mult (.cst (.int 8)) (.var 100)) (.var 100)) (.bin .Mult (.cst (.int 3)) (.var 100))) (.cst (.int 7)))) (.cst (.int 101))) (.var 46)))
  .nil)))
noncomputable def a__law_clause:MSs:=
 (.cons (.asgT [(.name 81),(.name 101)] (.tup (.cons (.call 154 621 (.cons (.var 153) (.cons (.var 45) .nil))) (.cons (.bin .Add (.cst (.int 3)) (.call 154 621 (.cons (.var 153) (.cons (.cst (.int 2)) .nil)))) .nil))))
  (.cons (.ret (.comp (.bin .Mult (.bin .Add (.cst (.int 1)) (.bin .Mod (.bin .Add (.var 81) (.var 90)) (.var 45))) (.bin .Sub (.cst (.int 1)) (.bin .Mult (.cst (.int 2)) (.call 154 621 (.cons (.var 153) (.cons (.cst (.int 2)) .nil)))))) [90] (.rng (.cst (.int 0)) (.var 101) true 1) .nil))
  .nil))
noncomputable def a__law_core:MSs:=
 (.cons (.asg (.name 108) (.new 131 611 531 (.cons (.cst .none) (.cons (.cst .none) .nil))))
  (.cons (.forS 42 (.rng (.cst (.int 0)) (.var 45) true 1) (.cons (.expr (.mcall (.var 108) 132 .nil))
  .nil))
  (.cons (.forS 56 (.seq (.var 19)) (.cons (.expr (.mcall (.var 108) 16 (.cons (.mcall (.var 108) 134 (.cons (.var 56) (.cons (.cst .none) (.cons (.cst (.bool true)) .nil)))) .nil)))
  .nil))
  (.cons (.asg (.attr (.var 108) 33) (.var 119))
  (.cons (.ret (.var 108))
  .nil)))))
noncomputable def a__law_row:MSs:=
 (.cons (.asg (.name 117) (.list (.cons (.cst (.int 1)) .nil)))
  (.cons (.whileS (.cmp .Lt (.bcall 41 .len (.cons (.var 117) .nil)) (.var 46)) (.cons (.asg (.name 117) (.bin .Add (.bin .Add (.var 117) (.var 117)) (.list (.cons (.bin .Mult (.cst (.int 2)) (.sub (.var 117) (.neg (.cst (.int 1))))) .nil))))
  .nil))
  (.cons (.ret (.var 117))
  .nil)))
noncomputable def a__law_decided:MSs:=
 (.cons (.ifS (.cmp .Eq (.mcall (.var 108) 71 (.cons (.var 54) .nil)) (.cst (.int 0))) (.cons (.asg (.name 155) (.list (.cons (.mcall (.attr (.var 108) 17) 2 .nil) .nil)))
  (.cons (.whileS (.cmp .NotIn (.sub (.var 155) (.neg (.cst (.int 1)))) (.tup (.cons (.cst (.int 0)) (.cons (.bcall 55 .abs (.cons (.var 54) .nil)) .nil)))) (.cons (.expr (.mcall (.var 155) 0 (.cons (.mcall (.attr (.var 108) 17) 2 .nil) .nil)))
  .nil))
  (.cons (.forS 42 (.seq (.sliceTo (.var 155) (.neg (.cst (.int 1))))) (.cons (.ifS (.cmp .Eq (.mcall (.var 108) 71 (.cons (.var 42) .nil)) (.cst (.int 0))) (.cons (.expr (.mcall (.attr (.var 108) 17) 47 (.cons (.var 42) .nil)))
  .nil) .nil)
  .nil))
  (.cons (.expr (.mcall (.var 108) 125 .nil))
  (.cons (.expr (.mcall (.var 108) 77 (.cons (.var 54) (.cons (.neg (.cst (.int 1))) .nil))))
  (.cons (.ifS (.cmp .NotEq (.mcall (.var 108) 126 .nil) (.neg (.cst (.int 1)))) (.cons (.expr (.mcall (.var 108) 74 (.cons (.bin .Sub (.mcall (.var 108) 72 .nil) (.cst (.int 1))) .nil)))
  .nil) .nil)
  .nil)))))) .nil)
  .nil)
noncomputable def a__law_state:MSs:=
 (.cons (.ret (.tup (.cons (.attr (.var 108) 19) (.cons (.attr (.var 108) 18) (.cons (.attr (.var 108) 8) (.cons (.attr (.var 108) 3) (.cons (.attr (.var 108) 4) (.cons (.attr (.var 108) 9) (.cons (.attr (.var 108) 7) (.cons (.attr (.var 108) 5) (.cons (.attr (.attr (.var 108) 17) 17) (.cons (.attr (.var 108) 23) (.cons (.attr (.var 108) 33) .nil)))))))))))))
  .nil)
noncomputable def a_law:MSs:=
 (.cons (.asg (.name 153) (.dict2 (.comp (.bcall 128 .int (.cons (.var 129) .nil)) [129] (.seq (.sliceTo (.var 127) (.cst (.int 60)))) .nil) (.cst (.int 0))))
  (.cons (.asg (.name 45) (.bin .Add (.cst (.int 4)) (.call 154 621 (.cons (.var 153) (.cons (.cst (.int 3)) .nil)))))
  (.cons (.asg (.name 19) (.comp (.call 133 626 (.cons (.var 153) (.cons (.var 45) .nil))) [112] (.rng (.cst (.int 0)) (.bin .Add (.cst (.int 4)) (.call 154 621 (.cons (.var 153) (.cons (.cst (.int 4)) .nil)))) true 1) .nil))
  (.cons (.asg (.name 119) (.bin .Add (.cst (.int 1)) (.call 154 621 (.cons (.var 153) (.cons (.cst (.int 6)) .nil)))))
  (.cons (.asgT [(.name 108),(.name 44)] (.tup (.cons (.call 156 633 (.cons (.var 45) (.cons (.var 19) (.cons (.var 119) .nil)))) (.cons (.call 156 633 (.cons (.var 45) (.cons (.var 19) (.cons (.var 119) .nil)))) .nil))))
  (.cons (.asgT [(.name 117),(.name 157),(.name 35)] (.tup (.cons (.call 158 640 (.cons (.cst (.int 12)) .nil)) (.cons (.cst (.int 0)) (.cons (.cst (.int 0)) .nil)))))
  (.cons (.forS 135 (.rng (.cst (.int 0)) (.bin .Add (.cst (.int 4)) (.call 154 621 (.cons (.var 153) (.cons (.cst (.int 8)) .nil)))) true 1) (.cons (.asg (.name 159) (.sub (.glob 160 (.ref 614)) (.call 154 621 (.cons (.var 153) (.cons (.cst (.int 8)) .nil)))))
  (.cons (.asg (.name 54) (.bin .Mult (.bin .Add (.cst (.int 1)) (.call 154 621 (.cons (.var 153) (.cons (.var 45) .nil)))) (.bin .Sub (.cst (.int 1)) (.bin .Mult (.cst (.int 2)) (.call 154 621 (.cons (.var 153) (.cons (.cst (.int 2)) .nil)))))))
  (.cons (.asgT [(.name 157),(.attr (.var 108) 31)] (.tup (.cons (.bin .Add (.var 157) (.var 159)) (.cons (.bin .Add (.attr (.var 108) 31) (.var 159)) .nil))))
  (.cons (.ifS (.cmp .Gt (.call 154 621 (.cons (.var 153) (.cons (.cst (.int 3)) .nil))) (.cst (.int 0))) (.cons (.expr (.call 136 647 (.cons (.var 108) (.cons (.var 54) .nil))))
  (.cons (.expr (.call 136 647 (.cons (.var 44) (.cons (.var 54) .nil))))
  .nil)) .nil)
  (.cons (.asgT [(.name 22),(.name 161)] (.tup (.cons (.mcall (.var 108) 162 .nil) (.cons (.cmp .GtE (.var 157) (.bin .Mult (.cst (.int 32)) (.sub (.var 117) (.var 35)))) .nil))))
  (.cons (.ifS (.var 161) (.cons (.expr (.mcall (.var 44) 74 (.cons (.cst (.int 0)) .nil)))
  (.cons (.asgT [(.name 157),(.name 35)] (.tup (.cons (.cst (.int 0)) (.cons (.bin .Add (.var 35) (.cst (.int 1))) .nil))))
  .nil)) (.cons (.ifS (.cmp .GtE (.attr (.var 44) 23) (.attr (.var 44) 33)) (.cons (.expr (.mcall (.var 44) 122 .nil))
  .nil) .nil)
  .nil))
  (.cons (.ifS (.bop false (.cmp .NotEq (.var 22) (.var 161)) (.cmp .NotEq (.attr (.var 108) 37) (.var 35))) (.cons (.ret (.cst (.bool false)))
  .nil) .nil)
  (.cons (.ifS (.bop false (.cmp .NotEq (.call 120 654 (.cons (.var 108) .nil)) (.call 120 654 (.cons (.var 44) .nil))) (.not (.mcall (.var 108) 124 .nil))) (.cons (.ret (.cst (.bool false)))
  .nil) .nil)
  (.cons (.ifS (.cmp .NotEq (.comp (.var 42) [42] (.rng (.cst (.int 1)) (.bin .Add (.var 45) (.cst (.int 1))) true 2) (.cons (.bop true (.cmp .Eq (.mcall (.var 108) 71 (.cons (.var 42) .nil)) (.cst (.int 0))) (.cmp .NotIn (.var 42) (.attr (.attr (.var 108) 17) 17))) .nil)) (.list .nil)) (.cons (.ret (.cst (.bool false)))
  .nil) .nil)
  .nil))))))))))
  (.cons (.ret (.cst (.bool true)))
  .nil))))))))
noncomputable def a_CoreHeap___init__:MSs:=
 (.cons (.asg (.attr (.var 40) 38) (.var 38))
  (.cons (.asg (.attr (.var 40) 39) (.glob 140 (.int 1024)))
  (.cons (.asg (.attr (.var 40) 15) (.list (.cons (.cst (.int 0)) .nil)))
  (.cons (.asg (.attr (.var 40) 17) (.list .nil))
  (.cons (.asg (.attr (.var 40) 16) (.list (.cons (.neg (.cst (.int 1))) .nil)))
  .nil)))))
noncomputable def a_Search___init__:MSs:=
 (.cons (.asg (.attr (.var 40) 24) (.var 24))
  (.cons (.asg (.attr (.var 40) 13) (.list (.cons (.cst (.bool false)) .nil)))
  (.cons (.asg (.attr (.var 40) 14) (.list (.cons (.cst .none) .nil)))
  (.cons (.asg (.attr (.var 40) 25) (.cst (.int 0)))
  (.cons (.asg (.attr (.var 40) 26) (.cst (.bool true)))
  (.cons (.asg (.attr (.var 40) 27) (.cst .none))
  (.cons (.asg (.attr (.var 40) 28) (.tup .nil))
  (.cons (.asg (.attr (.var 40) 29) (.cst .none))
  (.cons (.asg (.attr (.var 40) 30) (.cst (.int 0)))
  (.cons (.asg (.attr (.var 40) 31) (.cst (.int 0)))
  (.cons (.asg (.attr (.var 40) 32) (.cst (.int 0)))
  .nil)))))))))))
noncomputable def a_SatCore___init__:MSs:=
 (.cons (.asg (.attr (.var 40) 33) (.glob 141 (.int 60)))
  (.cons (.asg (.attr (.var 40) 34) (.cst (.int 1)))
  (.cons (.asg (.attr (.var 40) 35) (.cst (.int 0)))
  (.cons (.asg (.attr (.var 40) 36) (.cst (.int 0)))
  (.cons (.asg (.attr (.var 40) 37) (.cst (.int 0)))
  .nil)))))
noncomputable def lk {α:Type}(l:List (Nat × α)) (i:Nat):Option α:=l.lookup i
noncomputable def X1:Tabs:=⟨nmT.length,fun i=>nmT.getD i Str.empty,lk gvT,lk bvT,lk fnT,lk clT⟩
noncomputable def noDup:List Str->Bool
 | []=>true
 | a::l=>l.all (fun b=>!sEq a b) && noDup l
theorem c_nodup:noDup nmT=true:=by kernel_rfl
theorem c_names:((List.range X1.N).all fun i=>!sEq (X1.nm i) "__debug__" && !sEq (X1.nm i) "__classdict__" && !sEq (X1.nm i) "__name__")=true:=by kernel_rfl
theorem c_gv (P:Params):(gvT.all fun x=>decide (x.1<X1.N) && decide (nsIn (hd02.heap_39 P) mainGlobals (X1.nm x.1)=some (some x.2)))=true:=by kernel_rfl
theorem c_bv (P:Params):(bvT.all fun x=>decide (x.1<X1.N) && decide (nsIn (hd02.heap_39 P) mainGlobals (X1.nm x.1)=some none) && decide (bootBuiltins (X1.nm x.1)=some x.2))=true:=by kernel_rfl
theorem k_CoreHeap_many (P:Params):okFn X1 (hd02.heap_39 P) 60 43 [40] a_CoreHeap_many=true:=by kernel_rfl
theorem k_CoreHeap_is_held (P:Params):okFn X1 (hd02.heap_39 P) 60 50 [40,42] a_CoreHeap_is_held=true:=by kernel_rfl
theorem k_CoreHeap_is_before (P:Params):okFn X1 (hd02.heap_39 P) 60 57 [40,43,44] a_CoreHeap_is_before=true:=by kernel_rfl
theorem k_CoreHeap_grow (P:Params):okFn X1 (hd02.heap_39 P) 60 64 [40,45] a_CoreHeap_grow=true:=by kernel_rfl
theorem k_CoreHeap_put (P:Params):okFn X1 (hd02.heap_39 P) 60 71 [40,48,42] a_CoreHeap_put=true:=by kernel_rfl
theorem k_CoreHeap_rise (P:Params):okFn X1 (hd02.heap_39 P) 60 78 [40,48] a_CoreHeap_rise=true:=by kernel_rfl
theorem k_CoreHeap_better_child (P:Params):okFn X1 (hd02.heap_39 P) 60 85 [40,48] a_CoreHeap_better_child=true:=by kernel_rfl
theorem k_CoreHeap_sink (P:Params):okFn X1 (hd02.heap_39 P) 60 92 [40,48] a_CoreHeap_sink=true:=by kernel_rfl
theorem k_CoreHeap_push (P:Params):okFn X1 (hd02.heap_39 P) 60 99 [40,42] a_CoreHeap_push=true:=by kernel_rfl
theorem k_CoreHeap_pop (P:Params):okFn X1 (hd02.heap_39 P) 60 106 [40] a_CoreHeap_pop=true:=by kernel_rfl
theorem k_place_of (P:Params):okFn X1 (hd02.heap_39 P) 60 155 [54] a_place_of=true:=by kernel_rfl
theorem k_order_key (P:Params):okFn X1 (hd02.heap_39 P) 60 162 [54] a_order_key=true:=by kernel_rfl
theorem k_Trail___init__ (P:Params):okFn X1 (hd02.heap_39 P) 60 190 [40,20] a_Trail___init__=true:=by kernel_rfl
theorem k_Trail_grow (P:Params):okFn X1 (hd02.heap_39 P) 60 197 [40] a_Trail_grow=true:=by kernel_rfl
theorem k_Trail_value (P:Params):okFn X1 (hd02.heap_39 P) 60 211 [40,54] a_Trail_value=true:=by kernel_rfl
theorem k_Trail_depth (P:Params):okFn X1 (hd02.heap_39 P) 60 218 [40] a_Trail_depth=true:=by kernel_rfl
theorem k_Trail_store (P:Params):okFn X1 (hd02.heap_39 P) 60 239 [40,66,39,67] a_Trail_store=true:=by kernel_rfl
theorem k_Trail_watch (P:Params):okFn X1 (hd02.heap_39 P) 60 246 [40,68] a_Trail_watch=true:=by kernel_rfl
theorem k_Trail_unwatch (P:Params):okFn X1 (hd02.heap_39 P) 60 251 [40,68] a_Trail_unwatch=true:=by kernel_rfl
theorem k_Trail_height (P:Params):okFn X1 (hd02.heap_39 P) 60 258 [40,54] a_Trail_height=true:=by kernel_rfl
theorem k_Trail_by_heights (P:Params):okFn X1 (hd02.heap_39 P) 60 265 [40,56] a_Trail_by_heights=true:=by kernel_rfl
theorem k_Trail_place (P:Params):okFn X1 (hd02.heap_39 P) 60 279 [40,68] a_Trail_place=true:=by kernel_rfl
theorem k_Trail_enqueue (P:Params):okFn X1 (hd02.heap_39 P) 60 286 [40,54,68] a_Trail_enqueue=true:=by kernel_rfl
theorem k_Trail_new_level (P:Params):okFn X1 (hd02.heap_39 P) 60 293 [40] a_Trail_new_level=true:=by kernel_rfl
theorem k_Trail_cancel_until (P:Params):okFn X1 (hd02.heap_39 P) 60 300 [40,79] a_Trail_cancel_until=true:=by kernel_rfl
theorem k_Trail_propagate_clauses (P:Params):okFn X1 (hd02.heap_39 P) 60 307 [40] a_Trail_propagate_clauses=true:=by kernel_rfl
theorem k_Trail_visit (P:Params):okFn X1 (hd02.heap_39 P) 60 314 [40,84] a_Trail_visit=true:=by kernel_rfl
theorem k_Trail_moved (P:Params):okFn X1 (hd02.heap_39 P) 60 321 [40,68,56] a_Trail_moved=true:=by kernel_rfl
theorem k_Trail_is_sound (P:Params):okFn X1 (hd02.heap_39 P) 60 326 [40] a_Trail_is_sound=true:=by kernel_rfl
theorem k_Search_new_var (P:Params):okFn X1 (hd02.heap_39 P) 60 356 [40] a_Search_new_var=true:=by kernel_rfl
theorem k_luby (P:Params):okFn X1 (hd02.heap_39 P) 60 515 [90] a_luby=true:=by kernel_rfl
theorem k_SatCore_propagate (P:Params):okFn X1 (hd02.heap_39 P) 60 538 [40] a_SatCore_propagate=true:=by kernel_rfl
theorem k_SatCore_is_reason (P:Params):okFn X1 (hd02.heap_39 P) 60 573 [40,68] a_SatCore_is_reason=true:=by kernel_rfl
theorem k_SatCore_worth_of (P:Params):okFn X1 (hd02.heap_39 P) 60 580 [40,68] a_SatCore_worth_of=true:=by kernel_rfl
theorem k_SatCore_forget (P:Params):okFn X1 (hd02.heap_39 P) 60 587 [40] a_SatCore_forget=true:=by kernel_rfl
theorem k_SatCore_pause (P:Params):okFn X1 (hd02.heap_39 P) 60 601 [40] a_SatCore_pause=true:=by kernel_rfl
theorem k__law_stein (P:Params):okFn X1 (hd02.heap_39 P) 60 621 [153,46] a__law_stein=true:=by kernel_rfl
theorem k__law_clause (P:Params):okFn X1 (hd02.heap_39 P) 60 626 [153,45] a__law_clause=true:=by kernel_rfl
theorem k__law_core (P:Params):okFn X1 (hd02.heap_39 P) 60 633 [45,19,119] a__law_core=true:=by kernel_rfl
theorem k__law_row (P:Params):okFn X1 (hd02.heap_39 P) 60 640 [46] a__law_row=true:=by kernel_rfl
theorem k__law_decided (P:Params):okFn X1 (hd02.heap_39 P) 60 647 [108,54] a__law_decided=true:=by kernel_rfl
theorem k__law_state (P:Params):okFn X1 (hd02.heap_39 P) 60 654 [108] a__law_state=true:=by kernel_rfl
noncomputable def T1:Tab:=⟨fun C a=>(C == cSat && atS.contains a) || (C == cHeap && atH.contains a),fun C m=>(mtT.find? fun x=>x.1 == C && x.2.1 == m).map (·.2.2)⟩
noncomputable def atCheck (K:Frag) (C:Addr) (a:Nat):Bool:=decide (a<X1.N) && plainGet K C (X1.nm a) && hasDictIn K C && decide (findIn K (.ref C) (X1.nm a)=some none) && decide (findIn K (.ref C) "__setattr__" = some (some (.builtin "object.__setattr__"))) && plainOver K C
noncomputable def mtCheck (K:Frag) (x:Addr × Nat × Addr):Bool:=decide (x.2.1<X1.N) && plainGet K x.1 (X1.nm x.2.1) && hasDictIn K x.1 && decide (findIn K (.ref x.1) (X1.nm x.2.1)=some (some (.ref x.2.2))) && isFn K (.ref x.2.2) && fnIn K x.2.2 &&
 decide (specialIn K (.ref x.2.2) "__get__" = some (some (.builtin "function.__get__"))) && decide (takesIn K (.ref x.2.2)=some false) && !copiedNames.contains (X1.nm x.2.1)
theorem c_atS (P:Params):(atS.all fun a=>atCheck (hd02.heap_39 P) cSat a)=true:=by kernel_rfl
theorem c_atH (P:Params):(atH.all fun a=>atCheck (hd02.heap_39 P) cHeap a)=true:=by kernel_rfl
theorem c_mt (P:Params):(mtT.all fun x=>mtCheck (hd02.heap_39 P) x)=true:=by kernel_rfl
theorem c_fn (P:Params):(fnT.all fun x=>decide (X1.gv x.1=some (.ref x.2)) && fnIn (hd02.heap_39 P) x.2)=true:=by kernel_rfl
theorem c_cl (P:Params):(clT.all fun x=>decide (X1.gv x.1=some (.ref x.2.1)) && keepIn (hd02.heap_39 P) (.ref x.2.1) && makesIn (hd02.heap_39 P) x.2.1 && decide (findIn (hd02.heap_39 P) (.ref x.2.1) "__init__" = some (some (.ref x.2.2))) && decide (typeIn (hd02.heap_39 P) (.ref x.2.2)=some (.type "function")))=true:=by kernel_rfl
theorem noDup_nodup:∀ {l:List Str},noDup l=true->l.Nodup
 | [],_=>.nil
 | a::l,h=>by
  rw[noDup,Zy,Z8] at h
  refine Yc.mpr ⟨fun hm=>?_,noDup_nodup h.2⟩
  have:=h.1 a hm
  rw[sEq_iff.mpr rfl] at this
  cases this
theorem lk_mem {α:Type}{l:List (Nat × α)}{i:Nat}{v:α}(h:lk l i=some v):(i,v)∈l:=by
 unfold lk at h
 induction l with
 | nil=>cases h
 | cons x r ih=>
  obtain ⟨j,u⟩:=x
  rw[Zt] at h
  by_cases q:i=j
  ·subst q
   simp at h
   subst h;exact .head _
  ·have:(i == j)=false:=beq_eq_false_iff_ne.mpr q
   rw[this] at h
   exact .tail _ (ih h)
noncomputable def B1 (prog:Program) (w:World) (h₀:Heap) (os:OsState):Base:=⟨prog,w,hd02.heap_39 w.params,h₀,os,nmT⟩
theorem tabs1 (prog:Program) (w:World) (h₀:Heap) (os:OsState):TabsOK (B1 prog w h₀ os) X1:=by
 have hn:=Z8.mp c_names
 refine⟨rfl,rfl,fun i hi=>?_,fun i v h=>?_,fun i v h=>?_,fun i f h=>?_,fun i C f h=>?_⟩
 ·have:=hn i (Yp.mpr hi)
  simp only [Zy,Xk] at this
  have ne:∀ s:Str,sEq (X1.nm i) s=false->X1.nm i≠s:=fun s h q=>by rw[sEq_iff.mpr q] at h;exact ntf h
  exact⟨beq_eq_false_iff_ne.mpr (ne _ this.1.1),beq_eq_false_iff_ne.mpr (ne _ this.1.2),ne _ this.2⟩
 ·have:=Z8.mp (c_gv w.params) (i,v) (lk_mem h)
  simp only [Zy,decide_eq_true_eq] at this
  exact this
 ·have:=Z8.mp (c_bv w.params) (i,v) (lk_mem h)
  simp only [Zy,decide_eq_true_eq] at this
  exact⟨this.1.1,this.1.2,this.2⟩
 ·have:=Z8.mp (c_fn w.params) (i,f) (lk_mem h)
  simp only [Zy,decide_eq_true_eq] at this
  exact this
 ·have:=Z8.mp (c_cl w.params) (i,C,f) (lk_mem h)
  simp only [Zy,decide_eq_true_eq] at this
  exact⟨this.1.1.1.1,this.1.1.1.2,this.1.1.2,this.1.2,this.2⟩
theorem tab1 (prog:Program) (w:World) (h₀:Heap) (os:OsState):TabOk (B1 prog w h₀ os) T1:=by
 refine⟨fun C a h=>?_,fun C m f h=>?_⟩
 ·have key:∀ C a,atCheck (hd02.heap_39 w.params) C a=true->a<(B1 prog w h₀ os).N∧plainGet (B1 prog w h₀ os).K C ((B1 prog w h₀ os).nm a)=true∧hasDictIn (B1 prog w h₀ os).K C=true∧findIn (B1 prog w h₀ os).K (.ref C) ((B1 prog w h₀ os).nm a)=some none∧
    findIn (B1 prog w h₀ os).K (.ref C) "__setattr__" = some (some (.builtin "object.__setattr__"))∧plainOver (B1 prog w h₀ os).K C=true:=fun C a h=>by
   unfold atCheck at h
   simp only [Zy,decide_eq_true_eq] at h
   exact⟨h.1.1.1.1.1,h.1.1.1.1.2,h.1.1.1.2,h.1.1.2,h.1.2,h.2⟩
  unfold T1 at h
  simp only [Bool.or_eq_true,Zy,beq_iff_eq,List.contains_iff_mem] at h
  rcases h with ⟨rfl,h⟩ | ⟨rfl,h⟩
  ·exact key _ _ (Z8.mp (c_atS w.params) a h)
  ·exact key _ _ (Z8.mp (c_atH w.params) a h)
 ·unfold T1 at h
  dsimp only at h
  rw[Zw] at h
  obtain ⟨x,hx,rfl⟩:=h
  have h1:=List.find?_some hx
  have h2:=List.mem_of_find?_eq_some hx
  simp only [Zy,beq_iff_eq] at h1
  obtain ⟨rfl,rfl⟩:=h1
  have:=Z8.mp (c_mt w.params) x h2
  unfold mtCheck at this
  simp only [Zy,decide_eq_true_eq,Xk] at this
  exact⟨this.1.1.1.1.1.1.1.1,this.1.1.1.1.1.1.1.2,this.1.1.1.1.1.1.2,this.1.1.1.1.1.2,this.1.1.1.1.2,this.1.1.1.2,this.1.1.2,this.1.2,this.2⟩
theorem nm1 (prog:Program) (w:World) (h₀:Heap) (os:OsState):NmOk (B1 prog w h₀ os):=⟨rfl,rfl,rfl⟩
theorem k_Search_init (P:Params):okSup X1 (hd02.heap_39 P) PySem.Challenge.rw_rg0221_02.row.prog 60 349 506 190 611 [40,24,20] (.cons (.var 20) .nil) a_Search___init__=true:=by kernel_rfl
theorem k_SatCore_init (P:Params):okSup X1 (hd02.heap_39 P) PySem.Challenge.rw_rg0221_02.row.prog 60 531 611 349 611 [40,24,20] (.cons (.var 24) (.cons (.var 20) .nil)) a_SatCore___init__=true:=by kernel_rfl
theorem k_CoreHeap_init (P:Params):okDf X1 (hd02.heap_39 P) 60 36 40 38 1000000000000 a_CoreHeap___init__=true:=by kernel_rfl
structure Ctx (B:Base):Prop where
 g:B.Good
 tb:TabOk B T1
 nm:NmOk B
 hX:TabsOK B X1
 K:∃ P,B.K=hd02.heap_39 P
 pr:B.prog=PySem.Challenge.rw_rg0221_02.row.prog
theorem Ctx.fn {B:Base}(g:Ctx B) {d n:Nat}{f:Addr}{ps:List Nat}{st:MSs}(hf:∀ P,okFn X1 (hd02.heap_39 P) n f ps st=true) {vs:List MV}{H:AH}{Q:MV->AH->Prop}(hl:vs.length=ps.length)
  (h:wpL (sig B T1 d) st (updRs (fun _=>none) ps vs) H fun fl _ H'=>match fl with | .ret v=>Q v H' | .next=>Q .none H' | _=>False):SpecCall B (d+4) f vs H Q:=by
 obtain ⟨P,e⟩:=g.K
 exact spec_fn g.g g.tb g.nm g.hX (by rw[e];exact hf P) hl h
noncomputable abbrev f_CoreHeap_many:Addr:=43
noncomputable abbrev f_CoreHeap_is_held:Addr:=50
noncomputable abbrev f_CoreHeap_is_before:Addr:=57
noncomputable abbrev f_CoreHeap_grow:Addr:=64
noncomputable abbrev f_CoreHeap_put:Addr:=71
noncomputable abbrev f_CoreHeap_rise:Addr:=78
noncomputable abbrev f_CoreHeap_better_child:Addr:=85
noncomputable abbrev f_CoreHeap_sink:Addr:=92
noncomputable abbrev f_CoreHeap_push:Addr:=99
noncomputable abbrev f_CoreHeap_pop:Addr:=106
noncomputable abbrev f_place_of:Addr:=155
noncomputable abbrev f_order_key:Addr:=162
noncomputable abbrev f_Trail___init__:Addr:=190
noncomputable abbrev f_Trail_grow:Addr:=197
noncomputable abbrev f_Trail_value:Addr:=211
noncomputable abbrev f_Trail_depth:Addr:=218
noncomputable abbrev f_Trail_store:Addr:=239
noncomputable abbrev f_Trail_watch:Addr:=246
noncomputable abbrev f_Trail_unwatch:Addr:=251
noncomputable abbrev f_Trail_height:Addr:=258
noncomputable abbrev f_Trail_by_heights:Addr:=265
noncomputable abbrev f_Trail_place:Addr:=279
noncomputable abbrev f_Trail_enqueue:Addr:=286
noncomputable abbrev f_Trail_new_level:Addr:=293
noncomputable abbrev f_Trail_cancel_until:Addr:=300
noncomputable abbrev f_Trail_propagate_clauses:Addr:=307
noncomputable abbrev f_Trail_visit:Addr:=314
noncomputable abbrev f_Trail_moved:Addr:=321
noncomputable abbrev f_Trail_is_sound:Addr:=326
noncomputable abbrev f_Search_new_var:Addr:=356
noncomputable abbrev f_luby:Addr:=515
noncomputable abbrev f_SatCore_propagate:Addr:=538
noncomputable abbrev f_SatCore_is_reason:Addr:=573
noncomputable abbrev f_SatCore_worth_of:Addr:=580
noncomputable abbrev f_SatCore_forget:Addr:=587
noncomputable abbrev f_SatCore_pause:Addr:=601
noncomputable abbrev f__law_stein:Addr:=621
noncomputable abbrev f__law_clause:Addr:=626
noncomputable abbrev f__law_core:Addr:=633
noncomputable abbrev f__law_row:Addr:=640
noncomputable abbrev f__law_decided:Addr:=647
noncomputable abbrev f__law_state:Addr:=654
noncomputable abbrev f_CoreHeap_init:Addr:=36
noncomputable abbrev f_SatCore_init:Addr:=531
theorem upd_eq {H:AH}{a:Addr}{o:AO}:upd H a o a=some o:=if_pos rfl
theorem upd_ne {H:AH}{a b:Addr}{o:AO}(h:b≠a):upd H a o b=H b:=if_neg h
noncomputable def fu {α:Type}(f:Nat->α) (n:Nat) (x:α):Nat->α:=fun m=>if m=n then x else f m
theorem fu_eq {α:Type}{f:Nat->α}{n:Nat}{x:α}:fu f n x n=x:=if_pos rfl
theorem fu_ne {α:Type}{f:Nat->α}{n m:Nat}{x:α}(h:m≠n):fu f n x m=f m:=if_neg h
inductive Lb where
 | c | d | hp | hd | W | K
 | f (n:Nat)
 | w (i:Nat)
 | k (j:Nat)
noncomputable abbrev Lay:=Lb->Addr
noncomputable def fuL (L:Lay) (k:Lb) (a:Addr):Lay:=fun m=>@ite _ (m=k) (Classical.propDecidable _) a (L m)
theorem fuL_eq {L:Lay}{k:Lb}{a:Addr}:fuL L k a k=a:=if_pos rfl
theorem fuL_ne {L:Lay}{k m:Lb}{a:Addr}(h:m≠k):fuL L k a m=L m:=if_neg h
structure Dat where
 iv:Nat->MV
 il:Nat->List Int
 wat:List (List Int)
 cls:List (Option (List Int))
noncomputable def conv (n:Nat) (i:Int):MV:=if n=11∨n=13 then .bool (decide (i≠0)) else if n=10∨n=14 then .none else .int i
noncomputable abbrev flat (n:Nat):Prop:=3≤n∧n≤17
noncomputable abbrev scal (a:Nat):Prop:=20≤a∧a≤37
noncomputable def rowW (L:Lay) (m:Nat):List MV:=(List.range m).map fun i=>.ref (L (.w i))
noncomputable def itK (L:Lay) (j:Nat):Option (List Int)->MV
 | some _=>.ref (L (.k j))
 | none=>.none
noncomputable def rowK (L:Lay) (cs:List (Option (List Int))):List MV:=(List.range cs.length).map fun j=>itK L j cs[j]?.join
noncomputable def cont (L:Lay) (D:Dat):Lb->Option (List MV)
 | .W=>some (rowW L D.wat.length)
 | .K=>some (rowK L D.cls)
 | .f n=>if flat n then some ((D.il n).map (conv n)) else none
 | .w i=>D.wat[i]?.map (·.map .int)
 | .k j=>D.cls[j]?.join.map (·.map .int)
 | _=>none
noncomputable def used (D:Dat):Lb->Prop
 | .f n=>flat n
 | .w i=>(D.wat[i]?).isSome=true
 | .k j=>(D.cls[j]?.join).isSome=true
 | _=>True
noncomputable def fld (L:Lay) (D:Dat) (a:Nat):Option MV:=
 if a=17 then some (.ref (L .hp))
 else if 3≤a∧a≤14 then some (.ref (L (.f a)))
 else if a=18 then some (.ref (L .W))
 else if a=19 then some (.ref (L .K))
 else if scal a then some (D.iv a)
 else none
noncomputable def fldH (L:Lay) (D:Dat) (a:Nat):Option MV:=
 if 15≤a∧a≤17 then some (.ref (L (.f a))) else if a=38∨a=39 then some (D.iv a) else none
structure CoreAt (c:Addr) (H:AH) (L:Lay) (D:Dat):Prop where
 c0:L .c=c
 inst:H c=some (.inst cSat (L .d))
 ns:∃ l,H (L .d)=some (.ns l)∧l.length≤60∧∀ a,l.lookup a=fld L D a
 hinst:H (L .hp)=some (.inst cHeap (L .hd))
 hns:∃ l,H (L .hd)=some (.ns l)∧l.length≤60∧∀ a,l.lookup a=fldH L D a
 ct:∀ n xs,cont L D n=some xs->H (L n)=some (.list xs)
 inj:∀ m n,used D m->used D n->L m=L n->m=n
noncomputable def Foot (L:Lay) (D:Dat) (b:Addr):Prop:=∃ n,used D n∧b=L n
structure Stp (H:AH) (L:Lay) (D:Dat) (H':AH) (L':Lay) (D':Dat):Prop where
 keep:∀ b,¬Foot L D b->H b≠none->H' b=H b
 foot:∀ b,Foot L' D' b->Foot L D b∨H b=none
 live:∀ b,H b≠none->H' b≠none
theorem cont_used {L:Lay}{D:Dat}{n:Lb}{xs:List MV}(h:cont L D n=some xs):used D n:=by
 induction n using Mine.Lb.casesOn with
 | f n=>
  unfold cont at h
  dsimp only at h
  by_cases q:flat n
  ·exact q
  ·rw[if_neg q] at h;exact ncs h
 | w i=>
  unfold cont at h
  dsimp only at h
  unfold used
  dsimp only
  induction q:D.wat[i]? using Option.casesOn with
  | none=>rw[q] at h;cases h
  | some _=>rfl
 | k j=>
  unfold cont at h
  dsimp only at h
  unfold used
  dsimp only
  induction q:D.cls[j]?.join using Option.casesOn with
  | none=>rw[q] at h;cases h
  | some _=>rfl
 | _=>trivial
theorem cont_flat {L:Lay}{D:Dat}{n:Nat}(h:flat n):cont L D (.f n)=some ((D.il n).map (conv n)):=by
 unfold cont
 dsimp only
 rw[if_pos h]
section
variable {c:Addr}{H H' H'':AH}{L L' L'':Lay}{D D' D'':Dat}
theorem Stp.refl:Stp H L D H L D:=⟨fun _ _ _=>rfl,fun _ h=>.inl h,fun _ h=>h⟩
theorem Stp.trans (x:Stp H L D H' L' D') (y:Stp H' L' D' H'' L'' D''):Stp H L D H'' L'' D'':=by
 refine⟨fun b nf a=>?_,fun b f=>?_,fun b a=>y.live b (x.live b a)⟩
 ·have h1:=x.keep b nf a
  rw[← h1]
  refine y.keep b (fun f=>?_) (by rw[h1];exact a)
  rcases x.foot b f with g | g
  ·exact nf g
  ·exact a g
 ·rcases y.foot b f with g | g
  ·exact x.foot b g
  ·exact .inr (Classical.byContradiction fun a=>x.live b a g)
theorem Stp.alloc (x:Stp H L D H' L' D') {a:Addr}(h:H' a=none) (o:AO):Stp H L D (upd H' a o) L' D':=by
 refine⟨fun b nf z=>?_,x.foot,fun b z=>?_⟩
 ·have:b≠a:=fun q=>x.live b z (q▸h)
  rw[upd_ne this];exact x.keep b nf z
 ·unfold upd
  split
  ·exact fun q=>nomatch q
  ·exact x.live b z
theorem Stp.set (x:Stp H L D H' L' D') {a:Addr}(h:H a=none) (o:AO):Stp H L D (upd H' a o) L' D':=by
 refine⟨fun b nf z=>?_,x.foot,fun b z=>?_⟩
 ·have:b≠a:=fun q=>z (q▸h)
  rw[upd_ne this];exact x.keep b nf z
 ·unfold upd
  split
  ·exact fun q=>nomatch q
  ·exact x.live b z
theorem CoreAt.lk (C:CoreAt c H L D) {n:Lb}(u:used D n):H (L n)≠none:=by
 refine xE1 C.ns fun l t0_0=>aE2 t0_0 fun h1 _=>?_
 refine xE1 C.hns fun l2 t1_0=>aE2 t1_0 fun h2 _=>?_
 induction n using Mine.Lb.casesOn with
 | c=>rw[C.c0,C.inst];exact fun h=>nomatch h
 | d=>rw[h1];exact fun h=>nomatch h
 | hp=>rw[C.hinst];exact fun h=>nomatch h
 | hd=>rw[h2];exact fun h=>nomatch h
 | W=>rw[C.ct .W _ rfl];exact fun h=>nomatch h
 | K=>rw[C.ct .K _ rfl];exact fun h=>nomatch h
 | f n=>rw[C.ct (.f n) _ (cont_flat u)];exact fun h=>nomatch h
 | w i=>
  unfold used at u
  dsimp only at u
  induction q:D.wat[i]? using Option.casesOn with
  | none=>rw[q] at u;cases u
  | some x=>rw[C.ct (.w i) (x.map .int) (by unfold cont;dsimp only;rw[q];rfl)];exact fun h=>nomatch h
 | k j=>
  unfold used at u
  dsimp only at u
  induction q:D.cls[j]?.join using Option.casesOn with
  | none=>rw[q] at u;cases u
  | some x=>rw[C.ct (.k j) (x.map .int) (by unfold cont;dsimp only;rw[q];rfl)];exact fun h=>nomatch h
theorem Foot.alive {b:Addr}(f:Foot L D b) (C:CoreAt c H L D):H b≠none:=by
 obtain ⟨n,u,rfl⟩:=f
 exact C.lk u
theorem CoreAt.keep (C:CoreAt c H L D) (k:∀ b,Foot L D b->H' b=H b):CoreAt c H' L D:=by
 refine xE1 C.ns fun l t3_0=>aE3 t3_0 fun a b e=>?_
 refine xE1 C.hns fun l2 t4_0=>aE3 t4_0 fun a2 b2 e2=>?_
 exact⟨C.c0,(k _ ⟨.c,trivial,C.c0.symm⟩).trans C.inst,⟨l,(aI3 ((k _ ⟨.d,trivial,rfl⟩).trans a) b e)⟩,(k _ ⟨.hp,trivial,rfl⟩).trans C.hinst,⟨l2,(aI3 ((k _ ⟨.hd,trivial,rfl⟩).trans a2) b2 e2)⟩,
  fun n xs e=>(k _ ⟨n,cont_used e,rfl⟩).trans (C.ct n xs e),C.inj⟩
theorem CoreAt.new (C:CoreAt c H L D) {a:Addr}(h:H a=none) (o:AO):CoreAt c (upd H a o) L D:=C.keep fun b f=>upd_ne fun q=>f.alive C (q▸h)
theorem CoreAt.out (C:CoreAt c H L D) {a:Addr}(h:¬Foot L D a) (o:AO):CoreAt c (upd H a o) L D:=C.keep fun b f=>upd_ne fun q=>h (q▸f)
theorem CoreAt.nf (C:CoreAt c H L D) {a:Addr}(h:H a=none):¬Foot L D a:=fun f=>f.alive C h
theorem CoreAt.alter (C:CoreAt c H L D) {k:Lb}{ys xs:List MV}(hk:cont L D k=some ys) (hc:∀ m zs,cont L D' m=some zs->(m=k∧zs=xs)∨(m≠k∧cont L D m=some zs)) (hu:∀ m,used D' m->used D m) (hiv:D'.iv=D.iv) :
  CoreAt c (upd H (L k) (.list xs)) L D'∧Stp H L D (upd H (L k) (.list xs)) L D':=by
 have ne:∀ m,used D m->m≠k->L m≠L k:=fun m u q e=>q (C.inj m k u (cont_used hk) e)
 have kc:k≠.c∧k≠.d∧k≠.hp∧k≠.hd:=by
  refine (aI4 ?_ ?_ ?_ ?_)<;>(rintro rfl;cases hk)
 have ef:fld L D'=fld L D:=by funext a;unfold fld;rw[hiv]
 have eh:fldH L D'=fldH L D:=by funext a;unfold fldH;rw[hiv]
 refine xE1 C.ns fun l t5_0=>aE3 t5_0 fun a b e=>?_
 refine xE1 C.hns fun l2 t6_0=>aE3 t6_0 fun a2 b2 e2=>?_
 refine⟨⟨C.c0,?_,⟨l,(aI3 ((upd_ne (ne .d trivial kc.2.1.symm)).trans a) b (by rw[ef];exact e))⟩,(upd_ne (ne .hp trivial kc.2.2.1.symm)).trans C.hinst,⟨l2,(aI3 ((upd_ne (ne .hd trivial kc.2.2.2.symm)).trans a2) b2 (by rw[eh];exact e2))⟩,fun m zs e=>?_,fun m n u v=>C.inj m n (hu m u) (hu n v)⟩,⟨fun b nf _=>upd_ne fun q=>nf ⟨k,cont_used hk,q⟩,fun b q0_=>xE1 q0_ fun n n1_=>aE2 n1_ fun u e=>.inl ⟨n,hu n u,e⟩,fun b z=>?_⟩⟩
 ·rw[← C.c0,upd_ne (ne .c trivial kc.1.symm),C.c0];exact C.inst
 ·rcases hc m zs e with ⟨rfl,rfl⟩ | ⟨q,h⟩
  ·exact upd_eq
  ·exact (upd_ne (ne m (cont_used h) q)).trans (C.ct m zs h)
 ·unfold upd
  split
  ·exact fun q=>nomatch q
  ·exact z
theorem CoreAt.adopt (C:CoreAt c H L D) {a:Addr}{xs xsc ysc:List MV}(ha:H a=some (.list xs)) (na:¬Foot L D a) {k kc:Lb}(hk:k≠.c∧k≠.d∧k≠.hp∧k≠.hd) (hkf:∀ n,k≠.f n) (hkw:k≠.W∧k≠.K) (hkc:cont L D kc=some ysc)
  (hc:∀ m zs,cont (fuL L k a) D' m=some zs->(m=kc∧m≠k∧zs=xsc)∨(m=k∧zs=xs)∨(m≠kc∧m≠k∧cont L D m=some zs)) (hu:∀ m,used D' m->m≠k->used D m) (hiv:D'.iv=D.iv) (hne:kc≠k) :
  CoreAt c (upd H (L kc) (.list xsc)) (fuL L k a) D'∧∀ {H0 L0 D0},Stp H0 L0 D0 H L D->H0 a=none->Stp H0 L0 D0 (upd H (L kc) (.list xsc)) (fuL L k a) D':=by
 have ne:∀ m,used D m->m≠kc->L m≠L kc:=fun m u q e=>q (C.inj m kc u (cont_used hkc) e)
 have kc':kc≠.c∧kc≠.d∧kc≠.hp∧kc≠.hd:=by
  refine (aI4 ?_ ?_ ?_ ?_)<;>(rintro rfl;cases hkc)
 have ef:fld (fuL L k a) D'=fld L D:=by
  funext x;unfold fld
  rw[hiv,fuL_ne hk.2.2.1.symm,fuL_ne (hkf x).symm,fuL_ne hkw.1.symm,fuL_ne hkw.2.symm]
 have eh:fldH (fuL L k a) D'=fldH L D:=by
  funext x;unfold fldH
  rw[hiv,fuL_ne (hkf x).symm]
 have aF:∀ m,used D m->a≠L m:=fun m u q=>na ⟨m,u,q⟩
 refine xE1 C.ns fun l t7_0=>aE3 t7_0 fun h1 b e=>?_
 refine xE1 C.hns fun l2 t8_0=>aE3 t8_0 fun h2 b2 e2=>?_
 refine⟨⟨(fuL_ne hk.1.symm).trans C.c0,?_,⟨l,(aI3 ?_ b (by rw[ef];exact e))⟩,?_,⟨l2,(aI3 ?_ b2 (by rw[eh];exact e2))⟩,fun m zs e=>?_,fun m n u v z=>?_⟩,fun {H0 L0 D0} S h0=>⟨fun b nf z=>?_,fun b q1_=>xE1 q1_ fun n n101_=>aE2 n101_ fun u e=>?_,fun b z=>?_⟩⟩
 ·rw[fuL_ne hk.2.1.symm,← C.c0,upd_ne (ne .c trivial kc'.1.symm),C.c0];exact C.inst
 ·rw[fuL_ne hk.2.1.symm,upd_ne (ne .d trivial kc'.2.1.symm)];exact h1
 ·rw[fuL_ne hk.2.2.1.symm,fuL_ne hk.2.2.2.symm,upd_ne (ne .hp trivial kc'.2.2.1.symm)];exact C.hinst
 ·rw[fuL_ne hk.2.2.2.symm,upd_ne (ne .hd trivial kc'.2.2.2.symm)];exact h2
 ·rcases hc m zs e with ⟨rfl,q,rfl⟩ | ⟨rfl,rfl⟩ | ⟨q,q2,h⟩
  ·rw[fuL_ne q];exact upd_eq
  ·rw[fuL_eq,upd_ne (aF _ (cont_used hkc))];exact ha
  ·rw[fuL_ne q2]
   exact (upd_ne (ne m (cont_used h) q)).trans (C.ct m zs h)
 ·by_cases q:m=k
  ·subst q
   by_cases q2:n=m
   ·exact q2.symm
   ·rw[fuL_eq,fuL_ne q2] at z
    exact absurd z (aF n (hu n v q2))
  ·by_cases q2:n=k
   ·subst q2
    rw[fuL_eq,fuL_ne q] at z
    exact absurd z.symm (aF m (hu m u q))
   ·rw[fuL_ne q,fuL_ne q2] at z
    exact C.inj m n (hu m u q) (hu n v q2) z
 ·have hb:b≠L kc:=fun q=>by
   rcases S.foot b ⟨kc,cont_used hkc,q⟩ with g | g
   ·exact nf g
   ·exact z g
  rw[upd_ne hb];exact S.keep b nf z
 ·by_cases q:n=k
  ·subst q
   rw[fuL_eq] at e
   subst e
   exact .inr h0
  ·rw[fuL_ne q] at e
   exact S.foot b ⟨n,hu n u q,e⟩
 ·unfold upd
  split
  ·exact fun q=>nomatch q
  ·exact S.live b z
end
noncomputable def Dat.setL (D:Dat) (n:Nat) (xs:List Int):Dat:={ D with il:=fu D.il n xs }
noncomputable def Dat.setV (D:Dat) (a:Nat) (v:MV):Dat:={ D with iv:=fu D.iv a v }
noncomputable def Dat.setW (D:Dat) (i:Nat) (xs:List Int):Dat:={ D with wat:=D.wat.set i xs }
noncomputable def Dat.setC (D:Dat) (j:Nat) (o:Option (List Int)):Dat:={ D with cls:=D.cls.set j o }
noncomputable def Dat.addW (D:Dat) (xs:List Int):Dat:={ D with wat:=D.wat++[xs] }
noncomputable def Dat.addC (D:Dat) (o:Option (List Int)):Dat:={ D with cls:=D.cls++[o] }
theorem cont_setL {L:Lay}{D:Dat}{n:Nat}{xs:List Int}(h:flat n) (m:Lb):cont L (D.setL n xs) m=@ite _ (m=.f n) (Classical.propDecidable _) (some (xs.map (conv n))) (cont L D m):=by
 by_cases q:m=.f n
 ·subst q
  rw[if_pos rfl]
  unfold cont Dat.setL
  dsimp only
  rw[if_pos h,fu_eq]
 ·rw[if_neg q]
  induction m using Mine.Lb.casesOn with
  | f k=>
   unfold cont Dat.setL
   dsimp only
   rw[fu_ne fun z=>q (by rw[z])]
  | _=>rfl
theorem lookup_set:∀ (l:List (Nat × MV)) (a:Nat) (v:MV) (b:Nat),(setNs l a v).lookup b=if b=a then some v else l.lookup b
 | [],a,v,b=>by
  unfold setNs
  by_cases q:b=a
  ·subst q;simp [Zt]
  ·have:(b == a)=false:=beq_eq_false_iff_ne.mpr q
   rw[Zt,this,if_neg q]
 | (j,u)::r,a,v,b=>by
  unfold setNs
  by_cases q:j=a
  ·subst q
   rw[if_pos rfl,Zt,Zt]
   by_cases q2:b=j
   ·subst q2;simp
   ·have:(b == j)=false:=beq_eq_false_iff_ne.mpr q2
    rw[this,if_neg q2]
  ·rw[if_neg q,Zt,Zt,lookup_set r a v b]
   by_cases q2:b=j
   ·subst q2;simp [q]
   ·have:(b == j)=false:=beq_eq_false_iff_ne.mpr q2
    rw[this]
theorem len_set:∀ (l:List (Nat × MV)) (a:Nat) (v:MV),(l.lookup a).isSome->(setNs l a v).length=l.length
 | [],a,v,h=>by cases h
 | (j,u)::r,a,v,h=>by
  unfold setNs
  by_cases q:j=a
  ·rw[if_pos q];rfl
  ·have:(a == j)=false:=beq_eq_false_iff_ne.mpr (Ne.symm q)
   rw[Zt,this] at h
   rw[if_neg q,Zm,Zm,len_set r a v h]
theorem fld_scal {L:Lay}{D:Dat}{a:Nat}(h:scal a):fld L D a=some (D.iv a):=by
 obtain ⟨h1,h2⟩:=h
 unfold fld
 rw[if_neg (by lia),if_neg (by lia),if_neg (by lia),if_neg (Y5 h1),if_pos ⟨h1,h2⟩]
theorem fld_list {L:Lay}{D:Dat}{n:Nat}(h:3≤n∧n≤14):fld L D n=some (.ref (L (.f n))):=by
 unfold fld
 rw[if_neg (by lia),if_pos h]
theorem fld_setV {L:Lay}{D:Dat}{a:Nat}{v:MV}(h:scal a) (b:Nat):fld L (D.setV a v) b=if b=a then some v else fld L D b:=by
 by_cases q:b=a
 ·subst q
  rw[if_pos rfl,fld_scal h]
  show some (fu D.iv b v b)=_
  rw[fu_eq]
 ·rw[if_neg q]
  unfold fld Dat.setV
  dsimp only
  rw[fu_ne q]
theorem fldH_setV {L:Lay}{D:Dat}{a:Nat}{v:MV}(h:scal a) (b:Nat):fldH L (D.setV a v) b=fldH L D b:=by
 obtain ⟨h1,h2⟩:=h
 unfold fldH Dat.setV
 dsimp only
 split
 ·rfl
 ·split
  ·rename_i q
   rw[fu_ne]
   rintro rfl
   lia
  ·rfl
section
variable {c:Addr}{H:AH}{L:Lay}{D:Dat}
theorem CoreAt.setL (C:CoreAt c H L D) {n:Nat}(h:flat n) (xs:List Int):CoreAt c (upd H (L (.f n)) (.list (xs.map (conv n)))) L (D.setL n xs)∧Stp H L D (upd H (L (.f n)) (.list (xs.map (conv n)))) L (D.setL n xs):=by
 refine C.alter (cont_flat h) (fun m zs e=>?_) (fun m u=>?_) rfl
 ·rw[cont_setL h] at e
  by_cases q:m=.f n
  ·subst q;rw[if_pos rfl] at e;have e:=Option.some.inj e;subst e;exact .inl ⟨rfl,rfl⟩
  ·rw[if_neg q] at e;exact .inr ⟨q,e⟩
 ·cases m<;>exact u
theorem CoreAt.setW (C:CoreAt c H L D) {i:Nat}{ys:List Int}(h:D.wat[i]?=some ys) (xs:List Int):CoreAt c (upd H (L (.w i)) (.list (xs.map .int))) L (D.setW i xs)∧Stp H L D (upd H (L (.w i)) (.list (xs.map .int))) L (D.setW i xs):=by
 have hl:i<D.wat.length:=(Za.mp h).1
 refine C.alter (k:=.w i) (ys:=ys.map .int) (by unfold cont;dsimp only;rw[h];rfl) (fun m zs e=>?_) (fun m u=>?_) rfl
 ·induction m using Mine.Lb.casesOn with
  | w j=>
   unfold cont Dat.setW at e
   dsimp only at e
   by_cases q:j=i
   ·subst q
    rw[Zh hl] at e
    cases e
    exact .inl ⟨rfl,rfl⟩
   ·rw[Zi (Ne.symm q)] at e
    exact .inr ⟨fun z=>q (by cases z;rfl),e⟩
  | W=>
   unfold cont Dat.setW at e
   dsimp only at e
   rw[Zp] at e
   exact .inr ⟨nofun,e⟩
  | _=>exact .inr ⟨nofun,e⟩
 ·induction m using Mine.Lb.casesOn with
  | w j=>
   unfold used Dat.setW at u
   unfold used
   dsimp only at u ⊢
   by_cases q:j=i
   ·subst q;rw[h];rfl
   ·rw[Zi (Ne.symm q)] at u;exact u
  | _=>exact u
theorem rowK_same {L:Lay}{cs:List (Option (List Int))}{j:Nat}{ys xs:List Int}(h:cs[j]?=some (some ys)):rowK L (cs.set j (some xs))=rowK L cs:=by
 have hl:j<cs.length:=(Za.mp h).1
 unfold rowK
 rw[Zp]
 refine Yb fun i _=>?_
 by_cases q:i=j
 ·subst q
  rw[Zh hl,h];rfl
 ·rw[Zi (Ne.symm q)]
theorem CoreAt.setC (C:CoreAt c H L D) {j:Nat}{ys:List Int}(h:D.cls[j]?=some (some ys)) (xs:List Int):CoreAt c (upd H (L (.k j)) (.list (xs.map .int))) L (D.setC j (some xs))∧Stp H L D (upd H (L (.k j)) (.list (xs.map .int))) L (D.setC j (some xs)):=by
 have hl:j<D.cls.length:=(Za.mp h).1
 refine C.alter (k:=.k j) (ys:=ys.map .int) (by unfold cont;dsimp only;rw[h];rfl) (fun m zs e=>?_) (fun m u=>?_) rfl
 ·induction m using Mine.Lb.casesOn with
  | k i=>
   unfold cont Dat.setC at e
   dsimp only at e
   by_cases q:i=j
   ·subst q
    rw[Zh hl] at e
    cases e
    exact .inl ⟨rfl,rfl⟩
   ·rw[Zi (Ne.symm q)] at e
    exact .inr ⟨fun z=>q (by cases z;rfl),e⟩
  | K=>
   unfold cont Dat.setC at e
   dsimp only at e
   rw[rowK_same h] at e
   exact .inr ⟨nofun,e⟩
  | _=>exact .inr ⟨nofun,e⟩
 ·induction m using Mine.Lb.casesOn with
  | k i=>
   unfold used Dat.setC at u
   unfold used
   dsimp only at u ⊢
   by_cases q:i=j
   ·subst q;rw[h];rfl
   ·rw[Zi (Ne.symm q)] at u;exact u
  | _=>exact u
theorem rowK_drop {L:Lay}{cs:List (Option (List Int))}{j:Nat}:rowK L (cs.set j none)=(rowK L cs).set j .none:=by
 unfold rowK
 rw[Zp]
 refine Xw fun i=>?_
 by_cases q:i=j
 ·subst q
  by_cases hl:i<cs.length
  ·rw[Zh (by simpa using hl)]
   simp [hl,itK]
  ·simp [hl]
 ·rw[Zi (Ne.symm q)]
  simp only [Zn]
  by_cases hl:i<cs.length
  ·simp only [Yi hl,Yx,Zi (Ne.symm q)]
  ·simp [hl]
theorem CoreAt.dropC (C:CoreAt c H L D) (j:Nat):CoreAt c (upd H (L .K) (.list ((rowK L D.cls).set j .none))) L (D.setC j none)∧Stp H L D (upd H (L .K) (.list ((rowK L D.cls).set j .none))) L (D.setC j none):=by
 refine C.alter (k:=.K) (ys:=rowK L D.cls) rfl (fun m zs e=>?_) (fun m u=>?_) rfl
 ·induction m using Mine.Lb.casesOn with
  | k i=>
   unfold cont Dat.setC at e
   dsimp only at e
   refine .inr ⟨nofun,?_⟩
   by_cases q:i=j
   ·subst q
    by_cases hl:i<D.cls.length
    ·rw[Zh hl] at e;cases e
    ·rw[Z1 (by simpa using hl)] at e;cases e
   ·rw[Zi (Ne.symm q)] at e;exact e
  | K=>
   unfold cont Dat.setC at e
   dsimp only at e
   rw[rowK_drop] at e
   have e:=Option.some.inj e;subst e
   exact .inl ⟨rfl,rfl⟩
  | _=>exact .inr ⟨nofun,e⟩
 ·induction m using Mine.Lb.casesOn with
  | k i=>
   unfold used Dat.setC at u
   unfold used
   dsimp only at u ⊢
   by_cases q:i=j
   ·subst q
    by_cases hl:i<D.cls.length
    ·rw[Zh hl] at u;cases u
    ·rw[Z1 (by simpa using hl)] at u;cases u
   ·rw[Zi (Ne.symm q)] at u;exact u
  | _=>exact u
theorem CoreAt.setV (C:CoreAt c H L D) {a:Nat}(h:scal a) (v:MV) {l:List (Nat × MV)}(hl:H (L .d)=some (.ns l)) :
  CoreAt c (upd H (L .d) (.ns (setNs l a v))) L (D.setV a v)∧Stp H L D (upd H (L .d) (.ns (setNs l a v))) L (D.setV a v):=by
 refine hide fun R done=>?_
 refine xE1 C.ns fun l' t2_0=>aE3 t2_0 fun h1 h2 h3=>?_
 rw[hl] at h1;cases h1
 refine xE1 C.hns fun l2 t3_0=>aE3 t3_0 fun a2 b2 c2=>?_
 refine done ?_
 have hin:(fld L D a).isSome:=by rw[fld_scal h];rfl
 have ne:∀ m,used D m->m≠.d->L m≠L .d:=fun m u q e=>q (C.inj m .d u trivial e)
 refine⟨⟨C.c0,?_,⟨_,(aI3 upd_eq (by rw[len_set _ _ _ (by rw[h3];exact hin)];exact h2) (fun b=>by rw[lookup_set,h3,fld_setV h]))⟩,(upd_ne (ne .hp trivial nofun)).trans C.hinst,⟨l2,(aI3 ((upd_ne (ne .hd trivial nofun)).trans a2) b2 (fun b=>by rw[c2,fldH_setV h]))⟩,
  fun n xs e=>(upd_ne (ne n (cont_used e) (by rintro rfl;cases e))).trans (C.ct n xs e),C.inj⟩,⟨fun b nf _=>upd_ne fun q=>nf ⟨.d,trivial,q⟩,fun b f=>.inl f,fun b z=>?_⟩⟩
 ·rw[← C.c0,upd_ne (ne .c trivial nofun),C.c0];exact C.inst
 ·unfold upd
  split
  ·exact fun q=>nomatch q
  ·exact z
theorem fuLf {L:Lay}{n:Nat}{a:Addr}(m:Lb) (h:∀ k,m≠.f k):fuL L (.f n) a m=L m:=fuL_ne (h n)
theorem CoreAt.setRef (C:CoreAt c H L D) {n:Nat}(h:3≤n∧n≤14) {a:Addr}{xs:List Int}(ha:H a=some (.list (xs.map (conv n)))) (na:¬Foot L D a) {l:List (Nat × MV)}(hl:H (L .d)=some (.ns l)) :
  CoreAt c (upd H (L .d) (.ns (setNs l n (.ref a)))) (fuL L (.f n) a) (D.setL n xs)∧∀ {H0 L0 D0},Stp H0 L0 D0 H L D->H0 a=none->Stp H0 L0 D0 (upd H (L .d) (.ns (setNs l n (.ref a)))) (fuL L (.f n) a) (D.setL n xs):=by
 refine hide fun R done=>?_
 refine xE1 C.ns fun l' t4_0=>aE3 t4_0 fun h1 h2 h3=>?_
 rw[hl] at h1;cases h1
 refine xE1 C.hns fun l2 t5_0=>aE3 t5_0 fun a2 b2 c2=>?_
 refine done ?_
 have hf:flat n:=⟨h.1,by lia⟩
 have hin:(fld L D n).isSome:=by rw[fld_list h];rfl
 have ne:∀ m,used D m->m≠.d->L m≠L .d:=fun m u q e=>q (C.inj m .d u trivial e)
 have aF:∀ m,used D m->a≠L m:=fun m u q=>na ⟨m,u,q⟩
 have us:∀ m,used (D.setL n xs) m->used D m:=fun m u=>by cases m<;>exact u
 refine⟨⟨(fuLf .c nofun).trans C.c0,?_,⟨_,(aI3 (by rw[fuLf .d nofun];exact upd_eq) (by rw[len_set _ _ _ (by rw[h3];exact hin)];exact h2) (fun b=>?_))⟩,by rw[fuLf .hp nofun,fuLf .hd nofun];exact (upd_ne (ne .hp trivial nofun)).trans C.hinst,⟨l2,(aI3 (by rw[fuLf .hd nofun];exact (upd_ne (ne .hd trivial nofun)).trans a2) b2 (fun b=>?_))⟩,
  fun m zs e=>?_,fun m m' u v z=>?_⟩,fun {H0 L0 D0} S h0=>⟨fun b nf z=>?_,fun b q0_=>xE1 q0_ fun m n1_=>aE2 n1_ fun u e=>?_,fun b z=>?_⟩⟩
 ·rw[fuLf .d nofun,← C.c0,upd_ne (ne .c trivial nofun),C.c0];exact C.inst
 ·rw[lookup_set,h3]
  by_cases q:b=n
  ·subst q;rw[if_pos rfl,fld_list h,fuL_eq]
  ·rw[if_neg q]
   unfold fld Dat.setL
   dsimp only
   rw[fuL_ne (k:=.f n) (m:=.f b) (fun z=>q (by cases z;rfl)),fuLf .hp nofun,fuLf .W nofun,fuLf .K nofun]
 ·rw[c2]
  unfold fldH Dat.setL
  dsimp only
  split
  ·rw[fuL_ne (k:=.f n) (m:=.f b) (fun z=>by cases z;lia)]
  ·rfl
 ·by_cases q:m=.f n
  ·subst q
   rw[cont_setL hf,if_pos rfl] at e
   have e:=Option.some.inj e;subst e
   rw[fuL_eq,upd_ne (aF .d trivial)];exact ha
  ·have e':cont L D m=some zs:=by
    rw[cont_setL hf,if_neg q] at e
    have:cont (fuL L (.f n) a) D m=cont L D m:=by
     induction m using Mine.Lb.casesOn with
     | W=>unfold cont rowW;dsimp only;exact congrArg some (Yb fun i _=>by rw[fuLf (.w i) nofun])
     | K=>unfold cont rowK;dsimp only;exact congrArg some (Yb fun i _=>by unfold itK;rw[fuLf (.k i) nofun])
     | _=>rfl
    rw[this] at e;exact e
   rw[fuL_ne q]
   exact (upd_ne (ne m (cont_used e') (by rintro rfl;cases e'))).trans (C.ct m zs e')
 ·have u:=us m u
  have v:=us m' v
  by_cases q:m=.f n
  ·subst q
   by_cases q2:m'=.f n
   ·exact q2.symm
   ·rw[fuL_eq,fuL_ne q2] at z
    exact absurd z (aF m' v)
  ·by_cases q2:m'=.f n
   ·subst q2
    rw[fuL_eq,fuL_ne q] at z
    exact absurd z.symm (aF m u)
   ·rw[fuL_ne q,fuL_ne q2] at z
    exact C.inj m m' u v z
 ·have hb:b≠L .d:=fun q=>by
   rcases S.foot b ⟨.d,trivial,q⟩ with g | g
   ·exact nf g
   ·exact z g
  rw[upd_ne hb];exact S.keep b nf z
 ·by_cases q:m=.f n
  ·subst q
   rw[fuL_eq] at e
   subst e
   exact .inr h0
  ·rw[fuL_ne q] at e
   exact S.foot b ⟨m,us m u,e⟩
 ·unfold upd
  split
  ·exact fun q=>nomatch q
  ·exact S.live b z
end
theorem fuLw {L:Lay}{i:Nat}{a:Addr}(m:Lb) (h:m≠.w i):fuL L (.w i) a m=L m:=fuL_ne h
theorem fuLk {L:Lay}{i:Nat}{a:Addr}(m:Lb) (h:m≠.k i):fuL L (.k i) a m=L m:=fuL_ne h
theorem rowW_k {L:Lay}{j:Nat}{a:Addr}{m:Nat}:rowW (fuL L (.k j) a) m=rowW L m:=by
 unfold rowW
 exact Yb fun i _=>by rw[fuLk (.w i) nofun]
theorem rowK_w {L:Lay}{i:Nat}{a:Addr}{cs:List (Option (List Int))}:rowK (fuL L (.w i) a) cs=rowK L cs:=by
 unfold rowK
 exact Yb fun j _=>by unfold itK;rw[fuLw (.k j) nofun]
theorem rowW_set {L:Lay}{i m:Nat}{a:Addr}:rowW (fuL L (.w i) a) m=(rowW L m).set i (.ref a):=by
 unfold rowW
 refine Xw fun k=>?_
 by_cases q:k=i
 ·subst q
  by_cases hl:k<m
  ·rw[Zh (by simpa using hl)]
   simp [hl,fuL_eq]
  ·simp [hl]
 ·rw[Zi (Ne.symm q)]
  simp only [Zn]
  by_cases hl:k<m
  ·simp only [Yi hl,Yx]
   rw[fuLw (.w k) (by rintro z;cases z;exact q rfl)]
  ·simp [hl]
theorem rowW_add {L:Lay}{m:Nat}{a:Addr}:rowW (fuL L (.w m) a) (m+1)=rowW L m++[.ref a]:=by
 unfold rowW
 rw[X9,Yg]
 congr 1
 ·exact Yb fun i hi=>by rw[fuLw (.w i) (by rintro z;cases z;exact absurd (Yp.mp hi) (Y2 _))]
 ·rw[Y4,fuL_eq]
theorem rowK_set {L:Lay}{j:Nat}{a:Addr}{cs:List (Option (List Int))}{xs:List Int}:rowK (fuL L (.k j) a) (cs.set j (some xs))=(rowK L cs).set j (.ref a):=by
 unfold rowK
 rw[Zp]
 refine Xw fun k=>?_
 by_cases q:k=j
 ·subst q
  by_cases hl:k<cs.length
  ·rw[Zh (by simpa using hl)]
   simp only [Zn,Yi hl,Yx]
   rw[Zh hl]
   show some (MV.ref (fuL L (.k k) a (.k k)))=_
   rw[fuL_eq]
  ·simp [hl]
 ·rw[Zi (Ne.symm q)]
  simp only [Zn]
  by_cases hl:k<cs.length
  ·simp only [Yi hl,Yx]
   rw[Zi (Ne.symm q)]
   unfold itK
   rw[fuLk (.k k) (by rintro z;cases z;exact q rfl)]
  ·simp [hl]
theorem rowK_add {L:Lay}{a:Addr}{cs:List (Option (List Int))}{xs:List Int}:rowK (fuL L (.k cs.length) a) (cs++[some xs])=rowK L cs++[.ref a]:=by
 unfold rowK
 rw[Zd,Zs,X9,Yg]
 congr 1
 ·refine Yb fun i hi=>?_
  have hi:=Yp.mp hi
  rw[Zu hi]
  unfold itK
  rw[fuLk (.k i) (by rintro z;cases z;exact absurd hi (Y2 _))]
 ·rw[Y4,Zz (Zk _),Yw]
  show[MV.ref (fuL L (.k cs.length) a (.k cs.length))]=_
  rw[fuL_eq]
section
variable {c:Addr}{H:AH}{L:Lay}{D:Dat}
theorem CoreAt.setWr (C:CoreAt c H L D) {a:Addr}{xs:List Int}(ha:H a=some (.list (xs.map .int))) (na:¬Foot L D a) {i:Nat}(hi:i<D.wat.length) :
  CoreAt c (upd H (L .W) (.list ((rowW L D.wat.length).set i (.ref a)))) (fuL L (.w i) a) (D.setW i xs)∧∀ {H0 L0 D0},Stp H0 L0 D0 H L D->H0 a=none->Stp H0 L0 D0 (upd H (L .W) (.list ((rowW L D.wat.length).set i (.ref a)))) (fuL L (.w i) a) (D.setW i xs):=by
 refine C.adopt (k:=.w i) (kc:=.W) ha na (aI4 nofun nofun nofun nofun) (fun _=>nofun) ⟨nofun,nofun⟩ rfl (fun m zs e=>?_) (fun m u q=>?_) rfl nofun
 ·induction m using Mine.Lb.casesOn with
  | w j=>
   unfold cont Dat.setW at e
   dsimp only at e
   by_cases q:j=i
   ·subst q
    rw[Zh hi] at e
    cases e
    exact .inr (.inl ⟨rfl,rfl⟩)
   ·rw[Zi (Ne.symm q)] at e
    exact .inr (.inr (aI3 nofun (fun z=>q (by cases z;rfl)) e))
  | W=>
   unfold cont Dat.setW at e
   dsimp only at e
   rw[Zp,rowW_set] at e
   have e:=Option.some.inj e;subst e
   exact .inl (aI3 rfl nofun rfl)
  | K=>
   unfold cont Dat.setW at e
   dsimp only at e
   rw[rowK_w] at e
   exact .inr (.inr (aI3 nofun nofun e))
  | _=>exact .inr (.inr (aI3 nofun nofun e))
 ·induction m using Mine.Lb.casesOn with
  | w j=>
   unfold used Dat.setW at u
   unfold used
   dsimp only at u ⊢
   rewrite [Zi (fun z=>q (by rw[z]))] at u;exact u
  | _=>exact u
theorem CoreAt.addWr (C:CoreAt c H L D) {a:Addr}{xs:List Int}(ha:H a=some (.list (xs.map .int))) (na:¬Foot L D a) :
  CoreAt c (upd H (L .W) (.list (rowW L D.wat.length++[.ref a]))) (fuL L (.w D.wat.length) a) (D.addW xs)∧∀ {H0 L0 D0},Stp H0 L0 D0 H L D->H0 a=none->Stp H0 L0 D0 (upd H (L .W) (.list (rowW L D.wat.length++[.ref a]))) (fuL L (.w D.wat.length) a) (D.addW xs):=by
 refine C.adopt (k:=.w D.wat.length) (kc:=.W) ha na (aI4 nofun nofun nofun nofun) (fun _=>nofun) ⟨nofun,nofun⟩ rfl (fun m zs e=>?_) (fun m u q=>?_) rfl nofun
 ·induction m using Mine.Lb.casesOn with
  | w j=>
   unfold cont Dat.addW at e
   dsimp only at e
   by_cases q:j=D.wat.length
   ·subst q
    rw[Zz (Zk _),Yw] at e
    cases e
    exact .inr (.inl ⟨rfl,rfl⟩)
   ·by_cases q2:j<D.wat.length
    ·rw[Zu q2] at e
     exact .inr (.inr (aI3 nofun (fun z=>q (by cases z;rfl)) e))
    ·rw[Z1 (by rw[Zd,Zs];lia)] at e
     cases e
  | W=>
   unfold cont Dat.addW at e
   dsimp only at e
   rw[Zd,Zs,rowW_add] at e
   have e:=Option.some.inj e;subst e
   exact .inl (aI3 rfl nofun rfl)
  | K=>
   unfold cont Dat.addW at e
   dsimp only at e
   rw[rowK_w] at e
   exact .inr (.inr (aI3 nofun nofun e))
  | _=>exact .inr (.inr (aI3 nofun nofun e))
 ·induction m using Mine.Lb.casesOn with
  | w j=>
   unfold used Dat.addW at u
   unfold used
   dsimp only at u ⊢
   by_cases q2:j<D.wat.length
   ·rw[Zu q2] at u;exact u
   ·have q3:j≠D.wat.length:=fun z=>q (by rw[z])
    rw[Z1 (by rw[Zd,Zs];lia)] at u
    cases u
  | _=>exact u
theorem CoreAt.setCr (C:CoreAt c H L D) {a:Addr}{xs:List Int}(ha:H a=some (.list (xs.map .int))) (na:¬Foot L D a) {j:Nat}(hj:j<D.cls.length) :
  CoreAt c (upd H (L .K) (.list ((rowK L D.cls).set j (.ref a)))) (fuL L (.k j) a) (D.setC j (some xs))∧∀ {H0 L0 D0},Stp H0 L0 D0 H L D->H0 a=none->Stp H0 L0 D0 (upd H (L .K) (.list ((rowK L D.cls).set j (.ref a)))) (fuL L (.k j) a) (D.setC j (some xs)):=by
 refine C.adopt (k:=.k j) (kc:=.K) ha na (aI4 nofun nofun nofun nofun) (fun _=>nofun) ⟨nofun,nofun⟩ rfl (fun m zs e=>?_) (fun m u q=>?_) rfl nofun
 ·induction m using Mine.Lb.casesOn with
  | k i=>
   unfold cont Dat.setC at e
   dsimp only at e
   by_cases q:i=j
   ·subst q
    rw[Zh hj] at e
    cases e
    exact .inr (.inl ⟨rfl,rfl⟩)
   ·rw[Zi (Ne.symm q)] at e
    exact .inr (.inr (aI3 nofun (fun z=>q (by cases z;rfl)) e))
  | K=>
   unfold cont Dat.setC at e
   dsimp only at e
   rw[rowK_set] at e
   have e:=Option.some.inj e;subst e
   exact .inl (aI3 rfl nofun rfl)
  | W=>
   unfold cont Dat.setC at e
   dsimp only at e
   rw[rowW_k] at e
   exact .inr (.inr (aI3 nofun nofun e))
  | _=>exact .inr (.inr (aI3 nofun nofun e))
 ·induction m using Mine.Lb.casesOn with
  | k i=>
   unfold used Dat.setC at u
   unfold used
   dsimp only at u ⊢
   rewrite [Zi (fun z=>q (by rw[z]))] at u;exact u
  | _=>exact u
theorem CoreAt.addCr (C:CoreAt c H L D) {a:Addr}{xs:List Int}(ha:H a=some (.list (xs.map .int))) (na:¬Foot L D a) :
  CoreAt c (upd H (L .K) (.list (rowK L D.cls++[.ref a]))) (fuL L (.k D.cls.length) a) (D.addC (some xs))∧∀ {H0 L0 D0},Stp H0 L0 D0 H L D->H0 a=none->Stp H0 L0 D0 (upd H (L .K) (.list (rowK L D.cls++[.ref a]))) (fuL L (.k D.cls.length) a) (D.addC (some xs)):=by
 refine C.adopt (k:=.k D.cls.length) (kc:=.K) ha na (aI4 nofun nofun nofun nofun) (fun _=>nofun) ⟨nofun,nofun⟩ rfl (fun m zs e=>?_) (fun m u q=>?_) rfl nofun
 ·induction m using Mine.Lb.casesOn with
  | k j=>
   unfold cont Dat.addC at e
   dsimp only at e
   by_cases q:j=D.cls.length
   ·subst q
    rw[Zz (Zk _),Yw] at e
    cases e
    exact .inr (.inl ⟨rfl,rfl⟩)
   ·by_cases q2:j<D.cls.length
    ·rw[Zu q2] at e
     exact .inr (.inr (aI3 nofun (fun z=>q (by cases z;rfl)) e))
    ·rw[Z1 (by rw[Zd,Zs];lia)] at e
     cases e
  | K=>
   unfold cont Dat.addC at e
   dsimp only at e
   rw[rowK_add] at e
   have e:=Option.some.inj e;subst e
   exact .inl (aI3 rfl nofun rfl)
  | W=>
   unfold cont Dat.addC at e
   dsimp only at e
   rw[rowW_k] at e
   exact .inr (.inr (aI3 nofun nofun e))
  | _=>exact .inr (.inr (aI3 nofun nofun e))
 ·induction m using Mine.Lb.casesOn with
  | k j=>
   unfold used Dat.addC at u
   unfold used
   dsimp only at u ⊢
   by_cases q2:j<D.cls.length
   ·rw[Zu q2] at u;exact u
   ·have q3:j≠D.cls.length:=fun z=>q (by rw[z])
    rw[Z1 (by rw[Zd,Zs];lia)] at u
    cases u
  | _=>exact u
end
noncomputable def Pv (S:Sig) (ρ:RH) (H:AH) (e:ME) (v:MV):Prop:=∀ Q:MV->AH->Prop,Q v H->wpE S e ρ H Q
noncomputable def Pvs (S:Sig) (ρ:RH) (H:AH) (es:MEs) (vs:List MV):Prop:=∀ Q:List MV->AH->Prop,Q vs H->wpEs S es ρ H Q
section
variable {S:Sig}{ρ:RH}{H:AH}
theorem Pv.var {i:Nat}{v:MV}(h:ρ i=some v):Pv S ρ H (.var i) v:=fun Q q=>by refine eVar ?_;exact⟨v,h,q⟩
theorem Pv.cst {v:MV}:Pv S ρ H (.cst v) v:=fun Q q=>by refine eCst ?_;exact q
theorem Pv.glob {i:Nat}{v:MV}:Pv S ρ H (.glob i v) v:=fun Q q=>by refine eGlob ?_;exact q
theorem Pv.neg {e:ME}{i:Int}(h:Pv S ρ H e (.int i)):Pv S ρ H (.neg e) (.int (-i)):=fun Q q=>by refine eNeg ?_;exact h _ ⟨i,rfl,q⟩
theorem Pv.not {e:ME}{b:Bool}(h:Pv S ρ H e (.bool b)):Pv S ρ H (.not e) (.bool (!b)):=fun Q q=>by refine eNot ?_;exact h _ ⟨b,rfl,q⟩
theorem Pv.bin {op:Operator}{a b:ME}{x y v:MV}(h1:Pv S ρ H a x) (h2:Pv S ρ H b y) (h:∀ Q:MV->AH->Prop,Q v H->wpBin op x y H Q):Pv S ρ H (.bin op a b) v:=fun Q q=>by refine eBin ?_;exact h1 _ (h2 _ (h Q q))
theorem Pv.cmp {op:CmpOp}{a b:ME}{x y v:MV}(h1:Pv S ρ H a x) (h2:Pv S ρ H b y) (h:∀ Q:MV->AH->Prop,Q v H->wpCmp op x y H Q):Pv S ρ H (.cmp op a b) v:=fun Q q=>by refine eCmp ?_;exact h1 _ (h2 _ (h Q q))
theorem Pv.add {a b:ME}{i j:Int}(h1:Pv S ρ H a (.int i)) (h2:Pv S ρ H b (.int j)):Pv S ρ H (.bin .Add a b) (.int (i+j)):=.bin h1 h2 fun _ q=>q
theorem Pv.sub_ {a b:ME}{i j:Int}(h1:Pv S ρ H a (.int i)) (h2:Pv S ρ H b (.int j)):Pv S ρ H (.bin .Sub a b) (.int (i - j)):=.bin h1 h2 fun _ q=>q
theorem Pv.mul {a b:ME}{i j:Int}(h1:Pv S ρ H a (.int i)) (h2:Pv S ρ H b (.int j)) (h:i.natAbs<2 ^ 62∨j.natAbs<2 ^ 62):Pv S ρ H (.bin .Mult a b) (.int (i*j)):=.bin h1 h2 fun _ q=>⟨h,q⟩
theorem Pv.fdiv {a b:ME}{i j:Int}(h1:Pv S ρ H a (.int i)) (h2:Pv S ρ H b (.int j)) (h:j≠0∧j.natAbs<2 ^ 62):Pv S ρ H (.bin .FloorDiv a b) (.int (i.fdiv j)):=.bin h1 h2 fun _ q=>⟨h,q⟩
theorem Pv.fmod {a b:ME}{i j:Int}(h1:Pv S ρ H a (.int i)) (h2:Pv S ρ H b (.int j)) (h:j≠0∧j.natAbs<2 ^ 62):Pv S ρ H (.bin .Mod a b) (.int (i.fmod j)):=.bin h1 h2 fun _ q=>⟨h,q⟩
theorem Pv.gt {a b:ME}{i j:Int}(h1:Pv S ρ H a (.int i)) (h2:Pv S ρ H b (.int j)):Pv S ρ H (.cmp .Gt a b) (.bool (decide (j<i))):=.cmp h1 h2 fun _ q=>q
theorem Pv.lt {a b:ME}{i j:Int}(h1:Pv S ρ H a (.int i)) (h2:Pv S ρ H b (.int j)):Pv S ρ H (.cmp .Lt a b) (.bool (decide (i<j))):=.cmp h1 h2 fun _ q=>q
theorem Pv.le {a b:ME}{i j:Int}(h1:Pv S ρ H a (.int i)) (h2:Pv S ρ H b (.int j)):Pv S ρ H (.cmp .LtE a b) (.bool (decide (i≤j))):=.cmp h1 h2 fun _ q=>q
theorem Pv.ge {a b:ME}{i j:Int}(h1:Pv S ρ H a (.int i)) (h2:Pv S ρ H b (.int j)):Pv S ρ H (.cmp .GtE a b) (.bool (decide (j≤i))):=.cmp h1 h2 fun _ q=>q
theorem Pv.eq {a b:ME}{i j:Int}(h1:Pv S ρ H a (.int i)) (h2:Pv S ρ H b (.int j)):Pv S ρ H (.cmp .Eq a b) (.bool (decide (i=j))):=.cmp h1 h2 fun _ q=>q
theorem Pv.ne {a b:ME}{i j:Int}(h1:Pv S ρ H a (.int i)) (h2:Pv S ρ H b (.int j)):Pv S ρ H (.cmp .NotEq a b) (.bool (!decide (i=j))):=.cmp h1 h2 fun _ q=>q
theorem Pv.isN {a:ME}{v:MV}(h1:Pv S ρ H a v):Pv S ρ H (.cmp .Is a (.cst .none)) (.bool (decide (v=.none))):=.cmp h1 .cst fun _ q=>⟨rfl,q⟩
theorem Pv.isnt {a:ME}{v:MV}(h1:Pv S ρ H a v):Pv S ρ H (.cmp .IsNot a (.cst .none)) (.bool (decide (v≠.none))):=.cmp h1 .cst fun _ q=>⟨rfl,q⟩
theorem Pv.and {a b:ME}{x y:Bool}(h1:Pv S ρ H a (.bool x)) (h2:x=true->Pv S ρ H b (.bool y)) (h3:x=false->y=false):Pv S ρ H (.bop true a b) (.bool y):=fun Q q=>by
 refine eBop ?_
 refine h1 _ ⟨x,rfl,?_⟩
 induction x using Bool.casesOn with
 | true=>exact h2 rfl _ q
 | false=>rw[if_neg nofun,← h3 rfl];exact q
theorem Pv.or {a b:ME}{x y:Bool}(h1:Pv S ρ H a (.bool x)) (h2:x=false->Pv S ρ H b (.bool y)) (h3:x=true->y=true):Pv S ρ H (.bop false a b) (.bool y):=fun Q q=>by
 refine eBop ?_
 refine h1 _ ⟨x,rfl,?_⟩
 induction x using Bool.casesOn with
 | false=>exact h2 rfl _ q
 | true=>rw[if_neg nofun,← h3 rfl];exact q
theorem Pv.ite {t a b:ME}{x:Bool}{v:MV}(h1:Pv S ρ H t (.bool x)) (h2:x=true->Pv S ρ H a v) (h3:x=false->Pv S ρ H b v):Pv S ρ H (.ite t a b) v:=fun Q q=>by
 refine eIte ?_
 refine h1 _ ⟨x,rfl,?_⟩
 induction x using Bool.casesOn with
 | true=>exact h2 rfl _ q
 | false=>exact h3 rfl _ q
theorem Pv.sub {e i:ME}{a:Addr}{z:Int}{xs:List MV}{u:MV}(h1:Pv S ρ H e (.ref a)) (h2:Pv S ρ H i (.int z)) (hs:seqAt H a=some xs) (hg:getAt xs z=some u):Pv S ρ H (.sub e i) u:=fun Q q=>by
 refine eSub ?_;exact h1 _ (h2 _ (xI4 a z xs u (aI5 rfl rfl hs hg q)))
theorem Pv.len {i:Nat}{e:ME}{a:Addr}{xs:List MV}(h1:Pv S ρ H e (.ref a)) (hs:seqAt H a=some xs):Pv S ρ H (.bcall i .len (.cons e .nil)) (.int xs.length):=fun Q q=>by
 refine eBcall (esCons ?_)
 exact h1 _ (by refine esNil ?_;exact⟨xs,hs,q⟩)
noncomputable def vabs (i:Int):Int:=if i<0 then -i else i
theorem Pv.abs {i:Nat}{e:ME}{z:Int}(h1:Pv S ρ H e (.int z)):Pv S ρ H (.bcall i .abs (.cons e .nil)) (.int (vabs z)):=fun Q q=>by
 refine eBcall (esCons ?_)
 exact h1 _ (by refine esNil ?_;exact q)
theorem Pv.min {i:Nat}{a b:ME}{x y:Int}(h1:Pv S ρ H a (.int x)) (h2:Pv S ρ H b (.int y)):Pv S ρ H (.bcall i .min (.cons a (.cons b .nil))) (.int (min x y)):=fun Q q=>by
 refine eBcall (esCons ?_)
 refine h1 _ ?_
 refine esCons ?_
 refine h2 _ ?_
 refine esNil ?_;exact q
theorem Pvs.nil:Pvs S ρ H .nil []:=fun Q q=>by refine esNil ?_;exact q
theorem Pvs.cons {e:ME}{es:MEs}{v:MV}{vs:List MV}(h1:Pv S ρ H e v) (h2:Pvs S ρ H es vs):Pvs S ρ H (.cons e es) (v::vs):=fun Q q=>by refine esCons ?_;exact h1 _ (h2 _ q)
end
theorem getAt_map {f:Int->MV}{xs:List Int}{i:Int}(h0:0≤i) (h1:i<xs.length):getAt (xs.map f) i=some (f (xs.getD i.toNat 0)):=by
 refine xE1 (Wd h0) fun j e0_1=>?_
 subst e0_1
 have hj:j<xs.length:=Zx.mp h1
 unfold getAt pyIdx
 rw[Zc,if_pos h0,if_pos (by simpa using hj)]
 simp [Zb,hj]
theorem getAt_last {f:Int->MV}{xs:List Int}{x:Int}:getAt ((xs++[x]).map f) (-1)=some (f x):=by
 unfold getAt pyIdx
 rw[Zc,Zd,Zs,if_neg (by decide),if_pos (by lia)]
 have e:(-1+((xs.length+1:Nat):Int)).toNat=xs.length:=by rw[Int.add_comm];exact Int.toNat_sub (xs.length+1) 1
 rw[Option.bind_some,e]
 simp
theorem getAt_nat {xs:List MV}{i:Nat}{u:MV}(h:xs[i]?=some u):getAt xs i=some u:=by
 have hl:=(Za.mp h).1
 unfold getAt pyIdx
 rw[if_pos (Zj _),if_pos (by simpa using hl)]
 exact h
section
variable {B:Base}{d:Nat}{ρ:RH}{c:Addr}{H:AH}{L:Lay}{D:Dat}
theorem CoreAt.seq (C:CoreAt c H L D) {n:Lb}{xs:List MV}(h:cont L D n=some xs):seqAt H (L n)=some xs:=by unfold seqAt;rw[C.ct n xs h]
theorem seqL {a:Addr}{xs:List MV}(h:H a=some (.list xs)):seqAt H a=some xs:=by unfold seqAt;rw[h]
theorem Pv.fld (C:CoreAt c H L D) {e:ME}{a:Nat}{v:MV}(hi:Pv (sig B T1 d) ρ H e (.ref c)) (ha:T1.at_ cSat a=true) (hf:fld L D a=some v):Pv (sig B T1 d) ρ H (.attr e a) v:=fun Q q=>by
 refine xE1 C.ns fun l t1_0=>aE3 t1_0 fun h1 _ h3=>?_
 refine eAttr ?_
 exact hi _ (xI5 c cSat (L .d) l v (aI6 rfl C.inst h1 ha ((h3 a).trans hf) q))
theorem Pv.fldH (C:CoreAt c H L D) {e:ME}{a:Nat}{v:MV}(hi:Pv (sig B T1 d) ρ H e (.ref (L .hp))) (ha:T1.at_ cHeap a=true) (hf:fldH L D a=some v):Pv (sig B T1 d) ρ H (.attr e a) v:=fun Q q=>by
 refine xE1 C.hns fun l t2_0=>aE3 t2_0 fun h1 _ h3=>?_
 refine eAttr ?_
 exact hi _ (xI5 (L .hp) cHeap (L .hd) l v (aI6 rfl C.hinst h1 ha ((h3 a).trans hf) q))
theorem Pv.at_ (C:CoreAt c H L D) {e i:ME}{n:Nat}{z:Int}(hi:Pv (sig B T1 d) ρ H e (.ref (L (.f n)))) (hz:Pv (sig B T1 d) ρ H i (.int z)) (hn:flat n) (h0:0≤z) (h1:z<(D.il n).length):Pv (sig B T1 d) ρ H (.sub e i) (conv n ((D.il n).getD z.toNat 0)):=
 .sub hi hz (C.seq (cont_flat hn)) (getAt_map h0 h1)
theorem Pv.atL {a:Addr}{xs:List Int}{e i:ME}{z:Int}(hi:Pv (sig B T1 d) ρ H e (.ref a)) (ha:H a=some (.list (xs.map .int))) (hz:Pv (sig B T1 d) ρ H i (.int z)) (h0:0≤z) (h1:z<xs.length):Pv (sig B T1 d) ρ H (.sub e i) (.int (xs.getD z.toNat 0)):=
 .sub hi hz (seqL ha) (getAt_map h0 h1)
theorem Pv.lenF (C:CoreAt c H L D) {j n:Nat}{e:ME}(hi:Pv (sig B T1 d) ρ H e (.ref (L (.f n)))) (hn:flat n):Pv (sig B T1 d) ρ H (.bcall j .len (.cons e .nil)) (.int (D.il n).length):=by
 have:=Pv.len (i:=j) hi (C.seq (cont_flat hn))
 rwa [Zc] at this
theorem Pv.lenL {a:Addr}{xs:List Int}{j:Nat}{e:ME}(hi:Pv (sig B T1 d) ρ H e (.ref a)) (ha:H a=some (.list (xs.map .int))):Pv (sig B T1 d) ρ H (.bcall j .len (.cons e .nil)) (.int xs.length):=by
 have:=Pv.len (i:=j) hi (seqL ha)
 rwa [Zc] at this
theorem Pv.meth (C:CoreAt c H L D) {e:ME}{m:Nat}{args:MEs}{f:Addr}{vs:List MV}{v:MV}(hi:Pv (sig B T1 d) ρ H e (.ref c)) (hm:T1.meth cSat m=some f) (hf:Mine.fld L D m=none) (ha:Pvs (sig B T1 d) ρ H args vs) (h:∀ Q:MV->AH->Prop,Q v H->SpecCall B d f (.ref c::vs) H Q) :
  Pv (sig B T1 d) ρ H (.mcall e m args) v:=fun Q q=>by
 refine xE1 C.ns fun l t3_0=>aE3 t3_0 fun h1 _ h3=>?_
 refine eMcall ?_
 refine hi _ ⟨c,rfl,?_⟩
 rw[C.inst]
 exact (xI2 l f (aI4 h1 ((h3 m).trans hf) hm (ha _ (h Q q))))
theorem Pv.methH (C:CoreAt c H L D) {e:ME}{m:Nat}{args:MEs}{f:Addr}{vs:List MV}{v:MV}(hi:Pv (sig B T1 d) ρ H e (.ref (L .hp))) (hm:T1.meth cHeap m=some f) (hf:Mine.fldH L D m=none) (ha:Pvs (sig B T1 d) ρ H args vs) (h:∀ Q:MV->AH->Prop,Q v H->SpecCall B d f (.ref (L .hp)::vs) H Q) :
  Pv (sig B T1 d) ρ H (.mcall e m args) v:=fun Q q=>by
 refine xE1 C.hns fun l t4_0=>aE3 t4_0 fun h1 _ h3=>?_
 refine eMcall ?_
 refine hi _ ⟨L .hp,rfl,?_⟩
 rw[C.hinst]
 exact (xI2 l f (aI4 h1 ((h3 m).trans hf) hm (ha _ (h Q q))))
theorem Pv.call {i:Nat}{f:Addr}{args:MEs}{vs:List MV}{v:MV}(ha:Pvs (sig B T1 d) ρ H args vs) (h:∀ Q:MV->AH->Prop,Q v H->SpecCall B d f vs H Q):Pv (sig B T1 d) ρ H (.call i f args) v:=fun Q q=>by
 refine eCall ?_;exact ha _ (h Q q)
end
section
variable {S:Sig}{ρ:RH}{H:AH}{R:Fl->RH->AH->Prop}
theorem sNil (q:R .next ρ H):wpL S .nil ρ H R:=q
theorem sExpr {e:ME}{r:MSs}(h:wpE S e ρ H fun v H=>(∀ a,v≠.ref a)∧wpL S r ρ H R):wpL S (.cons (.expr e) r) ρ H R:=h
theorem sAsg {t:MT}{e:ME}{r:MSs}(h:wpE S e ρ H fun v H=>wpA S t v ρ H fun ρ H=>wpL S r ρ H R):wpL S (.cons (.asg t e) r) ρ H R:=h
theorem sAsgT {ts:List MT}{e:ME}{r:MSs}(h:wpE S e ρ H fun v H=>∃ a xs,v=.ref a∧H a=some (.tup xs)∧xs.length=ts.length∧wpAs S ts xs ρ H fun ρ H=>wpL S r ρ H R):wpL S (.cons (.asgT ts e) r) ρ H R:=h
theorem sRet {e:ME}{r:MSs}(h:wpE S e ρ H fun v H=>R (.ret v) ρ H):wpL S (.cons (.ret e) r) ρ H R:=h
theorem sRetN {r:MSs}(h:R (.ret .none) ρ H):wpL S (.cons .retN r) ρ H R:=h
theorem sBrk {r:MSs}(h:R .brk ρ H):wpL S (.cons .brk r) ρ H R:=h
theorem sCont {r:MSs}(h:R .cont ρ H):wpL S (.cons .cont r) ρ H R:=h
noncomputable def thenL (S:Sig) (r:MSs) (R:Fl->RH->AH->Prop) (fl:Fl) (ρ:RH) (H:AH):Prop:=match fl with
 | .next=>wpL S r ρ H R
 | fl=>R fl ρ H
theorem sIfW {t:ME}{a b r:MSs}(h:wpE S t ρ H fun v H=>∃ c,v=.bool c∧if c=true then wpL S a ρ H (thenL S r R) else wpL S b ρ H (thenL S r R)):wpL S (.cons (.ifS t a b) r) ρ H R:=by
 exact h
theorem sIf {t:ME}{a b r:MSs}{c:Bool}(h:Pv S ρ H t (.bool c)) (h1:c=true->wpL S a ρ H (thenL S r R)) (h2:c=false->wpL S b ρ H (thenL S r R)):wpL S (.cons (.ifS t a b) r) ρ H R:=by
 refine sIfW (h _ ⟨c,rfl,?_⟩)
 induction c using Bool.casesOn with
 | true=>exact h1 rfl
 | false=>exact h2 rfl
theorem sSet {i:Nat}{e:ME}{v:MV}{r:MSs}(h:Pv S ρ H e v) (q:wpL S r (updR ρ i v) H R):wpL S (.cons (.asg (.name i) e) r) ρ H R:=sAsg (h _ q)
theorem sRetP {e:ME}{v:MV}{r:MSs}(h:Pv S ρ H e v) (q:R (.ret v) ρ H):wpL S (.cons (.ret e) r) ρ H R:=sRet (h _ q)
theorem sPut {e l i:ME}{a:Addr}{z:Int}{xs:List MV}{v:MV}{r:MSs}(hv:Pv S ρ H e v) (hl:Pv S ρ H l (.ref a)) (hi:Pv S ρ H i (.int z)) (ha:H a=some (.list xs)) (h0:0≤z) (h1:z<xs.length) (q:wpL S r ρ (upd H a (.list (xs.set z.toNat v))) R) :
  wpL S (.cons (.asg (.sub l i) e) r) ρ H R:=by
 refine sAsg (hv _ ?_)
 refine aSub ?_
 exact hl _ (hi _ (xI3 a z xs (aI6 rfl rfl ha h0 h1 q)))
theorem sApp {e l:ME}{a:Addr}{xs:List MV}{v:MV}{r:MSs}(hl:Pv S ρ H l (.ref a)) (hv:Pv S ρ H e v) (ha:H a=some (.list xs)) (h1:xs.length<LIM) (q:wpL S r ρ (upd H a (.list (xs++[v]))) R) :
  wpL S (.cons (.expr (.mcall l 0 (.cons e .nil))) r) ρ H R:=by
 refine sExpr ?_
 refine eMcall ?_
 refine hl _ ⟨a,rfl,?_⟩
 rw[ha]
 refine⟨by decide,?_⟩
 refine esCons ?_
 refine hv _ ?_
 refine esNil ?_
 refine⟨xs,ha,?_⟩
 exact (aI3 h1 nofun q)
end
section
variable {B:Base}{d:Nat}{ρ:RH}{c:Addr}{H:AH}{L:Lay}{D:Dat}{R:Fl->RH->AH->Prop}
theorem sPutV (C:CoreAt c H L D) {e s:ME}{a:Nat}{v:MV}{r:MSs}(hv:Pv (sig B T1 d) ρ H e v) (hs:Pv (sig B T1 d) ρ H s (.ref c)) (ha:scal a) (ht:T1.at_ cSat a=true) (hr:notRaw v=true)
  (q:∀ H',CoreAt c H' L (D.setV a v)->Stp H L D H' L (D.setV a v)->wpL (sig B T1 d) r ρ H' R):wpL (sig B T1 d) (.cons (.asg (.attr s a) e) r) ρ H R:=by
 refine sAsg (hv _ ?_)
 obtain ⟨l,h1,h2,h3⟩:=C.ns
 refine aAttr ?_
 refine hs _ (xI4 c cSat (L .d) l (aI7 rfl C.inst h1 ht hr ?_ ?_))
 ·rw[len_set _ _ _ (by rw[h3,fld_scal ha];rfl)];exact Zf h2 (by decide)
 ·obtain ⟨C',S'⟩:=C.setV ha v h1
  exact q _ C' S'
theorem sPutF (C:CoreAt c H L D) {e l i:ME}{n:Nat}{z y:Int}{v:MV}{r:MSs}(hv:Pv (sig B T1 d) ρ H e v) (hl:Pv (sig B T1 d) ρ H l (.ref (L (.f n)))) (hi:Pv (sig B T1 d) ρ H i (.int z)) (hn:flat n) (hy:v=conv n y) (h0:0≤z) (h1:z<(D.il n).length)
  (q:∀ H',CoreAt c H' L (D.setL n ((D.il n).set z.toNat y))->Stp H L D H' L (D.setL n ((D.il n).set z.toNat y))->wpL (sig B T1 d) r ρ H' R):wpL (sig B T1 d) (.cons (.asg (.sub l i) e) r) ρ H R:=by
 refine aE2 (C.setL hn ((D.il n).set z.toNat y)) fun C' S'=>?_
 refine sPut hv hl hi (C.ct (.f n) _ (cont_flat hn)) h0 (by rw[Zc];exact h1) ?_
 have:=q _ C' S'
 rw[List.map_set,← hy] at this
 exact this
theorem sAppF (C:CoreAt c H L D) {e l:ME}{n:Nat}{y:Int}{v:MV}{r:MSs}(hl:Pv (sig B T1 d) ρ H l (.ref (L (.f n)))) (hv:Pv (sig B T1 d) ρ H e v) (hn:flat n) (hy:v=conv n y) (h1:(D.il n).length<1000)
  (q:∀ H',CoreAt c H' L (D.setL n (D.il n++[y]))->Stp H L D H' L (D.setL n (D.il n++[y]))->wpL (sig B T1 d) r ρ H' R):wpL (sig B T1 d) (.cons (.expr (.mcall l 0 (.cons e .nil))) r) ρ H R:=by
 refine aE2 (C.setL hn (D.il n++[y])) fun C' S'=>?_
 refine sApp hl hv (C.ct (.f n) _ (cont_flat hn)) (by rw[Zc];exact Ya h1 (by decide)) ?_
 have:=q _ C' S'
 rw[Yg,Y4,← hy] at this
 exact this
end
section
variable {B:Base}{d:Nat}{ρ:RH}{c:Addr}{H:AH}{L:Lay}{D:Dat}
theorem Pv.atF (C:CoreAt c H L D) {s i:ME}{n:Nat}{z:Int}(hs:Pv (sig B T1 d) ρ H s (.ref c)) (hz:Pv (sig B T1 d) ρ H i (.int z)) (hn:3≤n∧n≤14) (ha:T1.at_ cSat n=true) (hc:∀ x,conv n x=.int x) (h0:0≤z) (h1:z<(D.il n).length) :
  Pv (sig B T1 d) ρ H (.sub (.attr s n) i) (.int ((D.il n).getD z.toNat 0)):=by
 have:=Pv.at_ C (.fld C hs ha (fld_list hn)) hz ⟨hn.1,by lia⟩ h0 h1
 rwa [hc] at this
end
structure Lt (n:Nat) (lit:Int):Prop where
 ne:lit≠0
 lo : -(n:Int)≤lit
 hi:lit≤n
theorem Lt.abs {n:Nat}{lit:Int}(h:Lt n lit):1≤vabs lit∧vabs lit<((n+1:Nat):Int):=by
 unfold vabs;exact ab0 h.ne h.lo h.hi
structure Shp (n:Nat) (D:Dat):Prop where
 lv:∀ k,3≤k->k≤7->(D.il k).length=n+1
 lw:D.wat.length=2*n+2
theorem Shp.l3 {n:Nat}{D:Dat}(h:Shp n D):(D.il 3).length=n+1:=h.lv 3 (by decide) (by decide)
noncomputable def valA (A:List Int) (lit:Int):Int:=if 0<lit then A.getD lit.toNat 0 else -A.getD (-lit).toNat 0
noncomputable abbrev val (D:Dat) (lit:Int):Int:=valA (D.il 3) lit
noncomputable def pl (lit:Int):Int:=if 0<lit then 2*lit else 1 - 2*lit
section
variable {B:Base}(g:Ctx B) {d n:Nat}{ρ:RH}{c:Addr}{H:AH}{L:Lay}{D:Dat}{Q:MV->AH->Prop}
include g
theorem depth_spec (hd:4≤d) (C:CoreAt c H L D) (q:Q (.int (D.il 9).length) H):SpecCall B d f_Trail_depth [.ref c] H Q:=by
 refine (Ctx.fn g (d:=0) k_Trail_depth rfl ?_).mono hd fun _ _=>id
 unfold a_Trail_depth
 exact sRetP (Pv.lenF C (n:=9) (.fld C (.var rfl) rfl rfl) ⟨by decide,by decide⟩) q
theorem value_spec (hd:4≤d) (C:CoreAt c H L D) (hs:(D.il 3).length=n+1) {lit:Int}(hl:Lt n lit) (q:Q (.int (val D lit)) H):SpecCall B d f_Trail_value [.ref c,.int lit] H Q:=by
 refine (Ctx.fn g (d:=0) k_Trail_value rfl ?_).mono hd fun _ _=>id
 unfold a_Trail_value
 obtain ⟨h0,h1,h2⟩:=hl
 refine sRetP (v:=.int (val D lit)) (Pv.ite (.gt (.var rfl) .cst) (fun p=>?_) (fun p=>?_)) q
 ·have p:=of_decide_eq_true p
  unfold val valA;rw[if_pos p]
  exact Pv.atF C (.var rfl) (.var rfl) ⟨by decide,by decide⟩ rfl (fun _=>rfl) (Ww p) (Int.lt_of_le_of_lt h2 (by rw[hs];exact Zx.mpr (Yk _)))
 ·have p:=of_decide_eq_false p
  unfold val valA;rw[if_neg p]
  exact .neg (Pv.atF C (.var rfl) (.neg (.var rfl)) ⟨by decide,by decide⟩ rfl (fun _=>rfl) (by lia) (by lia))
theorem Pv.value (C:CoreAt c H L D) {s e:ME}{lit:Int}(hi:Pv (sig B T1 d) ρ H s (.ref c)) (he:Pv (sig B T1 d) ρ H e (.int lit)) (hd:4≤d) (hs:(D.il 3).length=n+1) (hl:Lt n lit):Pv (sig B T1 d) ρ H (.mcall s 71 (.cons e .nil)) (.int (val D lit)):=
 .meth C hi rfl rfl (.cons he .nil) fun _ q=>value_spec g hd C hs hl q
theorem Pv.depth (C:CoreAt c H L D) {s:ME}(hi:Pv (sig B T1 d) ρ H s (.ref c)) (hd:4≤d):Pv (sig B T1 d) ρ H (.mcall s 72 .nil) (.int (D.il 9).length):=
 .meth C hi rfl rfl .nil fun _ q=>depth_spec g hd C q
theorem place_of_spec (hd:4≤d) {lit:Int}(q:Q (.int (pl lit)) H):SpecCall B d f_place_of [.int lit] H Q:=by
 refine (Ctx.fn g (d:=0) k_place_of rfl ?_).mono hd fun _ _=>id
 unfold a_place_of
 refine sRetP (v:=.int (pl lit)) (Pv.ite (.gt (.var rfl) .cst) (fun p=>?_) (fun p=>?_)) q
 ·have p:=of_decide_eq_true p
  unfold pl;rw[if_pos p]
  exact .mul .cst (.var rfl) (.inl (by decide))
 ·have p:=of_decide_eq_false p
  unfold pl;rw[if_neg p]
  exact .sub_ .cst (.mul .cst (.var rfl) (.inl (by decide)))
theorem Pv.place {e:ME}{lit:Int}(he:Pv (sig B T1 d) ρ H e (.int lit)) (hd:4≤d):Pv (sig B T1 d) ρ H (.call 70 f_place_of (.cons e .nil)) (.int (pl lit)):=
 .call (.cons he .nil) fun _ q=>place_of_spec g hd q
end
noncomputable def enqD (D:Dat) (lit number:Int):Dat:=
 ((((D.setL 3 ((D.il 3).set (vabs lit).toNat (if 0<lit then 1 else -1))).setL 4 ((D.il 4).set (vabs lit).toNat (D.il 9).length)).setL 5 ((D.il 5).set (vabs lit).toNat number)).setL 6 ((D.il 6).set (vabs lit).toNat (D.il 8).length)).setL 8 (D.il 8++[lit])
theorem enqueue_spec {B:Base}(g:Ctx B) {d n:Nat}{c:Addr}{H:AH}{L:Lay}{D:Dat}{Q:MV->AH->Prop}(hd:8≤d) (C:CoreAt c H L D) (hs:Shp n D) {lit number:Int}(hl:Lt n lit) (h8:(D.il 8).length<1000)
  (q:∀ H',CoreAt c H' L (enqD D lit number)->Stp H L D H' L (enqD D lit number)->Q .none H') :
  SpecCall B d f_Trail_enqueue [.ref c,.int lit,.int number] H Q:=by
 have hv:=hl.abs
 have hv0:0≤vabs lit:=Yu (by decide) hv.1
 have hb:∀ k,3≤k->k≤7->vabs lit<(D.il k).length:=fun k a b=>by rw[hs.lv k a b];exact hv.2
 refine (Ctx.fn g (d:=4) k_Trail_enqueue rfl ?_).mono hd fun _ _=>id
 unfold a_Trail_enqueue
 refine sSet (.abs (.var rfl)) ?_
 refine sPutF C (n:=3) (v:=.int (if 0<lit then 1 else -1)) (.ite (.gt (.var rfl) .cst) (fun p=>?_) (fun p=>?_)) (.fld C (.var rfl) rfl rfl) (.var rfl) ⟨by decide,by decide⟩ rfl hv0 (hb 3 (by decide) (by decide)) fun H1 C1 S1=>?_
 ·rw[if_pos (of_decide_eq_true p)];exact .glob
 ·rw[if_neg (of_decide_eq_false p)];exact .glob
 refine sPutF C1 (n:=4) (Pv.depth g C1 (.var rfl) (by decide)) (.fld C1 (.var rfl) rfl rfl) (.var rfl) ⟨by decide,by decide⟩ rfl hv0 (hb 4 (by decide) (by decide)) fun H2 C2 S2=>?_
 refine sPutF C2 (n:=5) (.var rfl) (.fld C2 (.var rfl) rfl rfl) (.var rfl) ⟨by decide,by decide⟩ rfl hv0 (hb 5 (by decide) (by decide)) fun H3 C3 S3=>?_
 refine sPutF C3 (n:=6) (Pv.lenF C3 (n:=8) (.fld C3 (.var rfl) rfl rfl) ⟨by decide,by decide⟩) (.fld C3 (.var rfl) rfl rfl) (.var rfl) ⟨by decide,by decide⟩ rfl hv0 (hb 6 (by decide) (by decide)) fun H4 C4 S4=>?_
 refine sAppF C4 (n:=8) (.fld C4 (.var rfl) rfl rfl) (.var rfl) ⟨by decide,by decide⟩ rfl h8 fun H5 C5 S5=>?_
 exact sNil (q _ C5 ((((S1.trans S2).trans S3).trans S4).trans S5))
theorem upd_upd {H:AH}{a:Addr}{o o':AO}:upd (upd H a o) a o'=upd H a o':=by
 funext b;unfold upd;split<;>rfl
section
variable {B:Base}{d:Nat}{ρ:RH}{c:Addr}{H:AH}{L:Lay}{D:Dat}{R:Fl->RH->AH->Prop}
theorem wMeth (C:CoreAt c H L D) {s:ME}{m:Nat}{args:MEs}{f:Addr}{vs:List MV}{Q:MV->AH->Prop}(hi:Pv (sig B T1 d) ρ H s (.ref c)) (hm:T1.meth cSat m=some f) (hf:fld L D m=none) (ha:Pvs (sig B T1 d) ρ H args vs) (h:SpecCall B d f (.ref c::vs) H Q) :
  wpE (sig B T1 d) (.mcall s m args) ρ H Q:=by
 refine hide fun R done=>?_
 refine xE1 C.ns fun l t0_0=>aE3 t0_0 fun h1 _ h3=>?_
 refine done ?_
 refine eMcall ?_
 refine hi _ ⟨c,rfl,?_⟩
 rw[C.inst]
 exact (xI2 l f (aI4 h1 ((h3 m).trans hf) hm (ha _ h)))
theorem wMethH (C:CoreAt c H L D) {s:ME}{m:Nat}{args:MEs}{f:Addr}{vs:List MV}{Q:MV->AH->Prop}(hi:Pv (sig B T1 d) ρ H s (.ref (L .hp))) (hm:T1.meth cHeap m=some f) (hf:fldH L D m=none) (ha:Pvs (sig B T1 d) ρ H args vs) (h:SpecCall B d f (.ref (L .hp)::vs) H Q) :
  wpE (sig B T1 d) (.mcall s m args) ρ H Q:=by
 refine hide fun R done=>?_
 refine xE1 C.hns fun l t1_0=>aE3 t1_0 fun h1 _ h3=>?_
 refine done ?_
 refine eMcall ?_
 refine hi _ ⟨L .hp,rfl,?_⟩
 rw[C.hinst]
 exact (xI2 l f (aI4 h1 ((h3 m).trans hf) hm (ha _ h)))
theorem wBnd (C:CoreAt c H L D) {s:ME}{m:Nat}{f:Addr}{Q:MV->AH->Prop}(hi:Pv (sig B T1 d) ρ H s (.ref c)) (hm:T1.meth cSat m=some f) (hf:fld L D m=none) (h:∀ a,H a=none->Q (.ref a) (upd H a (.meth f c))):wpE (sig B T1 d) (.bnd s m) ρ H Q:=by
 refine hide fun R done=>?_
 refine xE1 C.ns fun l t2_0=>aE3 t2_0 fun h1 _ h3=>?_
 refine done ?_
 refine eBnd ?_
 exact hi _ (xI5 c cSat (L .d) l f (aI6 rfl C.inst h1 ((h3 m).trans hf) hm h))
end
section
variable {S:Sig}{ρ:RH}{H:AH}{R:Fl->RH->AH->Prop}
noncomputable def turn (S:Sig) (r:MSs) (R:Fl->RH->AH->Prop) (J:RH->AH->Prop):Fl->RH->AH->Prop
 | .next,ρ,H=>J ρ H
 | .cont,ρ,H=>J ρ H
 | .brk,ρ,H=>wpL S r ρ H R
 | .ret v,ρ,H=>R (.ret v) ρ H
theorem absN {b r:MSs}{J:RH->AH->Prop}(h:∀ T:Fl->RH->AH->Prop,(∀ {ρ H},J ρ H->T .next ρ H)->wpL S b ρ H T):wpL S b ρ H (turn S r R J):=h _ id
theorem absNB {b r:MSs}{J:RH->AH->Prop}(h:∀ T:Fl->RH->AH->Prop,(∀ {ρ H},J ρ H->T .next ρ H)->(∀ {ρ H},wpL S r ρ H R->T .brk ρ H)->wpL S b ρ H T):wpL S b ρ H (turn S r R J):=h _ id id
theorem absNR {b r:MSs}{J:RH->AH->Prop}(h:∀ T:Fl->RH->AH->Prop,(∀ {ρ H},J ρ H->T .next ρ H)->(∀ {v ρ H},R (.ret v) ρ H->T (.ret v) ρ H)->wpL S b ρ H T):wpL S b ρ H (turn S r R J):=h _ id id
theorem absNCB {b r:MSs}{J:RH->AH->Prop}(h:∀ T:Fl->RH->AH->Prop,(∀ {ρ H},J ρ H->T .next ρ H)->(∀ {ρ H},J ρ H->T .cont ρ H)->(∀ {ρ H},wpL S r ρ H R->T .brk ρ H)->wpL S b ρ H T):wpL S b ρ H (turn S r R J):=h _ id id id
theorem sForI {x:Nat}{src:MR}{b r:MSs}{l:List Int}(hsrc:∀ Q:Src->AH->Prop,Q (.ints l) H->wpR S src ρ H Q) (I:Nat->RH->AH->Prop) (h0:I 0 ρ H)
  (step:∀ i y ρ H,l[i]?=some y->I i ρ H->wpL S b (updR ρ x (.int y)) H (turn S r R (I (i+1)))) (done:∀ ρ H,I l.length ρ H->wpL S r ρ H R):wpL S (.cons (.forS x src b) r) ρ H R:=by
 refine mCons (yForS ?_)
 refine hsrc _ (xI2 (fun i ρ H=>i≤l.length∧I i ρ H) l.length ⟨⟨Z2 _,h0⟩,fun i ρ H q0_=>aE2 q0_ fun hi h=>⟨hi,?_⟩⟩)
 unfold Src.next
 dsimp only
 induction q:l[i]? using Option.casesOn with
 | none=>
  have:i=l.length:=Yq hi (Yr.mp q)
  subst this
  exact done ρ H h
 | some y=>
  have hl:=(Za.mp q).1
  have:=step i y ρ H q h
  refine (congrArg (wpL S b _ _) ?_).mp this
  funext fl ρ H
  induction fl using Mine.Fl.casesOn with
  | next=>exact propext ⟨fun z=>⟨hl,z⟩,fun z=>z.2⟩
  | cont=>exact propext ⟨fun z=>⟨hl,z⟩,fun z=>z.2⟩
  | brk=>rfl
  | ret v=>rfl
theorem rUp {lo hi:ME}{n:Nat}{a z:Int}(hlo:Pv S ρ H lo (.int a)) (hhi:Pv S ρ H hi (.int z)) (ha:small a) (hz:small z) (Q:Src->AH->Prop) (q:Q (.ints (rngUp a z)) H):wpR S (.rng lo hi true n) ρ H Q:=by
 refine eRng ?_;exact hlo _ (hhi _ (xI2 a z (aI5 rfl rfl ha hz q)))
theorem rDown {lo hi:ME}{n:Nat}{a z:Int}(hlo:Pv S ρ H lo (.int a)) (hhi:Pv S ρ H hi (.int z)) (ha:small a) (hz:small z) (Q:Src->AH->Prop) (q:Q (.ints (rngDown a z)) H):wpR S (.rng lo hi false n) ρ H Q:=by
 refine eRng ?_;exact hlo _ (hhi _ (xI2 a z (aI5 rfl rfl ha hz q)))
theorem rSeq {e:ME}{a:Addr}{xs:List MV}(he:Pv S ρ H e (.ref a)) (ha:H a=some (.list xs)) (Q:Src->AH->Prop) (q:Q (.lst a) H):wpR S (.seq e) ρ H Q:=by
 refine eSeq ?_;exact he _ ⟨a,rfl,.inr ⟨⟨xs,ha⟩,q⟩⟩
theorem small_pred {i:Nat}(h:i<2000000):small ((i:Int) - 1):=⟨by omega,by omega⟩
theorem small_nat {i:Nat}(h:i<2000000):small (i:Int):=⟨by omega,by omega⟩
theorem sForN {x:Nat}{hi:ME}{k n:Nat}{b r:MSs}(hhi:Pv S ρ H hi (.int (n:Int))) (hn:n<2000000) (I:Nat->RH->AH->Prop) (h0:I 0 ρ H)
  (step:∀ i ρ H,i<n->I i ρ H->wpL S b (updR ρ x (.int (i:Int))) H (turn S r R (I (i+1)))) (done:∀ ρ H,I n ρ H->wpL S r ρ H R):wpL S (.cons (.forS x (.rng (.cst (.int 0)) hi true k) b) r) ρ H R:=by
 have hl:(rngUp 0 (n:Int)).length=n:=by unfold rngUp;rw[Zc,Z4];exact rfl
 refine sForI (rUp .cst hhi ⟨by decide,by decide⟩ (small_nat hn)) I h0 (fun i y ρ H e h=>?_) fun ρ H h=>done ρ H (hl▸h)
 have hi:=(Za.mp e).1
 rw[hl] at hi
 have:y=(i:Int):=by
  unfold rngUp at e
  rw[Zn,Yi hi] at e
  simp at e
  exact e.symm
 subst this
 exact step i ρ H hi h
theorem sForL {x:Nat}{e:ME}{a:Addr}{xs:List MV}{b r:MSs}(he:Pv S ρ H e (.ref a)) (I:Nat->RH->AH->Prop) (h0:I 0 ρ H) (hI:∀ i ρ H,I i ρ H->H a=some (.list xs))
  (step:∀ i y ρ H,xs[i]?=some y->I i ρ H->wpL S b (updR ρ x y) H (turn S r R (I (i+1)))) (done:∀ ρ H,I xs.length ρ H->wpL S r ρ H R):wpL S (.cons (.forS x (.seq e) b) r) ρ H R:=by
 refine mCons (yForS ?_)
 refine rSeq he (hI _ _ _ h0) _ (xI2 (fun i ρ H=>i≤xs.length∧I i ρ H) xs.length ⟨⟨Z2 _,h0⟩,fun i ρ H q1_=>aE2 q1_ fun hi h=>⟨hi,?_⟩⟩)
 unfold Src.next
 dsimp only
 rw[hI i ρ H h]
 dsimp only
 induction q:xs[i]? using Option.casesOn with
 | none=>
  have:i=xs.length:=Yq hi (Yr.mp q)
  subst this
  exact done ρ H h
 | some y=>
  have hl:=(Za.mp q).1
  have:=step i y ρ H q h
  refine (congrArg (wpL S b _ _) ?_).mp this
  funext fl ρ H
  induction fl using Mine.Fl.casesOn with
  | next=>exact propext ⟨fun z=>⟨hl,z⟩,fun z=>z.2⟩
  | cont=>exact propext ⟨fun z=>⟨hl,z⟩,fun z=>z.2⟩
  | brk=>rfl
  | ret v=>rfl
theorem sWhile {t:ME}{b r:MSs}(I:Nat->RH->AH->Prop) (n:Nat) (h0:I n ρ H)
  (step:∀ n ρ H,I n ρ H->wpE S t ρ H fun v H=>∃ c,v=.bool c∧if c=true then wpL S b ρ H (turn S r R fun ρ H=>∃ m,m<n∧I m ρ H) else wpL S r ρ H R):wpL S (.cons (.whileS t b) r) ρ H R:=by
 refine mCons (yWhileS ?_)
 refine⟨I,⟨n,h0⟩,fun n ρ H h=>?_⟩
 refine (congrArg (wpE S t ρ H) ?_).mp (step n ρ H h)
 funext v H
 refine congrArg Exists ?_
 funext c
 refine congrArg (And _) ?_
 induction c using Bool.casesOn with
 | false=>rfl
 | true=>
  dsimp only [if_true]
  refine congrArg (wpL S b ρ H) ?_
  funext fl ρ H
  cases fl<;>rfl
theorem wCompP {elt e:ME}{x:Nat}{conds:MEs}{a:Addr}{xs:List MV}{Q:MV->AH->Prop}(he:Pv S ρ H e (.ref a)) (ha:H a=some (.list xs)) (hl:xs.length≤1000) (f:MV->Option MV)
  (h:∀ v∈xs,∀ Q:Bool->AH->Prop,Q (f v).isSome H->wpConds S conds (updR ρ x v) H Q) (h2:∀ v∈xs,∀ u,f v=some u->Pv S (updR ρ x v) H elt u) (q:∀ b,H b=none->Q (.ref b) (upd H b (.list (xs.filterMap f)))) :
  wpE S (.comp elt [x] (.seq e) conds) ρ H Q:=by
 refine eComp ?_
 refine rSeq he ha _ (xI2 (fun i acc H'=>i≤xs.length∧acc=(xs.take i).filterMap f∧H'=H) xs.length ⟨(aI3 (Z2 _) rfl rfl),fun i acc H' q2_=>aE3 q2_ fun hi h3 h4=>(aI3 hi ?_ ?_)⟩)
 ·rw[h3]
  exact Zf (List.length_filterMap_le ..) (Zf (Vl ..) (Zf hi hl))
 ·subst h3 h4
  unfold Src.nextL
  dsimp only
  rw[ha]
  dsimp only
  induction q':xs[i]? using Option.casesOn with
  | none=>
   have:=Yr.mp q'
   intro b hb
   rw[W8 this]
   exact q b hb
  | some v=>
   have hlt:=(Za.mp q').1
   refine h v (Zg q') _ ?_
   have ht:(xs.take (i+1)).filterMap f=(xs.take i).filterMap f++[v].filterMap f:=by
    rw[Xt,q',X8,List.filterMap_append]
   induction hf:f v using Option.casesOn with
   | none=>
    rw[if_neg nofun]
    refine (aI3 hlt ?_ rfl)
    rw[ht];simp [hf]
   | some u=>
    rw[Option.isSome_some,if_pos rfl]
    refine h2 v (Zg q') u hf _ (aI3 hlt ?_ rfl)
    rw[ht];simp [hf]
theorem fm_int {p:Int->Bool}{u:Int->MV}:∀ ys:List Int,(ys.map MV.int).filterMap (fun v=>match v with | .int y=>if p y=true then some (u y) else none | _=>none)=(ys.filter p).map u
 | []=>rfl
 | y::ys=>by
  have ih:=fm_int (p:=p) (u:=u) ys
  by_cases h:p y=true
  ·rw[Z7,List.filterMap_cons_some (b:=u y) (by dsimp only;rw[if_pos h]),ih,W3 h,Z7]
  ·rw[Z7,List.filterMap_cons_none (by dsimp only;rw[if_neg h]),ih,Wb h]
theorem wCompI {elt e:ME}{x:Nat}{conds:MEs}{a:Addr}{ys:List Int}{Q:MV->AH->Prop}(he:Pv S ρ H e (.ref a)) (ha:H a=some (.list (ys.map .int))) (hl:ys.length≤1000) (p:Int->Bool) (u:Int->MV)
  (h:∀ y∈ys,∀ Q:Bool->AH->Prop,Q (p y) H->wpConds S conds (updR ρ x (.int y)) H Q) (h2:∀ y∈ys,p y=true->Pv S (updR ρ x (.int y)) H elt (u y)) (q:∀ b,H b=none->Q (.ref b) (upd H b (.list ((ys.filter p).map u)))) :
  wpE S (.comp elt [x] (.seq e) conds) ρ H Q:=by
 refine wCompP he ha (by rw[Zc];exact hl) (fun v=>match v with | .int y=>if p y=true then some (u y) else none | _=>none) (fun v hv Q q=>?_) (fun v hv w e=>?_) ?_
 ·obtain ⟨y,hy,rfl⟩:=Z3.mp hv
  refine h y hy Q ?_
  induction hp:p y using Bool.casesOn with
  | true=>simpa [hp] using q
  | false=>simpa [hp] using q
 ·obtain ⟨y,hy,rfl⟩:=Z3.mp hv
  dsimp only at e
  by_cases hp:p y=true
  ·rw[if_pos hp] at e;have e:=Option.some.inj e;subst e;exact h2 y hy hp
  ·rw[if_neg hp] at e;exact ncs e
 ·rw[fm_int];exact q
theorem cOne {e:ME}{b:Bool}(h:Pv S ρ H e (.bool b)) (Q:Bool->AH->Prop) (q:Q b H):wpConds S (.cons e .nil) ρ H Q:=by
 refine ecCons ?_
 refine h _ ⟨b,rfl,?_⟩
 induction b using Bool.casesOn with
 | true=>exact q
 | false=>exact q
end
noncomputable def ivi (D:Dat) (a:Nat):Int:=match D.iv a with | .int i=>i | _=>0
structure Scl (D:Dat):Prop where
 hook:D.iv 20=.none
 int:∀ a,(21≤a∧a≤23)∨(31≤a∧a≤37)->D.iv a=.int (ivi D a)
section
variable {S:Sig}{ρ:RH}{H:AH}
theorem wEs1 {e:ME}{Q:List MV->AH->Prop}(h:wpE S e ρ H fun v H=>Q [v] H):wpEs S (.cons e .nil) ρ H Q:=by
 exact h
theorem wCopy {i:Nat}{e:ME}{a:Addr}{xs:List MV}{Q:MV->AH->Prop}(he:Pv S ρ H e (.ref a)) (ha:H a=some (.list xs)) (q:∀ b,H b=none->Q (.ref b) (upd H b (.list xs))):wpE S (.bcall i .list (.cons e .nil)) ρ H Q:=by
 refine eBcall ?_
 exact wEs1 (he _ ⟨xs,ha,q⟩)
theorem wApp {l e:ME}{a:Addr}{Q:MV->AH->Prop}(hl:Pv S ρ H l (.ref a)) (ha:∃ xs,H a=some (.list xs)) (h:wpE S e ρ H fun v H=>∃ xs,H a=some (.list xs)∧xs.length<LIM∧Q .none (upd H a (.list (xs++[v])))):wpE S (.mcall l 0 (.cons e .nil)) ρ H Q:=by
 refine eMcall ?_
 refine hl _ ⟨a,rfl,?_⟩
 refine xE1 ha fun xs ha=>?_
 rw[ha]
 exact⟨by decide,wEs1 h⟩
end
section
variable {B:Base}{d:Nat}{ρ:RH}{c:Addr}{H:AH}{L:Lay}{D:Dat}{R:Fl->RH->AH->Prop}
theorem CoreAt.ctk (C:CoreAt c H L D) {j:Nat}{xs:List Int}(h:D.cls[j]?=some (some xs)):H (L (.k j))=some (.list (xs.map .int)):=C.ct (.k j) _ (by unfold cont;dsimp only;rw[h];rfl)
theorem CoreAt.ctw (C:CoreAt c H L D) {j:Nat}{xs:List Int}(h:D.wat[j]?=some xs):H (L (.w j))=some (.list (xs.map .int)):=C.ct (.w j) _ (by unfold cont;dsimp only;rw[h];rfl)
theorem Pv.int {e:ME}{a:Nat}(C:CoreAt c H L D) (hD:Scl D) (hs:Pv (sig B T1 d) ρ H e (.ref c)) (ha:(21≤a∧a≤23)∨(31≤a∧a≤37)) (ht:T1.at_ cSat a=true):Pv (sig B T1 d) ρ H (.attr e a) (.int (ivi D a)):=by
 rw[← hD.int a ha]
 exact .fld C hs ht (fld_scal ⟨by lia,by lia⟩)
theorem Pv.wat (C:CoreAt c H L D) {s e:ME}{i:Nat}(hs:Pv (sig B T1 d) ρ H s (.ref c)) (he:Pv (sig B T1 d) ρ H e (.int (i:Int))) (hi:i<D.wat.length):Pv (sig B T1 d) ρ H (.sub (.attr s 18) e) (.ref (L (.w i))):=
 .sub (.fld C hs rfl rfl) he (C.seq (n:=.W) rfl) (getAt_nat (by unfold rowW;rw[Zn,Yi hi];rfl))
theorem Pv.cls (C:CoreAt c H L D) {s e:ME}{j:Nat}{o:Option (List Int)}(hs:Pv (sig B T1 d) ρ H s (.ref c)) (he:Pv (sig B T1 d) ρ H e (.int (j:Int))) (hj:D.cls[j]?=some o):Pv (sig B T1 d) ρ H (.sub (.attr s 19) e) (itK L j o):=
 .sub (.fld C hs rfl rfl) he (C.seq (n:=.K) rfl) (getAt_nat (by unfold rowK;rw[Zn,Yi (Za.mp hj).1,Yx,hj];rfl))
theorem Pv.clsS (C:CoreAt c H L D) {s e:ME}{j:Nat}{xs:List Int}(hs:Pv (sig B T1 d) ρ H s (.ref c)) (he:Pv (sig B T1 d) ρ H e (.int (j:Int))) (hj:D.cls[j]?=some (some xs)):Pv (sig B T1 d) ρ H (.sub (.attr s 19) e) (.ref (L (.k j))):=Pv.cls C hs he hj
theorem Pv.lenK (C:CoreAt c H L D) {i:Nat}{s:ME}(hs:Pv (sig B T1 d) ρ H s (.ref c)):Pv (sig B T1 d) ρ H (.bcall i .len (.cons (.attr s 19) .nil)) (.int D.cls.length):=by
 have:=Pv.len (i:=i) (.fld (a:=19) C hs rfl rfl) (C.seq (n:=.K) rfl)
 unfold rowK at this
 rwa [Zc,Z4] at this
theorem sAppW (C:CoreAt c H L D) {e l:ME}{i:Nat}{y:Int}{xs:List Int}{r:MSs}(hl:Pv (sig B T1 d) ρ H l (.ref (L (.w i)))) (hv:Pv (sig B T1 d) ρ H e (.int y)) (hi:D.wat[i]?=some xs) (h1:xs.length<1000)
  (q:∀ H',CoreAt c H' L (D.setW i (xs++[y]))->Stp H L D H' L (D.setW i (xs++[y]))->wpL (sig B T1 d) r ρ H' R):wpL (sig B T1 d) (.cons (.expr (.mcall l 0 (.cons e .nil))) r) ρ H R:=by
 refine aE2 (C.setW hi (xs++[y])) fun C' S'=>?_
 refine sApp hl hv (C.ctw hi) (by rw[Zc];exact Ya h1 (by decide)) ?_
 have:=q _ C' S'
 rw[Yg,Y4] at this
 exact this
theorem sPutCr (C:CoreAt c H L D) {e s i:ME}{j:Nat}{a:Addr}{xs:List Int}{r:MSs}(hv:Pv (sig B T1 d) ρ H e (.ref a)) (hs:Pv (sig B T1 d) ρ H s (.ref c)) (hi:Pv (sig B T1 d) ρ H i (.int (j:Int))) (ha:H a=some (.list (xs.map .int))) (na:¬Foot L D a) (hj:j<D.cls.length)
  (q:∀ H',CoreAt c H' (fuL L (.k j) a) (D.setC j (some xs))->(∀ {H0 L0 D0},Stp H0 L0 D0 H L D->H0 a=none->Stp H0 L0 D0 H' (fuL L (.k j) a) (D.setC j (some xs)))->wpL (sig B T1 d) r ρ H' R):wpL (sig B T1 d) (.cons (.asg (.sub (.attr s 19) i) e) r) ρ H R:=by
 refine aE2 (C.setCr ha na hj) fun C' S'=>?_
 refine sPut hv (.fld C hs rfl rfl) hi (C.ct .K _ rfl) (Zj _) ?_ (q _ C' S')
 unfold rowK;rw[Zc,Z4];exact Zx.mpr hj
theorem sPutN (C:CoreAt c H L D) {s i:ME}{j:Nat}{r:MSs}(hs:Pv (sig B T1 d) ρ H s (.ref c)) (hi:Pv (sig B T1 d) ρ H i (.int (j:Int))) (hj:j<D.cls.length)
  (q:∀ H',CoreAt c H' L (D.setC j none)->Stp H L D H' L (D.setC j none)->wpL (sig B T1 d) r ρ H' R):wpL (sig B T1 d) (.cons (.asg (.sub (.attr s 19) i) (.cst .none)) r) ρ H R:=by
 refine aE2 (C.dropC j) fun C' S'=>?_
 refine sPut .cst (.fld C hs rfl rfl) hi (C.ct .K _ rfl) (Zj _) ?_ (q _ C' S')
 unfold rowK;rw[Zc,Z4];exact Zx.mpr hj
theorem wPutW (C:CoreAt c H L D) {s i:ME}{j:Nat}{a:Addr}{xs:List Int}{r:MSs}(hs:Pv (sig B T1 d) ρ H s (.ref c)) (hi:Pv (sig B T1 d) ρ H i (.int (j:Int))) (ha:H a=some (.list (xs.map .int))) (na:¬Foot L D a) (hj:j<D.wat.length)
  (q:∀ H',CoreAt c H' (fuL L (.w j) a) (D.setW j xs)->(∀ {H0 L0 D0},Stp H0 L0 D0 H L D->H0 a=none->Stp H0 L0 D0 H' (fuL L (.w j) a) (D.setW j xs))->wpL (sig B T1 d) r ρ H' R) :
  wpA (sig B T1 d) (.sub (.attr s 18) i) (.ref a) ρ H (fun ρ H=>wpL (sig B T1 d) r ρ H R):=by
 refine aE2 (C.setWr ha na hj) fun C' S'=>?_
 refine aSub ?_
 refine Pv.fld C hs rfl rfl _ (hi _ (xI3 _ _ _ (aI6 rfl rfl (C.ct .W _ rfl) (Zj _) ?_ (q _ C' S'))))
 unfold rowW;rw[Zc,Z4];exact Zx.mpr hj
theorem wPutR (C:CoreAt c H L D) {s:ME}{n:Nat}{a:Addr}{xs:List Int}{r:MSs}(hs:Pv (sig B T1 d) ρ H s (.ref c)) (hn:3≤n∧n≤14) (ht:T1.at_ cSat n=true) (ha:H a=some (.list (xs.map (conv n)))) (na:¬Foot L D a)
  (q:∀ H',CoreAt c H' (fuL L (.f n) a) (D.setL n xs)->(∀ {H0 L0 D0},Stp H0 L0 D0 H L D->H0 a=none->Stp H0 L0 D0 H' (fuL L (.f n) a) (D.setL n xs))->wpL (sig B T1 d) r ρ H' R) :
  wpA (sig B T1 d) (.attr s n) (.ref a) ρ H (fun ρ H=>wpL (sig B T1 d) r ρ H R):=by
 refine hide fun R done=>?_
 obtain ⟨l,h1,h2,h3⟩:=C.ns
 obtain ⟨C',S'⟩:=C.setRef hn ha na h1
 refine done ?_
 refine aAttr ?_
 refine hs _ (xI4 c cSat (L .d) l (aI7 rfl C.inst h1 ht rfl ?_ (q _ C' S')))
 rw[len_set _ _ _ (by rw[h3,fld_list hn];rfl)];exact Zf h2 (by decide)
end
noncomputable def storeD (D:Dat) (lits:List Int) (drop:Bool):Dat:=
 let D1:=(((D.addC (some lits)).setL 10 (D.il 10++[0])).setL 11 (D.il 11++[if drop then 1 else 0])).setL 12 (D.il 12++[0])
 if drop then D1.setV 23 (.int (ivi D 23+1)) else D1
theorem store_spec {B:Base}(g:Ctx B) {d:Nat}{c:Addr}{H:AH}{L:Lay}{D:Dat}{Q:MV->AH->Prop}(hd:4≤d) (C:CoreAt c H L D) (hD:Scl D) {a:Addr}{lits:List Int}{drop:Bool}(ha:H a=some (.list (lits.map .int)))
  (h:D.cls.length<1000) (h10:(D.il 10).length<1000) (h11:(D.il 11).length<1000) (h12:(D.il 12).length<1000)
  (q:∀ H' L',CoreAt c H' L' (storeD D lits drop)->Stp H L D H' L' (storeD D lits drop)->Q (.int D.cls.length) H') :
  SpecCall B d f_Trail_store [.ref c,.ref a,.none,.bool drop] H Q:=by
 refine (Ctx.fn g (d:=0) k_Trail_store rfl ?_).mono hd fun _ _=>id
 unfold a_Trail_store
 refine sSet (Pv.lenK C (.var rfl)) (sExpr ?_)
 refine wApp (.fld (a:=19) C (.var rfl) rfl rfl) ⟨_,C.ct .K _ rfl⟩ (wCopy (.var rfl) ha fun b hb=>?_)
 have C0:=C.new hb (.list (lits.map .int))
 obtain ⟨C1,S1⟩:=C0.addCr upd_eq (C.nf hb)
 have S1:=S1 ((Stp.refl (H:=H) (L:=L) (D:=D)).alloc hb (.list (lits.map .int))) hb
 refine⟨_,(aI4 (C0.ct .K _ rfl) ?_ nofun ?_)⟩
 ·unfold rowK;rw[Zc,Z4];exact Ya h (by decide)
 refine sAppF C1 (n:=10) (y:=0) (.fld C1 (.var rfl) rfl rfl) (.var rfl) ⟨by decide,by decide⟩ rfl h10 fun H2 C2 S2=>?_
 refine sAppF C2 (n:=11) (y:=if drop then 1 else 0) (.fld C2 (.var rfl) rfl rfl) (.var rfl) ⟨by decide,by decide⟩ (by cases drop<;>rfl) h11 fun H3 C3 S3=>?_
 refine sAppF C3 (n:=12) (y:=0) (.fld C3 (.var rfl) rfl rfl) .cst ⟨by decide,by decide⟩ rfl h12 fun H4 C4 S4=>?_
 have S:=((S1.trans S2).trans S3).trans S4
 refine sIf (c:=drop) (.var rfl) (fun p=>?_) (fun p=>?_)
 ·subst p
  refine sPutV C4 (.add (Pv.int C4 ⟨hD.hook,hD.int⟩ (.var rfl) (.inl ⟨by decide,by decide⟩) rfl) .cst) (.var rfl) ⟨by decide,by decide⟩ rfl rfl fun H5 C5 S5=>?_
  exact sNil (sRetP (.var rfl) (q _ _ C5 (S.trans S5)))
 ·subst p
  exact sNil (sRetP (.var rfl) (q _ _ C4 S))
noncomputable def watchD (D:Dat) (l0 l1:Int) (number:Int):Dat:=
 let D1:=D.setW (pl l0).toNat (D.wat.getD (pl l0).toNat []++[number])
 D1.setW (pl l1).toNat (D1.wat.getD (pl l1).toNat []++[number])
theorem pl_nat {n:Nat}{lit:Int}(h:Lt n lit):∃ i:Nat,pl lit=i∧(pl lit).toNat=i∧i<2*n+2:=by
 obtain ⟨h0,h1,h2⟩:=h
 refine⟨(pl lit).toNat,(aI3 ?_ rfl ?_)⟩<;>(unfold pl;split<;>lia)
theorem getD_some {α:Type}{l:List α}{i:Nat}{x:α}(h:i<l.length):l[i]?=some (l.getD i x):=by
 simp [Zb,h]
theorem watch_spec {B:Base}(g:Ctx B) {d n:Nat}{c:Addr}{H:AH}{L:Lay}{D:Dat}{Q:MV->AH->Prop}(hd:8≤d) (C:CoreAt c H L D) (hs:Shp n D) {j:Nat}{l0 l1:Int}{r:List Int}(hj:D.cls[j]?=some (some (l0::l1::r))) (h0:Lt n l0) (h1:Lt n l1)
  (hb:∀ xs∈D.wat,xs.length<900) (q:∀ H',CoreAt c H' L (watchD D l0 l1 j)->Stp H L D H' L (watchD D l0 l1 j)->Q .none H') :
  SpecCall B d f_Trail_watch [.ref c,.int j] H Q:=by
 refine hide fun R done=>?_
 refine xE1 (pl_nat h0) fun i0 t10_0=>aE3 t10_0 fun e0 t0 b0=>?_
 refine xE1 (pl_nat h1) fun i1 t11_0=>aE3 t11_0 fun e1 t1 b1=>?_
 refine done ?_
 have hw:=hs.lw
 refine (Ctx.fn g (d:=4) k_Trail_watch rfl ?_).mono hd fun _ _=>id
 unfold a_Trail_watch
 refine sSet (Pv.clsS C (.var rfl) (.var rfl) hj) ?_
 have g0:D.wat[i0]?=some (D.wat.getD i0 []):=getD_some (hw▸b0)
 have bb:(D.wat.getD i0 []).length<900:=hb _ (Zg g0)
 refine sAppW C (.wat C (.var rfl) (e0▸Pv.place g (.atL (.var rfl) (C.ctk hj) .cst (by decide) (by rw[Zm,Zm];lia)) (by decide)) (hw▸b0)) (.var rfl) g0 (Ya bb (by decide)) fun H1 C1 S1=>?_
 have g1:(D.setW i0 (D.wat.getD i0 []++[(j:Int)])).wat[i1]?=some ((D.setW i0 (D.wat.getD i0 []++[(j:Int)])).wat.getD i1 []):=getD_some (by show i1<(D.wat.set _ _).length;rw[Zp];exact hw▸b1)
 have b2:((D.setW i0 (D.wat.getD i0 []++[(j:Int)])).wat.getD i1 []).length<1000:=by
  rcases Xz (Zg g1) with z | z
  ·exact Ya (hb _ z) (by decide)
  ·rw[z,Zd];exact Zv (Nat.add_lt_add_right bb 1) (by decide)
 refine sAppW C1 (.wat C1 (.var rfl) (e1▸Pv.place g (.atL (xs:=l0::l1::r) (.var rfl) (C1.ctk hj) .cst (by decide) (by rw[Zm,Zm];lia)) (by decide)) (by show i1<(D.wat.set _ _).length;rw[Zp];exact hw▸b1)) (.var rfl) g1 b2 fun H2 C2 S2=>?_
 have:=q H2
 unfold watchD at this
 dsimp only at this
 rw[t0,t1] at this
 exact sNil (this C2 (S1.trans S2))
noncomputable def at_ (xs:List Int) (l:Int):Int:=xs.getD (vabs l).toNat 0
theorem vabs_nn (l:Int):0≤vabs l:=by unfold vabs;split<;>lia
theorem vabs_eq {l m:Int}(h:vabs l=vabs m):l=m∨l=-m:=by unfold vabs at h;split at h<;>split at h<;>lia
theorem vabs_neg (l:Int):vabs (-l)=vabs l:=by unfold vabs;split<;>split<;>lia
theorem getD_set {xs:List Int}{v i:Nat}{x:Int}(hv:v<xs.length):(xs.set v x).getD i 0=if i=v then x else xs.getD i 0:=by
 rw[Zb,Zb]
 by_cases q:i=v
 ·subst q;rw[Zh hv,if_pos rfl];rfl
 ·rw[Zi (Ne.symm q),if_neg q]
theorem at_set {xs:List Int}{l m x:Int}(hv:(vabs l).toNat<xs.length):at_ (xs.set (vabs l).toNat x) m=if vabs m=vabs l then x else at_ xs m:=by
 unfold at_
 rw[getD_set hv]
 have h1:=vabs_nn l
 have h2:=vabs_nn m
 by_cases q:vabs m=vabs l
 ·rw[if_pos q,if_pos (by rw[q])]
 ·rw[if_neg q,if_neg (fun z=>q (tni h2 h1 z))]
theorem at_neg {xs:List Int}{l:Int}:at_ xs (-l)=at_ xs l:=by unfold at_;rw[vabs_neg]
theorem valA_at (A:List Int) (l:Int):valA A l=if 0<l then at_ A l else -at_ A l:=by
 unfold valA at_ vabs
 by_cases h:0<l
 ·rw[if_pos h,if_pos h,if_neg (by lia)]
 ·rw[if_neg h,if_neg h]
  by_cases q:l<0
  ·rw[if_pos q]
  ·rw[if_neg q]
   have:l=0:=by lia
   subst this;rfl
theorem valA_neg {A:List Int}{l:Int}(h:l≠0):valA A (-l)=-valA A l:=by
 rw[valA_at,valA_at,at_neg]
 by_cases p:0<l
 ·rw[if_pos p,if_neg (by lia)]
 ·rw[if_neg p,if_pos (by lia)];lia
theorem valA_set {A:List Int}{l m x:Int}(hv:(vabs l).toNat<A.length):valA (A.set (vabs l).toNat x) m=if vabs m=vabs l then (if 0<m then x else -x) else valA A m:=by
 rw[valA_at,valA_at,at_set hv]
 by_cases q:vabs m=vabs l
 ·rw[if_pos q,if_pos q]
 ·rw[if_neg q,if_neg q]
theorem pl_inj {n:Nat}{l m:Int}(h1:Lt n l) (h2:Lt n m) (h:pl l=pl m):l=m:=by
 have a:=h1.ne;have b:=h2.ne
 unfold pl at h
 split at h<;>split at h<;>lia
theorem Lt.neg {n:Nat}{l:Int}(h:Lt n l):Lt n (-l):=by
 obtain ⟨a,b,c⟩:=h
 exact⟨by lia,by lia,by lia⟩
theorem Lt.nat {n:Nat}{l:Int}(h:Lt n l) {k:Nat}(hk:k=n+1):(vabs l).toNat<k:=by
 have:=h.abs
 exact hk▸tnv this
structure TInv (n:Nat) (il:Nat->List Int):Prop where
 lv:∀ k,3≤k->k≤7->(il k).length=n+1
 tr:∀ l∈il 8,Lt n l
 nd:(il 8).Nodup
 as1:∀ l,Lt n l->(valA (il 3) l=1↔l∈il 8)
 as0:∀ v,(il 3).getD v 0=0∨(il 3).getD v 0=1∨(il 3).getD v 0=-1
 z:(il 3).getD 0 0=0
 sp:∀ (i:Nat) l,(il 8)[i]?=some l->at_ (il 6) l=i
 st0:il 9=[]->il 8=[]
 st1:∀ s r,il 9=s::r->s=0
 st2:(il 9).Pairwise (·≤·)
 st3:∀ s∈il 9,0≤s∧s≤(il 8).length
structure Cl (n:Nat) (xs:List Int):Prop where
 two:2≤xs.length
 five:xs.length≤5
 lt:∀ l∈xs,Lt n l
 nd:(xs.map vabs).Nodup
structure WInv (n:Nat) (cls:List (Option (List Int))) (wat:List (List Int)):Prop where
 lw:wat.length=2*n+2
 cl:∀ (j:Nat) xs,cls[j]?=some (some xs)->Cl n xs
 wn:∀ (p:Nat) ys,wat[p]?=some ys->ys.Nodup
 wt:∀ (p:Nat) ys,wat[p]?=some ys->∀ y:Int,y∈ys↔∃ (j:Nat) (x0 x1:Int) (r:List Int),y=j∧cls[j]?=some (some (x0::x1::r))∧(pl x0=p∨pl x1=p)
noncomputable def RInv (il:Nat->List Int) (cls:List (Option (List Int))):Prop:=
 ∀ (i:Nat) l,(il 8)[i]?=some l->at_ (il 5) l=-1∨∃ (j:Nat) (x1:Int) (r:List Int),at_ (il 5) l=j∧cls[j]?=some (some (l::x1::r))∧∀ m∈x1::r,valA (il 3) m=-1∧at_ (il 6) m≤i
theorem valA_tri {n:Nat}{il:Nat->List Int}(T:TInv n il) (l:Int):valA (il 3) l=0∨valA (il 3) l=1∨valA (il 3) l=-1:=by
 rw[valA_at]
 have:=T.as0 (vabs l).toNat
 unfold at_
 split<;>lia
theorem TInv.false_at {n:Nat}{il:Nat->List Int}(T:TInv n il) {l:Int}(h:Lt n l) (v:valA (il 3) l=-1):∃ i:Nat,(il 8)[i]?=some (-l)∧at_ (il 6) l=i∧i<(il 8).length:=by
 have h1:valA (il 3) (-l)=1:=by rw[valA_neg h.ne,v];rfl
 have h2:=(T.as1 _ h.neg).mp h1
 obtain ⟨i,hi⟩:=Yy h2
 refine⟨i,(aI3 hi ?_ ((Za.mp hi).1))⟩
 rw[← at_neg,T.sp i _ hi]
theorem enq_il (D:Dat) (l k:Int):(enqD D l k).il=fu (fu (fu (fu (fu D.il 3 ((D.il 3).set (vabs l).toNat (if 0<l then 1 else -1))) 4 ((D.il 4).set (vabs l).toNat (D.il 9).length)) 5 ((D.il 5).set (vabs l).toNat k)) 6 ((D.il 6).set (vabs l).toNat (D.il 8).length)) 8 (D.il 8++[l]):=rfl
theorem enq_val {n:Nat}{D:Dat}(T:TInv n D.il) {l k:Int}(h:Lt n l) {m:Int}(hm:m≠0):val (enqD D l k) m=if m=l then 1 else if m=-l then -1 else val D m:=by
 show valA ((D.il 3).set _ _) m=_
 rw[valA_set (h.nat (T.lv 3 (by decide) (by decide)))]
 by_cases q:vabs m=vabs l
 ·rw[if_pos q]
  have h0:=h.ne
  rcases vabs_eq q with rfl | rfl
  ·rw[if_pos rfl];split<;>rfl
  ·rw[if_neg (show ¬(-l=l) by lia),if_pos rfl]
   split<;>split<;>lia
 ·rw[if_neg q,if_neg (fun e=>q (by rw[e])),if_neg (fun e=>q (by rw[e,vabs_neg]))]
theorem TInv.enq {n:Nat}{D:Dat}(T:TInv n D.il) {l k:Int}(h:Lt n l) (v:val D l=0) (hs:D.il 9=[]->False):TInv n (enqD D l k).il:=by
 have v':valA (D.il 3) l=0:=v
 have nl:l∉D.il 8:=fun q=>by have:=(T.as1 l h).mpr q;rw[v'] at this;cases this
 have nn : -l∉D.il 8:=fun q=>by have:=(T.as1 _ h.neg).mpr q;rw[valA_neg h.ne,v'] at this;cases this
 refine⟨fun i a b=>?_,fun m hm=>?_,?_,fun m hm=>?_,fun i=>?_,?_,fun i m e=>?_,fun e=>(hs e).elim,T.st1,T.st2,fun s m=>⟨(T.st3 s m).1,?_⟩⟩
 ·have hi:i=3∨i=4∨i=5∨i=6∨i=7:=d7 a b
  rcases hi with rfl | rfl | rfl | rfl | rfl
  ·show ((D.il 3).set _ _).length=_;rw[Zp];exact T.lv _ a b
  ·show ((D.il 4).set _ _).length=_;rw[Zp];exact T.lv _ a b
  ·show ((D.il 5).set _ _).length=_;rw[Zp];exact T.lv _ a b
  ·show ((D.il 6).set _ _).length=_;rw[Zp];exact T.lv _ a b
  ·exact T.lv _ a b
 ·rcases Zo.mp (show m∈D.il 8++[l] from hm) with q | q
  ·exact T.tr m q
  ·rw[Zl.mp q];exact h
 ·show (D.il 8++[l]).Nodup
  exact Y7.mpr (aI3 T.nd (Xo _ _) (fun a ha b hb e=>nl (by rw[← Zl.mp hb,← e];exact ha)))
 ·show val (enqD D l k) m=1↔m∈D.il 8++[l]
  rw[enq_val T h hm.ne]
  by_cases q:m=l
  ·subst q;rw[if_pos rfl];simp
  ·rw[if_neg q]
   by_cases q2:m=-l
   ·subst q2
    rw[if_pos rfl]
    refine⟨fun z=>(by cases z),fun z=>?_⟩
    rcases Zo.mp z with z | z
    ·exact (nn z).elim
    ·exact (q (Zl.mp z)).elim
   ·rw[if_neg q2,T.as1 m hm]
    simp [q]
 ·show ((D.il 3).set _ _).getD i 0=0∨((D.il 3).set _ _).getD i 0=1∨((D.il 3).set _ _).getD i 0=-1
  rw[getD_set (h.nat (T.lv 3 (by decide) (by decide)))]
  by_cases q:i=(vabs l).toNat
  ·rw[if_pos q];split
   ·exact .inr (.inl rfl)
   ·exact .inr (.inr rfl)
  ·rw[if_neg q];exact T.as0 i
 ·show ((D.il 3).set _ _).getD 0 0=0
  rw[getD_set (h.nat (T.lv 3 (by decide) (by decide)))]
  have:=h.abs
  rw[if_neg (Yd (Int.lt_toNat.mpr this.1))]
  exact T.z
 ·have e:(D.il 8++[l])[i]?=some m:=e
  show at_ ((D.il 6).set _ _) m=i
  rw[at_set (h.nat (T.lv 6 (by decide) (by decide)))]
  by_cases q:i<(D.il 8).length
  ·rw[Zu q] at e
   have hm:=Zg e
   rw[if_neg (fun z=>by
    rcases vabs_eq z with rfl | rfl
    ·exact nl hm
    ·exact nn hm)]
   exact T.sp i m e
  ·have hl:=(Za.mp e).1
   rw[Zd,Zs] at hl
   have:i=(D.il 8).length:=Yq (Yt hl) (Yj.mp q)
   subst this
   rw[Zz (Zk _),Yw] at e
   cases e
   rw[if_pos rfl]
 ·show s≤(D.il 8++[l]).length
  rw[Zd]
  have:=(T.st3 s m).2
  lia
theorem RInv.enq {n:Nat}{D:Dat}(T:TInv n D.il) (R:RInv D.il D.cls) {l k:Int}(h:Lt n l) (v:val D l=0) (hl:∀ (j:Nat) xs,D.cls[j]?=some (some xs)->∀ m∈xs,Lt n m)
  (hk:k=-1∨∃ (j:Nat) (x1:Int) (r:List Int),k=j∧D.cls[j]?=some (some (l::x1::r))∧∀ m∈x1::r,val D m=-1):RInv (enqD D l k).il D.cls:=by
 have v':valA (D.il 3) l=0:=v
 have nl:l∉D.il 8:=fun q=>by have:=(T.as1 l h).mpr q;rw[v'] at this;cases this
 have nn : -l∉D.il 8:=fun q=>by have:=(T.as1 _ h.neg).mpr q;rw[valA_neg h.ne,v'] at this;cases this
 have keep:∀ m,Lt n m->val D m=-1->val (enqD D l k) m=-1∧vabs m≠vabs l:=fun m hm hv=>by
  have hv':valA (D.il 3) m=-1:=hv
  have n1:m≠l:=fun z=>by rw[z,v'] at hv';cases hv'
  have n2:m≠-l:=fun z=>by rw[z,valA_neg h.ne,v'] at hv';cases hv'
  refine⟨by rw[enq_val T h hm.ne,if_neg n1,if_neg n2];exact hv,fun z=>?_⟩
  rcases vabs_eq z with z | z
  ·exact n1 z
  ·exact n2 z
 have hA6:=h.nat (T.lv 6 (by decide) (by decide))
 have hA5:=h.nat (T.lv 5 (by decide) (by decide))
 intro i m e
 have e:(D.il 8++[l])[i]?=some m:=e
 show at_ ((D.il 5).set _ _) m=-1∨∃ (j:Nat) (x1:Int) (r:List Int),at_ ((D.il 5).set _ _) m=j∧_∧∀ m∈x1::r,val (enqD D l k) m=-1∧at_ ((D.il 6).set _ _) m≤i
 rw[at_set hA5]
 by_cases q:i<(D.il 8).length
 ·rw[Zu q] at e
  have hm:=Zg e
  have na:vabs m≠vabs l:=fun z=>by
   rcases vabs_eq z with rfl | rfl
   ·exact nl hm
   ·exact nn hm
  rw[if_neg na]
  rcases R i m e with a | ⟨j,x1,r,a,b,f⟩
  ·exact .inl a
  ·refine .inr (xI3 j x1 r (aI3 a b (fun y hy=>?_)))
   obtain ⟨c1,c2⟩:=f y hy
   obtain ⟨d1,d2⟩:=keep y (hl j _ b y (.tail _ hy)) c1
   refine⟨d1,?_⟩
   rw[at_set hA6,if_neg d2];exact c2
 ·have hlen:=(Za.mp e).1
  rw[Zd,Zs] at hlen
  have:i=(D.il 8).length:=Yq (Yt hlen) (Yj.mp q)
  subst this
  rw[Zz (Zk _),Yw] at e
  cases e
  rw[if_pos rfl]
  rcases hk with a | ⟨j,x1,r,a,b,f⟩
  ·exact .inl a
  ·refine .inr (xI3 j x1 r (aI3 a b (fun y hy=>?_)))
   have hy':=hl j _ b y (.tail _ hy)
   obtain ⟨d1,d2⟩:=keep y hy' (f y hy)
   refine⟨d1,?_⟩
   rw[at_set hA6,if_neg d2]
   obtain ⟨i',_,e2,e3⟩:=T.false_at hy' (f y hy)
   rw[e2];lia
theorem nodup_len {α:Type} [DecidableEq α]:∀ {l L:List α},l.Nodup->(∀ x∈l,x∈L)->l.length≤L.length
 | [],L,_,_=>Z2 _
 | x::l,L,h,k=>by
  refine aE2 (Yc.mp h) fun h1 h2=>?_
  have hx:=k x (.head _)
  have:=nodup_len (L:=L.erase x) h2 fun y hy=>(List.mem_erase_of_ne (fun e:y=x=>h1 (e▸hy))).mpr (k y (.tail _ hy))
  rw[List.length_erase_of_mem hx] at this
  have:=List.length_pos_of_mem hx
  rw[Zm];exact Ze ‹_› (Xe this)
noncomputable def memW (cls:List (Option (List Int))) (p:Nat) (y:Int):Prop:=∃ (j:Nat) (x0 x1:Int) (r:List Int),y=j∧cls[j]?=some (some (x0::x1::r))∧(pl x0=p∨pl x1=p)
theorem memW_at {cls:List (Option (List Int))}{p j:Nat}{x0 x1:Int}{r:List Int}(h:cls[j]?=some (some (x0::x1::r))):memW cls p j↔(pl x0=p∨pl x1=p):=by
 constructor
 ·rintro ⟨i,y0,y1,s,e,a,b⟩
  have:=Wc.inj e;subst this
  rw[h] at a;cases a;exact b
 ·exact fun b=>⟨j,x0,x1,r,rfl,h,b⟩
theorem memW_ne {cls:List (Option (List Int))}{p j:Nat}{o:Option (List Int)}{y:Int}(h:y≠j):memW (cls.set j o) p y↔memW cls p y:=by
 constructor<;>
 ·rintro ⟨i,y0,y1,s,e,a,b⟩
  have ne:j≠i:=fun z=>h (by rw[e,z])
  refine⟨i,y0,y1,s,e,?_,b⟩
  first
   | (rw[Zi ne] at a;exact a)
   | (rw[Zi ne];exact a)
theorem WInv.mem {n:Nat}{cls:List (Option (List Int))}{wat:List (List Int)}(w:WInv n cls wat) {p:Nat}{ys:List Int}(h:wat[p]?=some ys) (y:Int):y∈ys↔memW cls p y:=w.wt p ys h y
theorem memW_lt {cls:List (Option (List Int))}{p:Nat}{y:Int}(h:memW cls p y):y∈(List.range cls.length).map (fun i:Nat=>(i:Int)):=by
 refine xE4 h fun j _ _ _ t1_0=>aE2 t1_0 fun e1_4 t1_1=>?_
 subst e1_4
 refine aE2 t1_1 fun e _=>?_
 exact Z3.mpr ⟨j,Yp.mpr (Za.mp e).1,rfl⟩
theorem WInv.len {n:Nat}{cls:List (Option (List Int))}{wat:List (List Int)}(w:WInv n cls wat) {ys:List Int}(h:ys∈wat):ys.length≤cls.length:=by
 refine xE1 (Yy h) fun p hp=>?_
 have:=nodup_len (w.wn p ys hp) fun y hy=>memW_lt ((w.mem hp y).mp hy)
 rwa [Zc,Z4] at this
theorem TInv.len {n:Nat}{il:Nat->List Int}(T:TInv n il):(il 8).length≤n:=by
 have nd:((il 8).map fun l=>(vabs l).toNat).Nodup:=by
  rw[List.Nodup,Xv]
  refine List.Pairwise.imp_of_mem (fun {a b} ha hb ne e=>?_) T.nd
  have h1:=vabs_nn a
  have h2:=vabs_nn b
  rcases vabs_eq (show vabs a=vabs b from tni h1 h2 e) with q | q
  ·exact ne q
  ·have v1:=(T.as1 a (T.tr a ha)).mpr ha
   have v2:=(T.as1 b (T.tr b hb)).mpr hb
   rw[q,valA_neg (T.tr b hb).ne,v2] at v1
   cases v1
 have:=nodup_len (L:=(List.range n).map (· + 1)) nd fun y hy=>by
  obtain ⟨l,hl,rfl⟩:=Z3.mp hy
  have:=(T.tr l hl).abs
  exact Z3.mpr ⟨(vabs l).toNat - 1,Yp.mpr (vb1 this).1,(vb1 this).2⟩
 rwa [Zc,Zc,Z4] at this
theorem Cl.swap {n:Nat}{x0 x1:Int}{r:List Int}(h:Cl n (x0::x1::r)):Cl n (x1::x0::r):=by
 have p:(x0::x1::r).Perm (x1::x0::r):=List.Perm.swap ..
 exact⟨h.two,h.five,fun l m=>h.lt l (p.mem_iff.mpr m),(p.map vabs).nodup_iff.mp h.nd⟩
theorem cls_set {n:Nat}{cls:List (Option (List Int))}{j:Nat}{ys:List Int}(hc:Cl n ys) (cl:∀ (j:Nat) xs,cls[j]?=some (some xs)->Cl n xs):∀ (i:Nat) xs,(cls.set j (some ys))[i]?=some (some xs)->Cl n xs:=fun i xs e=>by
 by_cases q:i=j
 ·subst q
  by_cases hl:i<cls.length
  ·rw[Zh hl] at e;cases e;exact hc
  ·rw[Z1 (by simpa using hl)] at e;exact ncs e
 ·rw[Zi (Ne.symm q)] at e;exact cl i xs e
theorem WInv.swap {n:Nat}{cls:List (Option (List Int))}{wat:List (List Int)}(w:WInv n cls wat) {j:Nat}{x0 x1:Int}{r:List Int}(h:cls[j]?=some (some (x0::x1::r))):WInv n (cls.set j (some (x1::x0::r))) wat:=by
 have hl:=(Za.mp h).1
 refine⟨w.lw,cls_set (w.cl j _ h).swap w.cl,w.wn,fun p ys hp y=>(w.mem hp y).trans ?_⟩
 show memW _ _ _↔memW _ _ _
 by_cases q:y=j
 ·subst q
  rw[memW_at h,memW_at (Zh hl)]
  exact Or.comm
 ·rw[memW_ne q]
theorem RInv.set {il:Nat->List Int}{cls:List (Option (List Int))}(R:RInv il cls) {j:Nat}{x0:Int}{s:List Int}(h:cls[j]?=some (some (x0::s))) (hx:∀ i:Nat,(il 8)[i]?≠some x0) (o:Option (List Int)):RInv il (cls.set j o):=fun i l e=>by
 rcases R i l e with a | ⟨k,x1,r,a,b,f⟩
 ·exact .inl a
 ·refine .inr (xI3 k x1 r (aI3 a ?_ f))
  rw[Zi]
  ·exact b
  ·rintro rfl
   rw[h] at b;cases b
   exact hx i e
theorem WInv.move {n:Nat}{cls:List (Option (List Int))}{wat wat':List (List Int)}(w:WInv n cls wat) {j p pm i:Nat}{y0 gone m:Int}{r ys zs:List Int}(h:cls[j]?=some (some (y0::gone::r))) (hm:r[i]?=some m) (hp:pl gone=p) (hpm:pl m=pm)
  (lw:wat'.length=wat.length) (hz:wat[p]?=some ys) (wp:∃ ys',wat'[p]?=some ys'∧ys'.Nodup∧∀ y,y∈ys'↔y∈ys∧y≠j) (hm2:wat[pm]?=some zs) (wm:wat'[pm]?=some (zs++[(j:Int)])) (wo:∀ q,q≠p->q≠pm->wat'[q]?=wat[q]?) :
  WInv n (cls.set j (some (y0::m::r.set i gone))) wat':=by
 have hl:=(Za.mp h).1
 have C:=w.cl j _ h
 have mr:m∈r:=Zg hm
 have nd:=C.nd
 rw[Z7,Z7,Yc,Yc,Zr] at nd
 have n1:y0≠gone:=fun e=>nd.1 (.inl (by rw[e]))
 have n2:y0≠m:=fun e=>nd.1 (.inr (by rw[e];exact Z3.mpr ⟨m,mr,rfl⟩))
 have n3:gone≠m:=fun e=>nd.2.1 (by rw[e];exact Z3.mpr ⟨m,mr,rfl⟩)
 have l0:=C.lt y0 (.head _)
 have lg:=C.lt gone (.tail _ (.head _))
 have lm:=C.lt m (.tail _ (.tail _ mr))
 have q1:pl y0≠pl gone:=fun e=>n1 (pl_inj l0 lg e)
 have q2:pl y0≠pl m:=fun e=>n2 (pl_inj l0 lm e)
 have q3:pl gone≠pl m:=fun e=>n3 (pl_inj lg lm e)
 have pn:p≠pm:=fun e=>q3 (by rw[hp,hpm,e])
 have hr:(m::r.set i gone).Perm (gone::r):=by
  obtain ⟨hi,e⟩:=Za.mp hm
  have a:r=r.take i++m::r.drop (i+1):=by
   rw[← e,← Xd hi,Wj]
  have b:r.set i gone=r.take i++gone::r.drop (i+1):=Vo .. |>.trans (by rw[if_pos hi])
  rw[b]
  refine (Wn.cons m).trans (.trans (.swap ..) ?_)
  refine List.Perm.cons gone ?_
  conv=>rhs;rw[a]
  exact Wn.symm
 have hperm:(y0::m::r.set i gone).Perm (y0::gone::r):=hr.cons y0
 have hC:Cl n (y0::m::r.set i gone):=⟨by rw[hperm.length_eq];exact C.two,by rw[hperm.length_eq];exact C.five,fun l z=>C.lt l (hperm.mem_iff.mp z),(hperm.map vabs).nodup_iff.mpr C.nd⟩
 have hn:memW (cls.set j (some (y0::m::r.set i gone)))=fun (q:Nat) (y:Int)=>(if y=j then (pl y0=q∨pl m=q) else memW cls q y):=by
  funext q y
  by_cases e:y=j
  ·subst e;rw[if_pos rfl];exact propext (memW_at (Zh hl))
  ·rw[if_neg e];exact propext (memW_ne e)
 refine⟨lw.trans w.lw,cls_set hC w.cl,fun q us hq=>?_,fun q us hq y=>?_⟩
 ·by_cases e:q=p
  ·subst e
   obtain ⟨ys',e1,e2,_⟩:=wp
   rw[e1] at hq;have hq:=Option.some.inj hq;subst hq;exact e2
  ·by_cases e':q=pm
   ·subst e'
    rw[wm] at hq;have hq:=Option.some.inj hq;subst hq
    refine Y7.mpr (aI3 (w.wn _ _ hm2) (Xo _ _) (fun a ha b hb e=>?_))
    rw[Zl.mp hb] at e
    subst e
    rcases (memW_at h).mp ((w.mem hm2 _).mp ha) with z | z
    ·exact q2 (by rw[z,hpm])
    ·exact q3 (by rw[z,hpm])
   ·rw[wo q e e'] at hq;exact w.wn q us hq
 ·show _↔memW _ q y
  rw[hn]
  dsimp only
  by_cases e:q=p
  ·subst e
   obtain ⟨ys',e1,_,e3⟩:=wp
   rw[e1] at hq;have hq:=Option.some.inj hq;subst hq
   rw[e3,w.mem hz]
   by_cases ey:y=j
   ·rw[if_pos ey]
    refine⟨fun z=>(z.2 ey).elim,fun z=>?_⟩
    rcases z with z | z
    ·exact (q1 (by rw[z,hp])).elim
    ·exact (q3 (by rw[z,hp])).elim
   ·rw[if_neg ey];exact⟨fun z=>z.1,fun z=>⟨z,ey⟩⟩
  ·by_cases e':q=pm
   ·subst e'
    rw[wm] at hq;have hq:=Option.some.inj hq;subst hq
    rw[Zo,Zl,w.mem hm2]
    by_cases ey:y=j
    ·rw[if_pos ey];exact⟨fun _=>.inr hpm,fun _=>.inr ey⟩
    ·rw[if_neg ey];exact⟨fun z=>z.resolve_right ey,.inl⟩
   ·rw[wo q e e'] at hq
    rw[w.mem hq]
    by_cases ey:y=j
    ·subst ey
     rw[if_pos rfl,memW_at h]
     refine or_congr Iff.rfl ⟨fun z=>?_,fun z=>?_⟩
     ·exact (e (by have:=hp.symm.trans z;lia)).elim
     ·exact (e' (by have:=hpm.symm.trans z;lia)).elim
    ·rw[if_neg ey]
noncomputable def moveD (D:Dat) (j:Nat) (y0 gone:Int) (r:List Int) (i:Nat):Dat:=
 (D.setC j (some (y0::r.getD i 0::r.set i gone))).setW (pl (r.getD i 0)).toNat (D.wat.getD (pl (r.getD i 0)).toNat []++[(j:Int)])
noncomputable def vafter (D:Dat) (gone:Int) (j:Nat) (y0:Int) (r:List Int):Dat × Bool × Bool:=
 if val D y0=1 then (D,true,false)
 else match r.findIdx? (fun l=>!decide (val D l=-1)) with
  | some i=>(moveD D j y0 gone r i,false,false)
  | none=>if val D y0=-1 then (D,true,true) else (enqD D y0 j,true,false)
noncomputable def vstep (D:Dat) (gone:Int) (j:Nat):List Int->Dat × Bool × Bool
 | x0::x1::r=>if x0=gone then vafter (D.setC j (some (x1::gone::r))) gone j x1 r else vafter D gone j x0 r
 | _=>(D,true,false)
noncomputable def visitL (gone:Int):List Int->Dat->List Int->Dat × List Int × Int
 | [],D,kept=>(D,kept,-1)
 | j::rest,D,kept=>match D.cls[j.toNat]?.join with
  | none=>visitL gone rest D kept
  | some xs=>if (vstep D gone j.toNat xs).2.1=false then visitL gone rest (vstep D gone j.toNat xs).1 kept
   else if (vstep D gone j.toNat xs).2.2=true then ((vstep D gone j.toNat xs).1,kept++[j]++rest,j)
   else visitL gone rest (vstep D gone j.toNat xs).1 (kept++[j])
noncomputable def visitD (D:Dat) (gone:Int):Dat × Int:=
 ((visitL gone (D.wat.getD (pl gone).toNat []) D []).1.setW (pl gone).toNat (visitL gone (D.wat.getD (pl gone).toNat []) D []).2.1,(visitL gone (D.wat.getD (pl gone).toNat []) D []).2.2)
theorem vafter_1 {D:Dat}{gone:Int}{j:Nat}{y0:Int}{r:List Int}(h:val D y0=1):vafter D gone j y0 r=(D,true,false):=if_pos h
theorem vafter_m {D:Dat}{gone:Int}{j:Nat}{y0:Int}{r:List Int}{i:Nat}(h:val D y0≠1) (hf:r.findIdx? (fun l=>!decide (val D l=-1))=some i):vafter D gone j y0 r=(moveD D j y0 gone r i,false,false):=by
 unfold vafter;rw[if_neg h,hf]
theorem vafter_c {D:Dat}{gone:Int}{j:Nat}{y0:Int}{r:List Int}(h:val D y0=-1) (hf:r.findIdx? (fun l=>!decide (val D l=-1))=none):vafter D gone j y0 r=(D,true,true):=by
 unfold vafter;rw[if_neg (by rw[h];decide),hf];exact if_pos h
theorem vafter_e {D:Dat}{gone:Int}{j:Nat}{y0:Int}{r:List Int}(h:val D y0≠1) (h2:val D y0≠-1) (hf:r.findIdx? (fun l=>!decide (val D l=-1))=none):vafter D gone j y0 r=(enqD D y0 j,true,false):=by
 unfold vafter;rw[if_neg h,hf];exact if_neg h2
structure VI (n:Nat) (gone:Int) (p:Nat) (ys0:List Int) (D:Dat) (wp:List Int):Prop where
 lt:Lt n gone
 hp:pl gone=p
 fl:val D gone=-1
 sz:D.cls.length≤16
 scl:Scl D
 t:TInv n D.il
 r:RInv D.il D.cls
 w:WInv n D.cls (D.wat.set p wp)
 w0:D.wat[p]?=some ys0
 dep:D.il 9≠[]
section
variable {n:Nat}{gone:Int}{p:Nat}{ys0:List Int}{D:Dat}{wp:List Int}
theorem VI.pl_lt (V:VI n gone p ys0 D wp):p<D.wat.length:=(Za.mp V.w0).1
theorem VI.lw (V:VI n gone p ys0 D wp):D.wat.length=2*n+2:=by have:=V.w.lw;rwa [Zp] at this
theorem VI.at_ (V:VI n gone p ys0 D wp) {j:Int}(hj:j∈wp):∃ (i:Nat) (x0 x1:Int) (r:List Int),j=i∧D.cls[i]?=some (some (x0::x1::r))∧(x0=gone∨x1=gone):=by
 refine hide fun R done=>?_
 refine xE4 ((V.w.mem (Zh V.pl_lt) j).mp hj) fun i x0 x1 r t0_0=>aE3 t0_0 fun e h q=>?_
 refine done ?_
 have C:=V.w.cl i _ h
 refine (xI4 i x0 x1 r (aI3 e h (q.imp (fun z=>pl_inj (C.lt x0 (.head _)) V.lt (z.trans V.hp.symm)) (fun z=>pl_inj (C.lt x1 (.tail _ (.head _))) V.lt (z.trans V.hp.symm)))))
theorem VI.swap (V:VI n gone p ys0 D wp) {j:Nat}{x1:Int}{r:List Int}(h:D.cls[j]?=some (some (gone::x1::r))):VI n gone p ys0 (D.setC j (some (x1::gone::r))) wp:=by
 refine⟨V.lt,V.hp,V.fl,?_,⟨V.scl.hook,V.scl.int⟩,V.t,V.r.set h (fun i e=>?_) _,V.w.swap h,V.w0,V.dep⟩
 ·show (D.cls.set _ _).length≤16;rw[Zp];exact V.sz
 ·have:=(V.t.as1 gone V.lt).mpr (Zg e)
  have e2:valA (D.il 3) gone=-1:=V.fl
  rw[e2] at this;cases this
theorem VI.enq (V:VI n gone p ys0 D wp) {j:Nat}{y0:Int}{r:List Int}(h:D.cls[j]?=some (some (y0::gone::r))) (v:val D y0=0) (hr:∀ l∈r,val D l=-1):VI n gone p ys0 (enqD D y0 j) wp:=by
 have C:=V.w.cl j _ h
 have l0:=C.lt y0 (.head _)
 refine⟨V.lt,V.hp,?_,V.sz,⟨V.scl.hook,V.scl.int⟩,V.t.enq l0 v (fun e=>V.dep e),V.r.enq V.t l0 v (fun i xs e m hm=>(V.w.cl i xs e).lt m hm) (.inr (xI3 j gone r (aI3 rfl h (fun m hm=>?_)))),V.w,V.w0,V.dep⟩
 ·have e2:val D gone=-1:=V.fl
  rw[enq_val V.t l0 V.lt.ne,if_neg,if_neg]
  ·exact e2
  ·intro z
   rw[z] at e2
   have e2:valA (D.il 3) (-y0)=-1:=e2
   have v:valA (D.il 3) y0=0:=v
   rw[valA_neg l0.ne,v] at e2;cases e2
  ·intro z;rw[z,v] at e2;cases e2
 ·rcases Zr.mp hm with rfl | hm
  ·exact V.fl
  ·exact hr m hm
theorem VI.move {kept rest:List Int}{j:Nat}(V:VI n gone p ys0 D (kept++(j:Int)::rest)) {y0 m:Int}{r:List Int}{i:Nat}(h:D.cls[j]?=some (some (y0::gone::r))) (hm:r[i]?=some m) (v0:val D y0≠1) (vm:val D m≠-1) :
  VI n gone p ys0 (moveD D j y0 gone r i) (kept++rest)∧(pl m).toNat≠p∧r.getD i 0=m∧Lt n m:=by
 have C:=V.w.cl j _ h
 have lm:=C.lt m (.tail _ (.tail _ (Zg hm)))
 have em:r.getD i 0=m:=by rw[Zb,hm];rfl
 refine hide fun R done=>?_
 refine xE1 (pl_nat lm) fun pm t1_0=>aE3 t1_0 fun e1 e2 e3=>?_
 refine done ?_
 have ne:pm≠p:=fun z=>by
  have:m=gone:=pl_inj lm V.lt (by rw[e1,V.hp,z])
  exact vm (by rw[this];exact V.fl)
 have hpm:pm<D.wat.length:=by rw[V.lw];exact e3
 refine (aI4 ?_ (by rw[e2];exact ne) em lm)
 unfold moveD
 rw[em,e2]
 have nt:∀ i:Nat,(D.il 8)[i]?≠some y0:=fun i e=>v0 ((V.t.as1 y0 (C.lt y0 (.head _))).mpr (Zg e))
 have nd:=V.w.wn p _ (Zh V.pl_lt)
 refine⟨V.lt,V.hp,V.fl,?_,⟨V.scl.hook,V.scl.int⟩,V.t,V.r.set h nt _,?_,?_,V.dep⟩
 ·show (D.cls.set _ _).length≤16;rw[Zp];exact V.sz
 ·show WInv n (D.cls.set j _) ((D.wat.set pm _).set p _)
  refine V.w.move (wat':=(D.wat.set pm (D.wat.getD pm []++[(j:Int)])).set p (kept++rest)) (pm:=pm) (zs:=D.wat.getD pm []) h hm V.hp e1 (by simp only [Zp]) (Zh V.pl_lt) ⟨kept++rest,(aI3 (Zh (by rw[Zp];exact V.pl_lt)) ?_ (fun y=>?_))⟩ ?_ ?_ fun q a b=>?_
  ·exact List.Sublist.nodup (List.Sublist.append_left (List.sublist_cons_self _ _) kept) nd
  ·have nj:(j:Int)∉kept++rest:=by
    have:=Wn.nodup_iff.mp nd
    exact (Yc.mp this).1
   rw[Zo,Zo,Zr]
   constructor
   ·intro z
    exact⟨z.imp id .inr,fun e=>nj (by rw[← e];exact Zo.mpr z)⟩
   ·rintro ⟨z,e⟩
    exact z.imp id fun w=>w.resolve_left e
  ·rw[Zi ne.symm];exact getD_some hpm
  ·rw[Zi ne.symm,Zh hpm]
  ·rw[Zi (Ne.symm a),Zi (Ne.symm b),Zi (Ne.symm a)]
 ·show (D.wat.set pm _)[p]?=_
  rw[Zi ne];exact V.w0
theorem find_none {q:Int->Bool}{r:List Int}(h:r.findIdx? q=none):∀ l∈r,q l=false:=by
 rw[List.findIdx?_eq_none_iff] at h
 exact h
theorem find_some {q:Int->Bool}{r:List Int}{i:Nat}(h:r.findIdx? q=some i):∃ m,r[i]?=some m∧q m=true∧∀ k,k<i->∀ l,r[k]?=some l->q l=false:=by
 rw[Vr] at h
 refine xE1 h fun hi t2_0=>aE2 t2_0 fun a b=>?_
 refine⟨r[i],(aI3 (Yh hi) a (fun k hk l e=>?_))⟩
 refine xE1 (Za.mp e) fun hk2 e2=>?_
 have:=b k hk
 rw[e2] at this
 simpa using this
theorem VI.after {kept rest:List Int}{j:Nat}(V:VI n gone p ys0 D (kept++(j:Int)::rest)) {y0:Int}{r:List Int}(h:D.cls[j]?=some (some (y0::gone::r))) :
  VI n gone p ys0 (vafter D gone j y0 r).1 (if (vafter D gone j y0 r).2.1=false then kept++rest else kept++(j:Int)::rest):=by
 unfold vafter
 by_cases q:val D y0=1
 ·rw[if_pos q];exact V
 ·rw[if_neg q]
  cases hf:r.findIdx? (fun l=>!decide (val D l=-1)) with
  | some i=>
   refine hide fun R done=>?_
   refine xE1 (find_some hf) fun m t4_0=>aE3 t4_0 fun hm hv _=>?_
   refine done ?_
   exact (V.move h hm q (by simpa using hv)).1
  | none=>
   have hr:=find_none hf
   by_cases q2:val D y0=-1
   ·dsimp only;rw[if_pos q2];exact V
   ·dsimp only;rw[if_neg q2]
    have v0:val D y0=0:=by
     rcases valA_tri V.t y0 with z | z | z
     ·exact z
     ·exact (q z).elim
     ·exact (q2 z).elim
    exact V.enq h v0 fun l hl=>by have:=hr l hl;simpa using this
theorem vstep_eq {j:Nat}{x0 x1:Int}{r:List Int}:vstep D gone j (x0::x1::r)=if x0=gone then vafter (D.setC j (some (x1::gone::r))) gone j x1 r else vafter D gone j x0 r:=rfl
theorem VI.step {kept rest:List Int}{j:Nat}(V:VI n gone p ys0 D (kept++(j:Int)::rest)) {x0 x1:Int}{r:List Int}(h:D.cls[j]?=some (some (x0::x1::r))) (hg:x0=gone∨x1=gone) :
  VI n gone p ys0 (vstep D gone j (x0::x1::r)).1 (if (vstep D gone j (x0::x1::r)).2.1=false then kept++rest else kept++(j:Int)::rest):=by
 rw[vstep_eq]
 by_cases q:x0=gone
 ·subst q
  rw[if_pos rfl]
  exact (V.swap h).after (Zh (Za.mp h).1)
 ·rw[if_neg q]
  have:=hg.resolve_left q
  subst this
  exact V.after h
end
theorem fu_fu {α:Type}{f:Nat->α}{n:Nat}{x y:α}:fu (fu f n x) n y=fu f n y:=by
 funext m;unfold fu;split<;>rfl
structure Vk (D D':Dat):Prop where
 iv:D'.iv=D.iv
 il:∀ k,k=7∨9≤k->D'.il k=D.il k
 cl:D'.cls.length=D.cls.length
 nn:∀ j:Nat,D.cls[j]?=some none->D'.cls[j]?=some none
 pm:∀ (j:Nat) xs,D.cls[j]?=some (some xs)->∃ ys,D'.cls[j]?=some (some ys)∧ys.Perm xs
 pre:∃ s,D'.il 8=D.il 8++s
theorem Vk.refl {D:Dat}:Vk D D:=⟨rfl,fun _ _=>rfl,rfl,fun _ h=>h,fun j xs h=>⟨xs,h,.refl _⟩,[],(Y3 _).symm⟩
theorem Vk.trans {D D' D'':Dat}(x:Vk D D') (y:Vk D' D''):Vk D D'':=by
 refine⟨y.iv.trans x.iv,fun k h=>(y.il k h).trans (x.il k h),y.cl.trans x.cl,fun j h=>y.nn j (x.nn j h),fun j xs h=>?_,?_⟩
 ·refine xE1 (x.pm j xs h) fun ys t0_0=>aE2 t0_0 fun a b=>?_
  refine xE1 (y.pm j ys a) fun zs t1_0=>aE2 t1_0 fun e f=>?_
  exact⟨zs,e,f.trans b⟩
 ·refine xE1 x.pre fun s a=>?_
  refine xE1 y.pre fun t b=>?_
  exact⟨s++t,by rw[b,a,Wh]⟩
theorem Vk.setC {D:Dat}{j:Nat}{xs ys:List Int}(h:D.cls[j]?=some (some xs)) (p:ys.Perm xs):Vk D (D.setC j (some ys)):=by
 have hl:=(Za.mp h).1
 refine⟨rfl,fun _ _=>rfl,Zp,fun i e=>?_,fun i zs e=>?_,[],(Y3 _).symm⟩
 ·show (D.cls.set j _)[i]?=_
  rw[Zi]
  ·exact e
  ·rintro rfl;rw[h] at e;cases e
 ·show ∃ ys',(D.cls.set j _)[i]?=_∧_
  by_cases q:i=j
  ·subst q
   rw[h] at e;cases e
   exact⟨ys,Zh hl,p⟩
  ·rw[Zi (Ne.symm q)]
   exact⟨zs,e,.refl _⟩
theorem Vk.setW {D:Dat}{p:Nat}{xs:List Int}:Vk D (D.setW p xs):=⟨rfl,fun _ _=>rfl,rfl,fun _ h=>h,fun j xs h=>⟨xs,h,.refl _⟩,[],(Y3 _).symm⟩
theorem Vk.enq {D:Dat}{l k:Int}:Vk D (enqD D l k):=by
 refine⟨rfl,fun i h=>?_,rfl,fun _ h=>h,fun j xs h=>⟨xs,h,.refl _⟩,[l],rfl⟩
 rw[enq_il,fu_ne (by lia),fu_ne (by lia),fu_ne (by lia),fu_ne (by lia),fu_ne (by lia)]
theorem perm_mv {y0 gone m:Int}{r:List Int}{i:Nat}(hm:r[i]?=some m):(y0::m::r.set i gone).Perm (y0::gone::r):=by
 refine xE1 (Za.mp hm) fun hi e=>?_
 have a:r=r.take i++m::r.drop (i+1):=by
  rw[← e,← Xd hi,Wj]
 have b:r.set i gone=r.take i++gone::r.drop (i+1):=Vo .. |>.trans (by rw[if_pos hi])
 refine List.Perm.cons y0 ?_
 rw[b]
 refine (Wn.cons m).trans (.trans (.swap ..) ?_)
 refine List.Perm.cons gone ?_
 conv=>rhs;rw[a]
 exact Wn.symm
theorem Vk.after {D:Dat}{gone y0:Int}{j:Nat}{r:List Int}(h:D.cls[j]?=some (some (y0::gone::r))):Vk D (vafter D gone j y0 r).1:=by
 by_cases v1:val D y0=1
 ·rw[vafter_1 v1];exact .refl
 ·cases hf:r.findIdx? (fun l=>!decide (val D l=-1)) with
  | some i=>
   refine xE1 (find_some hf) fun m t5_0=>aE3 t5_0 fun hm _ _=>?_
   rw[vafter_m v1 hf]
   have em:r.getD i 0=m:=by rw[Zb,hm];rfl
   unfold moveD
   rw[em]
   exact (Vk.setC h (perm_mv hm)).trans .setW
  | none=>
   by_cases v2:val D y0=-1
   ·rw[vafter_c v2 hf];exact .refl
   ·rw[vafter_e v1 v2 hf];exact .enq
theorem Vk.step {D:Dat}{gone x0 x1:Int}{j:Nat}{r:List Int}(h:D.cls[j]?=some (some (x0::x1::r))) (hg:x0=gone∨x1=gone):Vk D (vstep D gone j (x0::x1::r)).1:=by
 rw[vstep_eq]
 by_cases q:x0=gone
 ·subst x0
  rw[if_pos rfl]
  exact (Vk.setC h (List.Perm.swap ..)).trans (.after (Zh (Za.mp h).1))
 ·rw[if_neg q]
  have:=hg.resolve_left q
  subst x1
  exact .after h
theorem visitL_cons {gone j:Int}{rest kept xs:List Int}{D:Dat}(h:D.cls[j.toNat]?=some (some xs)):visitL gone (j::rest) D kept=if (vstep D gone j.toNat xs).2.1=false then visitL gone rest (vstep D gone j.toNat xs).1 kept
   else if (vstep D gone j.toNat xs).2.2=true then ((vstep D gone j.toNat xs).1,kept++[j]++rest,j)
   else visitL gone rest (vstep D gone j.toNat xs).1 (kept++[j]):=by
 rw[visitL,h];rfl
noncomputable def Cfl (D:Dat) (j:Int):Prop:=∃ (i:Nat) (xs:List Int),j=i∧D.cls[i]?=some (some xs)∧∀ l∈xs,val D l=-1
theorem vstep_stop {D:Dat}{gone x0 x1:Int}{j:Nat}{r:List Int}(h:D.cls[j]?=some (some (x0::x1::r))) (hg:x0=gone∨x1=gone) (hv:val D gone=-1) (s1:(vstep D gone j (x0::x1::r)).2.1=true) (s2:(vstep D gone j (x0::x1::r)).2.2=true):Cfl (vstep D gone j (x0::x1::r)).1 j:=by
 have key:∀ D y0,D.cls[j]?=some (some (y0::gone::r))->val D gone=-1->(vafter D gone j y0 r).2.1=true->(vafter D gone j y0 r).2.2=true->Cfl (vafter D gone j y0 r).1 j:=fun D y0 h hv s1 s2=>by
  by_cases v1:val D y0=1
  ·rw[vafter_1 v1] at s2;exact nft s2
  ·cases hf:r.findIdx? (fun l=>!decide (val D l=-1)) with
   | some i=>rw[vafter_m v1 hf] at s1;exact nft s1
   | none=>
    by_cases v2:val D y0=-1
    ·rw[vafter_c v2 hf]
     refine⟨j,_,rfl,h,fun l hl=>?_⟩
     rcases Zr.mp hl with rfl | hl
     ·exact v2
     ·rcases Zr.mp hl with rfl | hl
      ·exact hv
      ·have:=find_none hf l hl;simpa using this
    ·rw[vafter_e v1 v2 hf] at s2;exact nft s2
 rw[vstep_eq] at s1 s2 ⊢
 by_cases q:x0=gone
 ·subst x0
  rw[if_pos rfl] at s1 s2 ⊢
  exact key _ x1 (Zh (Za.mp h).1) hv s1 s2
 ·rw[if_neg q] at s1 s2 ⊢
  have:=hg.resolve_left q
  subst x1
  exact key _ x0 h hv s1 s2
theorem visitL_ok {n:Nat}{gone:Int}{p:Nat}{ys0:List Int}:∀ (rem:List Int) (D:Dat) (kept:List Int),VI n gone p ys0 D (kept++rem)->
  VI n gone p ys0 (visitL gone rem D kept).1 (visitL gone rem D kept).2.1∧Vk D (visitL gone rem D kept).1∧((visitL gone rem D kept).2.2=-1∨Cfl (visitL gone rem D kept).1 (visitL gone rem D kept).2.2):=by
 intro rem
 induction rem with
 | nil=>
  intro D kept V
  rw[Y3] at V
  exact (aI3 V .refl (.inl rfl))
 | cons jj rest ih=>
  intro D kept V
  refine xE4 (V.at_ (Zo.mpr (.inr (.head _)))) fun j x0 x1 r t6_0=>aE2 t6_0 fun e6_4 t6_1=>?_
  subst e6_4
  refine aE2 t6_1 fun hj hg=>?_
  have hst:=V.step hj hg
  have hk:=Vk.step hj hg
  rw[visitL_cons (by rw[Ym];exact hj),Ym]
  cases s1:(vstep D gone j (x0::x1::r)).2.1 with
  | false=>
   rw[if_pos rfl]
   rw[s1,if_pos rfl] at hst
   refine aE3 (ih _ kept hst) fun a b e=>?_
   exact (aI3 a (hk.trans b) e)
  | true=>
   rw[if_neg nofun]
   rewrite [s1,if_neg nofun] at hst
   have el:kept++(j:Int)::rest=kept++[(j:Int)]++rest:=by rw[Wh];rfl
   rw[el] at hst
   cases s2:(vstep D gone j (x0::x1::r)).2.2 with
   | true=>rw[if_pos rfl];exact (aI3 hst hk (.inr (vstep_stop hj hg V.fl s1 s2)))
   | false=>
    rw[if_neg nofun]
    refine aE3 (ih _ (kept++[(j:Int)]) hst) fun a b e=>?_
    exact (aI3 a (hk.trans b) e)
structure Inv (n:Nat) (D:Dat):Prop where
 n1:1≤n
 n8:n≤8
 sz:D.cls.length≤16
 scl:Scl D
 t:TInv n D.il
 r:RInv D.il D.cls
 w:WInv n D.cls D.wat
 h0:0≤ivi D 21
 h1:ivi D 21≤(D.il 8).length
theorem VI.start {n:Nat}{D:Dat}{gone:Int}(sz:D.cls.length≤16) (scl:Scl D) (t:TInv n D.il) (r:RInv D.il D.cls) (w:WInv n D.cls D.wat) (dep:D.il 9≠[]) (lt:Lt n gone) (fl:val D gone=-1) :
  VI n gone (pl gone).toNat (D.wat.getD (pl gone).toNat []) D (D.wat.getD (pl gone).toNat []):=by
 refine hide fun R done=>?_
 refine xE1 (pl_nat lt) fun p t9_0=>aE3 t9_0 fun e1 e2 e3=>?_
 refine done ?_
 rw[e2]
 have hp:p<D.wat.length:=by rw[w.lw];exact e3
 have gp:D.wat[p]?=some (D.wat.getD p []):=getD_some hp
 have e:D.wat.set p (D.wat.getD p [])=D.wat:=by
  refine Xw fun i=>?_
  by_cases q:i=p
  ·subst q;rw[Zh hp,gp]
  ·rw[Zi (Ne.symm q)]
 exact⟨lt,e1,fl,sz,scl,t,r,by rw[e];exact w,gp,dep⟩
theorem ivi_of {D D':Dat}(h:D'.iv=D.iv) (a:Nat):ivi D' a=ivi D a:=by unfold ivi;rw[h]
theorem pre_len {D D':Dat}(h:Vk D D'):(D.il 8).length≤(D'.il 8).length:=by
 refine xE1 h.pre fun s e=>?_
 rw[e,Zd];lia
theorem Inv.visit {n:Nat}{D:Dat}(I:Inv n D) (dep:D.il 9≠[]) {gone:Int}(lt:Lt n gone) (fl:val D gone=-1) :
  Inv n (visitD D gone).1∧Vk D (visitD D gone).1∧((visitD D gone).2=-1∨Cfl (visitD D gone).1 (visitD D gone).2):=by
 have V:=VI.start I.sz I.scl I.t I.r I.w dep lt fl
 refine aE3 (visitL_ok (D.wat.getD (pl gone).toNat []) D [] V) fun a b e=>?_
 have k:Vk D (visitD D gone).1:=b.trans .setW
 exact (aI3 ⟨I.n1,I.n8,a.sz,⟨a.scl.hook,a.scl.int⟩,a.t,a.r,a.w,by rw[ivi_of k.iv];exact I.h0,by rw[ivi_of k.iv];have:=I.h1;have:=pre_len k;lia⟩ k e)
noncomputable def propF:Nat->Dat->Dat × Int
 | 0,D=>(D,-1)
 | f+1,D=>if ivi D 21<(D.il 8).length then
   (if (visitD (D.setV 21 (.int (ivi D 21+1))) (-((D.il 8).getD (ivi D 21).toNat 0))).2=-1 then propF f (visitD (D.setV 21 (.int (ivi D 21+1))) (-((D.il 8).getD (ivi D 21).toNat 0))).1
   else ((visitD (D.setV 21 (.int (ivi D 21+1))) (-((D.il 8).getD (ivi D 21).toNat 0))).1.setV 21 (.int ((visitD (D.setV 21 (.int (ivi D 21+1))) (-((D.il 8).getD (ivi D 21).toNat 0))).1.il 8).length),(visitD (D.setV 21 (.int (ivi D 21+1))) (-((D.il 8).getD (ivi D 21).toNat 0))).2))
  else (D,-1)
noncomputable def propD (D:Dat):Dat × Int:=propF (9 - (ivi D 21).toNat) D
theorem scl_set {D:Dat}(h:Scl D) {a:Nat}{v:Int}(ha:a≠20):Scl (D.setV a (.int v)):=by
 refine⟨?_,fun b z=>?_⟩
 ·show fu D.iv a _ 20=_;rw[fu_ne (Ne.symm ha)];exact h.hook
 ·unfold ivi
  show fu D.iv a (.int v) b=.int (match fu D.iv a (.int v) b with | .int i=>i | _=>0)
  by_cases q:b=a
  ·subst q;rw[fu_eq]
  ·rw[fu_ne q];exact h.int b z
theorem ivi_set {D:Dat}{a:Nat}{v:Int}:ivi (D.setV a (.int v)) a=v:=by
 unfold ivi Dat.setV;dsimp only;rw[fu_eq]
theorem Inv.head {n:Nat}{D:Dat}(I:Inv n D) {z:Int}(h0:0≤z) (h1:z≤(D.il 8).length):Inv n (D.setV 21 (.int z)):=
 ⟨I.n1,I.n8,I.sz,scl_set I.scl (by decide),I.t,I.r,I.w,by rw[ivi_set];exact h0,by rw[ivi_set];exact h1⟩
theorem Inv.gone {n:Nat}{D:Dat}(I:Inv n D) (h:ivi D 21<(D.il 8).length):Lt n (-((D.il 8).getD (ivi D 21).toNat 0))∧val D (-((D.il 8).getD (ivi D 21).toNat 0))=-1:=by
 have hm:(D.il 8).getD (ivi D 21).toNat 0∈D.il 8:=Zg (getD_some (by have:=I.h0;exact (Ve this).mpr h))
 have l:=I.t.tr _ hm
 refine⟨l.neg,?_⟩
 show valA (D.il 3) _=-1
 rw[valA_neg l.ne,(I.t.as1 _ l).mpr hm]
theorem Inv.prop {n:Nat}:∀ (f:Nat) (D:Dat),Inv n D->D.il 9≠[]->Inv n (propF f D).1∧(∀ k,k=7∨9≤k->(propF f D).1.il k=D.il k)∧(∀ a,a≠21->(propF f D).1.iv a=D.iv a)∧Vk (D.setV 21 .none) ((propF f D).1.setV 21 .none)∧((propF f D).2=-1∨Cfl (propF f D).1 (propF f D).2):=by
 intro f
 induction f with
 | zero=>
  intro D I dep
  exact (aI5 I (fun _ _=>rfl) (fun _ _=>rfl) .refl (.inl rfl))
 | succ f ih=>
  intro D I dep
  unfold propF
  by_cases h:ivi D 21<(D.il 8).length
  ·rw[if_pos h]
   refine hide fun R done=>?_
   refine aE2 (I.gone h) fun lg fg=>?_
   have h0:=I.h0
   have I1:Inv n (D.setV 21 (.int (ivi D 21+1))):=I.head (by lia) h
   refine aE3 (I1.visit dep lg fg) fun I2 k2 c2=>?_
   refine done ?_
   generalize visitD (D.setV 21 (.int (ivi D 21+1))) (-((D.il 8).getD (ivi D 21).toNat 0))=s at I2 k2 c2 ⊢
   have iv2:∀ a,a≠21->s.1.iv a=D.iv a:=fun a ha=>by rw[k2.iv];exact fu_ne ha
   have kk:Vk (D.setV 21 .none) (s.1.setV 21 .none):=by
    refine⟨?_,fun k hk=>k2.il k hk,k2.cl,k2.nn,k2.pm,k2.pre⟩
    funext a
    show fu s.1.iv 21 .none a=fu D.iv 21 .none a
    by_cases q:a=21
    ·subst q;rw[fu_eq,fu_eq]
    ·rw[fu_ne q,fu_ne q];exact iv2 a q
   by_cases e:s.2=-1
   ·rw[if_pos e]
    refine hide fun R done=>?_
    obtain ⟨a1,a2,a3,a4,a5⟩:=ih s.1 I2 (by rw[k2.il 9 (.inr (Zk _))];exact dep)
    refine done ?_
    exact (aI5 a1 (fun k hk=>(a2 k hk).trans (k2.il k hk)) (fun a ha=>(a3 a ha).trans (iv2 a ha)) (kk.trans a4) a5)
   ·rw[if_neg e]
    refine (aI5 (I2.head (Zj _) (by lia)) (fun k hk=>k2.il k hk) (fun a ha=>?_) ?_ (.inr (c2.resolve_left e)))
    ·show fu s.1.iv 21 _ a=_;rw[fu_ne ha];exact iv2 a ha
    ·have:(s.1.setV 21 (.int (s.1.il 8).length)).setV 21 .none=s.1.setV 21 .none:=by
      unfold Dat.setV;dsimp only;rw[fu_fu]
     dsimp only
     rw[this];exact kk
  ·rw[if_neg h];exact (aI5 I (fun _ _=>rfl) (fun _ _=>rfl) .refl (.inl rfl))
section
variable {S:Sig}{ρ:RH}{H:AH}{R:Fl->RH->AH->Prop}
theorem Pv.to {e:ME}{x y:Bool}(h:Pv S ρ H e (.bool x)) (q:x=y):Pv S ρ H e (.bool y):=q▸h
theorem Pv.toI {e:ME}{x y:Int}(h:Pv S ρ H e (.int x)) (q:x=y):Pv S ρ H e (.int y):=q▸h
theorem sNilT {r:MSs}(q:wpL S r ρ H R):wpL S .nil ρ H (thenL S r R):=sNil q
theorem Pv.at0 {e:ME}{a:Addr}{x0:Int}{r:List Int}(he:Pv S ρ H e (.ref a)) (ha:H a=some (.list ((x0::r).map .int))):Pv S ρ H (.sub e (.cst (.int 0))) (.int x0):=.sub he .cst (seqL ha) (getAt_nat (i:=0) rfl)
theorem Pv.at1 {e:ME}{a:Addr}{x0 x1:Int}{r:List Int}(he:Pv S ρ H e (.ref a)) (ha:H a=some (.list ((x0::x1::r).map .int))):Pv S ρ H (.sub e (.cst (.int 1))) (.int x1):=.sub he .cst (seqL ha) (getAt_nat (i:=1) rfl)
end
noncomputable def Ex (H H':AH):Prop:=∀ b,H b≠none->H' b=H b
theorem Ex.refl {H:AH}:Ex H H:=fun _ _=>rfl
theorem Ex.trans {H H' H'':AH}(x:Ex H H') (y:Ex H' H''):Ex H H'':=fun b h=>by rw[y b (by rw[x b h];exact h),x b h]
theorem Ex.new {H:AH}{a:Addr}(h:H a=none) (o:AO):Ex H (upd H a o):=fun b z=>upd_ne fun q=>z (q▸h)
theorem Ex.core {c:Addr}{H H':AH}{L:Lay}{D:Dat}(x:Ex H H') (C:CoreAt c H L D):CoreAt c H' L D:=C.keep fun b f=>x b (f.alive C)
theorem Ex.stp {H H':AH}{L:Lay}{D:Dat}(x:Ex H H'):Stp H L D H' L D:=⟨fun b _ h=>x b h,fun b f=>.inl f,fun b h=>by rw[x b h];exact h⟩
theorem All2.mono {α β:Type}{R R':α->β->Prop}{as:List α}{bs:List β}(h:All2 R as bs) (k:∀ a b,R a b->R' a b):All2 R' as bs:=by
 induction h with
 | nil=>exact .nil
 | cons x _ ih=>exact .cons (k _ _ x) ih
theorem wKeysT {S:Sig}{key:MV}{R:List MV->AH->Prop}(f1 f2:Int->Int):∀ (zs:List Int) (H:AH),(∀ z∈zs,∀ H',Ex H H'->∀ Q:MV->AH->Prop,(∀ a,H' a=none->Q (.ref a) (upd H' a (.tup [.int (f1 z),.int (f2 z)])))->wpKeyFn S key (.int z) H' Q)->
  (∀ kvs H',Ex H H'->All2 (KeyIs H') kvs (zs.map fun z=>[f1 z,f2 z])->R kvs H')->wpKeys S key (zs.map .int) H R
 | [],H,h,q=>by
  exact q [] H .refl .nil
 | z::zs,H,h,q=>by
  refine h z (.head _) H .refl _ fun a ha=>?_
  refine wKeysT f1 f2 zs _ (fun y hy H' x=>h y (.tail _ hy) H' ((Ex.new ha _).trans x)) fun kvs H' x k=>q _ H' ((Ex.new ha _).trans x) ?_
  refine .cons (.inr (xI3 a (f1 z) (f2 z) (aI3 rfl ?_ rfl))) k
  rw[x a (by rw[upd_eq];exact nofun),upd_eq]
theorem wKeysI {S:Sig}{key:MV}{R:List MV->AH->Prop}(f:Int->Int):∀ (zs:List Int) (H:AH),(∀ z∈zs,∀ Q:MV->AH->Prop,Q (.int (f z)) H->wpKeyFn S key (.int z) H Q)->
  (∀ kvs,All2 (KeyIs H) kvs (zs.map fun z=>[f z])->R kvs H)->wpKeys S key (zs.map .int) H R
 | [],H,h,q=>by
  exact q [] .nil
 | z::zs,H,h,q=>by
  exact h z (.head _) _ (wKeysI f zs H (fun y hy=>h y (.tail _ hy)) fun kvs k=>q _ (.cons (.inl ⟨_,rfl,rfl⟩) k))
theorem sort_ints {rev:Bool}(f:Int->List Int) {zs:List Int}{ys:List MV}(h:SortOut rev (zs.map f) (zs.map .int) ys) :
  ∃ ws:List Int,ys=ws.map .int∧ws.Perm zs∧ws.Pairwise fun a b=>if rev then lexLe (f b) (f a)=true else lexLe (f a) (f b)=true:=by
 refine aE2 h fun p0_0 _=>?_
 obtain ⟨ps,hp,rfl,hs⟩:=p0_0
 have hz:(zs.map f).zip (zs.map MV.int)=zs.map fun z=>(f z,MV.int z):=by
  rw[List.zip_map',]
 rw[hz] at hp
 let hh:List Int × MV->Int:=fun p=>match p.2 with | .int z=>z | _=>0
 have e:∀ p∈ps,p=(f (hh p),MV.int (hh p)):=fun p hm=>by
  refine xE1 (Z3.mp (hp.mem_iff.mp hm)) fun z t1_0=>aE2 t1_0 fun _ e1_2=>?_
  subst e1_2
  rfl
 have e2:ps=(ps.map hh).map fun z=>(f z,MV.int z):=by
  rw[Y0]
  exact (List.map_id'' (fun p=>rfl) ps).symm.trans (Yb e)
 refine⟨ps.map hh,(aI3 ?_ ?_ ?_)⟩
 ·rw[Y0]
  exact Yb fun p hm=>by rw[e p hm];rfl
 ·have:=hp.map hh
  rw[Y0] at this
  exact this.trans (by rw[show (hh ∘ fun z=>(f z,MV.int z))=id from rfl,List.map_id])
 ·rw[Xv]
  refine List.Pairwise.imp_of_mem (fun {a b} ha hb r=>?_) hs
  rw[e a ha,e b hb] at r
  exact r
noncomputable def SrtP (xs ys:List Int):Prop:=ys.Perm xs∧ys.Pairwise fun a b=>vabs a≤vabs b
theorem lex_abs {a b c d:Int}(h:lexLe [a,b] [c,d]=true):a≤c:=by
 unfold lexLe at h
 split at h
 ·rename_i q;rw[beq_iff_eq] at q;lia
 ·have:=of_decide_eq_true h;lia
theorem order_key_spec {B:Base}(g:Ctx B) {d:Nat}{H:AH}{Q:MV->AH->Prop}{lit:Int}(hd:4≤d) (q:∀ a,H a=none->Q (.ref a) (upd H a (.tup [.int (vabs lit),.int lit]))):SpecCall B d f_order_key [.int lit] H Q:=by
 refine (Ctx.fn g (d:=0) k_order_key rfl ?_).mono hd fun _ _=>id
 unfold a_order_key
 refine sRet ?_
 refine eTup ?_
 exact Pvs.cons (.abs (.var rfl)) (.cons (.var rfl) .nil) _ q
noncomputable def heightD (D:Dat) (l:Int):Int:=if val D l≠-1 then (D.il 9).length+1 else (D.il 4).getD (vabs l).toNat 0
theorem height_spec {B:Base}(g:Ctx B) {d n:Nat}{c:Addr}{H:AH}{L:Lay}{D:Dat}{Q:MV->AH->Prop}(hd:8≤d) (C:CoreAt c H L D) (h3:(D.il 3).length=n+1) (h4:(D.il 4).length=n+1) {lit:Int}(hl:Lt n lit) (q:Q (.int (heightD D lit)) H) :
  SpecCall B d f_Trail_height [.ref c,.int lit] H Q:=by
 refine (Ctx.fn g (d:=4) k_Trail_height rfl ?_).mono hd fun _ _=>id
 unfold a_Trail_height
 unfold heightD at q
 refine sIf (.ne (Pv.value g C (.var rfl) (.var rfl) (by decide) h3 hl) .glob) (fun p=>?_) (fun p=>?_)
 ·have p:val D lit≠-1:=by simpa using p
  rw[if_pos p] at q
  exact sRetP (.add (Pv.depth g C (.var rfl) (by decide)) .cst) q
 ·have p:val D lit=-1:=by simpa using p
  rw[if_neg (by rw[p];simp)] at q
  have:=hl.abs
  exact sNil (sRetP (Pv.atF C (n:=4) (.var rfl) (.abs (.var rfl)) ⟨by decide,by decide⟩ rfl (fun _=>rfl) (by lia) (by rw[h4];exact this.2)) q)
theorem by_heights_spec {B:Base}(g:Ctx B) {d n:Nat}{c:Addr}{H:AH}{L:Lay}{D:Dat}{Q:MV->AH->Prop}(hd:12≤d) (C:CoreAt c H L D) (hs:Shp n D) {a:Addr}{xs:List Int}(ha:H a=some (.list (xs.map .int))) (hx:∀ l∈xs,Lt n l∧val D l=0) (hl:xs.length<64)
  (q:∀ ys b H',SrtP xs ys->Ex H H'->H b=none->H' b=some (.list (ys.map .int))->Q (.ref b) H'):SpecCall B d f_Trail_by_heights [.ref c,.ref a] H Q:=by
 refine (Ctx.fn g (d:=8) k_Trail_by_heights rfl ?_).mono hd fun _ _=>id
 unfold a_Trail_by_heights
 refine sAsg ?_
 refine eSortK ?_
 refine Pv.var rfl _ (Pv.glob _ ⟨a,_,rfl,ha,⟨trivial,by rw[Zc];exact hl⟩,?_⟩)
 refine wKeysT vabs id xs H (fun z hz H' x Q q=>.inr (order_key_spec g (by decide) q)) fun kvs H1 x1 k1=>(xI2 _ 2 (aI3 k1 (fun k hk=>?_) (fun ys so b hb=>?_)))
 ·obtain ⟨z,_,rfl⟩:=Z3.mp hk;rfl
 obtain ⟨ws,rfl,hp,hw⟩:=sort_ints (fun z=>[vabs z,z]) so
 have hb0:H b=none:=Classical.byContradiction fun z=>by rw[x1 b z] at hb;exact z hb
 have C1:=x1.core C
 have C2:=C1.new hb (.list (ws.map .int))
 have n2:=C1.nf hb
 show wpL _ _ (updR _ 57 (.ref b)) (upd H1 b _) _
 have hlen:ws.length<64:=by rw[hp.length_eq];exact hl
 refine sExpr ?_
 refine eLsortK ?_
 refine Pv.var rfl _ (xI2 b _ (aI3 rfl upd_eq ?_))
 refine wBnd C2 (.var rfl) rfl rfl fun m hm=>?_
 have hmb:m≠b:=fun z=>by rw[z,upd_eq] at hm;exact nsc hm
 refine⟨ws.map .int,by rw[upd_ne hmb.symm,upd_eq],⟨trivial,by rw[Zc];exact hlen⟩,?_⟩
 generalize hH3:del (upd (upd H1 b (.list (ws.map .int))) m (.meth f_Trail_height c)) b=H3
 have x3:∀ z,z≠b->z≠m->H3 z=H1 z:=fun z h1 h2=>by
  rw[← hH3];unfold del;rw[if_neg h1,upd_ne h2,upd_ne h1]
 have hm1:H1 m=none:=by rw[upd_ne hmb] at hm;exact hm
 have C3:CoreAt c H3 L D:=C1.keep fun z f=>x3 z (fun e=>n2 (e▸f)) (fun e=>f.alive C1 (e▸hm1))
 have m3:H3 m=some (.meth f_Trail_height c):=by rw[← hH3];unfold del;rw[if_neg hmb,upd_eq]
 refine wKeysI (fun _=>(D.il 9).length+1) ws H3 (fun z hz Q q=>.inl (xI2 _ _ ⟨m3,?_⟩)) fun kvs k2=>(xI2 _ 1 (aI3 k2 (fun k hk=>?_) (fun ys so2=>⟨nofun,?_⟩)))
 ·have hz':=hx z (hp.mem_iff.mp hz)
  refine height_spec g (by decide) C3 hs.l3 (hs.lv 4 (by decide) (by decide)) hz'.1 ?_
  unfold heightD
  rw[if_pos (by rw[hz'.2];decide)]
  exact q
 ·obtain ⟨z,_,rfl⟩:=Z3.mp hk;rfl
 have:=so2.2 ⟨[((D.il 9).length:Int)+1],fun k hk=>by obtain ⟨z,_,rfl⟩:=Z3.mp hk;rfl⟩
 subst this
 refine sRetP (.var rfl) (q ws b _ ⟨hp,hw.imp fun h=>lex_abs h⟩ (fun z hz=>?_) hb0 upd_eq)
 have zb:z≠b:=fun e=>hz (e▸hb0)
 have z1:=x1 z hz
 rw[upd_ne zb,x3 z zb (fun e=>hz (Classical.byContradiction fun w=>by rw[← e] at hm1;rw[z1] at hm1;exact hz hm1))]
 exact z1
noncomputable def placeD (D:Dat) (j:Nat) (ys:List Int):Dat:=watchD (D.setC j (some ys)) (ys.getD 0 0) (ys.getD 1 0) j
theorem place_spec {B:Base}(g:Ctx B) {d n:Nat}{c:Addr}{H:AH}{L:Lay}{D:Dat}{Q:MV->AH->Prop}(hd:16≤d) (C:CoreAt c H L D) (hs:Shp n D) {j:Nat}{xs:List Int}(hj:D.cls[j]?=some (some xs)) (hx:∀ l∈xs,Lt n l∧val D l=0) (h2:2≤xs.length) (hl:xs.length<64)
  (hb:∀ xs∈D.wat,xs.length<900) (q:∀ ys H' L',SrtP xs ys->CoreAt c H' L' (placeD D j ys)->Stp H L D H' L' (placeD D j ys)->Q (.int (-1)) H'):SpecCall B d f_Trail_place [.ref c,.int j] H Q:=by
 refine (Ctx.fn g (d:=12) k_Trail_place rfl ?_).mono hd fun _ _=>id
 unfold a_Trail_place
 have hjl:=(Za.mp hj).1
 refine sIf (.lt (.lenL (.clsS C (.var rfl) (.var rfl) hj) (C.ctk hj)) .cst) (fun p=>absurd (of_decide_eq_true p) (by lia)) (fun _=>sNil ?_)
 refine sAsg (wMeth C (f:=f_Trail_by_heights) (.var rfl) rfl rfl (.cons (.clsS C (.var rfl) (.var rfl) hj) .nil) ?_)
 refine by_heights_spec g (by decide) C hs (C.ctk hj) hx hl fun ys b H1 so x1 hb0 h1=>?_
 have C1:=x1.core C
 have nb:¬Foot L D b:=C.nf hb0
 show wpL _ _ (updR _ 56 (.ref b)) H1 _
 refine sPutCr C1 (.var rfl) (.var rfl) (.var rfl) h1 nb hjl fun H2 C2 S2=>?_
 have S2:=S2 x1.stp hb0
 have h2':H2 b=some (.list (ys.map .int)):=by
  have:=C2.ctk (j:=j) (xs:=ys) (by show (D.cls.set j _)[j]?=_;rw[Zh hjl])
  rwa [fuL_eq] at this
 have hys:=so.1
 have yl:ys.length=xs.length:=hys.length_eq
 match ys,yl with
 | l0::l1::r,yl=>
  have hm0:=hx l0 (hys.mem_iff.mp (.head _))
  have hm1:=hx l1 (hys.mem_iff.mp (.tail _ (.head _)))
  have s2:Shp n (D.setC j (some (l0::l1::r))):=⟨hs.lv,hs.lw⟩
  have j2:(D.setC j (some (l0::l1::r))).cls[j]?=some (some (l0::l1::r)):=by show (D.cls.set j _)[j]?=_;rw[Zh hjl]
  refine sIf (.gt (.lenL (.var rfl) h2') .cst) (fun _=>?_) (fun p=>absurd (of_decide_eq_false p) (by rw[Zm,Zm];exact fun z=>z (Zx.mpr (X0 (Xl _)))))
  refine sExpr (wMeth C2 (f:=f_Trail_watch) (.var rfl) rfl rfl (.cons (.var rfl) .nil) ?_)
  refine watch_spec g (by decide) C2 s2 j2 hm0.1 hm1.1 hb fun H3 C3 S3=>⟨nofun,sNil ?_⟩
  have h3:H3 b=some (.list ((l0::l1::r).map .int)):=by
   have:H3 (fuL L (.k j) b (.k j))=_:=C3.ctk (j:=j) (xs:=l0::l1::r) j2
   rwa [fuL_eq] at this
  have e0:val (watchD (D.setC j (some (l0::l1::r))) l0 l1 j) l0=0:=hm0.2
  have e1:val (watchD (D.setC j (some (l0::l1::r))) l0 l1 j) l1=0:=hm1.2
  refine sIf (c:=false) (.or (x:=false) (.to (.eq (.lenL (.var rfl) h3) .cst) (decide_eq_false (by rw[Zm];lia))) (fun _=>.to (.eq (Pv.value g C3 (.var rfl) (.at0 (.var rfl) h3) (by decide) hs.l3 hm0.1) .glob) (by rw[e0];rfl)) nofun) nofun (fun _=>sNilT ?_)
  refine sIf (c:=true) (.to (.eq (Pv.value g C3 (.var rfl) (.at0 (.var rfl) h3) (by decide) hs.l3 hm0.1) .glob) (by rw[e0];rfl)) (fun _=>?_) nofun
  refine sIf (.eq (.lenL (.var rfl) h3) .cst) (fun p=>absurd (of_decide_eq_true p) (by rw[Zm,Zm];lia)) (fun _=>?_)
  refine sIf (c:=false) (.to (.eq (Pv.value g C3 (.var rfl) (.at1 (.var rfl) h3) (by decide) hs.l3 hm1.1) .glob) (by rw[e1];rfl)) nofun (fun _=>sNilT (sNilT (sNilT (sRetP .glob (q _ _ _ so C3 (S2.trans S3))))))
 | [],yl=>rw[List.length_nil] at yl;exact absurd (yl▸h2) (by decide)
 | [_],yl=>rw[Zs] at yl;exact absurd (yl▸h2) (by decide)
noncomputable def beforeD (D:Dat) (one other:Int):Bool:=if (D.il 15).getD one.toNat 0=(D.il 15).getD other.toNat 0 then decide (one<other) else decide ((D.il 15).getD other.toNat 0<(D.il 15).getD one.toNat 0)
noncomputable def putD (D:Dat) (spot:Nat) (var:Int):Dat:=(D.setL 17 ((D.il 17).set spot var)).setL 16 ((D.il 16).set var.toNat spot)
noncomputable def riseF:Nat->Dat->Int->Nat->Dat
 | 0,D,var,spot=>putD D spot var
 | f+1,D,var,spot=>if spot=0 then putD D spot var else if beforeD D var ((D.il 17).getD ((spot - 1) / 2) 0) then riseF f (putD D spot ((D.il 17).getD ((spot - 1) / 2) 0)) var ((spot - 1) / 2) else putD D spot var
noncomputable def riseD (D:Dat) (spot:Nat):Dat:=riseF spot D ((D.il 17).getD spot 0) spot
noncomputable def pushD (D:Dat) (v:Int):Dat:=if 0≤(D.il 16).getD v.toNat 0 then D else riseD ((D.setL 17 (D.il 17++[v])).setL 16 ((D.il 16).set v.toNat (D.il 17).length)) (D.il 17).length
structure HpOK (n:Nat) (D:Dat):Prop where
 l15:(D.il 15).length=n+1
 l16:(D.il 16).length=n+1
 l17:(D.il 17).length<900
 ent:∀ v∈D.il 17,1≤v∧v≤n
theorem HpOK.at_ {n:Nat}{D:Dat}(h:HpOK n D) {i:Nat}(hi:i<(D.il 17).length):1≤(D.il 17).getD i 0∧(D.il 17).getD i 0≤n:=h.ent _ (Zg (getD_some hi))
theorem HpOK.put {n:Nat}{D:Dat}(h:HpOK n D) {spot:Nat}{var:Int}(hv:1≤var∧var≤n):HpOK n (putD D spot var)∧((putD D spot var).il 17).length=(D.il 17).length:=by
 refine⟨⟨h.l15,?_,?_,fun v hm=>?_⟩,?_⟩
 ·show ((D.il 16).set _ _).length=_;rw[Zp];exact h.l16
 ·show ((D.il 17).set _ _).length<900;rw[Zp];exact h.l17
 ·rcases Xz (show v∈(D.il 17).set spot var from hm) with q | q
  ·exact h.ent v q
  ·rw[q];exact hv
 ·show ((D.il 17).set _ _).length=_;rw[Zp]
theorem fdiv2 {spot:Nat}(h:0<spot):((spot:Int) - 1).fdiv 2=(((spot - 1) / 2:Nat):Int):=by
 have e:(spot:Int) - 1=((spot - 1:Nat):Int):=(Int.ofNat_sub h).symm
 rw[e,Wv _ (by decide)]
 lia
section
variable {B:Base}(g:Ctx B) {d n:Nat}{ρ:RH}{c:Addr}{H:AH}{L:Lay}{D:Dat}{Q:MV->AH->Prop}
theorem Pv.l15 (C:CoreAt c H L D) {s:ME}(hs:Pv (sig B T1 d) ρ H s (.ref (L .hp))):Pv (sig B T1 d) ρ H (.attr s 15) (.ref (L (.f 15))):=.fldH C hs rfl rfl
theorem Pv.l16 (C:CoreAt c H L D) {s:ME}(hs:Pv (sig B T1 d) ρ H s (.ref (L .hp))):Pv (sig B T1 d) ρ H (.attr s 16) (.ref (L (.f 16))):=.fldH C hs rfl rfl
theorem Pv.l17 (C:CoreAt c H L D) {s:ME}(hs:Pv (sig B T1 d) ρ H s (.ref (L .hp))):Pv (sig B T1 d) ρ H (.attr s 17) (.ref (L (.f 17))):=.fldH C hs rfl rfl
theorem Pv.i15 (C:CoreAt c H L D) {s i:ME}{z:Int}(hs:Pv (sig B T1 d) ρ H s (.ref (L .hp))) (hz:Pv (sig B T1 d) ρ H i (.int z)) (h0:0≤z) (h1:z<(D.il 15).length):Pv (sig B T1 d) ρ H (.sub (.attr s 15) i) (.int ((D.il 15).getD z.toNat 0)):=.at_ C (n:=15) (.l15 C hs) hz ⟨by decide,by decide⟩ h0 h1
theorem Pv.i16 (C:CoreAt c H L D) {s i:ME}{z:Int}(hs:Pv (sig B T1 d) ρ H s (.ref (L .hp))) (hz:Pv (sig B T1 d) ρ H i (.int z)) (h0:0≤z) (h1:z<(D.il 16).length):Pv (sig B T1 d) ρ H (.sub (.attr s 16) i) (.int ((D.il 16).getD z.toNat 0)):=.at_ C (n:=16) (.l16 C hs) hz ⟨by decide,by decide⟩ h0 h1
theorem Pv.i17 (C:CoreAt c H L D) {s i:ME}{z:Int}(hs:Pv (sig B T1 d) ρ H s (.ref (L .hp))) (hz:Pv (sig B T1 d) ρ H i (.int z)) (h0:0≤z) (h1:z<(D.il 17).length):Pv (sig B T1 d) ρ H (.sub (.attr s 17) i) (.int ((D.il 17).getD z.toNat 0)):=.at_ C (n:=17) (.l17 C hs) hz ⟨by decide,by decide⟩ h0 h1
include g
theorem many_spec (hd:4≤d) (C:CoreAt c H L D) (q:Q (.int ((D.il 15).length - 1)) H):SpecCall B d f_CoreHeap_many [.ref (L .hp)] H Q:=by
 refine (Ctx.fn g (d:=0) k_CoreHeap_many rfl ?_).mono hd fun _ _=>id
 unfold a_CoreHeap_many
 exact sRetP (.sub_ (.lenF C (n:=15) (.l15 C (.var rfl)) ⟨by decide,by decide⟩) .cst) q
theorem is_held_spec (hd:4≤d) (C:CoreAt c H L D) {v:Int}(h0:0≤v) (h1:v<(D.il 16).length) (q:Q (.bool (decide (0≤(D.il 16).getD v.toNat 0))) H):SpecCall B d f_CoreHeap_is_held [.ref (L .hp),.int v] H Q:=by
 refine (Ctx.fn g (d:=0) k_CoreHeap_is_held rfl ?_).mono hd fun _ _=>id
 unfold a_CoreHeap_is_held
 exact sRetP (.ge (.i16 C (.var rfl) (.var rfl) h0 h1) .cst) q
theorem is_before_spec (hd:4≤d) (C:CoreAt c H L D) {v u:Int}(h0:0≤v) (h1:v<(D.il 15).length) (h2:0≤u) (h3:u<(D.il 15).length) (q:Q (.bool (beforeD D v u)) H):SpecCall B d f_CoreHeap_is_before [.ref (L .hp),.int v,.int u] H Q:=by
 refine (Ctx.fn g (d:=0) k_CoreHeap_is_before rfl ?_).mono hd fun _ _=>id
 unfold a_CoreHeap_is_before
 unfold beforeD at q
 refine sIf (.ne (.i15 C (.var rfl) (.var rfl) h0 h1) (.i15 C (.var rfl) (.var rfl) h2 h3)) (fun p=>?_) (fun p=>?_)
 ·rw[Xk,decide_eq_false_iff_not] at p
  rw[if_neg p] at q
  exact sRetP (.gt (.i15 C (.var rfl) (.var rfl) h0 h1) (.i15 C (.var rfl) (.var rfl) h2 h3)) q
 ·rw[Wx,decide_eq_true_eq] at p
  rw[if_pos p] at q
  exact sNilT (sRetP (.lt (.var rfl) (.var rfl)) q)
theorem put_spec (hd:4≤d) (C:CoreAt c H L D) {spot:Nat}{v:Int}(hs:spot<(D.il 17).length) (h0:0≤v) (h1:v<(D.il 16).length) (q:∀ H',CoreAt c H' L (putD D spot v)->Stp H L D H' L (putD D spot v)->Q .none H'):SpecCall B d f_CoreHeap_put [.ref (L .hp),.int spot,.int v] H Q:=by
 refine (Ctx.fn g (d:=0) k_CoreHeap_put rfl ?_).mono hd fun _ _=>id
 unfold a_CoreHeap_put
 refine sPutF C (n:=17) (y:=v) (.var rfl) (.l17 C (.var rfl)) (.var rfl) ⟨by decide,by decide⟩ rfl (Zj _) (Zx.mpr hs) fun H1 C1 S1=>?_
 refine sPutF C1 (n:=16) (y:=spot) (.var rfl) (.l16 C1 (.var rfl)) (.var rfl) ⟨by decide,by decide⟩ rfl h0 h1 fun H2 C2 S2=>?_
 exact sNil (q _ C2 (S1.trans S2))
theorem rise_spec (hd:8≤d) (C:CoreAt c H L D) (hp:HpOK n D) {spot:Nat}(hs:spot<(D.il 17).length) (q:∀ H',CoreAt c H' L (riseD D spot)->Stp H L D H' L (riseD D spot)->Q .none H'):SpecCall B d f_CoreHeap_rise [.ref (L .hp),.int spot] H Q:=by
 refine (Ctx.fn g (d:=4) k_CoreHeap_rise rfl ?_).mono hd fun _ _=>id
 unfold a_CoreHeap_rise
 have hv:=hp.at_ hs
 refine sSet (.i17 C (.var rfl) (.var rfl) (Zj _) (Zx.mpr hs)) ?_
 generalize hvar:(D.il 17).getD (spot:Int).toNat 0=var
 have hvar':(D.il 17).getD spot 0=var:=hvar
 rw[hvar'] at hv
 refine sWhile (fun m ρ H'=>∃ D' f,ρ 40=some (.ref (L .hp))∧ρ 42=some (.int var)∧ρ 48=some (.int (m:Int))∧CoreAt c H' L D'∧Stp H L D H' L D'∧HpOK n D'∧m<(D'.il 17).length∧m≤f∧riseF f D' var m=riseD D spot) spot (xI2 D spot (aI9 rfl rfl rfl C .refl hp hs (Zk _) (by unfold riseD;rw[hvar']))) fun m ρ H' h=>?_
 refine hide fun R done=>?_
 obtain ⟨D',f,r40,r42,r48,C',S',hp',hm,hf,e⟩:=h
 refine done ?_
 have fin:∀ ρ,ρ 40=some (.ref (L .hp))->ρ 42=some (.int var)->ρ 48=some (.int (m:Int))->putD D' m var=riseD D spot->wpL (sig B T1 4) (.cons (.expr (.mcall (.var 40) 51 (.cons (.var 48) (.cons (.var 42) .nil)))) .nil) ρ H' (fun fl _ H'=>match fl with | .ret v=>Q v H' | .next=>Q .none H' | _=>False):=fun ρ a1 a2 a3 a4=>by
  refine sExpr (wMethH C' (f:=f_CoreHeap_put) (.var a1) rfl rfl (.cons (.var a3) (.cons (.var a2) .nil)) ?_)
  refine put_spec g (by decide) C' hm (by lia) (by rw[hp'.l16];lia) fun H2 C2 S2=>⟨nofun,sNil ?_⟩
  rw[a4] at C2 S2
  exact q _ C2 (S'.trans S2)
 refine Pv.gt (.var r48) .cst _ ⟨_,rfl,?_⟩
 by_cases h0:(0:Int)<m
 ·rw[if_pos (decide_eq_true h0)]
  refine absNB fun TT tn tb=>?_
  have hm0:0<m:=Zx.mp h0
  obtain ⟨f',rfl⟩ : ∃ f',f=f'+1:=⟨f - 1,(Vm (Zv hm0 hf)).symm⟩
  unfold riseF at e
  rw[if_neg (Y5 hm0)] at e
  refine sSet (.fdiv (.sub_ (.var r48) .cst) .cst ⟨by decide,by decide⟩) ?_
  rw[fdiv2 hm0]
  have ha:(m - 1) / 2<(D'.il 17).length:=half1 hm
  have hx:=hp'.at_ ha
  have pv17:∀ {ρ'},ρ' 40=some (.ref (L .hp))->ρ' 49=some (.int (((m - 1) / 2:Nat):Int))->Pv (sig B T1 4) ρ' H' (.sub (.attr (.var 40) 17) (.var 49)) (.int ((D'.il 17).getD ((m - 1) / 2) 0)):=fun a b=>.i17 C' (.var a) (.var b) (Zj _) (Zx.mpr ha)
  refine sIf (.not (.methH C' (f:=f_CoreHeap_is_before) (.var r40) rfl rfl (.cons (.var r42) (.cons (pv17 r40 rfl) .nil)) (fun Q q=>is_before_spec g (by decide) C' (by lia) (by rw[hp'.l15];lia) (by lia) (by rw[hp'.l15];exact Yf hx.2) q))) (fun p=>?_) (fun p=>?_)
  ·rw[Xk] at p
   rewrite [if_neg (by rw[p];exact nofun)] at e
   exact sBrk (tb (fin _ r40 r42 r48 e))
  ·rw[Wx] at p
   rw[if_pos p] at e
   refine sNilT (sExpr (wMethH C' (f:=f_CoreHeap_put) (.var r40) rfl rfl (.cons (.var r48) (.cons (pv17 r40 rfl) .nil)) ?_))
   obtain ⟨hp2,hl2⟩:=hp'.put (spot:=m) hx
   refine put_spec g (by decide) C' hm (by lia) (by rw[hp'.l16];exact Yf hx.2) fun H2 C2 S2=>⟨nofun,?_⟩
   refine sSet (.var rfl) (sNil (tn ⟨(m - 1) / 2,half3 hm0,_,f',r40,r42,rfl,C2,S'.trans S2,hp2,by rw[hl2];exact ha,half2 hf,e⟩))
 ·rw[if_neg (by rw[decide_eq_true_eq];exact h0)]
  have:m=0:=by lia
  subst this
  refine fin ρ r40 r42 r48 ?_
  induction f using Nat.casesOn with
  | zero=>exact e
  | succ f=>unfold riseF at e;rw[if_pos rfl] at e;exact e
theorem push_spec (hd:12≤d) (C:CoreAt c H L D) (hp:HpOK n D) {v:Int}(h1:1≤v) (h2:v≤n) (hl:(D.il 17).length<899) (q:∀ H',CoreAt c H' L (pushD D v)->Stp H L D H' L (pushD D v)->Q .none H'):SpecCall B d f_CoreHeap_push [.ref (L .hp),.int v] H Q:=by
 refine (Ctx.fn g (d:=8) k_CoreHeap_push rfl ?_).mono hd fun _ _=>id
 unfold a_CoreHeap_push
 unfold pushD at q
 refine sIf (.methH C (f:=f_CoreHeap_is_held) (.var rfl) rfl rfl (.cons (.var rfl) .nil) (fun Q q=>is_held_spec g (by decide) C (by lia) (by rw[hp.l16];lia) q)) (fun p=>?_) (fun p=>?_)
 ·rw[if_pos (of_decide_eq_true p)] at q
  exact sRetN (q _ C .refl)
 ·rw[if_neg (of_decide_eq_false p)] at q
  refine sNilT (sAppF C (n:=17) (y:=v) (.l17 C (.var rfl)) (.var rfl) ⟨by decide,by decide⟩ rfl (Zf hl (by decide)) fun H1 C1 S1=>?_)
  have hlen:((D.setL 17 (D.il 17++[v])).il 17).length=(D.il 17).length+1:=by show (D.il 17++[v]).length=_;rw[Zd];rfl
  refine sPutF C1 (n:=16) (y:=(D.il 17).length) (.sub_ (.lenF C1 (n:=17) (.l17 C1 (.var rfl)) ⟨by decide,by decide⟩) .cst) (.l16 C1 (.var rfl)) (.var rfl) ⟨by decide,by decide⟩ (by rw[hlen];show _=MV.int _;congr 1;lia) (by lia) (by show v<(D.il 16).length;rw[hp.l16];lia) fun H2 C2 S2=>?_
  have e:((((D.setL 17 (D.il 17++[v])).setL 16 ((D.il 16).set v.toNat (D.il 17).length)).il 17).length:Int) - 1=(D.il 17).length:=by
   show ((D.il 17++[v]).length:Int) - 1=_;rw[Zd,Zs];lia
  refine sExpr (wMethH C2 (f:=f_CoreHeap_rise) (.var rfl) rfl rfl (.cons (.toI (.sub_ (.lenF C2 (n:=17) (.l17 C2 (.var rfl)) ⟨by decide,by decide⟩) .cst) e) .nil) ?_)
  refine rise_spec (n:=n) g (by decide) C2 ⟨hp.l15,?_,?_,fun u hu=>?_⟩ ?_ fun H3 C3 S3=>⟨nofun,sNil (q _ C3 ((S1.trans S2).trans S3))⟩
  ·show ((D.il 16).set _ _).length=_;rw[Zp];exact hp.l16
  ·show (D.il 17++[v]).length<900;rw[Zd,Zs];exact Ze hl (by decide)
  ·rcases Zo.mp (show u∈D.il 17++[v] from hu) with z | z
   ·exact hp.ent u z
   ·rw[Zl.mp z];exact⟨h1,h2⟩
  ·show _<(D.il 17++[v]).length;rw[Zd,Zs];exact Yk _
end
structure Hs (D D':Dat):Prop where
 il:∀ k,k≠16->k≠17->D'.il k=D.il k
 iv:D'.iv=D.iv
 wat:D'.wat=D.wat
 cls:D'.cls=D.cls
theorem Hs.refl {D:Dat}:Hs D D:=⟨fun _ _ _=>rfl,rfl,rfl,rfl⟩
theorem Hs.trans {D D' D'':Dat}(x:Hs D D') (y:Hs D' D''):Hs D D'':=⟨fun k a b=>(y.il k a b).trans (x.il k a b),y.iv.trans x.iv,y.wat.trans x.wat,y.cls.trans x.cls⟩
theorem put_hs (D:Dat) (s:Nat) (v:Int):Hs D (putD D s v):=⟨fun k a b=>by show fu (fu D.il 17 _) 16 _ k=_;rw[fu_ne a,fu_ne b],rfl,rfl,rfl⟩
theorem riseF_hs:∀ (f:Nat) (D:Dat) (v:Int) (s:Nat),Hs D (riseF f D v s):=by
 intro f
 induction f with
 | zero=>
  intro D v s
  exact put_hs D s v
 | succ f ih=>
  intro D v s
  unfold riseF
  split
  ·exact put_hs D s v
  ·split
   ·exact (put_hs D s _).trans (ih _ _ _)
   ·exact put_hs D s v
theorem push_hs (D:Dat) (v:Int):Hs D (pushD D v):=by
 unfold pushD
 split
 ·exact .refl
 ·exact Hs.trans (D':=(D.setL 17 (D.il 17++[v])).setL 16 ((D.il 16).set v.toNat (D.il 17).length)) ⟨fun k a b=>by show fu (fu D.il 17 _) 16 _ k=_;rw[fu_ne a,fu_ne b],rfl,rfl,rfl⟩ (riseF_hs _ _ _ _)
theorem riseF_ok {n:Nat}:∀ (f:Nat) (D:Dat) (v:Int) (s:Nat),HpOK n D->s<(D.il 17).length->1≤v∧v≤n->HpOK n (riseF f D v s)∧((riseF f D v s).il 17).length=(D.il 17).length:=by
 intro f
 induction f with
 | zero=>
  intro D v s h hs hv
  exact h.put hv
 | succ f ih=>
  intro D v s h hs hv
  unfold riseF
  split
  ·exact h.put hv
  ·split
   ·have ha:(s - 1) / 2<(D.il 17).length:=half1 hs
    refine aE2 (h.put (spot:=s) (h.at_ ha)) fun h2 l2=>?_
    refine aE2 (ih _ v ((s - 1) / 2) h2 (by rw[l2];exact ha) hv) fun a b=>?_
    exact⟨a,b.trans l2⟩
   ·exact h.put hv
theorem HpOK.push {n:Nat}{D:Dat}(h:HpOK n D) {v:Int}(hv:1≤v∧v≤n) (hl:(D.il 17).length<899):HpOK n (pushD D v)∧((pushD D v).il 17).length≤(D.il 17).length+1:=by
 unfold pushD
 split
 ·exact⟨h,Xc _⟩
 ·have e:((((D.setL 17 (D.il 17++[v])).setL 16 ((D.il 16).set v.toNat (D.il 17).length)).il 17)).length=(D.il 17).length+1:=by show (D.il 17++[v]).length=_;rw[Zd];rfl
  have h':HpOK n ((D.setL 17 (D.il 17++[v])).setL 16 ((D.il 16).set v.toNat (D.il 17).length)):=by
   refine⟨h.l15,?_,by rw[e];exact Ze hl (by decide),fun u hu=>?_⟩
   ·show ((D.il 16).set _ _).length=_;rw[Zp];exact h.l16
   ·rcases Zo.mp (show u∈D.il 17++[v] from hu) with z | z
    ·exact h.ent u z
    ·rw[Zl.mp z];exact hv
  have hs:(D.il 17).length<(((D.setL 17 (D.il 17++[v])).setL 16 ((D.il 16).set v.toNat (D.il 17).length)).il 17).length:=by rw[e];exact Yk _
  refine aE2 (riseF_ok (D.il 17).length _ _ (D.il 17).length h' hs (h'.at_ hs)) fun a b=>?_
  exact⟨a,by unfold riseD;rw[b,e];exact Zk _⟩
theorem Hs.shp {n:Nat}{D D':Dat}(x:Hs D D') (h:Shp n D):Shp n D':=⟨fun k a b=>by rw[x.il k (Yd (Ze b (by decide))) (Yd (Ze b (by decide)))];exact h.lv k a b,by rw[x.wat];exact h.lw⟩
noncomputable def levD (D:Dat):Dat:=D.setL 9 (D.il 9++[((D.il 8).length:Int)])
theorem new_level_spec {B:Base}(g:Ctx B) {d:Nat}{c:Addr}{H:AH}{L:Lay}{D:Dat}{Q:MV->AH->Prop}(hd:4≤d) (C:CoreAt c H L D) (hD:Scl D) (h9:(D.il 9).length<1000) (q:∀ H',CoreAt c H' L (levD D)->Stp H L D H' L (levD D)->Q .none H') :
  SpecCall B d f_Trail_new_level [.ref c] H Q:=by
 refine (Ctx.fn g (d:=0) k_Trail_new_level rfl ?_).mono hd fun _ _=>id
 unfold a_Trail_new_level
 refine sAppF C (n:=9) (.fld C (.var rfl) rfl rfl) (.lenF C (n:=8) (.fld C (.var rfl) rfl rfl) ⟨by decide,by decide⟩) ⟨by decide,by decide⟩ rfl h9 fun H1 C1 S1=>?_
 refine sIf (c:=false) (.to (.isnt (.fld C1 (.var rfl) rfl (fld_scal ⟨by decide,by decide⟩))) (by rw[show (D.setL 9 _).iv 20=D.iv 20 from rfl,hD.hook];rfl)) nofun fun _=>sNilT (sNil (q _ C1 S1))
noncomputable def undoN (D:Dat) (l:Int):Dat:=((D.setL 7 ((D.il 7).set (vabs l).toNat ((D.il 3).getD (vabs l).toNat 0))).setL 3 ((D.il 3).set (vabs l).toNat 0)).setL 5 ((D.il 5).set (vabs l).toNat (-1))
noncomputable def undo1 (D:Dat) (l:Int):Dat:=pushD (undoN D l) (vabs l)
noncomputable def cancelD (D:Dat) (k:Nat):Dat:=
 if (D.il 9).length≤k then D
 else (((((((D.il 8).drop ((D.il 9).getD k 0).toNat).reverse.foldl undo1 D).setL 8 ((D.il 8).take ((D.il 9).getD k 0).toNat)).setL 9 ((D.il 9).take k)).setV 21 (.int (min (ivi D 21) ((D.il 9).getD k 0))))).setV 22 (.int (min (ivi D 22) ((D.il 9).getD k 0)))
theorem undo1_il (D:Dat) (l:Int) {k:Nat}(h3:k≠3) (h5:k≠5) (h7:k≠7) (h16:k≠16) (h17:k≠17):(undo1 D l).il k=D.il k:=by
 unfold undo1
 rw[(push_hs _ _).il k h16 h17]
 show fu (fu (fu D.il 7 _) 3 _) 5 _ k=_
 rw[fu_ne h5,fu_ne h3,fu_ne h7]
theorem undo1_iv (D:Dat) (l:Int):(undo1 D l).iv=D.iv:=(push_hs _ _).iv
theorem undoN_shp {n:Nat}{D:Dat}(h:Shp n D) (l:Int):Shp n (undoN D l):=by
 refine⟨fun k a b=>?_,h.lw⟩
 have hi:k=3∨k=4∨k=5∨k=6∨k=7:=d7 a b
 rcases hi with rfl | rfl | rfl | rfl | rfl
 ·show ((D.il 3).set _ _).length=_;rw[Zp];exact h.lv _ a b
 ·exact h.lv _ a b
 ·show ((D.il 5).set _ _).length=_;rw[Zp];exact h.lv _ a b
 ·exact h.lv _ a b
 ·show ((D.il 7).set _ _).length=_;rw[Zp];exact h.lv _ a b
section
variable {B:Base}{d:Nat}{ρ:RH}{c:Addr}{H:AH}{L:Lay}{D:Dat}{R:Fl->RH->AH->Prop}
theorem sCut (C:CoreAt c H L D) {s e:ME}{n k:Nat}{r:MSs}(hs:Pv (sig B T1 d) ρ H s (.ref c)) (he:Pv (sig B T1 d) ρ H e (.int (k:Int))) (hs':∀ b,H b=none->∀ o,Pv (sig B T1 d) ρ (upd H b o) s (.ref c)) (hn:3≤n∧n≤14) (ht:T1.at_ cSat n=true)
  (q:∀ H' L',CoreAt c H' L' (D.setL n ((D.il n).take k))->Stp H L D H' L' (D.setL n ((D.il n).take k))->wpL (sig B T1 d) r ρ H' R):wpL (sig B T1 d) (.cons (.asg (.attr s n) (.sliceTo (.attr s n) e)) r) ρ H R:=by
 refine sAsg ?_
 refine eSTo ?_
 have hf:flat n:=⟨hn.1,by lia⟩
 refine Pv.fld C hs ht (fld_list hn) _ (he _ (.inl (xI3 (L (.f n)) k _ (aI4 rfl rfl (.inl (C.ct (.f n) _ (cont_flat hf))) (fun b hb=>?_)))))
 rw[← Vq]
 exact wPutR (C.new hb _) (hs' b hb _) hn ht upd_eq (C.nf hb) fun H' C' S'=>q _ _ C' (S' ((Stp.refl).alloc hb _) hb)
end
theorem rngDown_at {a z:Int}{i:Nat}{y:Int}(h:(rngDown a z)[i]?=some y):y=a - i∧(i:Int)<a - z:=by
 unfold rngDown at h
 rw[Zn] at h
 by_cases q:i<(a - z).toNat
 ·rw[Yi q] at h
  simp at h
  exact⟨h.symm,ltt q⟩
 ·rw[Z1 (by rw[Z4];exact Yj.mp q)] at h;cases h
theorem cancel_until_spec {B:Base}(g:Ctx B) {d n:Nat}{c:Addr}{H:AH}{L:Lay}{D:Dat}{Q:MV->AH->Prop}(hd:16≤d) (C:CoreAt c H L D) (hD:Scl D) (hs:Shp n D) (hp:HpOK n D) (hl:(D.il 17).length+(D.il 8).length<800) (tr:∀ l∈D.il 8,Lt n l) (st:∀ s∈D.il 9,0≤s∧s≤(D.il 8).length) {k:Nat}
  (q:∀ H' L',CoreAt c H' L' (cancelD D k)->Stp H L D H' L' (cancelD D k)->Q .none H'):SpecCall B d f_Trail_cancel_until [.ref c,.int k] H Q:=by
 refine (Ctx.fn g (d:=12) k_Trail_cancel_until rfl ?_).mono hd fun _ _=>id
 unfold a_Trail_cancel_until
 unfold cancelD at q
 refine sSet (.sub_ (Pv.depth g C (.var rfl) (by decide)) (.var rfl)) ?_
 refine sIf (.le (.var rfl) .cst) (fun p=>?_) (fun p=>?_)
 ·have p:=of_decide_eq_true p
  rw[if_pos (by lia)] at q
  exact sRetN (q _ _ C .refl)
 have p:=of_decide_eq_false p
 have hk:k<(D.il 9).length:=by lia
 rw[if_neg (by lia)] at q
 refine sNilT (sSet (.atF C (n:=9) (.var rfl) (.var rfl) ⟨by decide,by decide⟩ rfl (fun _=>rfl) (Zj _) (Zx.mpr hk)) ?_)
 rw[Ym]
 have hst:=st _ (Zg (getD_some (x:=0) hk))
 obtain ⟨s,hse⟩ : ∃ s:Nat,(D.il 9).getD k 0=s:=⟨((D.il 9).getD k 0).toNat,(Y1 hst.1).symm⟩
 rw[hse] at hst q ⊢
 rw[Ym] at q
 have hsl:s≤(D.il 8).length:=by lia
 have hlr:(rngDown ((D.il 8).length - 1) ((s:Int) - 1)).length=(D.il 8).length - s:=by unfold rngDown;rw[Zc,Z4,rl]
 have hlm:((D.il 8).drop s).reverse.length=(D.il 8).length - s:=by rw[X4,Wo]
 refine sForI (l:=rngDown ((D.il 8).length - 1) ((s:Int) - 1)) (rDown (.sub_ (.lenF C (n:=8) (.fld C (.var rfl) rfl rfl) ⟨by decide,by decide⟩) .cst) (.sub_ (.var rfl) .cst) (small_pred (Ze (Nat.le_add_left _ _) (Ya hl (by decide)))) (small_pred (Ze hsl (Ze (Nat.le_add_left _ _) (Ya hl (by decide))))))
  (fun i ρ H'=>∃ D',ρ 40=some (.ref c)∧ρ 79=some (.int k)∧ρ 81=some (.int s)∧D'=(((D.il 8).drop s).reverse.take i).foldl undo1 D∧CoreAt c H' L D'∧Stp H L D H' L D'∧Shp n D'∧HpOK n D'∧(D'.il 17).length≤(D.il 17).length+i∧D'.il 8=D.il 8∧D'.il 9=D.il 9∧D'.iv=D.iv)
  ⟨D,(aI12 rfl rfl rfl rfl C .refl hs hp (Zk _) rfl rfl rfl)⟩ (fun i y ρ H' e h=>absN fun TT tn=>?_) (fun ρ H' h=>?_)<;>obtain ⟨D',r40,r79,r81,eD,C',S',hs',hp',hl',e8,e9,eiv⟩:=h
 ·refine aE2 (rngDown_at e) fun e3_0 hy=>?_
  subst e3_0
  have hi:i<(D.il 8).length - s:=rl _ _▸Int.lt_toNat.mpr hy
  have hgi:((D.il 8).drop s).reverse[i]?=some ((D.il 8).getD ((D.il 8).length - 1 - i) 0):=by
   rw[List.getElem?_reverse (by rw[Wo];exact hi),List.getElem?_drop,Wo]
   rw[(dn1 hi).1]
   exact getD_some (dn1 hi).2.1
  generalize hll:(D.il 8).getD ((D.il 8).length - 1 - i) 0=l at hgi
  have hlt:Lt n l:=tr l (List.mem_of_mem_drop (X3.mp (Zg hgi)))
  have hv:=hlt.abs
  have hv0:0≤vabs l:=by lia
  rw[(dn1 hi).2.2]
  refine sSet (.abs (.atF C' (n:=8) (.var r40) (.var rfl) ⟨by decide,by decide⟩ rfl (fun _=>rfl) (Zj _) (by rw[e8];exact Zx.mpr (dn1 hi).2.1))) ?_
  rw[Ym,e8,hll]
  refine sPutF C' (n:=7) (.atF C' (n:=3) (.var r40) (.var rfl) ⟨by decide,by decide⟩ rfl (fun _=>rfl) hv0 (by rw[hs'.l3];exact hv.2)) (.fld C' (.var r40) rfl rfl) (.var rfl) ⟨by decide,by decide⟩ rfl hv0 (by rw[hs'.lv 7 (by decide) (by decide)];exact hv.2) fun H1 C1 S1=>?_
  refine sPutF C1 (n:=3) (y:=0) .glob (.fld C1 (.var r40) rfl rfl) (.var rfl) ⟨by decide,by decide⟩ rfl hv0 (by show _<((D'.il 3).length:Int);rw[hs'.l3];exact hv.2) fun H2 C2 S2=>?_
  refine sPutF C2 (n:=5) (y:=-1) .glob (.fld C2 (.var r40) rfl rfl) (.var rfl) ⟨by decide,by decide⟩ rfl hv0 (by show _<((D'.il 5).length:Int);rw[hs'.lv 5 (by decide) (by decide)];exact hv.2) fun H3 C3 S3=>?_
  have hp3:HpOK n (undoN D' l):=⟨hp'.l15,hp'.l16,hp'.l17,hp'.ent⟩
  have hv1:1≤vabs l∧vabs l≤n:=⟨hv.1,Int.le_of_lt_add_one hv.2⟩
  have hl3:((undoN D' l).il 17).length<899:=by show (D'.il 17).length<899;exact Ze hl' (Ya (Nat.add_lt_add_left (Zv hi (Xi _ _)) _) (Ya hl (by decide)))
  refine sExpr (wMethH C3 (f:=f_CoreHeap_push) (.fld C3 (.var r40) rfl rfl) rfl rfl (.cons (.var rfl) .nil) ?_)
  refine push_spec (n:=n) g (by decide) C3 hp3 hv1.1 hv1.2 hl3 fun H4 C4 S4=>⟨nofun,sNil (tn ?_)⟩
  refine aE2 (hp3.push hv1 hl3) fun hp4 hl4=>?_
  refine⟨undo1 D' l,r40,r79,r81,?_,C4,(((S'.trans S1).trans S2).trans S3).trans S4,(push_hs _ _).shp (undoN_shp hs' l),hp4,?_,?_,?_,?_⟩
  ·rw[Xt,hgi,X8,Wg,← eD];rfl
  ·have:((undoN D' l).il 17).length=(D'.il 17).length:=rfl
   exact Zf hl4 (Ye hl')
  ·rw[undo1_il _ _ (by decide) (by decide) (by decide) (by decide) (by decide)];exact e8
  ·rw[undo1_il _ _ (by decide) (by decide) (by decide) (by decide) (by decide)];exact e9
  ·rw[undo1_iv];exact eiv
 ·rw[hlr,← hlm,Wm] at eD
  rw[← eD] at q
  rw[← e8,← e9] at q
  refine sCut C' (.var r40) (.var r81) (fun _ _ _=>.var r40) ⟨by decide,by decide⟩ rfl fun H1 L1 C1 S1=>?_
  refine sCut C1 (.var r40) (.var r79) (fun _ _ _=>.var r40) ⟨by decide,by decide⟩ rfl fun H2 L2 C2 S2=>?_
  have hD2:Scl ((D'.setL 8 ((D'.il 8).take s)).setL 9 (((D'.setL 8 ((D'.il 8).take s)).il 9).take k)):=by
   have hi:∀ a,ivi ((D'.setL 8 ((D'.il 8).take s)).setL 9 (((D'.setL 8 ((D'.il 8).take s)).il 9).take k)) a=ivi D a:=fun a=>by
    show (match D'.iv a with | .int i=>i | _=>0)=_;rw[eiv];rfl
   exact⟨by show D'.iv 20=_;rw[eiv];exact hD.hook,fun a z=>by rw[hi];show D'.iv a=_;rw[eiv];exact hD.int a z⟩
  have hi:∀ a,ivi ((D'.setL 8 ((D'.il 8).take s)).setL 9 (((D'.setL 8 ((D'.il 8).take s)).il 9).take k)) a=ivi D a:=fun a=>by
   show (match D'.iv a with | .int i=>i | _=>0)=_;rw[eiv];rfl
  refine sPutV C2 (v:=.int (min (ivi D 21) s)) (.toI (.min (.int C2 hD2 (.var r40) (.inl ⟨by decide,by decide⟩) rfl) (.var r81)) (by rw[hi])) (.var r40) ⟨by decide,by decide⟩ rfl rfl fun H3 C3 S3=>?_
  have f22:fld L2 (((D'.setL 8 ((D'.il 8).take s)).setL 9 (((D'.setL 8 ((D'.il 8).take s)).il 9).take k)).setV 21 (.int (min (ivi D 21) s))) 22=some (.int (ivi D 22)):=by
   rw[fld_scal ⟨by decide,by decide⟩]
   show some (D'.iv 22)=_
   rw[eiv,hD.int 22 (.inl ⟨by decide,by decide⟩)]
  refine sPutV C3 (v:=.int (min (ivi D 22) s)) (.min (.fld C3 (.var r40) rfl f22) (.var r81)) (.var r40) ⟨by decide,by decide⟩ rfl rfl fun H4 C4 S4=>?_
  have f20:fld L2 ((((D'.setL 8 ((D'.il 8).take s)).setL 9 (((D'.setL 8 ((D'.il 8).take s)).il 9).take k)).setV 21 (.int (min (ivi D 21) s))).setV 22 (.int (min (ivi D 22) s))) 20=some .none:=by
   rw[fld_scal ⟨by decide,by decide⟩]
   show some (D'.iv 20)=_
   rw[eiv,hD.hook]
  exact sIf (c:=false) (.to (.isnt (.fld C4 (.var r40) rfl f20)) rfl) nofun fun _=>sNilT (sNil (q _ _ C4 ((((S'.trans S1).trans S2).trans S3).trans S4)))
theorem wSliceTo {S:Sig}{ρ:RH}{H:AH}{e hi:ME}{a:Addr}{xs:List MV}{k:Nat}{Q:MV->AH->Prop}(he:Pv S ρ H e (.ref a)) (hk:Pv S ρ H hi (.int (k:Int))) (ha:H a=some (.list xs)) (q:∀ b,H b=none->Q (.ref b) (upd H b (.list (xs.take k)))):wpE S (.sliceTo e hi) ρ H Q:=by
 refine eSTo ?_
 refine he _ (hk _ (.inl (xI3 a k xs (aI4 rfl rfl (.inl ha) q))))
theorem sForM {S:Sig}{ρ:RH}{H:AH}{R:Fl->RH->AH->Prop}{x:Nat}{e:ME}{xs:List MV}{b r:MSs}{J:Addr->AH->Prop}(he:∀ Q:MV->AH->Prop,(∀ a H',J a H'->H' a=some (.list xs)->Q (.ref a) H')->wpE S e ρ H Q) (I:Addr->AH->Nat->RH->AH->Prop) (h0:∀ a H',J a H'->I a H' 0 ρ H') (hI:∀ a H0 i ρ H,J a H0->H0 a=some (.list xs)->I a H0 i ρ H->H a=some (.list xs))
  (step:∀ a H0 i y ρ H,J a H0->xs[i]?=some y->I a H0 i ρ H->wpL S b (updR ρ x y) H (turn S r R (I a H0 (i+1)))) (done:∀ a H0 ρ H,J a H0->I a H0 xs.length ρ H->wpL S r ρ H R):wpL S (.cons (.forS x (.seq e) b) r) ρ H R:=by
 refine mCons (yForS (eSeq ?_))
 refine he _ fun a H' j ha=>⟨a,rfl,.inr ⟨⟨xs,ha⟩,(xI2 (fun i ρ H=>i≤xs.length∧I a H' i ρ H) xs.length ⟨⟨Z2 _,h0 a H' j⟩,fun i ρ H h=>⟨h.1,?_⟩⟩)⟩⟩
 refine aE2 h fun hi h=>?_
 unfold Src.next
 dsimp only
 rw[hI a H' i ρ H j ha h]
 dsimp only
 induction q:xs[i]? using Option.casesOn with
 | none=>
  have:i=xs.length:=Yq hi (Yr.mp q)
  subst this
  exact done a H' ρ H j h
 | some y=>
  have hl:=(Za.mp q).1
  have:=step a H' i y ρ H j q h
  refine (congrArg (wpL S b _ _) ?_).mp this
  funext fl ρ H
  induction fl using Mine.Fl.casesOn with
  | next=>exact propext ⟨fun z=>⟨hl,z⟩,fun z=>z.2⟩
  | cont=>exact propext ⟨fun z=>⟨hl,z⟩,fun z=>z.2⟩
  | brk=>rfl
  | ret v=>rfl
noncomputable def uwD (j:Int) (D:Dat) (l:Int):Dat:=D.setW (pl l).toNat ((D.wat.getD (pl l).toNat []).filter fun y=>!decide (y=j))
theorem Stp.outs {H H':AH}{L L':Lay}{D D':Dat}(S:Stp H L D H' L' D') {a:Addr}(n:¬Foot L D a) (h:H a≠none):¬Foot L' D' a∧H' a=H a:=
 ⟨fun f=>(S.foot a f).elim n h,S.keep a n h⟩
theorem Stp.gone {H H':AH}{L L':Lay}{D D':Dat}(S:Stp H L D H' L' D') {a:Addr}(h:H' a=none):H a=none:=Classical.byContradiction fun z=>S.live a z h
theorem unwatch_spec {B:Base}(g:Ctx B) {d n:Nat}{c:Addr}{H:AH}{L:Lay}{D:Dat}{Q:MV->AH->Prop}(hd:8≤d) (C:CoreAt c H L D) (hs:Shp n D) {j:Nat}{l0 l1:Int}{r:List Int}(hj:D.cls[j]?=some (some (l0::l1::r))) (h0:Lt n l0) (h1:Lt n l1)
  (hb:∀ xs∈D.wat,xs.length≤900) (q:∀ H' L',CoreAt c H' L' (uwD j (uwD j D l0) l1)->Stp H L D H' L' (uwD j (uwD j D l0) l1)->Q .none H') :
  SpecCall B d f_Trail_unwatch [.ref c,.int j] H Q:=by
 refine (Ctx.fn g (d:=4) k_Trail_unwatch rfl ?_).mono hd fun _ _=>id
 unfold a_Trail_unwatch
 have lt:∀ i l,([l0,l1].map MV.int)[i]?=some l->∃ z,l=MV.int z∧[l0,l1][i]?=some z∧Lt n z:=fun i l e=>by
  rw[Zn] at e
  cases h:[l0,l1][i]? with
  | none=>rw[h] at e;cases e
  | some z=>
   rw[h] at e;cases e
   refine⟨z,(aI3 rfl h ?_)⟩
   rcases Zr.mp (Zg h) with rfl | m
   ·exact h0
   ·rw[Zl.mp m];exact h1
 refine sForM (xs:=[l0,l1].map MV.int) (J:=fun a H'=>H a=none∧H'=upd H a (.list ([l0,l1].map .int))) (fun Q q=>wSliceTo (.clsS C (.var rfl) (.var rfl) hj) .cst (C.ctk hj) fun b hb=>q b _ ⟨hb,rfl⟩ upd_eq)
  (fun a H0 i ρ H'=>ρ 40=some (.ref c)∧ρ 68=some (.int j)∧∃ L' D',D'=([l0,l1].take i).foldl (uwD j) D∧CoreAt c H' L' D'∧Stp H0 L D H' L' D'∧Shp n D'∧∀ xs∈D'.wat,xs.length≤900)
  (fun a H' e=>?_) (fun a H0 i ρ H' j e h=>?_) (fun a H0 i y ρ H' e hy h=>absN fun TT tn=>?_) (fun a H0 ρ H' e h=>?_)
 ·refine aE2 e fun e1 e1_1=>?_
  subst e1_1
  exact (aI3 rfl rfl (xI2 L D (aI5 rfl (C.new e1 _) .refl hs hb)))
 ·refine aE3 h fun _ _ t2_0=>xE2 t2_0 fun L' D' t2_1=>aE4 t2_1 fun _ _ S _=>?_
  refine aE2 j fun e1 e3_1=>?_
  subst e3_1
  exact (S.outs (C.nf e1) (by rw[upd_eq];exact nofun)).2.trans upd_eq
 ·refine aE3 h fun r40 r68 t4_0=>xE2 t4_0 fun L' D' t4_1=>aE5 t4_1 fun eD C' S' hs' hb'=>?_
  refine hide fun R done=>?_
  refine xE1 (lt i y hy) fun l t5_0=>aE2 t5_0 fun e5_1 t5_1=>?_
  subst e5_1
  refine aE2 t5_1 fun hl hlt=>?_
  refine xE1 (pl_nat hlt) fun p t6_0=>aE3 t6_0 fun e1 e2 e3=>?_
  refine done ?_
  have hp:p<D'.wat.length:=by rw[hs'.lw];exact e3
  have gp:D'.wat[p]?=some (D'.wat.getD p []):=getD_some hp
  have bp:(D'.wat.getD p []).length≤900:=hb' _ (Zg gp)
  refine sSet (.toI (Pv.place g (.var rfl) (by decide)) e1) (sAsg ?_)
  refine wCompI (.wat C' (.var r40) (.var rfl) hp) (C'.ctw gp) (Zf bp (by decide)) (fun y=>!decide (y=(j:Int))) MV.int (fun y _=>cOne (.ne (.var rfl) (.var r68))) (fun y _ _=>.var rfl) fun b hb2=>?_
  refine wPutW (C'.new hb2 _) (.var r40) (.var rfl) upd_eq (C'.nf hb2) hp fun H2 C2 S2=>sNil (tn ?_)
  have S3:=S2 (S'.alloc hb2 _) (S'.gone hb2)
  have eU:uwD j D' l=D'.setW p ((D'.wat.getD p []).filter fun y=>!decide (y=(j:Int))):=by unfold uwD;rw[e2]
  rw[← eU] at C2 S3
  refine⟨r40,r68,_,uwD j D' l,?_,C2,S3,⟨hs'.lv,?_⟩,fun xs hx=>?_⟩
  ·rw[Xt,hl,X8,Wg,← eD];rfl
  ·rw[eU];show (D'.wat.set _ _).length=_;rw[Zp];exact hs'.lw
  ·rw[eU] at hx
   rcases Xz (show xs∈D'.wat.set p _ from hx) with z | z
   ·exact hb' _ z
   ·rw[z];exact Zf (Wk ..) bp
 ·refine aE3 h fun r40 r68 t7_0=>xE2 t7_0 fun L' D' t7_1=>aE5 t7_1 fun eD C' S' hs' hb'=>?_
  refine aE2 e fun e1 e8_1=>?_
  subst e8_1
  have eD:D'=uwD j (uwD j D l0) l1:=eD
  subst eD
  exact sNil (q _ _ C' ((Stp.refl.alloc e1 _).trans S'))
noncomputable def isRea (D:Dat) (j:Nat) (x:Int):Bool:=decide (val D x=1) && decide ((D.il 5).getD (vabs x).toNat 0=j)
theorem is_reason_spec {B:Base}(g:Ctx B) {d n:Nat}{c:Addr}{H:AH}{L:Lay}{D:Dat}{Q:MV->AH->Prop}(hd:8≤d) (C:CoreAt c H L D) (hs:Shp n D) {j:Nat}{x:Int}{r:List Int}(hj:D.cls[j]?=some (some (x::r))) (hx:Lt n x)
  (q:Q (.bool (isRea D j x)) H):SpecCall B d f_SatCore_is_reason [.ref c,.int j] H Q:=by
 refine (Ctx.fn g (d:=4) k_SatCore_is_reason rfl ?_).mono hd fun _ _=>id
 unfold a_SatCore_is_reason
 have hv:=hx.abs
 refine sSet (.at0 (.clsS C (.var rfl) (.var rfl) hj) (C.ctk hj)) ?_
 refine sRetP (v:=.bool (isRea D j x)) (.and (.eq (Pv.value g C (.var rfl) (.var rfl) (by decide) hs.l3 hx) .glob) (fun p=>?_) (fun p=>?_)) q
 ·unfold isRea
  rw[show decide (val D x=1)=true from p,Bool.true_and]
  exact .eq (.atF C (n:=5) (.var rfl) (.abs (.var rfl)) ⟨by decide,by decide⟩ rfl (fun _=>rfl) (by lia) (by rw[hs.lv 5 (by decide) (by decide)];exact hv.2)) (.var rfl)
 ·unfold isRea
  rw[show decide (val D x=1)=false from p,Bool.false_and]
theorem worth_of_spec {B:Base}(g:Ctx B) {d:Nat}{c:Addr}{H:AH}{L:Lay}{D:Dat}{Q:MV->AH->Prop}(hd:4≤d) (C:CoreAt c H L D) {j:Nat}(h12:j<(D.il 12).length) (q:∀ a,H a=none->Q (.ref a) (upd H a (.tup [.int ((D.il 12).getD j 0),.int j]))) :
  SpecCall B d f_SatCore_worth_of [.ref c,.int j] H Q:=by
 refine (Ctx.fn g (d:=0) k_SatCore_worth_of rfl ?_).mono hd fun _ _=>id
 unfold a_SatCore_worth_of
 refine sRet ?_
 refine eTup ?_
 exact Pvs.cons (.atF C (n:=12) (.var rfl) (.var rfl) ⟨by decide,by decide⟩ rfl (fun _=>rfl) (Zj j) (Zx.mpr h12)) (.cons (.var rfl) .nil) _ q
noncomputable def candC (D:Dat) (j:Nat):Option (List Int)->Bool
 | some (x::r)=>decide (2<((x::r).length:Int)) && !isRea D j x
 | _=>false
noncomputable def cand (D:Dat) (j:Nat):Bool:=decide ((D.il 11).getD j 0≠0) && candC D j D.cls[j]?.join
noncomputable def candL (D:Dat) (m:Nat):List Int:=((List.range m).filter (cand D)).map fun i:Nat=>(i:Int)
noncomputable def SrtW (D:Dat) (zs ws:List Int):Prop:=ws.Perm zs∧ws.Pairwise fun a b=>lexLe [(D.il 12).getD a.toNat 0,a] [(D.il 12).getD b.toNat 0,b]=true
noncomputable def dropC (D:Dat) (j:Int):Option (List Int)->Dat
 | some (x0::x1::_)=>((uwD j (uwD j D x0) x1).setC j.toNat none).setV 23 (.int (ivi D 23 - 1))
 | _=>D
noncomputable def drop1 (D:Dat) (j:Int):Dat:=dropC D j D.cls[j.toNat]?.join
noncomputable def forgetD (D:Dat) (ws:List Int):Dat:=((ws.take (ws.length / 2)).foldl drop1 D).setV 33 (.int (ivi D 33+(ivi D 33).fdiv 8+1))
noncomputable def Two (n:Nat) (cls:List (Option (List Int))):Prop:=∀ (j:Nat) xs,cls[j]?=some (some xs)->∃ x0 x1 r,xs=x0::x1::r∧Lt n x0∧Lt n x1
theorem setC_wat (D:Dat) (j:Nat) (o:Option (List Int)):(D.setC j o).wat=D.wat:=rfl
theorem uwD_len (j:Int) (D:Dat) (l:Int):(uwD j D l).wat.length=D.wat.length:=Zp
theorem uwD_le {m:Nat}{j:Int}{D:Dat}{l:Int}(h:∀ xs∈D.wat,xs.length≤m):∀ xs∈(uwD j D l).wat,xs.length≤m:=fun xs hx=>by
 rcases Xz (show xs∈D.wat.set _ _ from hx) with z | z
 ·exact h _ z
 ·rw[z]
  refine Zf (Wk ..) ?_
  by_cases q:(pl l).toNat<D.wat.length
  ·exact h _ (Zg (getD_some q))
  ·rw[Zb,Z1 (Nat.le_of_not_lt q)];exact Z2 _
structure DropI (n:Nat) (D D':Dat) (rest:List Int):Prop where
 shp:Shp n D'
 scl:Scl D'
 le:∀ xs∈D'.wat,xs.length≤900
 cl:∀ j∈rest,D'.cls[j.toNat]?=D.cls[j.toNat]?
 len:D'.cls.length=D.cls.length
 rm:ivi D' 33=ivi D 33
theorem DropI.step {n:Nat}{D D':Dat}{j:Int}{rest:List Int}(h:DropI n D D' (j::rest)) (hj0:0≤j) (hp:∀ i∈rest,0≤i) (nd:j∉rest) {x0 x1:Int}{r:List Int}(hj:D.cls[j.toNat]?=some (some (x0::x1::r))) :
  drop1 D' j=((uwD j (uwD j D' x0) x1).setC j.toNat none).setV 23 (.int (ivi D' 23 - 1))∧DropI n D (drop1 D' j) rest:=by
 have e:drop1 D' j=((uwD j (uwD j D' x0) x1).setC j.toNat none).setV 23 (.int (ivi D' 23 - 1)):=by
  unfold drop1;rw[h.cl j (.head _),hj];rfl
 refine⟨e,?_⟩
 rw[e]
 refine⟨⟨h.shp.lv,?_⟩,scl_set (D:=(uwD j (uwD j D' x0) x1).setC j.toNat none) ⟨h.scl.hook,h.scl.int⟩ (by decide),?_,fun i hi=>?_,?_,?_⟩
 ·exact (uwD_len ..).trans ((uwD_len ..).trans h.shp.lw)
 ·exact uwD_le (uwD_le h.le)
 ·show (D'.cls.set _ _)[i.toNat]?=_
  rw[Zi,h.cl i (.tail _ hi)]
  intro z
  have:=hp i hi
  have:j=i:=tni hj0 this z
  exact nd (this▸hi)
 ·show (D'.cls.set _ _).length=_;rw[Zp];exact h.len
 ·exact h.rm
theorem forget_spec {B:Base}(g:Ctx B) {d n:Nat}{c:Addr}{H:AH}{L:Lay}{D:Dat}{Q:MV->AH->Prop}(hd:16≤d) (C:CoreAt c H L D) (hD:Scl D) (hs:Shp n D) (h2:Two n D.cls) (h11:(D.il 11).length=D.cls.length) (h12:(D.il 12).length=D.cls.length) (hl:D.cls.length<60)
  (hb:∀ xs∈D.wat,xs.length≤900) (q:∀ ws H' L',SrtW D (candL D D.cls.length) ws->CoreAt c H' L' (forgetD D ws)->Stp H L D H' L' (forgetD D ws)->Q .none H') :
  SpecCall B d f_SatCore_forget [.ref c] H Q:=by
 refine (Ctx.fn g (d:=12) k_SatCore_forget rfl ?_).mono hd fun _ _=>id
 unfold a_SatCore_forget
 refine sAsg ?_
 refine eList (esNil ?_)
 intro a ha
 show wpL _ _ (updR _ 95 (.ref a)) _ _
 have na:=C.nf ha
 refine sForN (Pv.lenK (C.new ha _) (.var rfl)) (Ya hl (by decide)) (fun i ρ H'=>ρ 40=some (.ref c)∧ρ 95=some (.ref a)∧H'=upd H a (.list ((candL D i).map .int))) (aI3 rfl rfl rfl) (fun i ρ H' hi h=>absN fun TT tn=>?_) fun ρ H' h=>?_
 ·refine aE3 h fun r40 r95 e0_2=>?_
  subst e0_2
  have C':CoreAt c (upd H a (.list ((candL D i).map .int))) L D:=C.new ha _
  have gi:D.cls[i]?=some (D.cls.getD i none):=getD_some hi
  refine sSet (Pv.cls C' (.var r40) (.var rfl) gi) ?_
  have p11:∀ {ρ'},ρ' 40=some (.ref c)->ρ' 68=some (.int (i:Int))->Pv (sig B T1 12) ρ' (upd H a (.list ((candL D i).map .int))) (.sub (.attr (.var 40) 11) (.var 68)) (.bool (decide ((D.il 11).getD i 0≠0))):=fun a b=>.at_ C' (n:=11) (.fld C' (.var a) rfl rfl) (.var b) ⟨by decide,by decide⟩ (Zj i) (Zx.mpr (by rw[h11];exact hi))
  have ht:candL D (i+1)=candL D i++if cand D i then [(i:Int)] else []:=by
   unfold candL
   rw[X9,List.filter_append,Yg]
   cases hc:cand D i<;>simp [hc]
  have hlen:(candL D i).length<1000:=by
   unfold candL
   rw[Zc]
   refine Ze (Wk ..) ?_
   rw[Z4];exact Ya hi (Ya hl (by decide))
  refine sIf (c:=cand D i) (.and (p11 r40 rfl) (fun p=>?_) (fun p=>by unfold cand;rw[p];rfl)) (fun p=>?_) (fun p=>?_)
  ·have ec:cand D i=candC D i D.cls[i]?.join:=by unfold cand;rw[p];rfl
   rw[ec,gi]
   induction hc:D.cls.getD i none using Option.casesOn with
   | none=>exact .and (x:=false) (.to (.isnt (.var rfl)) (decide_eq_false fun h=>h rfl)) nofun (fun _=>rfl)
   | some xs=>
    refine xE3 (h2 i xs (by rw[gi,hc])) fun x0 x1 r t1_0=>aE2 t1_0 fun e1_3 t1_1=>?_
    subst e1_3
    refine aE2 t1_1 fun hx0 hx1=>?_
    have gk:D.cls[i]?=some (some (x0::x1::r)):=by rw[gi,hc]
    refine .and (x:=true) (.to (.isnt (.var rfl)) (decide_eq_true nofun)) (fun _=>.and (.gt (.lenL (.var rfl) (C'.ctk gk)) .cst) (fun p2=>?_) (fun p2=>?_)) nofun
    ·refine .to (.not (.meth C' (f:=f_SatCore_is_reason) (.var r40) rfl rfl (.cons (.var rfl) .nil) (fun Q q=>is_reason_spec g (by decide) C' hs gk hx0 q))) ?_
     show _=(_ && _)
     rw[p2,Bool.true_and]
    ·show (_ && _)=false
     rw[p2];rfl
  ·refine sApp (.var r95) (.var rfl) upd_eq (by rw[Zc];exact Ya hlen (by decide)) (sNilT (sNil (tn ⟨r40,r95,?_⟩)))
   rw[upd_upd,ht,p,Yg];rfl
  ·exact sNilT (sNil (tn ⟨r40,r95,by rw[ht,p];simp⟩))
 refine aE3 h fun r40 r95 e2_2=>?_
 subst e2_2
 generalize hzs:candL D D.cls.length=zs at q ⊢
 have hz:∀ z∈zs,∃ j:Nat,z=j∧j<D.cls.length∧cand D j=true:=fun z hm=>by
  rw[← hzs] at hm
  refine xE1 (Z3.mp hm) fun j t3_0=>aE2 t3_0 fun hj e3_2=>?_
  subst e3_2
  exact⟨j,(aI3 rfl (Yp.mp (Wa.mp hj).1) ((Wa.mp hj).2))⟩
 have zl:zs.length<64:=by
  rw[← hzs]
  unfold candL
  rw[Zc]
  refine Ze (Wk ..) ?_
  rw[Z4];exact Zf hl (by decide)
 have znd:zs.Nodup:=by
  rw[← hzs]
  unfold candL
  exact List.Pairwise.map _ (fun a b h z=>h (by lia)) (List.Pairwise.filter _ W5)
 have C1:CoreAt c (upd H a (.list (zs.map .int))) L D:=C.new ha _
 refine sExpr ?_
 refine eLsortK ?_
 refine Pv.var r95 _ (xI2 a _ (aI3 rfl upd_eq (wBnd C1 (.var r40) rfl rfl fun m hm=>?_)))
 have hma:m≠a:=fun z=>by rw[z,upd_eq] at hm;exact nsc hm
 have hm0:H m=none:=by rw[upd_ne hma] at hm;exact hm
 refine⟨zs.map .int,by rw[upd_ne hma.symm,upd_eq],⟨trivial,by rw[Zc];exact zl⟩,?_⟩
 generalize hH3:del (upd (upd H a (.list (zs.map .int))) m (.meth f_SatCore_worth_of c)) a=H3
 have x3:∀ z,z≠a->z≠m->H3 z=H z:=fun z h1 h2=>by
  rw[← hH3];unfold del;rw[if_neg h1,upd_ne h2,upd_ne h1]
 have C3:CoreAt c H3 L D:=C.keep fun z f=>x3 z (fun e=>na (e▸f)) (fun e=>f.alive C (e▸hm0))
 have m3:H3 m=some (.meth f_SatCore_worth_of c):=by rw[← hH3];unfold del;rw[if_neg hma,upd_eq]
 have a3:H3 a=none:=by rw[← hH3];unfold del;rw[if_pos rfl]
 refine wKeysT (fun z=>(D.il 12).getD z.toNat 0) id zs H3 (fun z hzm H' x Q q=>?_) fun kvs H4 x4 k4=>(xI2 _ 2 (aI3 k4 (fun k hk=>?_) (fun ys so=>⟨nofun,?_⟩)))
 ·refine xE1 (hz z hzm) fun j t4_0=>aE2 t4_0 fun e4_1 t4_1=>?_
  subst e4_1
  refine aE2 t4_1 fun hj _=>?_
  refine .inl (xI2 _ _ ⟨(x m (by rw[m3];exact nofun)).trans m3,worth_of_spec g (by decide) (x.core C3) (by rw[h12];exact hj) q⟩)
 ·obtain ⟨z,_,rfl⟩:=Z3.mp hk;rfl
 refine xE1 (sort_ints (fun z=>[(D.il 12).getD z.toNat 0,z]) so) fun ws t5_0=>aE2 t5_0 fun e5_1 t5_1=>?_
 subst e5_1
 refine aE2 t5_1 fun hp hw=>?_
 have hSW:SrtW D zs ws:=⟨hp,hw⟩
 have C4:=x4.core C3
 have a4:H4 a=none∨¬Foot L D a:=.inr na
 have C5:CoreAt c (upd H4 a (.list (ws.map .int))) L D:=C4.out na _
 have S5:Stp H L D (upd H4 a (.list (ws.map .int))) L D:=by
  refine⟨fun b nf z=>?_,fun b f=>.inl f,fun b z=>?_⟩<;>
  ·have h1:b≠a:=fun e=>z (e▸ha)
   have h2:b≠m:=fun e=>z (e▸hm0)
   have e3:=x3 b h1 h2
   have e4:H4 b=H3 b:=x4 b (by rw[e3];exact z)
   rw[upd_ne h1,e4,e3]
   first | done | exact z
 have wl:ws.length<64:=by rw[hp.length_eq];exact zl
 have wnd:ws.Nodup:=hp.nodup_iff.mpr znd
 have wz:∀ z∈ws,0≤z∧∃ x0 x1 r,D.cls[z.toNat]?=some (some (x0::x1::r))∧Lt n x0∧Lt n x1:=fun z hm=>by
  refine xE1 (hz z (hp.mem_iff.mp hm)) fun j t6_0=>aE2 t6_0 fun e6_1 t6_1=>?_
  subst e6_1
  refine aE2 t6_1 fun hj hc=>?_
  refine⟨Zj j,?_⟩
  rw[Ym]
  have gi:D.cls[j]?=some (D.cls.getD j none):=getD_some hj
  unfold cand at hc
  rw[gi,Zy] at hc
  induction hcc:D.cls.getD j none using Option.casesOn with
  | none=>rw[hcc] at hc;cases hc.2
  | some xs=>
   refine xE3 (h2 j xs (by rw[gi,hcc])) fun x0 x1 r t7_0=>aE2 t7_0 fun e7_3 t7_1=>?_
   subst e7_3
   refine aE2 t7_1 fun hx0 hx1=>?_
   exact (xI3 x0 x1 r (aI3 (by rw[gi,hcc]) hx0 hx1))
 have hfd:((ws.length:Int)).fdiv 2=((ws.length / 2:Nat):Int):=by
  rw[Wv _ (by decide)];rfl
 refine sForM (xs:=(ws.take (ws.length / 2)).map MV.int) (J:=fun b H'=>upd H4 a (.list (ws.map .int)) b=none∧H'=upd (upd H4 a (.list (ws.map .int))) b (.list ((ws.take (ws.length / 2)).map .int))) (fun Q q=>?_)
  (fun b H0 i ρ H'=>ρ 40=some (.ref c)∧∃ L' D',D'=((ws.take (ws.length / 2)).take i).foldl drop1 D∧CoreAt c H' L' D'∧Stp H0 L D H' L' D'∧DropI n D D' ((ws.take (ws.length / 2)).drop i))
  (fun b H' e=>?_) (fun b H0 i ρ H' j e h=>?_) (fun b H0 i y ρ H' e hy h=>absN fun TT tn=>?_) (fun b H0 ρ H' e h=>?_)
 ·refine wSliceTo (.var r95) (.toI (.fdiv (.lenL (.var r95) upd_eq) .cst ⟨by decide,by decide⟩) hfd) upd_eq fun b hb=>?_
  rw[← Vq]
  exact q b _ ⟨hb,rfl⟩ upd_eq
 ·refine aE2 e fun e1 e8_1=>?_
  subst e8_1
  exact⟨r40,(xI2 L D (aI4 rfl (C5.new e1 _) .refl ⟨hs,hD,hb,fun _ _=>rfl,rfl,rfl⟩))⟩
 ·refine aE2 h fun _ t9_0=>xE2 t9_0 fun L' D' t9_1=>aE4 t9_1 fun _ _ S _=>?_
  refine aE2 j fun e1 e10_1=>?_
  subst e10_1
  exact (S.outs (C5.nf e1) (by rw[upd_eq];exact nofun)).2.trans upd_eq
 ·refine aE2 h fun r40 t11_0=>xE2 t11_0 fun L' D' t11_1=>aE4 t11_1 fun eD C' S' I'=>?_
  rw[Zn] at hy
  cases hz2:(ws.take (ws.length / 2))[i]? with
  | none=>rw[hz2] at hy;cases hy
  | some z=>
   rw[hz2] at hy;cases hy
   have zm:z∈ws:=Xy (Zg hz2)
   refine aE2 (wz z zm) fun z0 t12_0=>xE3 t12_0 fun x0 x1 r t12_1=>aE3 t12_1 fun hzc hx0 hx1=>?_
   refine xE1 (Wd z0) fun j e13_1=>?_
   subst e13_1
   have hdr:(ws.take (ws.length / 2)).drop i=(j:Int)::(ws.take (ws.length / 2)).drop (i+1):=by
    have hlt:=(Za.mp hz2).1
    rw[Xd hlt,(Za.mp hz2).2]
   rw[hdr] at I'
   have hsub:∀ y∈(ws.take (ws.length / 2)).drop (i+1),y∈ws:=fun y hm=>Xy (List.mem_of_mem_drop hm)
   have ndj:(j:Int)∉(ws.take (ws.length / 2)).drop (i+1):=by
    have:((ws.take (ws.length / 2)).drop i).Nodup:=List.Sublist.nodup (List.drop_sublist ..) (List.Sublist.nodup (W1 ..) wnd)
    rw[hdr] at this
    exact (Yc.mp this).1
   refine aE2 (I'.step z0 (fun y hm=>(wz y (hsub y hm)).1) ndj hzc) fun e1 I2=>?_
   rw[Ym] at hzc e1
   have hc':D'.cls[j]?=some (some (x0::x1::r)):=by
    have:=I'.cl j (.head _)
    rw[Ym] at this
    rw[this];exact hzc
   refine sExpr (wMeth C' (f:=f_Trail_unwatch) (.var r40) rfl rfl (.cons (.var rfl) .nil) ?_)
   refine unwatch_spec g (by decide) C' I'.shp hc' hx0 hx1 I'.le fun H6 L6 C6 S6=>⟨nofun,?_⟩
   refine sPutN C6 (.var r40) (.var rfl) (Za.mp hc').1 fun H7 C7 S7=>?_
   have hD7:Scl ((uwD j (uwD j D' x0) x1).setC j none):=⟨I'.scl.hook,I'.scl.int⟩
   refine sPutV C7 (.sub_ (.int C7 hD7 (.var r40) (.inl ⟨by decide,by decide⟩) rfl) .cst) (.var r40) ⟨by decide,by decide⟩ rfl rfl fun H8 C8 S8=>sNil (tn ?_)
   have eD2:((uwD j (uwD j D' x0) x1).setC j none).setV 23 (.int (ivi ((uwD j (uwD j D' x0) x1).setC j none) 23 - 1))=drop1 D' j:=e1.symm
   rw[eD2] at C8 S8
   refine⟨r40,L6,drop1 D' j,?_,C8,((S'.trans S6).trans S7).trans S8,I2⟩
   rw[Xt,hz2,X8,Wg,← eD];rfl
 ·refine aE2 h fun r40 t15_0=>xE2 t15_0 fun L' D' t15_1=>aE4 t15_1 fun eD C' S' I'=>?_
  refine aE2 e fun e1 e16_1=>?_
  subst e16_1
  rw[Zc,Wm] at eD
  have i33:Pv (sig B T1 12) ρ H' (.attr (.var 40) 33) (.int (ivi D 33)):=.toI (.int C' I'.scl (.var r40) (.inr ⟨by decide,by decide⟩) rfl) I'.rm
  refine sPutV C' (.add (.add i33 (.fdiv i33 .cst ⟨by decide,by decide⟩)) .cst) (.var r40) ⟨by decide,by decide⟩ rfl rfl fun H9 C9 S9=>sNil ?_
  have:=q ws H9 L' hSW
  unfold forgetD at this
  rw[← eD] at this
  exact this C9 ((S5.trans ((Stp.refl.alloc e1 _).trans S')).trans S9)
section
variable {S:Sig}{ρ:RH}{H:AH}{R:Fl->RH->AH->Prop}
theorem sIfJ {t:ME}{a r:MSs}{c:Bool}(J:RH->AH->Prop) (h:Pv S ρ H t (.bool c)) (k:∀ ρ' H',J ρ' H'->wpL S r ρ' H' R) (h1:c=true->(∀ ρ' H',J ρ' H'->thenL S r R .next ρ' H')->wpL S a ρ H (thenL S r R)) (h2:c=false->J ρ H):wpL S (.cons (.ifS t a .nil) r) ρ H R:=
 sIf h (fun p=>h1 p k) fun p=>sNilT (k _ _ (h2 p))
theorem sIfWJ {t:ME}{a r:MSs}(J:AH->Prop) (k:∀ H',J H'->wpL S r ρ H' R) (h:(∀ H',J H'->wpL S .nil ρ H' (thenL S r R))->wpE S t ρ H fun v H=>∃ c,v=.bool c∧if c=true then wpL S a ρ H (thenL S r R) else wpL S .nil ρ H (thenL S r R)):wpL S (.cons (.ifS t a .nil) r) ρ H R:=
 sIfW (h fun H' j=>sNilT (k H' j))
theorem wAnd {a b:ME}{x:Bool}{Q:MV->AH->Prop}(h1:Pv S ρ H a (.bool x)) (h2:x=true->wpE S b ρ H Q) (h3:x=false->Q (.bool false) H):wpE S (.bop true a b) ρ H Q:=by
 refine eBop ?_
 refine h1 _ ⟨x,rfl,?_⟩
 induction x using Bool.casesOn with
 | true=>exact h2 rfl
 | false=>exact h3 rfl
theorem wTup {es:MEs}{vs:List MV}{Q:MV->AH->Prop}(h:Pvs S ρ H es vs) (q:∀ a,H a=none->Q (.ref a) (upd H a (.tup vs))):wpE S (.tup es) ρ H Q:=by refine eTup ?_;exact h _ q
theorem bT {X Y:Prop}(h:X):∃ c,MV.bool true=.bool c∧if c=true then X else Y:=⟨true,rfl,h⟩
theorem bF {X Y:Prop}(h:Y):∃ c,MV.bool false=.bool c∧if c=true then X else Y:=⟨false,rfl,h⟩
end
section
variable {B:Base}{d:Nat}{ρ:RH}{c:Addr}{H:AH}{L:Lay}{D:Dat}
theorem aPutC (C:CoreAt c H L D) {l i:ME}{j:Nat}{z y:Int}{xs:List Int}{Q:RH->AH->Prop}(hl:Pv (sig B T1 d) ρ H l (.ref (L (.k j)))) (hi:Pv (sig B T1 d) ρ H i (.int z)) (hj:D.cls[j]?=some (some xs)) (h0:0≤z) (h1:z<xs.length)
  (q:∀ H',CoreAt c H' L (D.setC j (some (xs.set z.toNat y)))->Stp H L D H' L (D.setC j (some (xs.set z.toNat y)))->Q ρ H'):wpA (sig B T1 d) (.sub l i) (.int y) ρ H Q:=by
 refine aE2 (C.setC hj (xs.set z.toNat y)) fun C' S'=>?_
 refine aSub ?_
 refine hl _ (hi _ (xI3 _ z _ (aI6 rfl rfl (C.ctk hj) h0 (by rw[Zc];exact h1) ?_)))
 have:=q _ C' S'
 rw[List.map_set] at this
 exact this
end
theorem setC_setC (D:Dat) (j:Nat) (a b:Option (List Int)):(D.setC j a).setC j b=D.setC j b:=by
 unfold Dat.setC;dsimp only;rw[List.set_set]
theorem Pv.atK {B:Base}{d:Nat}{ρ:RH}{c:Addr}{H:AH}{L:Lay}{D:Dat}(C:CoreAt c H L D) {e i:ME}{j:Nat}{z:Nat}{xs:List Int}{x:Int}(he:Pv (sig B T1 d) ρ H e (.ref (L (.k j)))) (hz:Pv (sig B T1 d) ρ H i (.int (z:Int))) (hj:D.cls[j]?=some (some xs)) (hx:xs[z]?=some x):Pv (sig B T1 d) ρ H (.sub e i) (.int x):=
 .sub he hz (seqL (C.ctk hj)) (getAt_nat (by rw[Zn,hx];rfl))
theorem rngUp_at {a z:Int}{i:Nat}{y:Int}(h:(rngUp a z)[i]?=some y):y=a+i∧(i:Int)<z - a:=by
 unfold rngUp at h
 rw[Zn] at h
 by_cases q:i<(z - a).toNat
 ·rw[Yi q] at h
  simp at h
  exact⟨h.symm,ltt q⟩
 ·rw[Z1 (by rw[Z4];exact Yj.mp q)] at h;cases h
theorem moved_spec {B:Base}(g:Ctx B) {d n:Nat}{c:Addr}{H:AH}{L:Lay}{D:Dat}{Q:MV->AH->Prop}(hd:8≤d) (C:CoreAt c H L D) (h3:(D.il 3).length=n+1) (hw:D.wat.length=2*n+2) {j:Nat}{y0 y1:Int}{r:List Int}(hj:D.cls[j]?=some (some (y0::y1::r))) (lt:∀ l∈r,Lt n l) (hr:r.length<1000)
  (hb:∀ xs∈D.wat,xs.length<900) (q1:∀ i,r.findIdx? (fun l=>!decide (val D l=-1))=some i->∀ H',CoreAt c H' L (moveD D j y0 y1 r i)->Stp H L D H' L (moveD D j y0 y1 r i)->Q (.bool true) H') (q2:r.findIdx? (fun l=>!decide (val D l=-1))=none->Q (.bool false) H) :
  SpecCall B d f_Trail_moved [.ref c,.int j,.ref (L (.k j))] H Q:=by
 refine (Ctx.fn g (d:=4) k_Trail_moved rfl ?_).mono hd fun _ _=>id
 unfold a_Trail_moved
 have hlen:(rngUp 2 ((y0::y1::r).length:Int)).length=r.length:=by
  unfold rngUp;rw[Zc,Z4,Zm,Zm];exact Int.toNat_sub (r.length+1+1) 2
 refine sForI (l:=rngUp 2 ((y0::y1::r).length:Int)) (rUp .cst (.lenL (.var rfl) (C.ctk hj)) ⟨by decide,by decide⟩ (small_nat (by rw[Zm,Zm];lia)))
  (fun i ρ H'=>ρ 40=some (.ref c)∧ρ 68=some (.int j)∧ρ 56=some (.ref (L (.k j)))∧H'=H∧∀ k,k<i->∀ l,r[k]?=some l->val D l=-1)
  (aI5 rfl rfl rfl rfl (fun k h=>absurd h (Va _))) (fun i y ρ H' e h=>absNR fun TT tn tr=>?_) (fun ρ H' h=>?_)
 ·refine aE5 h fun r40 r68 r56 e1_3 hf=>?_
  subst e1_3
  refine aE2 (rngUp_at e) fun e2_0 hy=>?_
  subst e2_0
  have hi:i<r.length:=by rw[Zm,Zm] at hy;exact Zx.mp ((Int.add_sub_cancel (r.length:Int) 2)▸hy)
  obtain ⟨m,hm⟩ : ∃ m,r[i]?=some m:=⟨_,Yh hi⟩
  have lm:=lt m (Zg hm)
  have e2:(2:Int)+i=((i+2:Nat):Int):=by lia
  rw[e2]
  have hxi:(y0::y1::r)[i+2]?=some m:=hm
  refine sIf (.ne (Pv.value g C (.var r40) (.atK C (.var r56) (.var rfl) hj hxi) (by decide) h3 lm) .glob) (fun p=>?_) (fun p=>?_)
  ·have vm:val D m≠-1:=by simpa using p
   have hfi:r.findIdx? (fun l=>!decide (val D l=-1))=some i:=by
    rw[Vr]
    refine⟨hi,?_,fun k hk=>?_⟩
    ·rw[(Za.mp hm).2];simpa using vm
    ·have:=hf k hk _ (Yh (Ya hk hi))
     simpa using this
   refine xE1 (pl_nat lm) fun pm t0=>aE3 t0 fun e1 e3 e4=>?_
   refine sAsgT (wTup (.cons (.atK C (.var r56) (.var rfl) hj hxi) (.cons (.at1 (.var r56) (C.ctk hj)) .nil)) fun a ha=>(xI2 a _ (aI4 rfl upd_eq rfl ?_)))
   have C1:=C.new ha (.tup [.int m,.int y1])
   refine asCons ?_
   refine aPutC C1 (.var r56) .cst hj (by decide) (by rw[Zm,Zm];lia) fun H2 C2 S2=>?_
   have hj2:(D.setC j (some ((y0::y1::r).set 1 m))).cls[j]?=some (some (y0::m::r)):=Zh (Za.mp hj).1
   refine asCons ?_
   refine aPutC C2 (z:=((i+2:Nat):Int)) (.var r56) (.var rfl) hj2 (Zj _) (by rw[Zm,Zm];exact Zx.mpr (X0 (X0 hi))) fun H3 C3 S3=>?_
   have eD:(D.setC j (some ((y0::y1::r).set 1 m))).setC j (some ((y0::m::r).set (((i+2:Nat):Int)).toNat y1))=D.setC j (some (y0::m::r.set i y1)):=setC_setC ..
   rw[show Int.toNat 1=1 from rfl,eD] at C3 S3
   refine asNil ?_
   have hj3:(D.setC j (some (y0::m::r.set i y1))).cls[j]?=some (some (y0::m::r.set i y1)):=Zh (Za.mp hj).1
   have gp:D.wat[pm]?=some (D.wat.getD pm []):=getD_some (hw▸e4)
   refine sAppW C3 (.wat C3 (.var r40) (.toI (Pv.place g (.at1 (.var r56) (C3.ctk hj3)) (by decide)) e1) (by show pm<D.wat.length;exact hw▸e4)) (.var r68) gp (Ya (hb _ (Zg gp)) (by decide)) fun H4 C4 S4=>?_
   have eM:(D.setC j (some (y0::m::r.set i y1))).setW pm (D.wat.getD pm []++[(j:Int)])=moveD D j y0 y1 r i:=by
    unfold moveD
    rw[show r.getD i 0=m by rw[Zb,hm];rfl,e3]
   rw[eM] at C4 S4
   exact sRetP .cst (tr (q1 i hfi H4 C4 ((((Stp.refl.alloc ha _).trans S2).trans S3).trans S4)))
  ·refine sNilT (sNil (tn ⟨r40,r68,r56,rfl,fun k hk l hl=>?_⟩))
   rcases Nat.lt_succ_iff_lt_or_eq.mp hk with z | rfl
   ·exact hf k z l hl
   ·rw[hm] at hl;have hl:=Option.some.inj hl;subst hl;simpa using p
 ·refine aE5 h fun r40 r68 r56 e4_3 hf=>?_
  subst e4_3
  rw[hlen] at hf
  refine sRetP .cst (q2 (List.findIdx?_eq_none_iff.mpr fun l hl=>?_))
  refine xE1 (Yy hl) fun k hk=>?_
  have:=hf k (Za.mp hk).1 l hk
  simpa using this
structure VS (c:Addr) (L:Lay) (D:Dat) (H:AH) (b:Addr) (n:Nat) (gone:Int) (p:Nat) (ys0:List Int) (D':Dat) (kept wp:List Int) (H':AH):Prop where
 C:CoreAt c H' L D'
 S:Stp H L D H' L D'
 hb:H' b=some (.list (kept.map .int))
 nf:¬Foot L D' b
 V:VI n gone p ys0 D' wp
theorem VS.go {c:Addr}{L:Lay}{D:Dat}{H:AH}{b:Addr}{n:Nat}{gone:Int}{p:Nat}{ys0:List Int}{D' D'':Dat}{kept wp wp':List Int}{H' H'':AH}(v:VS c L D H b n gone p ys0 D' kept wp H') (C:CoreAt c H'' L D'') (S:Stp H' L D' H'' L D'') (V:VI n gone p ys0 D'' wp'):VS c L D H b n gone p ys0 D'' kept wp' H'':=
 let o:=S.outs v.nf (by rw[v.hb];exact nofun)
 ⟨C,v.S.trans S,o.2.trans v.hb,o.1,V⟩
theorem VS.add {c:Addr}{L:Lay}{D:Dat}{H:AH}{b:Addr}{n:Nat}{gone:Int}{p:Nat}{ys0:List Int}{D':Dat}{kept wp kept':List Int}{H':AH}(v:VS c L D H b n gone p ys0 D' kept wp H') (h:H b=none):VS c L D H b n gone p ys0 D' kept' wp (upd H' b (.list (kept'.map .int))):=
 ⟨v.C.out v.nf _,v.S.set h _,upd_eq,v.nf,v.V⟩
theorem visit_spec {B:Base}(g:Ctx B) {d n:Nat}{c:Addr}{H:AH}{L:Lay}{D:Dat}{Q:MV->AH->Prop}(hd:16≤d) (C:CoreAt c H L D) (hn:n≤8) {gone:Int}(V0:VI n gone (pl gone).toNat (D.wat.getD (pl gone).toNat []) D (D.wat.getD (pl gone).toNat []))
  (q:∀ H' L',CoreAt c H' L' (visitD D gone).1->Stp H L D H' L' (visitD D gone).1->Q (.int (visitD D gone).2) H'):SpecCall B d f_Trail_visit [.ref c,.int gone] H Q:=by
 refine (Ctx.fn g (d:=12) k_Trail_visit rfl ?_).mono hd fun _ _=>id
 unfold a_Trail_visit
 unfold visitD at q
 refine hide fun R done=>?_
 refine xE1 (pl_nat V0.lt) fun p t0=>aE3 t0 fun e1 e2 e3=>?_
 refine done ?_
 rw[e2] at q V0
 generalize hys:D.wat.getD p []=ys0 at q V0
 have hlys:ys0.length≤16:=by
  have:=V0.w.len (Zg (Zh V0.pl_lt))
  exact Zf this V0.sz
 refine sAsgT ?_
 refine eTup (esCons ?_)
 refine Pv.wat C (.var rfl) (.toI (Pv.place g (.var rfl) (by decide)) e1) V0.pl_lt _ ?_
 refine esCons (eList (esNil ?_))
 intro b hb
 have C1:=C.new hb (.list [])
 refine esCons ?_
 refine Pv.glob _ ?_
 refine esNil ?_
 intro a ha
 have hab:a≠b:=fun e=>by rw[e,upd_eq] at ha;exact nsc ha
 refine (xI2 a _ (aI4 rfl upd_eq rfl ?_))
 have v0:VS c L D H b n gone p ys0 D [] ys0 (upd (upd H b (.list [])) a (.tup [.ref (L (.w p)),.ref b,.int (-1)])):=
  ⟨C1.new ha _,(Stp.refl.alloc hb _).alloc ha _,by rw[upd_ne hab.symm,upd_eq];rfl,C.nf hb,V0⟩
 generalize (upd (upd H b (.list [])) a (.tup [.ref (L (.w p)),.ref b,.int (-1)]))=H1 at v0
 have fin:∀ ρ H' D' kept wp cf,ρ 40=some (.ref c)->ρ 84=some (.int gone)->ρ 88=some (.ref b)->ρ 85=some (.int cf)->VS c L D H b n gone p ys0 D' kept wp H'->visitL gone ys0 D []=(D',kept,cf)->
   wpL (sig B T1 12) (.cons (.asg (.sub (.attr (.var 40) 18) (.call 70 f_place_of (.cons (.var 84) .nil))) (.var 88)) (.cons (.ret (.var 85)) .nil)) ρ H' (fun fl _ H'=>match fl with | .ret v=>Q v H' | .next=>Q .none H' | _=>False):=fun ρ H' D' kept wp cf r40 r84 r88 r85 v e=>by
  refine sAsg (Pv.var r88 _ ?_)
  refine wPutW v.C (.var r40) (.toI (Pv.place g (.var r84) (by decide)) e1) v.hb v.nf v.V.pl_lt fun H2 C2 S2=>?_
  have:=q H2 (fuL L (.w p) b)
  rw[e] at this
  exact sRetP (.var r85) (this C2 (S2 v.S hb))
 refine sForN (k:=1) (.lenL (.var rfl) (v0.C.ctw V0.w0)) (Ze hlys (by decide)) (fun i ρ H'=>ρ 40=some (.ref c)∧ρ 84=some (.int gone)∧ρ 87=some (.ref (L (.w p)))∧ρ 88=some (.ref b)∧ρ 85=some (.int (-1))∧∃ D' kept,kept.length≤i∧VS c L D H b n gone p ys0 D' kept (kept++ys0.drop i) H'∧visitL gone ys0 D []=visitL gone (ys0.drop i) D' kept)
  (aI6 rfl rfl rfl rfl rfl (xI2 D [] (aI3 (Zk _) v0 rfl))) (fun i ρ H' hi h=>absNCB fun TT tn tc tb=>?_) fun ρ H' h=>?_
 ·refine aE6 h fun r40 r84 r87 r88 r85 t0=>xE2 t0 fun D' kept t1=>aE3 t1 fun kl v ef=>?_
  have hdr:ys0.drop i=ys0[i]::ys0.drop (i+1):=Xd hi
  generalize hrest:ys0.drop (i+1)=rest at hdr tn tc
  rw[hdr] at v ef
  have hji:ys0[i]?=some ys0[i]:=Yh hi
  generalize ys0[i]=jj at hdr hji v ef
  refine hide fun R done=>?_
  refine xE4 (v.V.at_ (Zo.mpr (.inr (.head _)))) fun j x0 x1 r t0=>aE3 t0 fun e8_4 hj hg=>?_
  subst e8_4
  refine done ?_
  have hst:=v.V.step hj hg
  rw[visitL_cons (by rw[Ym];exact hj),Ym,vstep_eq] at ef
  rw[vstep_eq] at hst
  have hks:kept.length<1000:=Ze kl (Zv hi (Zf hlys (by decide)))
  refine sSet (.sub (.var r87) (.var rfl) (seqL (v.C.ctw v.V.w0)) (getAt_nat (by rw[Zn,hji];rfl))) ?_
  refine sSet (.clsS v.C (.var r40) (.var rfl) hj) ?_
  refine sIf (c:=false) (.to (.isN (.var rfl)) (decide_eq_false nofun)) nofun fun _=>sNilT ?_
  have CC:=v.V.w.cl j _ hj
  have l0:=CC.lt x0 (.head _)
  have l1:=CC.lt x1 (.tail _ (.head _))
  refine sIfJ (fun ρ' H'=>ρ' 40=some (.ref c)∧ρ' 84=some (.int gone)∧ρ' 87=some (.ref (L (.w p)))∧ρ' 88=some (.ref b)∧ρ' 85=some (.int (-1))∧ρ' 48=some (.int i)∧ρ' 68=some (.int j)∧ρ' 56=some (.ref (L (.k j)))∧∃ D1 y0,Lt n y0∧VS c L D H b n gone p ys0 D1 kept (kept++(j:Int)::rest) H'∧D1.cls[j]?=some (some (y0::gone::r))∧
    visitL gone ys0 D []=if (vafter D1 gone j y0 r).2.1=false then visitL gone rest (vafter D1 gone j y0 r).1 kept else if (vafter D1 gone j y0 r).2.2=true then ((vafter D1 gone j y0 r).1,kept++[(j:Int)]++rest,(j:Int)) else visitL gone rest (vafter D1 gone j y0 r).1 (kept++[(j:Int)]))
   (.eq (.at0 (.var rfl) (v.C.ctk hj)) (.var r84)) (fun ρ' H2 h=>?_) (fun pz kk=>?_) (fun pz=>?_)
  ·refine aE9 h fun r40 r84 r87 r88 r85 r48 r68 r56 t0=>xE2 t0 fun D1 y0 t1=>aE4 t1 fun ly v hj ef=>?_
   have CC:=v.V.w.cl j _ hj
   have hst:=v.V.after hj
   have hs3:(D1.il 3).length=n+1:=v.V.t.lv 3 (by decide) (by decide)
   have pv0:∀ {ρ'},ρ' 40=some (.ref c)->ρ' 56=some (.ref (L (.k j)))->Pv (sig B T1 12) ρ' H2 (.mcall (.var 40) 71 (.cons (.sub (.var 56) (.cst (.int 0))) .nil)) (.int (val D1 y0)):=fun a b=>Pv.value g v.C (.var a) (.at0 (.var b) (v.C.ctk hj)) (by decide) hs3 ly
   have hrl:r.length<1000:=by have:=CC.five;rw[Zm,Zm] at this;lia
   have hbw:∀ xs∈D1.wat,xs.length<900:=fun xs hx=>by
    refine xE1 (Yy hx) fun k hk=>?_
    by_cases e:k=p
    ·subst e;rw[v.V.w0] at hk;have hk:=Option.some.inj hk;subst hk;exact Ze hlys (by decide)
    ·have:xs∈D1.wat.set p (kept++(j:Int)::rest):=Zg (i:=k) (by rw[Zi (Ne.symm e)];exact hk)
     have:=v.V.w.len this
     have:=v.V.sz
     lia
   have hlw:=v.V.lw
   refine sIfWJ (fun H3=>H3=H2∧(val D1 y0=1∨r.findIdx? (fun l=>!decide (val D1 l=-1))=none)) (fun H3 h=>?_) fun kk=>?_
   ·refine aE2 h fun e11_0 hk=>?_
    subst e11_0
    refine sApp (.var r88) (.var r68) v.hb (by rw[Zc];exact Ya hks (by decide)) ?_
    have v2:=v.add (kept':=kept++[(j:Int)]) hb
    rw[Yg,Y4] at v2
    have el:kept++(j:Int)::rest=kept++[(j:Int)]++rest:=by rw[Wh];rfl
    rw[el] at v2 hst
    have kl2:(kept++[(j:Int)]).length≤i+1:=by rw[Zd];exact Ye kl
    generalize upd H3 b (.list (kept.map MV.int++[.int (j:Int)]))=H4 at v2
    have pv2:∀ {ρ'},ρ' 40=some (.ref c)->ρ' 56=some (.ref (L (.k j)))->Pv (sig B T1 12) ρ' H4 (.mcall (.var 40) 71 (.cons (.sub (.var 56) (.cst (.int 0))) .nil)) (.int (val D1 y0)):=fun a b=>Pv.value (d:=12) g v2.C (.var a) (.at0 (.var b) (v2.C.ctk hj)) (by decide) hs3 ly
    refine sIf (.eq (pv2 r40 r56) .glob) (fun pc=>?_) (fun pc=>sNilT ?_)
    ·have pc:=of_decide_eq_true pc
     have hf:=hk.resolve_left (by rw[pc];decide)
     rw[vafter_c pc hf] at ef
     refine sSet (.var r68) (sExpr ?_)
     refine eMcall ?_
     refine Pv.var (ρ:=updR ρ' 85 (.int (j:Int))) (i:=88) (v:=.ref b) r88 _ ?_
     refine⟨b,rfl,?_⟩
     rw[v2.hb]
     refine⟨by decide,wEs1 ?_⟩
     refine eSFr ?_
     refine Pv.var (ρ:=updR ρ' 85 (.int (j:Int))) (i:=87) (v:=.ref (L (.w p))) r87 _ ?_
     refine Pv.add (ρ:=updR ρ' 85 (.int (j:Int))) (i:=i) (j:=1) (.var (i:=48) r48) .cst _ ?_
     refine (xI3 _ _ _ (aI6 rfl rfl (v2.C.ctw v2.V.w0) (Zj _) (by rw[Zc];exact Zx.mpr hi) (fun b2 hb2=>?_)))
     have hbb:b≠b2:=fun e=>by rw[← e,v2.hb] at hb2;exact nsc hb2
     refine⟨_,by rw[upd_ne hbb];exact v2.hb,?_⟩
     refine⟨_,(aI5 upd_eq hbb.symm ?_ nofun (sBrk (tb ?_)))⟩
     ·rw[Zc,Wo,Zc]
      exact Zf (Nat.add_le_add (Zf kl2 hi) (Xi ..)) (by unfold LIM;lia)
     have e1':((i:Int)+1).toNat=i+1:=rfl
     rw[e1',← List.map_drop,hrest,← Yg]
     have v3:VS c L D H b n gone p ys0 D1 (kept++[(j:Int)]) (kept++[(j:Int)]++rest) (upd H4 b2 (.list (rest.map .int))):=⟨v2.C.new hb2 _,v2.S.alloc hb2 _,by rw[upd_ne hbb];exact v2.hb,v2.nf,v2.V⟩
     exact fin _ _ D1 _ _ j r40 r84 r88 rfl (v3.add (kept':=kept++[(j:Int)]++rest) hb) ef
    ·have pc:=of_decide_eq_false pc
     by_cases v1:val D1 y0=1
     ·rw[vafter_1 v1] at ef
      refine sIf (c:=false) (.to (.eq (pv2 r40 r56) .glob) (by rw[v1];rfl)) nofun fun _=>sNilT (sNil (tn ?_))
      exact⟨r40,r84,r87,r88,r85,D1,_,kl2,v2,ef⟩
     ·have hf:=hk.resolve_left v1
      rw[vafter_e v1 pc hf] at ef hst
      have v0':val D1 y0=0:=by
       rcases valA_tri v.V.t y0 with z | z | z
       ·exact z
       ·exact (v1 z).elim
       ·exact (pc z).elim
      refine sIf (c:=true) (.to (.eq (pv2 r40 r56) .glob) (by rw[v0'];rfl)) (fun _=>?_) nofun
      refine sExpr (wMeth v2.C (f:=f_Trail_enqueue) (.var r40) rfl rfl (.cons (.at0 (.var r56) (v2.C.ctk hj)) (.cons (.var r68) .nil)) ?_)
      refine enqueue_spec g (by decide) v2.C ⟨v.V.t.lv,hlw⟩ ly (Ze v.V.t.len (Ze hn (by decide))) fun H5 C5 S5=>⟨nofun,sNilT (sNil (tn ?_))⟩
      exact⟨r40,r84,r87,r88,r85,_,_,kl2,v2.go C5 S5 hst,ef⟩
   ·refine wAnd (.ne (pv0 r40 r56) .glob) (fun pz=>?_) (fun pz=>bF (kk H2 ⟨rfl,.inl (by simpa using pz)⟩))
    have v1:val D1 y0≠1:=by simpa using pz
    refine wMeth v.C (f:=f_Trail_moved) (.var r40) rfl rfl (.cons (.var r68) (.cons (.var r56) .nil)) ?_
    refine moved_spec g (by decide) v.C hs3 hlw hj (fun l hl=>CC.lt l (.tail _ (.tail _ hl))) hrl hbw (fun k hf H4 C4 S4=>bT (sCont (tc ?_))) fun hf=>bF (kk H2 ⟨rfl,.inr hf⟩)
    rw[vafter_m v1 hf] at ef hst
    exact⟨r40,r84,r87,r88,r85,_,kept,Nat.le_succ_of_le kl,v.go C4 S4 hst,ef⟩
  ·have pz:=of_decide_eq_true pz
   subst x0
   rw[if_pos rfl] at ef hst
   refine sAsgT (wTup (.cons (.at1 (.var rfl) (v.C.ctk hj)) (.cons (.var r84) .nil)) fun a ha=>(xI2 a _ (aI4 rfl upd_eq rfl ?_)))
   have hjl:=(Za.mp hj).1
   have C1:=v.C.new ha (.tup [.int x1,.int gone])
   refine asCons ?_
   refine aPutC C1 (.var rfl) .cst hj (by decide) (by rw[Zm];lia) fun H3 C3 S3=>?_
   have hj3:(D'.setC j (some ((gone::x1::r).set 0 x1))).cls[j]?=some (some (x1::x1::r)):=Zh hjl
   refine asCons ?_
   refine aPutC C3 (.var rfl) .cst hj3 (by decide) (by rw[Zm,Zm];lia) fun H4 C4 S4=>?_
   have eD:(D'.setC j (some ((gone::x1::r).set 0 x1))).setC j (some ((x1::x1::r).set 1 gone))=D'.setC j (some (x1::gone::r)):=setC_setC ..
   rw[show Int.toNat 1=1 from rfl,show Int.toNat 0=0 from rfl,eD] at C4 S4
   refine asNil ?_
   exact sNil (kk _ _ (aI9 r40 r84 r87 r88 r85 rfl rfl rfl (xI2 _ x1 (aI4 l1 (v.go C4 (((Stp.refl.alloc ha _).trans S3).trans S4) (v.V.swap hj)) (Zh hjl) ef))))
  ·have pz:=of_decide_eq_false pz
   rw[if_neg pz] at ef hst
   have:=hg.resolve_left pz
   subst x1
   exact (aI9 r40 r84 r87 r88 r85 rfl rfl rfl (xI2 D' x0 (aI4 l0 v hj ef)))
 ·refine aE6 h fun r40 r84 r87 r88 r85 t0=>xE2 t0 fun D' kept t1=>aE3 t1 fun kl v ef=>?_
  rw[List.drop_length] at ef v
  exact fin ρ H' D' kept _ (-1) r40 r84 r88 r85 v (by rw[ef];rfl)
theorem propc_spec {B:Base}(g:Ctx B) {d n:Nat}{c:Addr}{H:AH}{L:Lay}{D:Dat}{Q:MV->AH->Prop}(hd:20≤d) (C:CoreAt c H L D) (I:Inv n D) (dep:D.il 9≠[]) (q:∀ H' L',CoreAt c H' L' (propD D).1->Stp H L D H' L' (propD D).1->Q (.int (propD D).2) H') :
  SpecCall B d f_Trail_propagate_clauses [.ref c] H Q:=by
 refine (Ctx.fn g (d:=16) k_Trail_propagate_clauses rfl ?_).mono hd fun _ _=>id
 unfold a_Trail_propagate_clauses
 refine sWhile (fun m ρ H'=>ρ 40=some (.ref c)∧∃ D' L',CoreAt c H' L' D'∧Stp H L D H' L' D'∧Inv n D'∧D'.il 9≠[]∧m=9 - (ivi D' 21).toNat∧propF m D'=propD D) _ ⟨rfl,(xI2 D L (aI6 C .refl I dep rfl rfl))⟩ fun m ρ H' h=>?_
 obtain ⟨r40,D',L',C',S',I',dep',em,ef⟩:=h
 have h0:=I'.h0
 have i21:Pv (sig B T1 16) ρ H' (.attr (.var 40) 21) (.int (ivi D' 21)):=.int C' I'.scl (.var r40) (.inl ⟨by decide,by decide⟩) rfl
 refine Pv.lt i21 (.lenF C' (n:=8) (.fld C' (.var r40) rfl rfl) ⟨by decide,by decide⟩) _ ⟨_,rfl,?_⟩
 have hlen:=I'.t.len
 have n8:=I'.n8
 by_cases hl:ivi D' 21<(D'.il 8).length
 ·rw[if_pos (decide_eq_true hl)]
  refine absNR fun TT tn tr=>?_
  obtain ⟨f,rfl⟩ : ∃ f,m=f+1:=⟨m - 1,m9 em hl hlen n8⟩
  unfold propF at ef
  rw[if_pos hl] at ef
  obtain ⟨lg,fg⟩:=I'.gone hl
  generalize hg : -((D'.il 8).getD (ivi D' 21).toNat 0)=gone at ef lg fg
  refine sSet (v:=.int gone) (hg▸.neg (.atF C' (n:=8) (.var r40) i21 ⟨by decide,by decide⟩ rfl (fun _=>rfl) h0 hl)) ?_
  refine sPutV C' (.add (.int C' I'.scl (.var r40) (.inl ⟨by decide,by decide⟩) rfl) .cst) (.var r40) ⟨by decide,by decide⟩ rfl rfl fun H1 C1 S1=>?_
  have I1:Inv n (D'.setV 21 (.int (ivi D' 21+1))):=I'.head (by lia) hl
  obtain ⟨I2,k2,_⟩:=I1.visit dep' lg fg
  refine sAsg (wMeth C1 (f:=f_Trail_visit) (.var r40) rfl rfl (.cons (.var rfl) .nil) ?_)
  refine visit_spec g (by decide) C1 n8 (VI.start I1.sz I1.scl I1.t I1.r I1.w dep' lg fg) fun H2 L2 C2 S2=>?_
  generalize visitD (D'.setV 21 (.int (ivi D' 21+1))) gone=s at ef I2 k2 C2 S2 ⊢
  have S3:=(S'.trans S1).trans S2
  have e21:ivi s.1 21=ivi D' 21+1:=(ivi_of k2.iv 21).trans ivi_set
  show wpL _ _ (updR _ 85 (.int s.2)) H2 _
  refine sIf (.ne (.var rfl) .glob) (fun p=>?_) fun p=>?_
  ·have p:s.2≠-1:=by simpa using p
   rw[if_neg p] at ef
   refine sPutV C2 (.lenF C2 (n:=8) (.fld C2 (.var r40) rfl rfl) ⟨by decide,by decide⟩) (.var r40) ⟨by decide,by decide⟩ rfl rfl fun H4 C4 S4=>?_
   have:=q H4 L2
   rw[← ef] at this
   exact sRetP (.var rfl) (tr (this C4 (S3.trans S4)))
  ·have p:s.2=-1:=by simpa using p
   rw[if_pos p] at ef
   exact sNilT (sNil (tn ⟨f,Yk _,r40,s.1,L2,C2,S3,I2,by rw[k2.il 9 (.inr (Zk _))];exact dep',by rw[e21,tn1 h0];exact congrArg Nat.pred em,ef⟩))
 ·rw[if_neg (by rw[decide_eq_true_eq];exact hl)]
  have e:propF m D'=(D',-1):=by
   induction m using Nat.casesOn with
   | zero=>rfl
   | succ f=>unfold propF;rw[if_neg hl]
  have:=q H' L'
  rw[← ef,e] at this
  exact sRetP .glob (this C' S')
theorem prop_spec {B:Base}(g:Ctx B) {d n:Nat}{c:Addr}{H:AH}{L:Lay}{D:Dat}{Q:MV->AH->Prop}(hd:24≤d) (C:CoreAt c H L D) (I:Inv n D) (dep:D.il 9≠[]) (q:∀ H' L',CoreAt c H' L' (propD D).1->Stp H L D H' L' (propD D).1->Q (.int (propD D).2) H') :
  SpecCall B d f_SatCore_propagate [.ref c] H Q:=by
 refine (Ctx.fn g (d:=20) k_SatCore_propagate rfl ?_).mono hd fun _ _=>id
 unfold a_SatCore_propagate
 refine sWhile (fun m ρ H'=>ρ 40=some (.ref c)∧H'=H) 0 ⟨rfl,rfl⟩ fun m ρ H' h=>?_
 obtain ⟨r40,rfl⟩:=h
 refine Pv.cst _ (bT ?_)
 refine sAsg (wMeth C (f:=f_Trail_propagate_clauses) (.var r40) rfl rfl .nil ?_)
 refine propc_spec g (by decide) C I dep fun H2 L2 C2 S2=>?_
 show wpL _ _ (updR _ 85 (.int (propD D).2)) H2 _
 have e20:(propD D).1.iv 20=.none:=((I.prop _ D dep).2.2.1 20 (by decide)).trans I.scl.hook
 refine sIf (c:=true) (.or (.ne (.var rfl) .glob) (fun _=>.to (.isN (.fld C2 (.var r40) rfl (fld_scal ⟨by decide,by decide⟩))) (by rw[e20];rfl)) (fun _=>rfl)) (fun _=>sRetP (.var rfl) (q _ _ C2 S2)) nofun
theorem once_len {a:Int}:∀ {ys:List Int},ys.Nodup->(ys.filter fun y=>decide (y=a)).length=if a∈ys then 1 else 0
 | [],_=>rfl
 | y::ys,h=>by
  refine aE2 (Yc.mp h) fun h1 h2=>?_
  have ih:=once_len (a:=a) h2
  by_cases q:y=a
  ·subst q
   rw[W3 (p:=fun y'=>decide (y'=y)) (decide_eq_true rfl),Zm,ih,if_neg h1,if_pos (.head _)]
  ·rw[Wb (by rw[decide_eq_true_eq];exact q),ih]
   by_cases q2:a∈ys
   ·rw[if_pos q2,if_pos (.tail _ q2)]
   ·rw[if_neg q2,if_neg]
    intro z
    rcases Zr.mp z with z | z
    ·exact q z.symm
    ·exact q2 z
theorem known_len {n:Nat}{il:Nat->List Int}(T:TInv n il):((il 3).filter fun x=>!decide (x=0)).length=(il 8).length:=by
 have l3:=T.lv 3 (by decide) (by decide)
 have e:il 3=(List.range (n+1)).map fun i=>(il 3).getD i 0:=by
  refine Xw fun i=>?_
  rw[Zn]
  by_cases q:i<n+1
  ·rw[Yi q];exact getD_some (by rw[l3];exact q)
  ·rw[Z1 (by rw[l3];exact Yj.mp q),Z1 (by rw[Z4];exact Yj.mp q)];rfl
 have nd:((il 8).map fun l=>(vabs l).toNat).Nodup:=by
  rw[List.Nodup,Xv]
  refine List.Pairwise.imp_of_mem (fun {a b} ha hb ne e=>?_) T.nd
  have h1:=vabs_nn a
  have h2:=vabs_nn b
  rcases vabs_eq (show vabs a=vabs b from tni h1 h2 e) with q | q
  ·exact ne q
  ·have v1:=(T.as1 a (T.tr a ha)).mpr ha
   have v2:=(T.as1 b (T.tr b hb)).mpr hb
   rw[q,valA_neg (T.tr b hb).ne,v2] at v1
   cases v1
 have h:∀ x,x∈(List.range (n+1)).filter (fun i=>!decide ((il 3).getD i 0=0))↔x∈(il 8).map fun l=>(vabs l).toNat:=fun x=>by
  rw[Wa,Yp,Z3,Xk,decide_eq_false_iff_not]
  constructor
  ·rintro ⟨h1,h2⟩
   have h0:x≠0:=fun z=>by subst z;exact h2 T.z
   have lx:Lt n (x:Int):=⟨by lia,by lia,by lia⟩
   have ev:valA (il 3) (x:Int)=(il 3).getD x 0:=by
    unfold valA;rw[if_pos (by lia)];rfl
   rcases T.as0 x with z | z | z
   ·exact (h2 z).elim
   ·refine⟨x,(T.as1 _ lx).mp (ev.trans z),?_⟩
    unfold vabs;rw[if_neg (by lia)];rfl
   ·refine⟨-x,(T.as1 _ lx.neg).mp ?_,?_⟩
    ·rw[valA_neg lx.ne,ev,z];rfl
    ·rw[vabs_neg];unfold vabs;rw[if_neg (by lia)];rfl
  ·rintro ⟨l,hl,rfl⟩
   have tl:=T.tr l hl
   have:=tl.abs
   refine⟨tnv this,fun z=>?_⟩
   have:=(T.as1 l tl).mpr hl
   rw[valA_at] at this
   unfold at_ at this
   rw[z] at this
   split at this<;>cases this
 have e2:(((List.range (n+1)).map fun i=>(il 3).getD i 0).filter fun x=>!decide (x=0)).length=((List.range (n+1)).filter fun i=>!decide ((il 3).getD i 0=0)).length:=by
  rw[List.filter_map,Zc];rfl
 rw[e,e2,← Zc (as:=il 8) (f:=fun l=>(vabs l).toNat)]
 exact Yq (nodup_len (List.Pairwise.filter _ W5) fun x hx=>(h x).mp hx) (nodup_len nd fun x hx=>(h x).mpr hx)
theorem watch_len {n:Nat}{D:Dat}(w:WInv n D.cls D.wat) {j k p:Nat}{xs ys:List Int}{l:Int}(hj:D.cls[j]?=some (some xs)) (hk:xs[k]?=some l) (hp:pl l=p) (hy:D.wat[p]?=some ys):(ys.filter fun y=>decide (y=(j:Int))).length=if k<2 then 1 else 0:=by
 rw[once_len (w.wn p ys hy)]
 have C:=w.cl j xs hj
 match xs,hj,hk,C with
 | x0::x1::r,hj,hk,C=>
  have ll:=C.lt l (Zg hk)
  have nd:=C.nd
  rw[Z7,Z7,Yc,Yc,Zr] at nd
  have hm:(j:Int)∈ys↔k<2:=by
   rw[w.mem hy,memW_at hj]
   match k,hk with
   | 0,hk=>cases hk;exact⟨fun _=>by decide,fun _=>.inl hp⟩
   | 1,hk=>cases hk;exact⟨fun _=>by decide,fun _=>.inr hp⟩
   | k+2,hk=>
    have mr:l∈r:=Zg hk
    refine⟨fun z=>?_,fun z=>by lia⟩
    rcases z with z | z
    ·have:=pl_inj (C.lt x0 (.head _)) ll (z.trans hp.symm)
     exact (nd.1 (.inr (by rw[this];exact Z3.mpr ⟨l,mr,rfl⟩))).elim
    ·have:=pl_inj (C.lt x1 (.tail _ (.head _))) ll (z.trans hp.symm)
     exact (nd.2.1 (by rw[this];exact Z3.mpr ⟨l,mr,rfl⟩)).elim
  by_cases q:k<2
  ·rw[if_pos (hm.mpr q),if_pos q]
  ·rw[if_neg (fun z=>q (hm.mp z)),if_neg q]
 | [],hj,hk,C=>have:=C.two;cases this
 | [_],hj,hk,C=>have:=C.two;cases this;contradiction
theorem Lt.ix {n:Nat}{l:Int}(h:Lt n l):0≤vabs l∧vabs l<((n+1:Nat):Int):=⟨Yu (by decide) h.abs.1,h.abs.2⟩
theorem is_sound_spec {B:Base}(g:Ctx B) {d n:Nat}{c:Addr}{H:AH}{L:Lay}{D:Dat}{Q:MV->AH->Prop}(hd:8≤d) (C:CoreAt c H L D) (I:Inv n D) (q:∀ H',Ex H H'->Q (.bool true) H'):SpecCall B d f_Trail_is_sound [.ref c] H Q:=by
 refine (Ctx.fn g (d:=4) k_Trail_is_sound rfl ?_).mono hd fun _ _=>id
 unfold a_Trail_is_sound
 have l3:(D.il 3).length=n+1:=I.t.lv 3 (by decide) (by decide)
 have n8:=I.n8
 have tl:=I.t.len
 have sz:=I.sz
 refine sForN (k:=1) (Pv.lenK C (.var rfl)) (Ze sz (by decide)) (fun i ρ H'=>ρ 40=some (.ref c)∧Ex H H') ⟨rfl,.refl⟩ (fun j ρ H' hj h=>absN fun TT tn=>?_) fun ρ H' h=>?_
 ·refine aE2 h fun r40 x=>?_
  have C':=x.core C
  have gj:D.cls[j]?=some (D.cls.getD j none):=getD_some hj
  refine sSet (Pv.cls C' (.var r40) (.var rfl) gj) ?_
  induction hc:D.cls.getD j none using Option.casesOn with
  | none=>
   exact sIf (c:=false) (.and (x:=false) (.to (.isnt (.var rfl)) (decide_eq_false fun h=>h rfl)) nofun fun _=>rfl) nofun fun _=>sNilT (sNil (tn ⟨r40,x⟩))
  | some xs=>
   rw[hc] at gj
   have CC:=I.w.cl j xs gj
   have h5:=CC.five
   refine sIf (c:=true) (.and (x:=true) (.to (.isnt (.var rfl)) (decide_eq_true nofun)) (fun _=>.to (.gt (.lenL (.var rfl) (C'.ctk gj)) .cst) (decide_eq_true (by have:=CC.two;exact Zx.mpr this))) nofun) (fun _=>?_) nofun
   refine sForN (k:=1) (.lenL (.var rfl) (C'.ctk gj)) (Ze h5 (by decide)) (fun i ρ H'=>ρ 40=some (.ref c)∧ρ 68=some (.int (j:Int))∧ρ 56=some (.ref (L (.k j)))∧Ex H H') (aI4 r40 rfl rfl x) (fun k ρ H' hk h=>absN fun TT tn=>?_) fun ρ H' h=>sNilT (sNil (tn ⟨h.1,h.2.2.2⟩))
   refine aE4 h fun r40 r68 r56 x=>?_
   have C':=x.core C
   have hx:xs[k]?=some xs[k]:=Yh hk
   generalize xs[k]=l at hx
   have ll:=CC.lt l (Zg hx)
   refine xE1 (pl_nat ll) fun p t3_0=>aE3 t3_0 fun e1 e2 e3=>?_
   have hp:p<D.wat.length:=by rw[I.w.lw];exact e3
   have gp:D.wat[p]?=some (D.wat.getD p []):=getD_some hp
   have hlen:(D.wat.getD p []).length≤1000:=Zf (I.w.len (Zg gp)) (Zf sz (by decide))
   have hcount:=watch_len I.w gj hx e1 gp
   refine sAsg ?_
   refine eBcall ?_
   refine wEs1 ?_
   refine wCompI (.wat C' (.var r40) (.toI (Pv.place g (.atK C' (.var r56) (.var rfl) gj hx) (by decide)) e1) hp) (C'.ctw gp) hlen (fun y=>decide (y=(j:Int))) MV.int (fun y _=>cOne (.eq (.var rfl) (.var r68))) (fun y _ _=>.var rfl) fun b hb=>?_
   refine⟨_,seqL upd_eq,?_⟩
   rw[Zc,hcount]
   have x2:=x.trans (Ex.new hb (.list (((D.wat.getD p []).filter fun y=>decide (y=(j:Int))).map .int)))
   refine sIf (c:=false) (.to (.ne (.var rfl) (.ite (v:=.int ((if k<2 then 1 else 0:Nat):Int)) (.lt (.var rfl) .cst) (fun pk=>?_) fun pk=>?_)) (by rw[decide_eq_true rfl];rfl)) nofun fun _=>sNilT (sNil (tn ⟨r40,r68,r56,x2⟩))
   ·have pk:=of_decide_eq_true pk
    rw[if_pos (Zx.mp pk)];exact .cst
   ·have pk:=of_decide_eq_false pk
    rw[if_neg (by lia)];exact .cst
 refine aE2 h fun r40 x=>?_
 have C':=x.core C
 refine sForN (k:=1) (.lenF C' (n:=8) (.fld C' (.var r40) rfl rfl) ⟨by decide,by decide⟩) (by lia) (fun i ρ H'=>ρ 40=some (.ref c)∧Ex H H') ⟨r40,x⟩ (fun i ρ H' hi h=>absN fun TT tn=>?_) fun ρ H' h=>?_
 ·refine aE2 h fun r40 x=>?_
  have C':=x.core C
  have hl:(D.il 8)[i]?=some ((D.il 8).getD i 0):=getD_some hi
  generalize hll:(D.il 8).getD i 0=l at hl
  have lm:=Zg hl
  have lt:=I.t.tr l lm
  have v1:=(I.t.as1 l lt).mpr lm
  have vx:=lt.ix
  have hsp:(D.il 6).getD (vabs l).toNat 0=i:=I.t.sp i l hl
  refine sSet (v:=.int l) (.toI (.atF C' (n:=8) (.var r40) (.var rfl) ⟨by decide,by decide⟩ rfl (fun _=>rfl) (Zj i) (Zx.mpr hi)) hll) ?_
  refine sIf (c:=false) (.or (x:=false) (.to (.ne (Pv.value g C' (.var r40) (.var rfl) (by decide) l3 lt) .glob) (by rw[show val D l=1 from v1];rfl)) (fun _=>.to (.ne (.atF C' (n:=6) (.var r40) (.abs (.var rfl)) ⟨by decide,by decide⟩ rfl (fun _=>rfl) vx.1 (by rw[I.t.lv 6 (by decide) (by decide)];exact vx.2)) (.var rfl)) (by rw[hsp,decide_eq_true rfl];rfl)) nofun) nofun fun _=>sNilT ?_
  refine sSet (.atF C' (n:=5) (.var r40) (.abs (.var rfl)) ⟨by decide,by decide⟩ rfl (fun _=>rfl) vx.1 (by rw[I.t.lv 5 (by decide) (by decide)];exact vx.2)) ?_
  rcases I.r i l hl with hr | ⟨j,x1,r,hr,hj,hf⟩
  ·have hr:(D.il 5).getD (vabs l).toNat 0=-1:=hr
   rw[hr]
   exact sIf (c:=false) (.to (.ne (.var rfl) .glob) rfl) nofun fun _=>sNilT (sNil (tn ⟨r40,x⟩))
  ·have hr:(D.il 5).getD (vabs l).toNat 0=j:=hr
   rw[hr]
   refine sIf (c:=true) (.to (.ne (.var rfl) .glob) (by rw[decide_eq_false (by lia)];rfl)) (fun _=>?_) nofun
   have CC:=I.w.cl j _ hj
   refine sForL (xs:=(l::x1::r).map .int) (.clsS C' (.var r40) (.var rfl) hj) (fun k ρ H'=>ρ 40=some (.ref c)∧ρ 54=some (.int l)∧ρ 48=some (.int (i:Int))∧Ex H H') (aI4 r40 rfl rfl x) (fun k ρ H' h=>(h.2.2.2.core C).ctk hj) (fun k y ρ H' hk h=>absN fun TT tn=>?_) fun ρ H' h=>sNilT (sNil (tn ⟨h.1,h.2.2.2⟩))
   refine aE4 h fun r40 r54 r48 x=>?_
   have C':=x.core C
   refine xE1 (Z3.mp (Zg hk)) fun m t7_0=>aE2 t7_0 fun hm e7_2=>?_
   subst e7_2
   refine sIf (c:=false) (.and (.ne (.var rfl) (.var r54)) (fun pz=>?_) fun _=>rfl) nofun fun _=>sNilT (sNil (tn ⟨r40,r54,r48,x⟩))
   have pz:m≠l:=by simpa using pz
   refine aE2 (hf m ((Zr.mp hm).resolve_left pz)) fun f1 f2=>?_
   have lm:=CC.lt m hm
   have mx:=lm.ix
   refine .or (x:=false) (.to (.ne (Pv.value g C' (.var r40) (.var rfl) (by decide) l3 lm) .glob) (by rw[show val D m=-1 from f1];rfl)) (fun _=>.to (.gt (.atF C' (n:=6) (.var r40) (.abs (.var rfl)) ⟨by decide,by decide⟩ rfl (fun _=>rfl) mx.1 (by rw[I.t.lv 6 (by decide) (by decide)];exact mx.2)) (.var r48)) (decide_eq_false (Vf.mpr f2))) nofun
 ·refine aE2 h fun r40 x=>?_
  have C':=x.core C
  refine sRet ?_
  refine eCmp (eBcall ?_)
  refine wEs1 (wCompI (.fld C' (.var r40) rfl rfl) (C'.ct (.f 3) _ (cont_flat ⟨by decide,by decide⟩)) (by rw[l3];exact Ze n8 (by decide)) (fun y=>!decide (y=0)) MV.int (fun y _=>cOne (.ne (.var rfl) .glob)) (fun y _ _=>.var rfl) fun b hb=>?_)
  refine⟨_,seqL upd_eq,?_⟩
  rw[Zc,known_len I.t]
  refine Pv.lenF (C'.new hb _) (n:=8) (.fld (C'.new hb _) (.var r40) rfl rfl) ⟨by decide,by decide⟩ _ ?_
  show Q (.bool (((D.il 8).length:Int) == (D.il 8).length)) _
  rw[beq_self_eq_true]
  exact q _ (x.trans (Ex.new hb _))
noncomputable def ForGo (S:Sig) (x:Nat) (b:MSs) (Q:Fl->RH->AH->Prop) (ρ:RH) (sr:Src) (H:AH):Prop:=∃ (I:Nat->RH->AH->Prop) (N:Nat),I 0 ρ H∧∀ i ρ H,I i ρ H->i≤N∧
   match sr.next H i with
   | none=>False
   | some none=>Q .next ρ H
   | some (some v)=>wpL S b (updR ρ x v) H fun fl ρ H=>match fl with
    | .next | .cont=>I (i+1) ρ H
    | .brk=>Q .next ρ H
    | .ret v=>Q (.ret v) ρ H
section
variable {S:Sig}{ρ:RH}{H:AH}{R:Fl->RH->AH->Prop}
theorem wOr {a b:ME}{Q:MV->AH->Prop}(h:wpE S a ρ H fun u H=>∃ c,u=.bool c∧if c=false then wpE S b ρ H Q else Q (.bool c) H):wpE S (.bop false a b) ρ H Q:=by refine eBop ?_;exact h
theorem wNew {Q:MV->AH->Prop}(q:∀ a,H a=none->Q (.ref a) (upd H a (.list []))):wpE S (.list .nil) ρ H Q:=by refine eList (esNil ?_);exact q
end
structure Shd (d:PyData):Prop where
 lay:d.canLay0=true
 dep:d.depth≤60
theorem all2_int {H:AH}:∀ xs:List Int,All2 (ReadM H) (xs.map .int) (xs.map .int)
 | []=>.nil
 | x::xs=>.cons (.int x) (all2_int xs)
theorem rdList {H:AH}{a:Addr}{xs:List Int}(h:H a=some (.list (xs.map .int))):ReadM H (.ref a) (.list (xs.map .int)):=.list h (all2_int xs)
theorem lay_all:∀ {ds:List PyData},(∀ d∈ds,d.canLay0=true)->PyData.canLayAll0 ds=true
 | [],_=>rfl
 | d::ds,h=>by
  unfold PyData.canLayAll0
  rw[h d (.head _),lay_all fun x hx=>h x (.tail _ hx)];rfl
theorem dep_all {n:Nat}:∀ {ds:List PyData},(∀ d∈ds,d.depth≤n)->PyData.depthAll ds≤n
 | [],_=>Z2 _
 | d::ds,h=>by
  unfold PyData.depthAll
  exact Nat.max_le.mpr ⟨h d (.head _),dep_all fun x hx=>h x (.tail _ hx)⟩
theorem lay_list {ds:List PyData}(h:∀ d∈ds,d.canLay0=true):(PyData.list ds).canLay0=true:=by
 show PyData.canLayAll0 ds=true
 exact lay_all h
theorem lay_tup {ds:List PyData}(h:∀ d∈ds,d.canLay0=true):(PyData.tuple ds).canLay0=true:=by
 show PyData.canLayAll0 ds=true
 exact lay_all h
theorem dep_list {n:Nat}{ds:List PyData}(h:∀ d∈ds,d.depth≤n):(PyData.list ds).depth≤n+1:=by
 show PyData.depthAll ds+1≤n+1
 exact Ye (dep_all h)
theorem dep_tup {n:Nat}{ds:List PyData}(h:∀ d∈ds,d.depth≤n):(PyData.tuple ds).depth≤n+1:=by
 show PyData.depthAll ds+1≤n+1
 exact Ye (dep_all h)
theorem int_mem {xs:List Int}{d:PyData}(h:d∈xs.map PyData.int):d.canLay0=true∧d.depth≤0:=by
 obtain ⟨i,_,rfl⟩:=Z3.mp h
 exact⟨rfl,Zk _⟩
theorem shd_ints (xs:List Int):Shd (.list (xs.map .int)):=⟨lay_list fun d h=>(int_mem h).1,Zf (dep_list fun d h=>(int_mem h).2) (by decide)⟩
theorem cNeR {H:AH}{x y:Addr}{d1 d2:PyData}{Q:MV->AH->Prop}(r1:ReadM H (.ref x) d1) (r2:ReadM H (.ref y) d2) (s1:Shd d1) (s2:Shd d2) (q:Q (.bool (!PyData.eqv d1 d2)) H):wpCmp .NotEq (.ref x) (.ref y) H Q:=
 ⟨d1,d2,r1,r2,s1.lay,Zf s1.dep (by decide),s2.lay,Zf s2.dep (by decide),q⟩
theorem eqv_ints (xs ys:List Int):PyData.eqv (.list (xs.map .int)) (.list (ys.map .int))=decide (xs=ys):=by
 rw[PyData.eqv];exact ked_eqvAll xs ys
theorem scI {B:Base}{T:Tab}{d:Nat}{f:Addr}{vs:List MV}{H:AH}{Q:MV->AH->Prop}(h:SpecCall B d f vs H Q):(sig B T d).SC f vs H Q:=h
theorem All2.append {α β:Type}{R:α->β->Prop}{as as':List α}{bs bs':List β}(h:All2 R as bs) (h':All2 R as' bs'):All2 R (as++as') (bs++bs'):=by
 induction h with
 | nil=>exact h'
 | cons x _ ih=>exact .cons x ih
noncomputable def growHD (D:Dat):Dat:=pushD ((D.setL 15 (D.il 15++[0])).setL 16 (D.il 16++[-1])) (D.il 15).length
theorem hgrow_spec {B:Base}(g:Ctx B) {d m:Nat}{c:Addr}{H:AH}{L:Lay}{D:Dat}{Q:MV->AH->Prop}(hd:16≤d) (C:CoreAt c H L D) (l15:(D.il 15).length=m) (l16:(D.il 16).length=m) (l17:(D.il 17).length<800) (ent:∀ v∈D.il 17,1≤v∧v≤m) (hm:1≤m) (hm2:m<900)
  (q:∀ H',CoreAt c H' L (growHD D)->Stp H L D H' L (growHD D)->Q .none H'):SpecCall B d f_CoreHeap_grow [.ref (L .hp),.int m] H Q:=by
 refine (Ctx.fn g (d:=12) k_CoreHeap_grow rfl ?_).mono hd fun _ _=>id
 unfold a_CoreHeap_grow
 refine sWhile (fun k ρ H'=>ρ 40=some (.ref (L .hp))∧ρ 45=some (.int m)∧((k=1∧H'=H)∨(CoreAt c H' L (growHD D)∧Stp H L D H' L (growHD D)))) 1 (aI3 rfl rfl (.inl ⟨rfl,rfl⟩)) fun k ρ H' h=>?_
 obtain ⟨r40,r45,h⟩:=h
 have e15:(growHD D).il 15=D.il 15++[0]:=(push_hs _ _).il 15 (by decide) (by decide)
 rcases h with ⟨rfl,rfl⟩ | ⟨C',S'⟩
 ·refine Pv.lt (.methH C (f:=f_CoreHeap_many) (.var r40) rfl rfl .nil fun _ q=>many_spec g (by decide) C q) (.var r45) _ ⟨_,rfl,?_⟩
  rw[if_pos (decide_eq_true (by lia))]
  refine sAppF C (n:=15) (y:=0) (.l15 C (.var r40)) .cst ⟨by decide,by decide⟩ rfl (l15▸Ya hm2 (by decide)) fun H1 C1 S1=>?_
  refine sAppF C1 (n:=16) (y:=-1) (.l16 C1 (.var r40)) (.neg .cst) ⟨by decide,by decide⟩ rfl (by show (D.il 16).length<1000;exact l16▸Ya hm2 (by decide)) fun H2 C2 S2=>?_
  have e1:((((D.setL 15 (D.il 15++[0])).setL 16 (D.il 16++[-1])).il 15).length:Int) - 1=(D.il 15).length:=by
   show ((D.il 15++[0]).length:Int) - 1=_
   rw[Zd,Zs];lia
  refine sExpr (wMethH C2 (f:=f_CoreHeap_push) (vs:=[.int (D.il 15).length]) (.var r40) rfl rfl (.cons ?_ .nil) ?_)
  ·exact .toI (.methH C2 (f:=f_CoreHeap_many) (.var r40) rfl rfl .nil fun _ q=>many_spec g (by decide) C2 q) e1
  ·refine push_spec (n:=m) g (by decide) C2 ⟨?_,?_,?_,ent⟩ (by lia) (by lia) (by show (D.il 17).length<899;exact Zf l17 (by decide)) fun H3 C3 S3=>⟨nofun,sNil ⟨0,by decide,r40,r45,.inr ⟨C3,(S1.trans S2).trans S3⟩⟩⟩
   ·show (D.il 15++[0]).length=_;rw[Zd,l15];rfl
   ·show (D.il 16++[-1]).length=_;rw[Zd,l16];rfl
   ·show (D.il 17).length<900;exact Zf l17 (by decide)
 ·refine Pv.lt (.methH C' (f:=f_CoreHeap_many) (.var r40) rfl rfl .nil fun _ q=>many_spec g (by decide) C' q) (.var r45) _ ⟨_,rfl,?_⟩
  rw[if_neg]
  ·exact sNil (q _ C' S')
  ·rw[e15,Zd,Zs,decide_eq_true_eq];lia
theorem sAppL {B:Base}{d:Nat}{ρ:RH}{c:Addr}{H:AH}{L:Lay}{D:Dat}{R:Fl->RH->AH->Prop}(C:CoreAt c H L D) {s:ME}{r:MSs}(hs:Pv (sig B T1 d) ρ H s (.ref c)) (hl:D.wat.length<1000)
  (q:∀ H' L',CoreAt c H' L' (D.addW [])->Stp H L D H' L' (D.addW [])->L' .hp=L .hp->wpL (sig B T1 d) r ρ H' R):wpL (sig B T1 d) (.cons (.expr (.mcall (.attr s 18) 0 (.cons (.list .nil) .nil))) r) ρ H R:=by
 refine sExpr (wApp (.fld C hs rfl rfl) ⟨_,C.ct .W _ rfl⟩ (wNew fun b hb=>?_))
 have C0:=C.new hb (.list [])
 obtain ⟨C1,S1⟩:=C0.addWr (xs:=[]) upd_eq (C.nf hb)
 refine⟨_,(aI4 (C0.ct .W _ rfl) ?_ nofun (q _ _ C1 (S1 ((Stp.refl).alloc hb _) hb) (fuLw .hp nofun)))⟩
 unfold rowW;rw[Zc,Z4];exact Ya hl (by decide)
noncomputable def grow0 (D:Dat):Dat:=(((((((D.setL 3 (D.il 3++[0])).setL 4 (D.il 4++[0])).setL 5 (D.il 5++[-1])).setL 6 (D.il 6++[0])).setL 7 (D.il 7++[-1])).addW []).addW [])
noncomputable def growD (D:Dat):Dat:=growHD (grow0 D)
theorem grow_spec {B:Base}(g:Ctx B) {d m:Nat}{c:Addr}{H:AH}{L:Lay}{D:Dat}{Q:MV->AH->Prop}(hd:20≤d) (C:CoreAt c H L D) (lv:∀ k,3≤k->k≤7->(D.il k).length=m) (lw:D.wat.length<900) (l15:(D.il 15).length=m) (l16:(D.il 16).length=m) (l17:(D.il 17).length<800) (ent:∀ v∈D.il 17,1≤v∧v≤m) (hm:1≤m) (hm2:m<900)
  (q:∀ H' L',CoreAt c H' L' (growD D)->Stp H L D H' L' (growD D)->Q (.int m) H'):SpecCall B d f_Trail_grow [.ref c] H Q:=by
 refine (Ctx.fn g (d:=16) k_Trail_grow rfl ?_).mono hd fun _ _=>id
 unfold a_Trail_grow
 refine sSet (v:=.int m) (.toI (.lenF C (n:=3) (.fld C (.var rfl) rfl rfl) ⟨by decide,by decide⟩) (by rw[lv 3 (by decide) (by decide)])) ?_
 have lb:∀ k,3≤k->k≤7->(D.il k).length<1000:=fun k a b=>by rw[lv k a b];exact Zf hm2 (by decide)
 refine sAppF C (n:=3) (y:=0) (.fld C (.var rfl) rfl rfl) .glob ⟨by decide,by decide⟩ rfl (lb 3 (by decide) (by decide)) fun H1 C1 S1=>?_
 refine sAppF C1 (n:=4) (y:=0) (.fld C1 (.var rfl) rfl rfl) .cst ⟨by decide,by decide⟩ rfl (lb 4 (by decide) (by decide)) fun H2 C2 S2=>?_
 refine sAppF C2 (n:=5) (y:=-1) (.fld C2 (.var rfl) rfl rfl) .glob ⟨by decide,by decide⟩ rfl (lb 5 (by decide) (by decide)) fun H3 C3 S3=>?_
 refine sAppF C3 (n:=6) (y:=0) (.fld C3 (.var rfl) rfl rfl) .cst ⟨by decide,by decide⟩ rfl (lb 6 (by decide) (by decide)) fun H4 C4 S4=>?_
 refine sAppF C4 (n:=7) (y:=-1) (.fld C4 (.var rfl) rfl rfl) .glob ⟨by decide,by decide⟩ rfl (lb 7 (by decide) (by decide)) fun H5 C5 S5=>?_
 refine sAppL C5 (.var rfl) (Ya lw (by decide)) fun H6 L6 C6 S6 e6=>?_
 refine sAppL C6 (.var rfl) ?_ fun H7 L7 C7 S7 e7=>?_
 ·show (D.wat++[[]]).length<1000;rw[Zd,Zs];exact Ze lw (by decide)
 refine sExpr (wMethH C7 (f:=f_CoreHeap_grow) (.fld C7 (.var rfl) rfl rfl) rfl rfl (.cons (.var rfl) .nil) ?_)
 refine hgrow_spec g (by decide) C7 l15 l16 l17 ent hm hm2 fun H8 C8 S8=>⟨nofun,?_⟩
 exact sRetP (.var rfl) (q _ _ C8 (((((((S1.trans S2).trans S3).trans S4).trans S5).trans S6).trans S7).trans S8))
noncomputable def newD (D:Dat):Dat:=growD ((D.setL 13 (D.il 13++[0])).setL 14 (D.il 14++[0]))
theorem new_var_spec {B:Base}(g:Ctx B) {d m:Nat}{c:Addr}{H:AH}{L:Lay}{D:Dat}{Q:MV->AH->Prop}(hd:24≤d) (C:CoreAt c H L D) (lv:∀ k,3≤k->k≤7->(D.il k).length=m) (lw:D.wat.length<900) (l13:(D.il 13).length<900) (l14:(D.il 14).length<900) (l15:(D.il 15).length=m) (l16:(D.il 16).length=m) (l17:(D.il 17).length<800) (ent:∀ v∈D.il 17,1≤v∧v≤m) (hm:1≤m) (hm2:m<900)
  (q:∀ H' L',CoreAt c H' L' (newD D)->Stp H L D H' L' (newD D)->Q (.int m) H'):SpecCall B d f_Search_new_var [.ref c] H Q:=by
 refine (Ctx.fn g (d:=20) k_Search_new_var rfl ?_).mono hd fun _ _=>id
 unfold a_Search_new_var
 refine sAppF C (n:=13) (y:=0) (.fld C (.var rfl) rfl rfl) .cst ⟨by decide,by decide⟩ rfl (Ya l13 (by decide)) fun H1 C1 S1=>?_
 refine sAppF C1 (n:=14) (y:=0) (.fld C1 (.var rfl) rfl rfl) .cst ⟨by decide,by decide⟩ rfl (Ya l14 (by decide)) fun H2 C2 S2=>?_
 refine sRet (wMeth C2 (f:=f_Trail_grow) (.var rfl) rfl rfl .nil ?_)
 exact grow_spec g (by decide) C2 (fun k a b=>(congrArg List.length ((fu_ne (f:=fu D.il 13 _) (Yd (Ze b (by decide)))).trans (fu_ne (Yd (Ze b (by decide)))))).trans (lv k a b)) lw l15 l16 l17 ent hm hm2 fun H3 L3 C3 S3=>q _ _ C3 ((S1.trans S2).trans S3)
structure MkI (H0:AH) (C x dx:Addr) (k:Nat) (l:List (Nat × MV)) (m:List (Addr × AO)) (H:AH):Prop where
 hx:H x=some (.inst C dx)
 hd:H dx=some (.ns l)
 ml:∀ p∈m,H p.1=some p.2
 nd:(m.map Prod.fst++[x,dx]).Nodup
 ex:Ex H0 H
 fr:∀ a∈m.map Prod.fst++[x,dx],H0 a=none
 ln:l.length≤k
section
variable {H0 H:AH}{C x dx:Addr}{k:Nat}{l:List (Nat × MV)}{m:List (Addr × AO)}
theorem MkI.live (M:MkI H0 C x dx k l m H) {a:Addr}(h:a∈m.map Prod.fst++[x,dx]):H a≠none:=by
 rcases Zo.mp h with h | h
 ·obtain ⟨p,hp,rfl⟩:=Z3.mp h
  rw[M.ml p hp];exact nofun
 ·rcases Zr.mp h with rfl | h
  ·rw[M.hx];exact nofun
  ·rw[Zl.mp h,M.hd];exact nofun
theorem Ex.back {H H':AH}(e:Ex H H') {a:Addr}(h:H' a=none):H a=none:=Classical.byContradiction fun z=>by rw[e a z] at h;exact z h
theorem MkI.ne (M:MkI H0 C x dx k l m H) {a b:Addr}(h:H a=none) (hb:b∈m.map Prod.fst++[x,dx]):b≠a:=fun e=>M.live hb (e▸h)
theorem MkI.skip (M:MkI H0 C x dx k l m H) {a:Addr}(h:H a=none) (o:AO):MkI H0 C x dx k l m (upd H a o):=
 ⟨(upd_ne (M.ne h (Zo.mpr (.inr (.head _))))).trans M.hx,(upd_ne (M.ne h (Zo.mpr (.inr (.tail _ (.head _)))))).trans M.hd,
  fun p hp=>(upd_ne (M.ne h (Zo.mpr (.inl (Z3.mpr ⟨p,hp,rfl⟩))))).trans (M.ml p hp),M.nd,M.ex.trans (Ex.new h o),M.fr,M.ln⟩
theorem MkI.new (M:MkI H0 C x dx k l m H) {a:Addr}(h:H a=none) (o:AO):MkI H0 C x dx k l ((a,o)::m) (upd H a o):=by
 have N:=M.skip h o
 refine⟨N.hx,N.hd,fun p hp=>?_,?_,N.ex,fun b hb=>?_,M.ln⟩
 ·rcases Zr.mp hp with rfl | hp
  ·exact upd_eq
  ·exact N.ml p hp
 ·exact Yc.mpr ⟨fun z=>M.ne h z rfl,M.nd⟩
 ·rcases Zr.mp (show b∈a::(m.map Prod.fst++[x,dx]) from hb) with rfl | hb
  ·exact M.ex.back h
  ·exact M.fr b hb
theorem setNs_le (v:MV):∀ (l:List (Nat × MV)) (a:Nat),(setNs l a v).length≤l.length+1
 | [],a=>Zk _
 | (j,u)::r,a=>by
  unfold setNs
  split
  ·exact Xc _
  ·rw[Zm,Zm];exact Ye (setNs_le v r a)
theorem MkI.put (M:MkI H0 C x dx k l m H) (a:Nat) (v:MV):MkI H0 C x dx (k+1) (setNs l a v) m (upd H dx (.ns (setNs l a v))):=by
 refine aE3 (Y7.mp M.nd) fun n1 n2 n3=>?_
 have xd:x≠dx:=fun e=>(Yc.mp n2).1 (e▸.head _)
 refine⟨(upd_ne xd).trans M.hx,upd_eq,fun p hp=>?_,M.nd,fun b hb=>?_,M.fr,Zf (setNs_le v l a) (Ye M.ln)⟩
 ·exact (upd_ne (n3 p.1 (Z3.mpr ⟨p,hp,rfl⟩) dx (.tail _ (.head _)))).trans (M.ml p hp)
 ·have:b≠dx:=fun e=>hb (e▸M.fr dx (Zo.mpr (.inr (.tail _ (.head _)))))
  rw[upd_ne this];exact M.ex b hb
theorem MkI.join (M:MkI H0 C x dx k l m H) {C2 x2 d2:Addr}{k2:Nat}{l2:List (Nat × MV)}{m2:List (Addr × AO)}{H2:AH}(N:MkI H C2 x2 d2 k2 l2 m2 H2):MkI H0 C x dx k l (m2++((x2,.inst C2 d2)::(d2,.ns l2)::m)) H2:=by
 have key:∀ b,b∈m.map Prod.fst++[x,dx]->H2 b=H b:=fun b hb=>N.ex b (M.live hb)
 have eq:(m2++((x2,AO.inst C2 d2)::(d2,AO.ns l2)::m)).map Prod.fst++[x,dx]=(m2.map Prod.fst++[x2,d2])++(m.map Prod.fst++[x,dx]):=by simp
 refine⟨(key x (Zo.mpr (.inr (.head _)))).trans M.hx,(key dx (Zo.mpr (.inr (.tail _ (.head _))))).trans M.hd,fun p hp=>?_,?_,M.ex.trans N.ex,fun b hb=>?_,M.ln⟩
 ·rcases Zo.mp hp with hp | hp
  ·exact N.ml p hp
  ·rcases Zr.mp hp with rfl | hp
   ·exact N.hx
   ·rcases Zr.mp hp with rfl | hp
    ·exact N.hd
    ·exact (key p.1 (Zo.mpr (.inl (Z3.mpr ⟨p,hp,rfl⟩)))).trans (M.ml p hp)
 ·rw[eq]
  exact Y7.mpr (aI3 N.nd M.nd (fun a ha b hb e=>M.live hb (e▸N.fr a ha)))
 ·rw[eq] at hb
  rcases Zo.mp hb with hb | hb
  ·exact M.ex.back (N.fr b hb)
  ·exact M.fr b hb
end
section
variable {B:Base}{d:Nat}{ρ:RH}{H0 H:AH}{C x dx:Addr}{k:Nat}{l:List (Nat × MV)}{m:List (Addr × AO)}{R:Fl->RH->AH->Prop}
theorem aMk (M:MkI H0 C x dx k l m H) {s:ME}{a:Nat}{v:MV}{Q:RH->AH->Prop}(hi:Pv (sig B T1 d) ρ H s (.ref x)) (ht:T1.at_ C a=true) (hr:notRaw v=true) (hl:Nat.ble (k+1) 500=true) (q:∀ H',MkI H0 C x dx (k+1) (setNs l a v) m H'->Q ρ H'):wpA (sig B T1 d) (.attr s a) v ρ H Q:=by
 refine aAttr ?_
 exact hi _ (xI4 x C dx l (aI7 rfl M.hx M.hd ht hr (Zf (M.put a v).ln (Ys hl)) (q _ (M.put a v))))
theorem mkV (M:MkI H0 C x dx k l m H) {e:ME}{a i:Nat}{v:MV}{r:MSs}(hi:ρ i=some (.ref x)) (hv:Pv (sig B T1 d) ρ H e v) (ht:T1.at_ C a=true) (hr:notRaw v=true) (hl:Nat.ble (k+1) 500=true) (q:∀ H',MkI H0 C x dx (k+1) (setNs l a v) m H'->wpL (sig B T1 d) r ρ H' R):wpL (sig B T1 d) (.cons (.asg (.attr (.var i) a) e) r) ρ H R:=
 sAsg (hv _ (aMk M (.var hi) ht hr hl q))
theorem mkL (M:MkI H0 C x dx k l m H) {es:MEs}{a i:Nat}{vs:List MV}{r:MSs}(hi:ρ i=some (.ref x)) (hv:Pvs (sig B T1 d) ρ H es vs) (ht:T1.at_ C a=true) (hl:Nat.ble (k+1) 500=true) (q:∀ b H',MkI H0 C x dx (k+1) (setNs l a (.ref b)) ((b,.list vs)::m) H'->wpL (sig B T1 d) r ρ H' R):wpL (sig B T1 d) (.cons (.asg (.attr (.var i) a) (.list es)) r) ρ H R:=by
 refine sAsg ?_
 refine eList ?_
 exact hv _ fun b hb=>aMk (M.new hb _) (.var hi) ht rfl hl (q b)
end
noncomputable def lbs:List Lb:=[.f 14,.f 13,.f 12,.f 11,.f 10,.K,.f 9,.f 8,.f 16,.f 17,.f 15,.hp,.hd,.W,.w 1,.w 0,.f 7,.f 6,.f 5,.f 4,.f 3,.c,.d]
noncomputable def ixF (n:Nat):Nat:=[20,19,18,17,16,7,6,4,3,2,1,0,10,8,9].getD (n - 3) 0
noncomputable def ixL:Lb->Nat
 | .f n=>ixF n | .K=>5 | .hp=>11 | .hd=>12 | .W=>13 | .w i=>15 - i | .c=>21 | .d=>22 | .k _=>0
noncomputable def D00 (t:MV):Dat:=⟨fun a=>if a=20∨a=24∨a=27∨a=29 then .none else if a=26 then .bool true else if a=28 then t else if a=33 then .int 60 else if a=34 then .int 1 else if a=38 then .int 1000000000000 else if a=39 then .int 1024 else .int 0,
 fun n=>if n=3∨n=4∨n=6∨n=13∨n=14∨n=15 then [0] else if n=5∨n=7∨n=16 then [-1] else [],[[],[]],[]⟩
theorem used_ix {t:MV}{n:Lb}(h:used (D00 t) n):ixL n<23∧lbs.getD (ixL n) .c=n:=by
 induction n using Mine.Lb.casesOn with
 | f n=>
  obtain ⟨h1,h2⟩:=h
  have:n=3∨n=4∨n=5∨n=6∨n=7∨n=8∨n=9∨n=10∨n=11∨n=12∨n=13∨n=14∨n=15∨n=16∨n=17:=d15 h1 h2
  rcases this with rfl | rfl | rfl | rfl | rfl | rfl | rfl | rfl | rfl | rfl | rfl | rfl | rfl | rfl | rfl<;>exact⟨Ys rfl,rfl⟩
 | w i=>
  match i,h with
  | 0,_=>exact⟨Ys rfl,rfl⟩
  | 1,_=>exact⟨Ys rfl,rfl⟩
 | k j=>cases h
 | _=>exact⟨Ys rfl,rfl⟩
theorem lookup_keys (F:Nat->MV):∀ (ks:List Nat) (a:Nat),(ks.map fun k=>(k,F k)).lookup a=if a∈ks then some (F a) else none
 | [],a=>rfl
 | k::ks,a=>by
  rw[Z7,Zt]
  by_cases q:a=k
  ·subst q;simp
  ·have:(a == k)=false:=beq_eq_false_iff_ne.mpr q
   rw[this]
   dsimp only
   rw[lookup_keys F ks a]
   simp [q]
theorem MkI.init {H:AH}{C x dx:Addr}(hd:H dx=none) (hx:H x=none) (ne:dx≠x):MkI H C x dx 0 [] [] (upd (upd H dx (.ns [])) x (.inst C dx)):=by
 refine⟨upd_eq,(upd_ne ne).trans upd_eq,fun p hp=>absurd hp Yz,?_,(Ex.new hd _).trans (Ex.new ((upd_ne ne.symm).trans hx) _),fun a ha=>?_,Zk _⟩
 ·exact Yc.mpr ⟨fun z=>ne (Zl.mp z).symm,Xo _ _⟩
 ·rcases Zr.mp ha with rfl | ha
  ·exact hx
  ·rw[Zl.mp ha];exact hd
noncomputable def lHp (a15 a17 a16:Addr):List (Nat × MV):=(setNs (setNs (setNs (setNs (setNs [] 38 (.int 1000000000000)) 39 (.int 1024)) 15 (.ref a15)) 17 (.ref a17)) 16 (.ref a16))
noncomputable def lTr (a3 a4 a5 a6 a7 W hp a8 a9 K a10 a11 a12:Addr):List (Nat × MV):=(setNs (setNs (setNs (setNs (setNs (setNs (setNs (setNs (setNs (setNs (setNs (setNs (setNs (setNs (setNs (setNs (setNs [] 20 .none) 3 (.ref a3)) 4 (.ref a4)) 5 (.ref a5)) 6 (.ref a6)) 7 (.ref a7)) 18 (.ref W)) 17 (.ref hp)) 8 (.ref a8)) 9 (.ref a9)) 21 (.int 0)) 22 (.int 0)) 19 (.ref K)) 10 (.ref a10)) 11 (.ref a11)) 12 (.ref a12)) 23 (.int 0))
noncomputable def lCo (l:List (Nat × MV)) (a13 a14 t:Addr):List (Nat × MV):=(setNs (setNs (setNs (setNs (setNs (setNs (setNs (setNs (setNs (setNs (setNs (setNs (setNs (setNs (setNs (setNs l 24 .none) 13 (.ref a13)) 14 (.ref a14)) 25 (.int 0)) 26 (.bool true)) 27 .none) 28 (.ref t)) 29 .none) 30 (.int 0)) 31 (.int 0)) 32 (.int 0)) 33 (.int 60)) 34 (.int 1)) 35 (.int 0)) 36 (.int 0)) 37 (.int 0))
theorem hinit_spec {B:Base}(g:Ctx B) {d:Nat}{H0 H:AH}{x dx:Addr}{Q:MV->AH->Prop}(hd:4≤d) (M:MkI H0 cHeap x dx 0 [] [] H)
  (q:∀ a15 a17 a16 H',MkI H0 cHeap x dx 5 (lHp a15 a17 a16) [(a16,.list [.int (-1)]),(a17,.list []),(a15,.list [.int 0])] H'->Q .none H'):SpecCall B d f_CoreHeap_init [.ref x] H Q:=by
 refine SpecCall.mono (d:=4) ?_ hd fun _ _=>id
 refine xE1 g.K fun P e=>?_
 refine spec_dflt (d:=0) g.g g.tb g.nm g.hX (by rw[e];exact k_CoreHeap_init P) ?_
 unfold a_CoreHeap___init__
 refine mkV M rfl (.var rfl) rfl rfl rfl fun H1 M=>?_
 refine mkV M rfl .glob rfl rfl rfl fun H1 M=>?_
 refine mkL M rfl (.cons .cst .nil) rfl rfl fun a15 H1 M=>?_
 refine mkL M rfl .nil rfl rfl fun a17 H1 M=>?_
 refine mkL M rfl (.cons (.neg .cst) .nil) rfl rfl fun a16 H1 M=>sNil (q a15 a17 a16 H1 M)
theorem tinit_spec {B:Base}(g:Ctx B) {d:Nat}{H0 H:AH}{x dx:Addr}{Q:MV->AH->Prop}(hd:8≤d) (M:MkI H0 cSat x dx 0 [] [] H)
  (q:∀ a3 a4 a5 a6 a7 w0 w1 W hp dh a15 a17 a16 a8 a9 K a10 a11 a12 H',MkI H0 cSat x dx 17 (lTr a3 a4 a5 a6 a7 W hp a8 a9 K a10 a11 a12)
   [(a12,.list []),(a11,.list []),(a10,.list []),(K,.list []),(a9,.list []),(a8,.list []),(a16,.list [.int (-1)]),(a17,.list []),(a15,.list [.int 0]),(hp,.inst cHeap dh),(dh,.ns (lHp a15 a17 a16)),(W,.list [.ref w0,.ref w1]),(w1,.list []),(w0,.list []),(a7,.list [.int (-1)]),(a6,.list [.int 0]),(a5,.list [.int (-1)]),(a4,.list [.int 0]),(a3,.list [.int 0])] H'->Q .none H') :
  SpecCall B d f_Trail___init__ [.ref x,.none] H Q:=by
 refine (Ctx.fn g (d:=4) k_Trail___init__ rfl ?_).mono hd fun _ _=>id
 unfold a_Trail___init__
 refine mkV M rfl (.var rfl) rfl rfl rfl fun H1 M=>?_
 refine mkL M rfl (.cons .glob .nil) rfl rfl fun a3 H1 M=>?_
 refine mkL M rfl (.cons .cst .nil) rfl rfl fun a4 H1 M=>?_
 refine mkL M rfl (.cons .glob .nil) rfl rfl fun a5 H1 M=>?_
 refine mkL M rfl (.cons .cst .nil) rfl rfl fun a6 H1 M=>?_
 refine mkL M rfl (.cons .glob .nil) rfl rfl fun a7 H1 M=>?_
 refine sAsg ?_
 refine eList (esCons ?_)
 refine wNew fun w0 h0=>?_
 have M:=M.new h0 (.list [])
 refine esCons ?_
 refine wNew fun w1 h1=>?_
 have M:=M.new h1 (.list [])
 refine esNil ?_
 intro W hW
 refine aMk (M.new hW _) (.var rfl) rfl rfl rfl fun H1 M=>?_
 refine sAsg ?_
 refine eNew (esNil ?_)
 intro dh hp h1 h2 ne
 refine scI (hinit_spec g (by decide) (MkI.init h1 h2 ne) fun a15 a17 a16 H2 N=>⟨rfl,?_⟩)
 refine aMk (M.join N) (.var rfl) rfl rfl rfl fun H1 M=>?_
 refine mkL M rfl .nil rfl rfl fun a8 H1 M=>?_
 refine mkL M rfl .nil rfl rfl fun a9 H1 M=>?_
 refine mkV M rfl .cst rfl rfl rfl fun H1 M=>?_
 refine mkV M rfl .cst rfl rfl rfl fun H1 M=>?_
 refine mkL M rfl .nil rfl rfl fun K H1 M=>?_
 refine mkL M rfl .nil rfl rfl fun a10 H1 M=>?_
 refine mkL M rfl .nil rfl rfl fun a11 H1 M=>?_
 refine mkL M rfl .nil rfl rfl fun a12 H1 M=>?_
 refine mkV M rfl .cst rfl rfl rfl fun H1 M=>sNil ?_
 exact q a3 a4 a5 a6 a7 w0 w1 W hp dh a15 a17 a16 a8 a9 K a10 a11 a12 H1 M
noncomputable def L00 (as:List Addr):Lay:=fun n=>as.getD (ixL n) 0
noncomputable def keysS:List Nat:=[20,3,4,5,6,7,18,17,8,9,21,22,19,10,11,12,23,24,13,14,25,26,27,28,29,30,31,32,33,34,35,36,37]
theorem keys_mem {a:Nat}(h:a∉keysS):¬(3≤a∧a≤14)∧a≠17∧a≠18∧a≠19∧¬(20≤a∧a≤37):=by
 have h1:∀ b∈(List.range' 3 12++List.range' 17 21),b∈keysS:=by decide +kernel
 have h2:a∉(List.range' 3 12++List.range' 17 21):=fun z=>h (h1 a z)
 rw[Zo,List.mem_range'_1,List.mem_range'_1] at h2
 exact k15 a h2
theorem fin_core {a14 a13 a12 a11 a10 K a9 a8 a16 a17 a15 hp dh W w1 w0 a7 a6 a5 a4 a3 x dx t:Addr}{a:Nat} :
  (lCo (lTr a3 a4 a5 a6 a7 W hp a8 a9 K a10 a11 a12) a13 a14 t).lookup a=fld (L00 [a14,a13,a12,a11,a10,K,a9,a8,a16,a17,a15,hp,dh,W,w1,w0,a7,a6,a5,a4,a3,x,dx]) (D00 (.ref t)) a:=by
 have e:lCo (lTr a3 a4 a5 a6 a7 W hp a8 a9 K a10 a11 a12) a13 a14 t=keysS.map fun k=>(k,(fld (L00 [a14,a13,a12,a11,a10,K,a9,a8,a16,a17,a15,hp,dh,W,w1,w0,a7,a6,a5,a4,a3,x,dx]) (D00 (.ref t)) k).getD .none):=by kernel_rfl
 rw[e,lookup_keys]
 by_cases q:a∈keysS
 ·rw[if_pos q]
  have:∀ b∈keysS,(fld (L00 [a14,a13,a12,a11,a10,K,a9,a8,a16,a17,a15,hp,dh,W,w1,w0,a7,a6,a5,a4,a3,x,dx]) (D00 (.ref t)) b).isSome=true:=by
   have:(keysS.all fun b=>(fld (L00 [a14,a13,a12,a11,a10,K,a9,a8,a16,a17,a15,hp,dh,W,w1,w0,a7,a6,a5,a4,a3,x,dx]) (D00 (.ref t)) b).isSome)=true:=by kernel_rfl
   exact Z8.mp this
  refine xE1 (X6.mp (this a q)) fun v hv=>?_
  rw[hv];rfl
 ·rw[if_neg q]
  refine aE5 (keys_mem q) fun h1 h2 h3 h4 h5=>?_
  unfold fld
  rw[if_neg h2,if_neg h1,if_neg h3,if_neg h4,if_neg h5]
theorem fin_heap {a14 a13 a12 a11 a10 K a9 a8 a16 a17 a15 hp dh W w1 w0 a7 a6 a5 a4 a3 x dx t:Addr}{a:Nat} :
  (lHp a15 a17 a16).lookup a=fldH (L00 [a14,a13,a12,a11,a10,K,a9,a8,a16,a17,a15,hp,dh,W,w1,w0,a7,a6,a5,a4,a3,x,dx]) (D00 (.ref t)) a:=by
 have e:lHp a15 a17 a16=[38,39,15,17,16].map fun k=>(k,(fldH (L00 [a14,a13,a12,a11,a10,K,a9,a8,a16,a17,a15,hp,dh,W,w1,w0,a7,a6,a5,a4,a3,x,dx]) (D00 (.ref t)) k).getD .none):=by kernel_rfl
 rw[e,lookup_keys]
 by_cases q:a∈[38,39,15,17,16]
 ·rw[if_pos q]
  simp only [Zr,Yz,or_false] at q
  rcases q with rfl | rfl | rfl | rfl | rfl<;>rfl
 ·rw[if_neg q]
  simp only [Zr,Yz,or_false,not_or] at q
  unfold fldH
  rw[if_neg (by lia),if_neg (by lia)]
theorem nodup_at {l:List Addr}:∀ {i j:Nat},l.Nodup->i<l.length->j<l.length->l.getD i 0=l.getD j 0->i=j:=fun {i j} nd hi hj e=>by
 have h1:l[i]?=some (l.getD i 0):=getD_some hi
 have h2:l[j]?=some (l.getD j 0):=getD_some hj
 rw[← e] at h2
 refine xE1 (Za.mp h1) fun _ e1=>?_
 refine xE1 (Za.mp h2) fun _ e2=>?_
 rcases We i j with q | q | q
 ·exact absurd (e1.trans e2.symm) ((Yv.mp nd) i j hi hj q)
 ·exact q
 ·exact absurd (e2.trans e1.symm) ((Yv.mp nd) j i hj hi q)
theorem pack {H0 H:AH}{k:Nat}{a14 a13 a12 a11 a10 K a9 a8 a16 a17 a15 hp dh W w1 w0 a7 a6 a5 a4 a3 x dx t:Addr}
  (M:MkI H0 cSat x dx k (lCo (lTr a3 a4 a5 a6 a7 W hp a8 a9 K a10 a11 a12) a13 a14 t) [(a14,.list [.none]),(a13,.list [.bool false]),(a12,.list []),(a11,.list []),(a10,.list []),(K,.list []),(a9,.list []),(a8,.list []),(a16,.list [.int (-1)]),(a17,.list []),(a15,.list [.int 0]),(hp,.inst cHeap dh),(dh,.ns (lHp a15 a17 a16)),(W,.list [.ref w0,.ref w1]),(w1,.list []),(w0,.list []),(a7,.list [.int (-1)]),(a6,.list [.int 0]),(a5,.list [.int (-1)]),(a4,.list [.int 0]),(a3,.list [.int 0])] H) (hk:k≤60) :
  CoreAt x H (L00 [a14,a13,a12,a11,a10,K,a9,a8,a16,a17,a15,hp,dh,W,w1,w0,a7,a6,a5,a4,a3,x,dx]) (D00 (.ref t))∧∀ b,Foot (L00 [a14,a13,a12,a11,a10,K,a9,a8,a16,a17,a15,hp,dh,W,w1,w0,a7,a6,a5,a4,a3,x,dx]) (D00 (.ref t)) b->H0 b=none:=by
 have nd:[a14,a13,a12,a11,a10,K,a9,a8,a16,a17,a15,hp,dh,W,w1,w0,a7,a6,a5,a4,a3,x,dx].Nodup:=M.nd
 have ml:=M.ml
 refine⟨⟨rfl,M.hx,⟨_,(aI3 M.hd (Zf M.ln hk) (fun a=>fin_core))⟩,?_,⟨_,(aI3 ?_ (Ys rfl) (fun a=>fin_heap (a14:=a14) (a13:=a13) (a12:=a12) (a11:=a11) (a10:=a10) (K:=K) (a9:=a9) (a8:=a8) (hp:=hp) (dh:=dh) (W:=W) (w1:=w1) (w0:=w0) (a7:=a7) (a6:=a6) (a5:=a5) (a4:=a4) (a3:=a3) (x:=x) (dx:=dx) (t:=t)))⟩,fun n xs e=>?_,fun a b ua ub e=>?_⟩,fun b hb=>?_⟩
 ·exact ml (hp,.inst cHeap dh) (Zg (i:=11) rfl)
 ·exact ml (dh,.ns (lHp a15 a17 a16)) (Zg (i:=12) rfl)
 ·have key:∀ (i:Nat) (a:Addr) (o:AO),([(a14,.list [.none]),(a13,.list [.bool false]),(a12,.list []),(a11,.list []),(a10,.list []),(K,.list []),(a9,.list []),(a8,.list []),(a16,.list [.int (-1)]),(a17,.list []),(a15,.list [.int 0]),(hp,.inst cHeap dh),(dh,.ns (lHp a15 a17 a16)),(W,.list [.ref w0,.ref w1]),(w1,.list []),(w0,.list []),(a7,.list [.int (-1)]),(a6,.list [.int 0]),(a5,.list [.int (-1)]),(a4,.list [.int 0]),(a3,.list [.int 0])]:List (Addr × AO))[i]?=some (a,o)->H a=some o:=fun i a o e=>ml _ (Zg e)
  induction n using Mine.Lb.casesOn with
  | W=>cases e;exact key 13 _ _ rfl
  | K=>cases e;exact key 5 _ _ rfl
  | f n=>
   obtain ⟨h1,h2⟩ : flat n:=cont_used e
   have:n=3∨n=4∨n=5∨n=6∨n=7∨n=8∨n=9∨n=10∨n=11∨n=12∨n=13∨n=14∨n=15∨n=16∨n=17:=d15 h1 h2
   rcases this with rfl | rfl | rfl | rfl | rfl | rfl | rfl | rfl | rfl | rfl | rfl | rfl | rfl | rfl | rfl<;>cases e
   ·exact key 20 _ _ rfl
   ·exact key 19 _ _ rfl
   ·exact key 18 _ _ rfl
   ·exact key 17 _ _ rfl
   ·exact key 16 _ _ rfl
   ·exact key 7 _ _ rfl
   ·exact key 6 _ _ rfl
   ·exact key 4 _ _ rfl
   ·exact key 3 _ _ rfl
   ·exact key 2 _ _ rfl
   ·exact key 1 _ _ rfl
   ·exact key 0 _ _ rfl
   ·exact key 10 _ _ rfl
   ·exact key 8 _ _ rfl
   ·exact key 9 _ _ rfl
  | w i=>
   match i,e with
   | 0,e=>cases e;exact key 15 _ _ rfl
   | 1,e=>cases e;exact key 14 _ _ rfl
  | k j=>cases e
  | _=>cases e
 ·obtain ⟨h1,h2⟩:=used_ix ua
  obtain ⟨h3,h4⟩:=used_ix ub
  have:=nodup_at nd h1 h3 e
  rw[← h2,← h4,this]
 ·obtain ⟨n,u,rfl⟩:=hb
  exact M.fr _ (Zg (getD_some (used_ix u).1))
theorem init_spec {B:Base}(g:Ctx B) {d:Nat}{H0 H:AH}{x dx:Addr}{Q:MV->AH->Prop}(hd:16≤d) (M:MkI H0 cSat x dx 0 [] [] H)
  (q:∀ t L H',CoreAt x H' L (D00 t)->Ex H0 H'->(∀ b,Foot L (D00 t) b->H0 b=none)->Q .none H'):SpecCall B d f_SatCore_init [.ref x,.none,.none] H Q:=by
 refine xE1 g.K fun P eK=>?_
 refine SpecCall.mono (d:=16) ?_ hd fun _ _=>id
 refine spec_super (d:=12) g.g g.tb g.nm g.hX (by rw[eK,g.pr];exact k_SatCore_init P) M.hx M.hd rfl ?_
 refine Pvs.cons (.var rfl) (.cons (.var rfl) .nil) _ ?_
 refine spec_super (d:=8) g.g g.tb g.nm g.hX (by rw[eK,g.pr];exact k_Search_init P) M.hx M.hd rfl ?_
 refine Pvs.cons (.var rfl) .nil _ ?_
 refine tinit_spec g (by decide) M fun a3 a4 a5 a6 a7 w0 w1 W hp dh a15 a17 a16 a8 a9 K a10 a11 a12 H1 M=>?_
 unfold a_Search___init__
 refine mkV M rfl (.var rfl) rfl rfl rfl fun H1 M=>?_
 refine mkL M rfl (.cons .cst .nil) rfl rfl fun a13 H1 M=>?_
 refine mkL M rfl (.cons .cst .nil) rfl rfl fun a14 H1 M=>?_
 refine mkV M rfl .cst rfl rfl rfl fun H1 M=>?_
 refine mkV M rfl .cst rfl rfl rfl fun H1 M=>?_
 refine mkV M rfl .cst rfl rfl rfl fun H1 M=>?_
 refine sAsg (wTup .nil fun t ht=>?_)
 refine aMk (M.skip ht _) (.var rfl) rfl rfl rfl fun H1 M=>?_
 refine mkV M rfl .cst rfl rfl rfl fun H1 M=>?_
 refine mkV M rfl .cst rfl rfl rfl fun H1 M=>?_
 refine mkV M rfl .cst rfl rfl rfl fun H1 M=>?_
 refine mkV M rfl .cst rfl rfl rfl fun H1 M=>sNil ?_
 unfold a_SatCore___init__
 refine mkV M rfl .glob rfl rfl rfl fun H1 M=>?_
 refine mkV M rfl .cst rfl rfl rfl fun H1 M=>?_
 refine mkV M rfl .cst rfl rfl rfl fun H1 M=>?_
 refine mkV M rfl .cst rfl rfl rfl fun H1 M=>?_
 refine mkV M rfl .cst rfl rfl rfl fun H1 M=>sNil ?_
 refine aE2 (pack M (Ys rfl)) fun C f=>?_
 exact q (.ref t) _ H1 C M.ex f
structure PotAt (p cl:Addr) (vs:List Int) (bud:Nat) (H:AH):Prop where
 ne:cl≠p
 hc:seqAt H cl=some (vs.map .int)
 hp:∃ i:Int,H p=some (.pot (.ref cl) (.int i))∧0≤i∧i+bud≤1000000
theorem seqAt_congr {H H':AH}{a:Addr}(h:H' a=H a):seqAt H' a=seqAt H a:=by unfold seqAt;rw[h]
theorem PotAt.keep {p cl:Addr}{vs:List Int}{bud:Nat}{H H':AH}(P:PotAt p cl vs bud H) (h1:H' p=H p) (h2:H' cl=H cl):PotAt p cl vs bud H':=by
 obtain ⟨a,b,i,e,f⟩:=P
 exact⟨a,(seqAt_congr h2).trans b,i,h1.trans e,f⟩
theorem PotAt.weak {p cl:Addr}{vs:List Int}{b b':Nat}{H:AH}(P:PotAt p cl vs b H) (h:b'≤b):PotAt p cl vs b' H:=by
 obtain ⟨a,c,i,e,f,k⟩:=P
 exact⟨a,c,i,e,f,by lia⟩
theorem seqAt_live {H:AH}{a:Addr}{xs:List MV}(h:seqAt H a=some xs):H a≠none:=fun e=>by unfold seqAt at h;rw[e] at h;exact ncs h
theorem Pv.subk {S:Sig}{ρ:RH}{H:AH}{e:ME}{k:Bool}{x:Addr}{c a:MV}(he:Pv S ρ H e (.ref x)) (h:H x=some (.pot c a)):Pv S ρ H (.subk e k) (if k then a else c):=fun Q q=>by
 refine eSubk ?_;exact he _ (xI3 x c a (aI3 rfl h q))
theorem ladle_spec {B:Base}(g:Ctx B) {d bud m:Nat}{H:AH}{p cl:Addr}{vs:List Int}{Q:MV->AH->Prop}(hd:4≤d) (P:PotAt p cl vs (bud+1) H) (hm:0<m) (hm2:m<1000)
  (q:∀ (r:Nat) H',r<m->PotAt p cl vs bud H'->(∀ b,b≠p->H' b=H b)->H' p≠none->Q (.int (r:Int)) H'):SpecCall B d f__law_stein [.ref p,.int m] H Q:=by
 refine (Ctx.fn g (d:=0) k__law_stein rfl ?_).mono hd fun _ _=>id
 unfold a__law_stein
 obtain ⟨ne,hc,i,hp,h0,h1⟩:=P
 refine sSet (v:=.int i) (.subk (k:=true) (.var rfl) hp) ?_
 refine sAsg (Pv.add (i:=i) (j:=1) (.var rfl) .cst _ ?_)
 refine aSubk ?_
 refine Pv.var rfl _ (xI3 p _ _ (aI3 rfl hp ?_))
 have hp':upd H p (.pot (.ref cl) (.int (i+1))) p=some (.pot (.ref cl) (.int (i+1))):=upd_eq
 have hc':seqAt (upd H p (.pot (.ref cl) (.int (i+1)))) cl=some (vs.map .int):=(seqAt_congr (upd_ne ne)).trans hc
 have P':PotAt p cl vs bud (upd H p (.pot (.ref cl) (.int (i+1)))):=⟨ne,hc',i+1,hp',by lia,by lia⟩
 have key:∀ v:Int,0≤(v.fmod 101).fmod m∧(v.fmod 101).fmod m<m:=fun v=>⟨Int.fmod_nonneg_of_pos _ (Zx.mpr hm),Int.fmod_lt_of_pos _ (Zx.mpr hm)⟩
 have fin:∀ v:Int,(match Fl.ret (.int ((v.fmod 101).fmod m)) with | .ret v=>Q v (upd H p (.pot (.ref cl) (.int (i+1)))) | .next=>Q .none (upd H p (.pot (.ref cl) (.int (i+1)))) | _=>False):=fun v=>by
  refine aE2 (key v) fun k1 k2=>?_
  have:=q ((v.fmod 101).fmod m).toNat _ (tnu hm k2) P' (fun b hb=>upd_ne hb) (by rw[hp'];exact nofun)
  rw[Y1 k1] at this
  exact this
 have cells:Pv (sig B T1 0) (updR (updRs (fun _=>none) [153,46] [.ref p,.int (m:Int)]) 100 (.int i)) (upd H p (.pot (.ref cl) (.int (i+1)))) (.subk (.var 153) false) (.ref cl):=.subk (k:=false) (.var rfl) hp'
 have hle:=Pv.len (i:=41) cells hc'
 rw[Zc] at hle
 have hcm:((m:Int)≠0∧(m:Int).natAbs<2 ^ 62):=⟨by lia,Zf hm2 (by decide)⟩
 by_cases hi:i<vs.length
 ·refine sRetP (.fmod (.fmod (.ite (v:=.int (vs.getD i.toNat 0)) (.lt (.var rfl) hle) (fun _=>.sub cells (.var rfl) hc' (getAt_map h0 hi)) (fun p=>absurd hi (of_decide_eq_false p))) .cst ⟨by decide,by decide⟩) (.var rfl) hcm) (fin _)
 ·refine sRetP (.fmod (.fmod (.ite (v:=.int (8*i*i+3*i+7)) (.lt (.var rfl) hle) (fun p=>absurd (of_decide_eq_true p) hi) (fun _=>.add (.add (.mul (.mul .cst (.var rfl) (.inl (by decide))) (.var rfl) (.inr (by lia))) (.mul .cst (.var rfl) (.inl (by decide)))) .cst)) .cst ⟨by decide,by decide⟩) (.var rfl) hcm) (fin _)
theorem wDraw {B:Base}(g:Ctx B) {d bud m:Nat}{ρ:RH}{H:AH}{e k:ME}{p cl:Addr}{vs:List Int}{Q:MV->AH->Prop}(hd:4≤d) (P:PotAt p cl vs (bud+1) H) (he:Pv (sig B T1 d) ρ H e (.ref p)) (hk:Pv (sig B T1 d) ρ H k (.int (m:Int))) (hm:0<m) (hm2:m<1000)
  (q:∀ (r:Nat) H',r<m->PotAt p cl vs bud H'->(∀ b,b≠p->H' b=H b)->H' p≠none->Q (.int (r:Int)) H'):wpE (sig B T1 d) (.call 154 f__law_stein (.cons e (.cons k .nil))) ρ H Q:=by
 refine eCall ?_
 exact Pvs.cons he (.cons hk .nil) _ (ladle_spec g hd P hm hm2 q)
noncomputable def neigh (n start:Nat) (signs:List Nat):List Int:=(List.range signs.length).map fun k=>(1+(((start+k) % n:Nat):Int))*(1 - 2*(signs.getD k 0:Int))
theorem neigh_lt {n start:Nat}{signs:List Nat}(hn:0<n) (hs:∀ s∈signs,s<2):∀ l∈neigh n start signs,Lt n l:=fun l hl=>by
 obtain ⟨k,hk,rfl⟩:=Z3.mp hl
 have hk:=Yp.mp hk
 have h1:signs.getD k 0<2:=hs _ (Zg (getD_some hk))
 have h2:=Nat.mod_lt (start+k) hn
 have:signs.getD k 0=0∨signs.getD k 0=1:=by lia
 rcases this with e | e<;>rw[e]<;>exact⟨by lia,by lia,by lia⟩
theorem neigh_nd {n start:Nat}{signs:List Nat}(hn:0<n) (hl:signs.length≤n) (hs:∀ s∈signs,s<2):((neigh n start signs).map vabs).Nodup:=by
 have e:(neigh n start signs).map vabs=(List.range signs.length).map fun k=>(1+(((start+k) % n:Nat):Int)):=by
  unfold neigh
  rw[Y0]
  refine Yb fun k hk=>?_
  have hk:=Yp.mp hk
  have h1:signs.getD k 0<2:=hs _ (Zg (getD_some hk))
  have:signs.getD k 0=0∨signs.getD k 0=1:=by lia
  dsimp only [Function.comp_apply]
  unfold vabs
  rcases this with e | e<;>rw[e]<;>split<;>lia
 rw[e]
 refine Xv.mpr (List.Pairwise.imp_of_mem (fun {a b} ha hb ne e=>?_) W5)
 have ha:=Yp.mp ha
 have hb:=Yp.mp hb
 have e:(start+a) % n=(start+b) % n:=Wc.inj (Int.add_left_cancel e)
 have h1:=Nat.div_add_mod (start+a) n
 have h2:=Nat.div_add_mod (start+b) n
 rw[e] at h1
 have:n*((start+a) / n)+b=n*((start+b) / n)+a:=by lia
 rcases We ((start+a) / n) ((start+b) / n) with q | q | q
 ·have:=Ws n q
  rw[Nat.mul_succ] at this;lia
 ·rw[q] at this;lia
 ·have:=Ws n q
  rw[Nat.mul_succ] at this;lia
theorem clause_spec {B:Base}(g:Ctx B) {d bud n:Nat}{H:AH}{p cl:Addr}{vs:List Int}{Q:MV->AH->Prop}(hd:8≤d) (P:PotAt p cl vs (bud+7) H) (hn:4≤n) (hn8:n≤8)
  (q:∀ lits b H',Cl n lits->PotAt p cl vs bud H'->(∀ z,z≠p->z≠b->H z≠none->H' z=H z)->H b=none->b≠p->H' b=some (.list (lits.map .int))->Q (.ref b) H'):SpecCall B d f__law_clause [.ref p,.int n] H Q:=by
 refine (Ctx.fn g (d:=4) k__law_clause rfl ?_).mono hd fun _ _=>id
 unfold a__law_clause
 have hpl:H p≠none:=by obtain ⟨i,e,_⟩:=P.hp;rw[e];exact nofun
 refine sAsgT ?_
 refine eTup (esCons ?_)
 refine wDraw g (m:=n) (by decide) P (.var rfl) (.var rfl) (by lia) (Ze hn8 (by decide)) fun start H1 hst P2 k1 l1=>?_
 refine esCons (eBin ?_)
 refine Pv.cst _ ?_
 refine wDraw g (m:=2) (by decide) P2 (.var rfl) .cst (by decide) (by decide) fun r H2 hr P3 k2 l2=>?_
 show wpEs _ _ _ _ _
 obtain ⟨size,hs,hsz⟩ : ∃ size:Nat,(3:Int)+r=(size:Int)∧3≤size∧size≤4:=⟨3+r,rfl,by lia⟩
 rw[hs]
 refine esNil ?_
 intro t2 ht2
 refine⟨t2,_,rfl,upd_eq,rfl,?_⟩
 refine asCons (aName (asCons (aName (asNil ?_))))
 have t2p:t2≠p:=fun e=>l2 (e▸ht2)
 have P4:PotAt p cl vs (bud+5) (upd H2 t2 (.tup [.int start,.int size])):=P3.keep (upd_ne t2p.symm) (upd_ne fun e=>seqAt_live P3.hc (e▸ht2))
 have ke:∀ z,z≠p->H z≠none->upd H2 t2 (.tup [.int start,.int size]) z=H z:=fun z zp hz=>by
  have e1:H1 z=H z:=k1 z zp
  have e2:H2 z=H1 z:=k2 z zp
  have h2:z≠t2:=fun e=>by rw[← e,e2,e1] at ht2;exact hz ht2
  rw[upd_ne h2,e2,e1]
 have l3:upd H2 t2 (.tup [.int start,.int size]) p≠none:=by rw[upd_ne t2p.symm];exact l2
 generalize upd H2 t2 (.tup [.int start,.int size])=H3 at P4 ke l3
 refine sRet ?_
 refine eComp ?_
 refine rUp (a:=0) (z:=size) .cst (.var rfl) ⟨by decide,by decide⟩ (small_nat (by lia)) _ ?_
 refine⟨fun i acc H'=>∃ signs:List Nat,signs.length=i∧i≤size∧(∀ s∈signs,s<2)∧acc=(neigh n start signs).map .int∧PotAt p cl vs (bud+(size - i)) H'∧(∀ z,z≠p->H z≠none->H' z=H z)∧H' p≠none,size,⟨[],rfl,Z2 _,nofun,rfl,P4.weak (by lia),ke,l3⟩,fun i acc H' h=>?_⟩
 refine xE1 h fun signs t4_0=>aE5 t4_0 fun hi hi2 hsg e4_4 t4_1=>?_
 subst e4_4
 refine aE3 t4_1 fun PP kk ll=>?_
 have hlen:(neigh n start signs).length=i:=by unfold neigh;rw[Zc,Z4];exact hi
 refine⟨hi2,by rw[Zc,hlen];lia,?_⟩
 unfold Src.nextL
 dsimp only
 by_cases q':i<size
 ·have hg:(rngUp 0 (size:Int))[i]?=some (i:Int):=by
   unfold rngUp
   rw[Zn,Yi q']
   simp
  rw[hg]
  dsimp only [Yx]
  refine ecNil ?_;rw[if_pos rfl]
  unfold updRs updRs
  obtain ⟨k,hk⟩ : ∃ k,size - i=k+1:=⟨size - i - 1,sp1 q'⟩
  rw[hk,← Vn] at PP
  refine eBin ?_
  refine Pv.add .cst (.fmod (.add (.var rfl) (.var rfl)) (.var rfl) ⟨by lia,Ze hn8 (by decide)⟩) _ ?_
  refine eBin ?_
  refine Pv.cst _ ?_
  refine eBin ?_
  refine Pv.cst _ ?_
  refine wDraw g (m:=2) (by decide) PP (.var rfl) .cst (by decide) (by decide) fun s H4 hs2 PP2 k4 l4=>?_
  have e1:((start:Int)+i).fmod n=(((start+i) % n:Nat):Int):=by
   rw[Int.fmod_eq_emod_of_nonneg _ (Zj _),Int.natCast_emod,Int.natCast_add]
  have hm:=Nat.mod_lt (start+i) (show 0<n by lia)
  refine⟨.inl (by decide),⟨.inl ?_,signs++[s],?_,q',fun x hx=>?_,?_,?_,fun z zp hz=>(k4 z zp).trans (kk z zp hz),l4⟩⟩
  ·rw[e1];exact Ze (ab1 hm hn8) (by decide)
  ·rw[Zd,hi];rfl
  ·rcases Zo.mp hx with hx | hx
   ·exact hsg x hx
   ·rw[Zl.mp hx];exact hs2
  ·rw[e1]
   unfold neigh
   rw[Zd,Zs,X9,Yg,Yg]
   congr 1
   ·rw[Y0,Y0]
    refine Yb fun j hj=>?_
    have hj:=Yp.mp hj
    dsimp only [Function.comp_apply]
    rw[Zb,Zb,Zu hj]
   ·rw[Y4,Y4,Zb,Zz (Zk _),Yw,hi]
    rfl
  ·rw[pr1 hk];exact PP2
 ·have e:i=size:=by lia
  have hg:(rngUp 0 (size:Int))[i]?=none:=Z1 (by unfold rngUp;rw[Zc,Z4];exact Yj.mp q')
  rw[hg]
  dsimp only [Option.map_none]
  intro b hb
  have hbp:b≠p:=fun e=>ll (e▸hb)
  have hH:H b=none:=Classical.byContradiction fun z=>by rw[kk b hbp z] at hb;exact z hb
  refine q (neigh n start signs) b _ ⟨by rw[hlen];exact Zf (Nat.le_of_succ_le hsz.1) (Yj.mp q'),by rw[hlen];lia,neigh_lt (by lia) hsg,neigh_nd (by lia) (by lia) hsg⟩ ?_ (fun z zp zb hz=>(upd_ne zb).trans (kk z zp hz)) hH hbp upd_eq
  exact (PP.keep (upd_ne hbp.symm) (upd_ne fun e=>seqAt_live PP.hc (e▸hb))).weak (by lia)
noncomputable def SrcIs (S:Sig) (src:MR) (ρ:RH) (H:AH) (items:List (List MV)):Prop:=
 ∀ Q:Src->AH->Prop,(∀ sr,(∀ H',Ex H H'->∀ i,sr.nextL H' i=some items[i]?)->Q sr H)->wpR S src ρ H Q
section
variable {S:Sig}{ρ:RH}{H:AH}
theorem cOneX {e:ME}{b:Bool}(h:Pv S ρ H e (.bool b)) (Q:Bool->AH->Prop) (q:∀ H',Ex H H'->Q b H'):wpConds S (.cons e .nil) ρ H Q:=cOne h Q (q H .refl)
theorem wCompN {elt:ME}{ts:List Nat}{src:MR}{conds:MEs}{items:List (List MV)}{Q:MV->AH->Prop}(hs:SrcIs S src ρ H items) (hl:items.length≤1000) (sel:Nat->Bool) (P:AH->Nat->MV->Prop) (pP:∀ H H' i u,Ex H H'->P H i u->P H' i u)
  (hc:∀ i v,items[i]?=some v->∀ H',Ex H H'->∀ Q:Bool->AH->Prop,(∀ H'',Ex H' H''->Q (sel i) H'')->wpConds S conds (updRs ρ ts v) H' Q)
  (hx:∀ i v,items[i]?=some v->sel i=true->∀ H',Ex H H'->∀ Q:MV->AH->Prop,(∀ u H'',Ex H' H''->P H'' i u->Q u H'')->wpE S elt (updRs ρ ts v) H' Q)
  (q:∀ us b H',Ex H H'->H' b=none->All2 (P H') ((List.range items.length).filter sel) us->Q (.ref b) (upd H' b (.list us))):wpE S (.comp elt ts src conds) ρ H Q:=by
 refine eComp ?_
 refine hs _ fun sr hsr=>(xI2 (fun i acc H'=>i≤items.length∧Ex H H'∧acc.length≤i∧All2 (P H') ((List.range i).filter sel) acc) items.length ⟨(aI4 (Z2 _) .refl (Z2 _) .nil),fun i acc H' h=>?_⟩)
 refine aE4 h fun hi x la al=>?_
 refine (aI3 hi (Zf la (Zf hi hl)) ?_)
 rw[hsr H' x i]
 induction q':items[i]? using Option.casesOn with
 | none=>
  have:=Yq hi (Yr.mp q')
  subst this
  intro b hb
  exact q acc b H' x hb al
 | some v=>
  have hlt:=(Za.mp q').1
  have ht:(List.range (i+1)).filter sel=(List.range i).filter sel++[i].filter sel:=by rw[X9,List.filter_append]
  refine hc i v q' H' x _ fun H2 x1=>?_
  replace x:=x.trans x1
  replace al:=al.mono fun a b z=>pP _ _ a b x1 z
  induction hsel:sel i using Bool.casesOn with
  | false=>
   rw[if_neg nofun]
   refine (aI4 hlt x (Nat.le_succ_of_le la) ?_)
   rw[ht,Wb (by rw[hsel];exact nofun),List.filter_nil,Y3];exact al
  | true=>
   rw[if_pos rfl]
   refine hx i v q' hsel H2 x _ fun u H'' x2 pu=>(aI4 hlt (x.trans x2) ?_ ?_)
   ·rw[Zd];exact Ye la
   ·rw[ht,W3 hsel,List.filter_nil]
    exact All2.append (al.mono fun a b z=>pP _ _ _ _ x2 z) (.cons pu .nil)
theorem all2_get {α β:Type}{R:α->β->Prop}{xs:List α}{ys:List β}(h:All2 R xs ys):∀ (i:Nat) (x:α),xs[i]?=some x->∃ y,ys[i]?=some y∧R x y:=by
 induction h with
 | nil=>exact fun i x h=>nomatch (List.getElem?_nil.symm.trans h)
 | cons r _ ih=>exact fun i x h=>by induction i using Nat.casesOn with | zero=>cases h;exact⟨_,rfl,r⟩ | succ i=>exact ih i x h
end
theorem lev_il9 (D:Dat):(levD D).il 9=D.il 9++[((D.il 8).length:Int)]:=rfl
theorem Inv.lev {n:Nat}{D:Dat}(I:Inv n D):Inv n (levD D)∧(levD D).il 9≠[]:=by
 have ne:(levD D).il 9≠[]:=by rw[lev_il9];simp
 refine⟨⟨I.n1,I.n8,I.sz,⟨I.scl.hook,I.scl.int⟩,⟨fun k a b=>?_,I.t.tr,I.t.nd,I.t.as1,I.t.as0,I.t.z,I.t.sp,fun e=>(ne e).elim,fun s r e=>?_,?_,fun s hs=>?_⟩,I.r,I.w,I.h0,I.h1⟩,ne⟩
 ·have:(levD D).il k=D.il k:=fu_ne (Yd (Ze b (by decide)))
  rw[this];exact I.t.lv k a b
 ·rw[lev_il9] at e
  induction h:D.il 9 using List.casesOn with
  | nil=>
   rw[h] at e
   have h8:=I.t.st0 h
   rw[h8] at e
   cases e;rfl
  | cons s' r'=>
   rw[h] at e
   have:=I.t.st1 s' r' h
   cases e;exact this
 ·rw[lev_il9]
  refine List.pairwise_append.mpr (aI3 I.t.st2 (Xo _ _) (fun a ha b hb=>?_))
  rw[Zl.mp hb]
  exact (I.t.st3 a ha).2
 ·rw[lev_il9] at hs
  rcases Zo.mp hs with hs | hs
  ·exact I.t.st3 s hs
  ·rw[Zl.mp hs]
   exact⟨Zj _,Int.le_refl _⟩
theorem Inv.enq0 {n:Nat}{D:Dat}(I:Inv n D) (dep:D.il 9≠[]) {l:Int}(h:Lt n l) (v:val D l=0):Inv n (enqD D l (-1))∧(enqD D l (-1)).il 9≠[]:=
 ⟨⟨I.n1,I.n8,I.sz,⟨I.scl.hook,I.scl.int⟩,I.t.enq h v (fun e=>dep e),I.r.enq I.t h v (fun j xs e m hm=>(I.w.cl j xs e).lt m hm) (.inl rfl),I.w,I.h0,by
  show ivi D 21≤((D.il 8++[l]).length:Int)
  rw[Zd]
  have:=I.h1
  lia⟩,dep⟩
noncomputable def decD (D:Dat) (l:Int):Dat × Int:=propD (enqD (levD D) l (-1))
section
variable {S:Sig}{ρ:RH}{H:AH}
end
noncomputable def worth (uses:List Int) (k:Int):Int:=(((List.range uses.length).filter fun i=>decide (uses.getD i 0=k)).map fun (i:Nat)=>2+(i:Int)).sum
noncomputable def wrt (D:Dat) (uses:List Int) (k:Nat):Int:=if (D.il 11).getD k 0≠0 then worth uses k else 0
noncomputable def usedL (D:Dat):List Int:=(D.il 8).map fun l=>at_ (D.il 5) l
theorem isRea_iff {n:Nat}{D:Dat}(I:Inv n D) {k:Nat}{x0:Int}{r:List Int}(h:D.cls[k]?=some (some (x0::r))):isRea D k x0=true↔(k:Int)∈usedL D:=by
 have C:=I.w.cl k _ h
 have l0:=C.lt x0 (.head _)
 unfold isRea usedL
 rw[Zy,decide_eq_true_eq,decide_eq_true_eq,Z3]
 constructor
 ·rintro ⟨a,b⟩
  exact⟨x0,(I.t.as1 x0 l0).mp a,b⟩
 ·rintro ⟨l,hl,e⟩
  obtain ⟨i,hi⟩:=Yy hl
  rcases I.r i l hi with q | ⟨j,x1,s,q,hj,_⟩
  ·rw[q] at e;lia
  ·rw[q] at e
   have:j=k:=by lia
   subst this
   rw[h] at hj
   cases hj
   exact⟨(I.t.as1 _ l0).mpr hl,q⟩
theorem uw_wat {j:Nat}{D:Dat}{l:Int}(p:Nat):(uwD j D l).wat[p]?=if p=(pl l).toNat then (D.wat[p]?).map (·.filter fun y=>!decide (y=(j:Int))) else D.wat[p]?:=by
 unfold uwD
 show (D.wat.set _ _)[p]?=_
 by_cases q:p=(pl l).toNat
 ·subst q
  rw[if_pos rfl]
  by_cases h:(pl l).toNat<D.wat.length
  ·rw[Zh h,getD_some (x:=[]) h]
   rfl
  ·rw[Z1 (by rw[Zp];exact Yj.mp h),Z1 (Yj.mp h)];rfl
 ·rw[if_neg q,Zi (Ne.symm q)]
theorem filter_id {p:Int->Bool}{l:List Int}(h:∀ y∈l,p y=true):l.filter p=l:=List.filter_eq_self.mpr h
structure DropR (n:Nat) (D D':Dat) (js:List Int):Prop where
 inv:Inv n D'
 il:D'.il=D.il
 iv:∀ a,a≠23->D'.iv a=D.iv a
 lc:ivi D' 23=ivi D 23 - js.length
 cl:∀ k:Nat,D'.cls[k]?=if (k:Int)∈js then (D.cls[k]?).map fun _=>none else D.cls[k]?
 wt:D'.wat=D.wat.map fun row=>row.filter fun y=>!decide (y∈js)
theorem Inv.drop {n:Nat}{D:Dat}(I:Inv n D) {j:Nat}{x0 x1:Int}{r:List Int}(h:D.cls[j]?=some (some (x0::x1::r))) (hu:(j:Int)∉usedL D):DropR n D (drop1 D j) [(j:Int)]:=by
 have hl:=(Za.mp h).1
 have C:=I.w.cl j _ h
 refine xE1 (pl_nat (C.lt x0 (.head _))) fun p0 t1_0=>aE3 t1_0 fun a0 b0 c0=>?_
 refine xE1 (pl_nat (C.lt x1 (.tail _ (.head _)))) fun p1 t2_0=>aE3 t2_0 fun a1 b1 c1=>?_
 have e:drop1 D j=((uwD j (uwD j D x0) x1).setC j none).setV 23 (.int (ivi D 23 - 1)):=by
  unfold drop1;rw[Ym,h];rfl
 have cls':(drop1 D j).cls=D.cls.set j none:=by rw[e];rfl
 have wat':(drop1 D j).wat=D.wat.map fun row=>row.filter fun y=>!decide (y∈[(j:Int)]):=by
  rw[e]
  show (uwD j (uwD j D x0) x1).wat=_
  refine Xw fun p=>?_
  rw[uw_wat,uw_wat,b0,b1,Zn]
  induction hp:D.wat[p]? using Option.casesOn with
  | none=>simp
  | some row=>
   have hd:(fun y:Int=>!decide (y∈[(j:Int)]))=fun y=>!decide (y=(j:Int)):=by
    funext y;rw[decide_eq_decide.mpr Zl]
   rw[hd]
   have hm:=memW_at (p:=p) h
   rw[← I.w.mem hp] at hm
   have idem:∀ l:List Int,(l.filter fun y=>!decide (y=(j:Int))).filter (fun y=>!decide (y=(j:Int)))=l.filter fun y=>!decide (y=(j:Int)):=fun l=>by
    rw[List.filter_filter];simp
   by_cases q0:p=p0
   ·rw[if_pos q0]
    by_cases q1:p=p1
    ·rw[if_pos q1];exact congrArg some (idem row)
    ·rw[if_neg q1];first | done | rfl
   ·rw[if_neg q0]
    by_cases q1:p=p1
    ·rw[if_pos q1];first | done | rfl
    ·rw[if_neg q1]
     show some row=some (row.filter _)
     refine congrArg some (filter_id fun y hy=>?_).symm
     rw[Xk,decide_eq_false_iff_not]
     rintro rfl
     rcases hm.mp hy with z | z
     ·rw[a0] at z;lia
     ·rw[a1] at z;lia
 have il':(drop1 D j).il=D.il:=by rw[e];rfl
 have iv':∀ a,a≠23->(drop1 D j).iv a=D.iv a:=fun a ha=>by rw[e];exact fu_ne ha
 have clA:∀ k:Nat,(drop1 D j).cls[k]?=if (k:Int)∈[(j:Int)] then (D.cls[k]?).map fun _=>none else D.cls[k]?:=fun k=>by
  rw[cls']
  by_cases q:k=j
  ·subst q
   rw[Zh hl,if_pos (Zl.mpr rfl),h];rfl
  ·rw[Zi (Ne.symm q),if_neg (fun z=>q (by have:=Zl.mp z;lia))]
 refine⟨⟨I.n1,I.n8,?_,?_,by rw[il'];exact I.t,?_,?_,?_,?_⟩,il',iv',?_,clA,wat'⟩
 ·rw[cls',Zp];exact I.sz
 ·rw[e];exact scl_set (D:=(uwD j (uwD j D x0) x1).setC j none) ⟨I.scl.hook,I.scl.int⟩ (by decide)
 ·rw[il',cls']
  intro i l hi
  rcases I.r i l hi with q | ⟨k,y1,s,q,hk,f⟩
  ·exact .inl q
  ·refine .inr (xI3 k y1 s (aI3 q ?_ f))
   rw[Zi]
   ·exact hk
   ·rintro rfl
    exact hu (Z3.mpr ⟨l,Zg hi,q⟩)
 ·rw[cls',wat']
  refine⟨by rw[Zc];exact I.w.lw,fun k xs hk=>?_,fun p ys hp=>?_,fun p ys hp y=>?_⟩
  ·by_cases q:k=j
   ·subst q;rw[Zh hl] at hk;cases hk
   ·rw[Zi (Ne.symm q)] at hk;exact I.w.cl k xs hk
  ·rw[Zn] at hp
   refine xE1 (Zw.mp hp) fun row t3_0=>aE2 t3_0 fun h1 e3_2=>?_
   subst e3_2
   exact List.Pairwise.filter _ (I.w.wn p row h1)
  ·rw[Zn] at hp
   refine xE1 (Zw.mp hp) fun row t4_0=>aE2 t4_0 fun h1 e4_2=>?_
   subst e4_2
   rw[Wa,I.w.mem h1,Xk,decide_eq_false_iff_not,Zl]
   show _↔memW _ p y
   by_cases q:y=j
   ·subst q
    refine⟨fun z=>(z.2 rfl).elim,?_⟩
    rintro ⟨k,y0,y1,s,e1,e2,_⟩
    have:=Wc.inj e1;subst this
    rw[Zh hl] at e2;cases e2
   ·rw[memW_ne q];exact⟨fun z=>z.1,fun z=>⟨z,q⟩⟩
 ·rw[show ivi (drop1 D j) 21=ivi D 21 by unfold ivi;rw[iv' 21 (by decide)]];exact I.h0
 ·rw[show ivi (drop1 D j) 21=ivi D 21 by unfold ivi;rw[iv' 21 (by decide)],il'];exact I.h1
 ·rw[e,ivi_set];rfl
theorem DropR.nil {n:Nat}{D:Dat}(I:Inv n D):DropR n D D []:=
 ⟨I,rfl,fun _ _=>rfl,(Int.sub_zero _).symm,fun k=>by rw[if_neg nofun],by
  refine (List.map_id'' (fun row=>?_) D.wat).symm
  exact filter_id fun y _=>by simp⟩
theorem DropR.trans {n:Nat}{D D' D'':Dat}{js ks:List Int}(x:DropR n D D' js) (y:DropR n D' D'' ks):DropR n D D'' (js++ks):=by
 refine⟨y.inv,y.il.trans x.il,fun a ha=>(y.iv a ha).trans (x.iv a ha),?_,fun k=>?_,?_⟩
 ·rw[y.lc,x.lc,Zd];lia
 ·rw[y.cl,x.cl]
  by_cases a:(k:Int)∈js<;>by_cases b:(k:Int)∈ks<;>simp [a,b]
  rfl
 ·rw[y.wt,x.wt,Y0]
  refine Yb fun row _=>?_
  show (row.filter _).filter _=_
  rw[List.filter_filter]
  congr 1
  funext z
  by_cases a:z∈js<;>by_cases b:z∈ks<;>simp [a,b]
theorem Inv.drops {n:Nat}:∀ (js:List Int) (D:Dat),Inv n D->js.Nodup->(∀ j∈js,∃ (k:Nat) (x0 x1:Int) (r:List Int),j=k∧D.cls[k]?=some (some (x0::x1::r))∧j∉usedL D)->DropR n D (js.foldl drop1 D) js:=by
 intro js
 induction js with
 | nil=>
  intro D I _ _
  exact .nil I
 | cons j js ih=>
  intro D I nd h
  refine hide fun R done=>?_
  refine xE4 (h j (.head _)) fun k x0 x1 r t5_0=>aE2 t5_0 fun e5_4 t5_1=>?_
  subst e5_4
  refine aE2 t5_1 fun hk hu=>?_
  refine aE2 (Yc.mp nd) fun n1 n2=>?_
  refine done ?_
  have d1:=I.drop hk hu
  have d2:=ih (drop1 D k) d1.inv n2 fun i hi=>by
   refine hide fun R done=>?_
   refine xE4 (h i (.tail _ hi)) fun m y0 y1 s t7_0=>aE2 t7_0 fun e7_4 t7_1=>?_
   subst e7_4
   refine aE2 t7_1 fun hm hu=>?_
   refine done ?_
   refine (xI4 m y0 y1 s (aI3 rfl ?_ ?_))
   ·rw[d1.cl,if_neg fun z=>n1 (by rw[← Zl.mp z];exact hi)];exact hm
   ·unfold usedL;rw[d1.il];exact hu
  exact d1.trans d2
noncomputable def ltW (w:Int->Int) (j k:Int):Bool:=pairLt (w j) j (w k) k
theorem lt_of_le {w:Int->Int}{j k:Int}(h:lexLe [w j,j] [w k,k]=true) (ne:j≠k):ltW w j k=true∧ltW w k j=false:=by
 unfold ltW pairLt
 unfold lexLe at h
 by_cases q:w j=w k
 ·rw[beq_iff_eq.mpr q,if_pos rfl] at h
  rw[beq_iff_eq.mpr q,beq_iff_eq.mpr q.symm,if_pos rfl,if_pos rfl]
  unfold lexLe at h
  rw[beq_eq_false_iff_ne.mpr ne] at h
  rewrite [if_neg nofun] at h
  have:=of_decide_eq_true h
  exact⟨decide_eq_true this,decide_eq_false (by lia)⟩
 ·rewrite [beq_eq_false_iff_ne.mpr q,if_neg nofun] at h
  have:=of_decide_eq_true h
  rw[beq_eq_false_iff_ne.mpr q,beq_eq_false_iff_ne.mpr (Ne.symm q),if_neg nofun,if_neg nofun]
  exact⟨decide_eq_true this,decide_eq_false (by lia)⟩
theorem ltW_self {w:Int->Int}{k:Int}:ltW w k k=false:=by unfold ltW pairLt;simp
theorem rank_of {w:Int->Int}{ws:List Int}(nd:ws.Nodup) (hs:ws.Pairwise fun a b=>lexLe [w a,a] [w b,b]=true) {i:Nat}{k:Int}(h:ws[i]?=some k):(ws.filter fun j=>ltW w j k).length=i:=by
 refine hide fun R done=>?_
 refine xE1 (Za.mp h) fun hi e=>?_
 have a:ws=ws.take i++k::ws.drop (i+1):=by
  rw[← e,← Xd hi,Wj]
 rw[a] at nd hs
 refine aE3 (Y7.mp nd) fun n1 n2 n3=>?_
 refine aE3 (List.pairwise_append.mp hs) fun s1 s2 s3=>?_
 refine aE2 (Yc.mp n2) fun n4 n5=>?_
 refine aE2 (Vp.mp s2) fun s4 s5=>?_
 refine done ?_
 have h1:(ws.take i).filter (fun j=>ltW w j k)=ws.take i:=filter_id fun y hy=>(lt_of_le (s3 y hy k (.head _)) (n3 y hy k (.head _))).1
 have h2:(ws.drop (i+1)).filter (fun j=>ltW w j k)=[]:=W9.mpr fun y hy=>by
  rw[(lt_of_le (s4 y hy) (fun z=>n4 (z▸hy))).2];exact nofun
 conv=>lhs;rw[a]
 rw[List.filter_append,Wb (by rw[ltW_self];exact nofun),h1,h2,Y3,Xq]
 lia
noncomputable def goneL (w:Int->Int) (cs:List Int):List Int:=cs.filter fun k=>decide (((cs.filter fun j=>ltW w j k).length:Int)<((cs.length / 2:Nat):Int))
theorem gone_iff {w:Int->Int}{cs ws:List Int}(nd:cs.Nodup) (hp:ws.Perm cs) (hs:ws.Pairwise fun a b=>lexLe [w a,a] [w b,b]=true) (k:Int):k∈goneL w cs↔k∈ws.take (ws.length / 2):=by
 have wnd:=hp.nodup_iff.mpr nd
 have rk:∀ k,(cs.filter fun j=>ltW w j k).length=(ws.filter fun j=>ltW w j k).length:=fun k=>((hp.filter _).length_eq).symm
 unfold goneL
 rw[Wa,decide_eq_true_eq,rk,← hp.length_eq,← hp.mem_iff]
 constructor
 ·rintro ⟨h1,h2⟩
  refine xE1 (Yy h1) fun i hi=>?_
  rw[rank_of wnd hs hi] at h2
  refine Zg (i:=i) ?_
  rw[W2 (Zx.mp h2)];exact hi
 ·intro h
  refine xE1 (Yy h) fun i hi=>?_
  have hlt:=(Za.mp hi).1
  rw[Xq] at hlt
  rw[W2 (min_l hlt)] at hi
  refine⟨Zg hi,?_⟩
  rw[rank_of wnd hs hi];exact Zx.mpr (min_l hlt)
theorem gone_len {w:Int->Int}{cs ws:List Int}(nd:cs.Nodup) (hp:ws.Perm cs) (hs:ws.Pairwise fun a b=>lexLe [w a,a] [w b,b]=true):(goneL w cs).length=(ws.take (ws.length / 2)).length:=by
 have wnd:=hp.nodup_iff.mpr nd
 have n1:(goneL w cs).Nodup:=List.Pairwise.filter _ nd
 have n2:(ws.take (ws.length / 2)).Nodup:=List.Sublist.nodup (W1 ..) wnd
 exact Yq (nodup_len n1 fun x hx=>(gone_iff nd hp hs x).mp hx) (nodup_len n2 fun x hx=>(gone_iff nd hp hs x).mpr hx)
section
variable {S:Sig}{ρ:RH}{N:Addr->Prop}{Hk:AH}
end
noncomputable def cd:Option (List Int)->PyData
 | none=>.none
 | some xs=>.list (xs.map .int)
section
variable {B:Base}{d n:Nat}{ρ:RH}{c:Addr}{Hk:AH}{L:Lay}{D:Dat}{N:Addr->Prop}
end
section
variable {S:Sig}{ρ:RH}{H:AH}
theorem Pv.notIn {a b:ME}{i:Int}{y:Addr}{js:List Int}(h1:Pv S ρ H a (.int i)) (h2:Pv S ρ H b (.ref y)) (hs:H y=some (.list (js.map .int))):Pv S ρ H (.cmp .NotIn a b) (.bool (decide (i∉js))):=.cmp h1 h2 fun _ q=>⟨js,seqL hs,q⟩
end
theorem Ex.list {H H':AH}(x:Ex H H') {a:Addr}{o:AO}(h:H a=some o):H' a=some o:=(x a (by rw[h];exact nofun)).trans h
noncomputable def wz (D:Dat) (z:Int):Int:=(D.il 12).getD z.toNat 0
section
variable {B:Base}{d n:Nat}{ρ:RH}{c:Addr}{Hk:AH}{L:Lay}{D:Dat}{N:Addr->Prop}
theorem len_drop {D D':Dat}{gn:List Int}(hD:∀ k:Nat,D'.cls[k]?=if (k:Int)∈gn then (D.cls[k]?).map fun _=>none else D.cls[k]?):D'.cls.length=D.cls.length:=by
 have key:∀ k,k<D'.cls.length↔k<D.cls.length:=fun k=>by
  have:=hD k
  constructor
  ·intro h
   rw[Yh h] at this
   by_cases q:k<D.cls.length
   ·exact q
   ·rw[Z1 (Yj.mp q)] at this
    split at this<;>exact nsc this
  ·intro h
   rw[Yh h] at this
   by_cases q:k<D'.cls.length
   ·exact q
   ·rw[Z1 (Yj.mp q)] at this
    split at this<;>exact ncs this
 have a:=key D'.cls.length
 have b:=key D.cls.length
 lia
end
theorem all2_of {α β:Type}{R:α->β->Prop}:∀ {xs:List α}{ys:List β},xs.length=ys.length->(∀ (i:Nat) x y,xs[i]?=some x->ys[i]?=some y->R x y)->All2 R xs ys
 | [],[],_,_=>.nil
 | x::xs,y::ys,h,k=>.cons (k 0 x y rfl rfl) (all2_of (Nat.succ.inj h) fun i a b ha hb=>k (i+1) a b ha hb)
theorem cd_shd (o:Option (List Int)):(cd o).canLay0=true∧(cd o).depth≤1:=by
 induction o using Option.casesOn with
 | none=>exact⟨rfl,by decide⟩
 | some xs=>exact⟨lay_list fun d h=>(int_mem h).1,dep_list fun d h=>(int_mem h).2⟩
theorem shd_cls (cs:List (Option (List Int))):Shd (.list (cs.map cd)):=
 ⟨lay_list fun d h=>by obtain ⟨o,_,rfl⟩:=Z3.mp h;exact (cd_shd o).1,Zf (dep_list (n:=1) fun d h=>by obtain ⟨o,_,rfl⟩:=Z3.mp h;exact (cd_shd o).2) (by decide)⟩
theorem shd_wat (ws:List (List Int)):Shd (.list (ws.map fun ys=>.list (ys.map .int))):=by
 have:=shd_cls (ws.map some)
 rw[Y0] at this
 exact this
theorem rd_cls {c:Addr}{H:AH}{L:Lay}{D:Dat}(C:CoreAt c H L D):ReadM H (.ref (L .K)) (.list (D.cls.map cd)):=by
 refine .list (C.ct .K _ rfl) (all2_of (by unfold rowK;simp) fun i x y hx hy=>?_)
 rw[Zn] at hy
 induction q:D.cls[i]? using Option.casesOn with
 | none=>rw[q] at hy;cases hy
 | some o=>
  rw[q] at hy;cases hy
  have hi:=(Za.mp q).1
  unfold rowK at hx
  rw[Zn,Yi hi,Yx,q] at hx
  have hx:=Option.some.inj hx;subst hx
  induction o using Option.casesOn with
  | none=>exact .none
  | some xs=>exact rdList (C.ctk q)
theorem rd_wat {c:Addr}{H:AH}{L:Lay}{D:Dat}(C:CoreAt c H L D):ReadM H (.ref (L .W)) (.list (D.wat.map fun ys=>.list (ys.map .int))):=by
 refine .list (C.ct .W _ rfl) (all2_of (by unfold rowW;simp) fun i x y hx hy=>?_)
 rw[Zn] at hy
 induction q:D.wat[i]? using Option.casesOn with
 | none=>rw[q] at hy;cases hy
 | some o=>
  rw[q] at hy;cases hy
  have hi:=(Za.mp q).1
  unfold rowW at hx
  rw[Zn,Yi hi] at hx
  cases hx
  exact rdList (C.ctw q)
section
variable {S:Sig}{ρ:RH}{N:Addr->Prop}{Hk:AH}{R:Fl->RH->AH->Prop}
end
structure FP (n:Nat) (D:Dat) (uses:List Int):Prop where
 I:Inv n D
 h10:(D.il 10).length=D.cls.length
 h11:(D.il 11).length=D.cls.length
 h12:(D.il 12).length=D.cls.length
 h39:∃ z,D.iv 39=.int z
 act:D.il 12=(List.range D.cls.length).map (wrt D uses)
 ul:uses.length≤100
 rm:0≤ivi D 33
theorem candL_nd (D:Dat) (m:Nat):(candL D m).Nodup:=by
 unfold candL
 exact List.Pairwise.map _ (fun a b h z=>h (by lia)) (List.Pairwise.filter _ W5)
theorem cand_get {n:Nat}{D:Dat}(I:Inv n D) {z:Int}(h:z∈candL D D.cls.length):∃ (k:Nat) (x0 x1:Int) (r:List Int),z=k∧D.cls[k]?=some (some (x0::x1::r))∧z∉usedL D:=by
 unfold candL at h
 obtain ⟨k,hk,rfl⟩:=Z3.mp h
 obtain ⟨h1,h2⟩:=Wa.mp hk
 have h1:=Yp.mp h1
 have gk:D.cls[k]?=some (D.cls.getD k none):=getD_some h1
 unfold cand at h2
 rw[gk,Zy] at h2
 have h2:=h2.2
 induction hc:D.cls.getD k none using Option.casesOn with
 | none=>rw[hc] at h2;cases h2
 | some xs=>
  rw[hc] at h2 gk
  have CC:=I.w.cl k xs gk
  match xs,gk,h2,CC with
  | x0::x1::r,gk,h2,CC=>
   refine (xI4 k x0 x1 r (aI3 rfl gk (fun z=>?_)))
   have h2:(_ && !isRea D k x0)=true:=h2
   rw[Zy,(isRea_iff I gk).mpr z] at h2
   cases h2.2
  | [],gk,h2,CC=>exact absurd CC.two (by simp)
  | [_],gk,h2,CC=>exact absurd CC.two (by simp)
theorem ivi_ne {D:Dat}{a b:Nat}{v:MV}(h:a≠b):ivi (D.setV b v) a=ivi D a:=by unfold ivi Dat.setV;dsimp only;rw[fu_ne h]
theorem forget_all {n:Nat}{D:Dat}(I:Inv n D) {ws:List Int}(hw:SrtW D (candL D D.cls.length) ws) :
  ∃ gn,gn=goneL (wz D) (candL D D.cls.length)∧Inv n (forgetD D ws)∧(forgetD D ws).il=D.il∧(∀ a,a≠23->a≠33->(forgetD D ws).iv a=D.iv a)∧ivi (forgetD D ws) 23=ivi D 23 - gn.length∧ivi (forgetD D ws) 33=ivi D 33+(ivi D 33).fdiv 8+1∧
   (∀ k:Nat,(forgetD D ws).cls[k]?=if (k:Int)∈gn then (D.cls[k]?).map fun _=>none else D.cls[k]?)∧(forgetD D ws).wat=D.wat.map fun row=>row.filter fun y=>!decide (y∈gn):=by
 have nd:=candL_nd D D.cls.length
 have wnd:=hw.1.nodup_iff.mpr nd
 have DR:=Inv.drops (ws.take (ws.length / 2)) D I (List.Sublist.nodup (W1 ..) wnd) fun j hj=>cand_get I (hw.1.mem_iff.mp (Xy hj))
 have hg:=gone_iff (w:=wz D) nd hw.1 hw.2
 have hl:=gone_len (w:=wz D) nd hw.1 hw.2
 refine⟨_,(aI8 rfl ?_ DR.il (fun a h1 h2=>(fu_ne h2).trans (DR.iv a h1)) ?_ ivi_set (fun k=>?_) ?_)⟩
 ·unfold forgetD
  have I':=DR.inv
  exact⟨I'.n1,I'.n8,I'.sz,scl_set I'.scl (by decide),I'.t,I'.r,I'.w,by rw[ivi_ne (by decide)];exact I'.h0,by rw[ivi_ne (by decide)];exact I'.h1⟩
 ·rw[hl,← DR.lc]
  exact ivi_ne (by decide)
 ·refine (DR.cl k).trans ?_
  by_cases q:(k:Int)∈ws.take (ws.length / 2)
  ·rw[if_pos q,if_pos ((hg k).mpr q)]
  ·rw[if_neg q,if_neg fun z=>q ((hg k).mp z)]
 ·refine DR.wt.trans (Yb fun row _=>?_)
  refine List.filter_congr fun y _=>?_
  rw[decide_eq_decide.mpr (hg y)]
noncomputable def at17 (D:Dat) (i:Nat):Int:=(D.il 17).getD i 0
noncomputable def kidN (D:Dat) (spot:Nat):Option Nat:=
 if (D.il 17).length≤2*spot+1 then none
 else some (if (decide (2*spot+2<(D.il 17).length) && beforeD D (at17 D (2*spot+2)) (at17 D (2*spot+1)))=true then 2*spot+2 else 2*spot+1)
noncomputable def kidI (D:Dat) (spot:Nat):Int:=(kidN D spot).elim (-1) fun m=>m
theorem kidN_lt {D:Dat}{spot m:Nat}(h:kidN D spot=some m):spot<m∧m<(D.il 17).length:=by
 unfold kidN at h
 split at h
 ·exact ncs h
 ·rename_i q
  have h:=Option.some.inj h
  split at h
  ·rename_i p
   rw[Zy,decide_eq_true_eq] at p
   rw[← h];exact⟨by lia,p.1⟩
  ·rw[← h];exact⟨by lia,Wz.mp q⟩
section
variable {B:Base}(g:Ctx B) {d n:Nat}{ρ:RH}{c:Addr}{H:AH}{L:Lay}{D:Dat}{Q:MV->AH->Prop}
include g
theorem better_spec (hd:8≤d) (C:CoreAt c H L D) (hp:HpOK n D) {spot:Nat}(q:Q (.int (kidI D spot)) H):SpecCall B d f_CoreHeap_better_child [.ref (L .hp),.int (spot:Int)] H Q:=by
 refine (Ctx.fn g (d:=4) k_CoreHeap_better_child rfl ?_).mono hd fun _ _=>id
 unfold a_CoreHeap_better_child
 refine sSet (v:=.int ((2*spot+1:Nat):Int)) (.toI (.add (.mul .cst (.var rfl) (.inl (by decide))) .cst) rfl) ?_
 refine sIf (.ge (.var rfl) (.lenF C (n:=17) (.l17 C (.var rfl)) ⟨by decide,by decide⟩)) (fun p=>?_) fun p=>sNilT ?_
 ·have e:kidN D spot=none:=if_pos (X7.mp (of_decide_eq_true p))
  unfold kidI at q
  rw[e] at q
  exact sRetP (.neg .cst) q
 ·have hl:2*spot+1<(D.il 17).length:=Wz.mp fun z=>of_decide_eq_false p (X7.mpr z)
  refine sSet (v:=.int ((2*spot+2:Nat):Int)) (.toI (.add (.var rfl) .cst) rfl) ?_
  have e:kidN D spot=_:=if_neg (Wz.mpr hl)
  unfold kidI at q
  rw[e] at q
  have h1:=hp.at_ hl
  refine sIf (c:=decide (2*spot+2<(D.il 17).length) && beforeD D (at17 D (2*spot+2)) (at17 D (2*spot+1)))
   (.and (.lt (.var rfl) (.lenF C (n:=17) (.l17 C (.var rfl)) ⟨by decide,by decide⟩)) (fun p2=>?_) fun p2=>?_) (fun p2=>?_) fun p2=>?_
  ·have h2:=Zx.mp (of_decide_eq_true p2)
   have h3:=hp.at_ h2
   refine .to (.methH C (f:=f_CoreHeap_is_before) (.var rfl) rfl rfl (.cons (.i17 C (.var rfl) (.var rfl) (Zj _) (Zx.mpr h2)) (.cons (.i17 C (.var rfl) (.var rfl) (Zj _) (Zx.mpr hl)) .nil)) (fun Q q=>is_before_spec g (by decide) C (Yu (by decide) h3.1) (by rw[hp.l15];exact Yf h3.2) (Yu (by decide) h1.1) (by rw[hp.l15];exact Yf h1.2) q)) ?_
   rw[decide_eq_true h2,Bool.true_and];rfl
  ·rw[decide_eq_false fun z=>of_decide_eq_false p2 (Zx.mpr z),Bool.false_and]
  ·rw[if_pos p2] at q
   exact sRetP (.var rfl) q
  ·rw[if_neg (by rw[p2];exact Bool.false_ne_true)] at q
   exact sNilT (sRetP (.var rfl) q)
end
noncomputable def sinkF:Nat->Dat->Int->Nat->Dat
 | 0,D,var,spot=>putD D spot var
 | f+1,D,var,spot=>match kidN D spot with
  | none=>putD D spot var
  | some m=>if beforeD D (at17 D m) var=true then sinkF f (putD D spot (at17 D m)) var m else putD D spot var
noncomputable def sinkD (D:Dat) (spot:Nat):Dat:=sinkF (D.il 17).length D (at17 D spot) spot
theorem sinkF_none {f:Nat}{D:Dat}{var:Int}{spot:Nat}(h:kidN D spot=none):sinkF (f+1) D var spot=putD D spot var:=by
 unfold sinkF;rw[h]
theorem sinkF_some {f:Nat}{D:Dat}{var:Int}{spot m:Nat}(h:kidN D spot=some m):sinkF (f+1) D var spot=if beforeD D (at17 D m) var=true then sinkF f (putD D spot (at17 D m)) var m else putD D spot var:=by
 rw[sinkF,h]
section
variable {B:Base}(g:Ctx B) {d n:Nat}{ρ:RH}{c:Addr}{H:AH}{L:Lay}{D:Dat}{Q:MV->AH->Prop}
include g
theorem sink_spec (hd:12≤d) (C:CoreAt c H L D) (hp:HpOK n D) {spot:Nat}(hs:spot<(D.il 17).length) (q:∀ H',CoreAt c H' L (sinkD D spot)->Stp H L D H' L (sinkD D spot)->Q .none H'):SpecCall B d f_CoreHeap_sink [.ref (L .hp),.int (spot:Int)] H Q:=by
 refine (Ctx.fn g (d:=8) k_CoreHeap_sink rfl ?_).mono hd fun _ _=>id
 unfold a_CoreHeap_sink
 have hv:=hp.at_ hs
 refine sSet (.i17 C (.var rfl) (.var rfl) (Zj _) (Zx.mpr hs)) ?_
 generalize hvar:(D.il 17).getD (spot:Int).toNat 0=var
 have hvar':(D.il 17).getD spot 0=var:=hvar
 rw[hvar'] at hv
 have e0:sinkD D spot=sinkF (D.il 17).length D var spot:=by unfold sinkD at17;rw[hvar']
 rw[e0] at q
 refine sAsg (wMethH C (f:=f_CoreHeap_better_child) (.var rfl) rfl rfl (.cons (.var rfl) .nil) (better_spec g (by decide) C hp ?_))
 show wpL _ _ (updR _ 146 (.int (kidI D spot))) H _
 refine sWhile (fun m ρ H'=>∃ D' f s,ρ 40=some (.ref (L .hp))∧ρ 42=some (.int var)∧ρ 48=some (.int ((s:Nat):Int))∧ρ 146=some (.int (kidI D' s))∧CoreAt c H' L D'∧Stp H L D H' L D'∧HpOK n D'∧(D'.il 17).length=(D.il 17).length∧s<(D.il 17).length∧m=(D.il 17).length - s∧m≤f∧sinkF f D' var s=sinkF (D.il 17).length D var spot)
  ((D.il 17).length - spot) (xI3 D _ spot (aI12 rfl rfl rfl rfl C .refl hp rfl hs rfl (Xi _ _) rfl)) fun m ρ H' h=>?_
 refine hide fun R done=>?_
 obtain ⟨D',f,s,r40,r42,r48,r146,C',S',hp',hl,hs',em,hf,e⟩:=h
 refine done ?_
 obtain ⟨f,rfl⟩ : ∃ f',f=f'+1:=⟨f - 1,(Vm (Zf (em▸Nat.sub_pos_of_lt hs') hf)).symm⟩
 have hs2:s<(D'.il 17).length:=hl.symm▸hs'
 have fin:putD D' s var=sinkF (D.il 17).length D var spot->wpL (sig B T1 8) (.cons (.expr (.mcall (.var 40) 51 (.cons (.var 48) (.cons (.var 42) .nil)))) .nil) ρ H' (fun fl _ H'=>match fl with | .ret v=>Q v H' | .next=>Q .none H' | _=>False):=fun a4=>by
  refine sExpr (wMethH C' (f:=f_CoreHeap_put) (.var r40) rfl rfl (.cons (.var r48) (.cons (.var r42) .nil)) ?_)
  refine put_spec g (by decide) C' hs2 (Yu (by decide) hv.1) (by rw[hp'.l16];exact Yf hv.2) fun H2 C2 S2=>⟨nofun,sNil ?_⟩
  rw[a4] at C2 S2
  exact q _ C2 (S'.trans S2)
 unfold kidI at r146
 cases hk:kidN D' s with
 | none=>
  rw[hk] at r146
  rw[sinkF_none hk] at e
  refine Pv.and (x:=false) (y:=false) (.to (.ge (.var r146) .cst) rfl) nofun (fun _=>rfl) _ ⟨_,rfl,?_⟩
  rw[if_neg nofun]
  exact fin e
 | some m'=>
  rw[hk] at r146
  rw[sinkF_some hk] at e
  obtain ⟨h1,h2⟩:=kidN_lt hk
  have hx:=hp'.at_ h2
  have p17:∀ {ρ'},ρ' 40=some (.ref (L .hp))->ρ' 146=some (.int ((m':Nat):Int))->Pv (sig B T1 8) ρ' H' (.sub (.attr (.var 40) 17) (.var 146)) (.int (at17 D' m')):=fun a b=>.i17 C' (.var a) (.var b) (Zj _) (Zx.mpr h2)
  refine Pv.and (x:=true) (y:=beforeD D' (at17 D' m') var) (.to (.ge (.var r146) .cst) (decide_eq_true (Zj m'))) (fun _=>.methH C' (f:=f_CoreHeap_is_before) (.var r40) rfl rfl (.cons (p17 r40 r146) (.cons (.var r42) .nil)) (fun Q q=>is_before_spec g (by decide) C' (Yu (by decide) hx.1) (by rw[hp'.l15];exact Yf hx.2) (Yu (by decide) hv.1) (by rw[hp'.l15];exact Yf hv.2) q)) nofun _ ⟨_,rfl,?_⟩
  by_cases y:beforeD D' (at17 D' m') var=true
  ·rw[if_pos y] at e ⊢
   refine absN fun TT tn=>?_
   obtain ⟨hp2,hl2⟩:=hp'.put (spot:=s) hx
   refine sExpr (wMethH C' (f:=f_CoreHeap_put) (.var r40) rfl rfl (.cons (.var r48) (.cons (p17 r40 r146) .nil)) ?_)
   refine put_spec g (by decide) C' hs2 (Yu (by decide) hx.1) (by rw[hp'.l16];exact Yf hx.2) fun H2 C2 S2=>⟨nofun,?_⟩
   refine sSet (.var r146) ?_
   refine sAsg (wMethH C2 (f:=f_CoreHeap_better_child) (.var r40) rfl rfl (.cons (.var rfl) .nil) (better_spec g (by decide) C2 hp2 ?_))
   show wpL (sig B T1 8) .nil (updR _ 146 (.int (kidI (putD D' s (at17 D' m')) m'))) H2 TT
   have lt:(D.il 17).length - m'<m:=em.symm▸Wp hs' h1
   refine sNil (tn ⟨(D.il 17).length - m',⟨lt,(xI3 _ f m' (aI12 r40 r42 rfl rfl C2 (S'.trans S2) hp2 (hl2.trans hl) (hl▸h2) rfl (Yt (Zv lt hf)) e))⟩⟩)
  ·rw[if_neg y] at e ⊢
   exact fin e
end
theorem HpOK.sinkF {n:Nat}{var:Int}(hv:1≤var∧var≤n):∀ (f:Nat) {D:Dat}(s:Nat),HpOK n D->HpOK n (sinkF f D var s)∧((sinkF f D var s).il 17).length=(D.il 17).length:=by
 intro f
 induction f with
 | zero=>exact fun s h=>h.put hv
 | succ f ih=>
  intro D s h
  induction hk:kidN D s using Option.casesOn with
  | none=>rw[sinkF_none hk];exact h.put hv
  | some m=>
   rw[sinkF_some hk]
   split
   ·have p:=h.put (spot:=s) (h.at_ (kidN_lt hk).2)
    have r:=ih m p.1
    exact⟨r.1,r.2.trans p.2⟩
   ·exact h.put hv
noncomputable def popB (D:Dat):Dat:=(D.setL 17 (D.il 17).dropLast).setL 16 ((D.il 16).set (at17 D 0).toNat (-1))
noncomputable def popD (D:Dat):Dat:=if (D.il 17).length≤1 then popB D else sinkD (putD (popB D) 0 ((D.il 17).getLastD 0)) 0
section
variable {S:Sig}{ρ:RH}{H:AH}
theorem wPop {l:ME}{a:Addr}{ys:List MV}{v:MV}{Q:MV->AH->Prop}(hl:Pv S ρ H l (.ref a)) (ha:H a=some (.list (ys++[v]))) (q:Q v (upd H a (.list ys))):wpE S (.mcall l 2 .nil) ρ H Q:=by
 refine eMcall ?_
 refine hl _ ⟨a,rfl,?_⟩
 rw[ha]
 exact⟨by decide,esNil ⟨ys++[v],ha,rfl,ys,v,rfl,q⟩⟩
end
section
variable {B:Base}(g:Ctx B) {d n:Nat}{ρ:RH}{c:Addr}{H:AH}{L:Lay}{D:Dat}{Q:MV->AH->Prop}
include g
theorem pop_spec (hd:20≤d) (C:CoreAt c H L D) (hp:HpOK n D) (hne:D.il 17≠[]) (q:∀ H',CoreAt c H' L (popD D)->Stp H L D H' L (popD D)->Q (.int (at17 D 0)) H'):SpecCall B d f_CoreHeap_pop [.ref (L .hp)] H Q:=by
 refine (Ctx.fn g (d:=16) k_CoreHeap_pop rfl ?_).mono hd fun _ _=>id
 unfold a_CoreHeap_pop
 have h0:0<(D.il 17).length:=Xp.mpr hne
 have hb:=hp.at_ h0
 obtain ⟨ys,v,e⟩ : ∃ ys v,D.il 17=ys++[v]:=⟨_,_,(List.dropLast_concat_getLast hne).symm⟩
 have hv:1≤v∧v≤n:=hp.ent v (by rw[e];exact Zo.mpr (.inr (.head _)))
 have el:(D.il 17).length=ys.length+1:=by rw[e,Zd];rfl
 have ed:(D.il 17).dropLast=ys:=by rw[e,List.dropLast_concat]
 have eg:(D.il 17).getLastD 0=v:=by rw[e,List.getLastD_concat]
 have flat17:flat 17:=⟨by decide,by decide⟩
 refine sIf (c:=false) (.to (.eq (.lenF C (n:=17) (.l17 C (.var rfl)) flat17) .cst) (beq_eq_false_iff_ne.mpr (Int.ne_of_gt (Zx.mpr h0)))) nofun fun _=>sNilT ?_
 refine sSet (v:=.int (at17 D 0)) (.i17 C (.var rfl) .cst (by decide) (Zx.mpr h0)) ?_
 refine aE2 (C.setL flat17 ys) fun C1 S1=>?_
 have c17:=C.ct (.f 17) _ (cont_flat flat17)
 rw[e,Yg,Y4] at c17
 refine sAsg (wPop (.l17 C (.var rfl)) c17 ?_)
 show wpL (sig B T1 16) _ (updR _ 149 (.int v)) _ _
 refine sPutF C1 (n:=16) (y:=-1) (z:=at17 D 0) (.neg .cst) (.l16 C1 (.var rfl)) (.var rfl) ⟨by decide,by decide⟩ rfl (Yu (by decide) hb.1) (by show _<((D.il 16).length:Int);rw[hp.l16];exact Yf hb.2) fun H2 C2 S2=>?_
 have eB:((D.setL 17 ys).setL 16 (((D.setL 17 ys).il 16).set (at17 D 0).toNat (-1)))=popB D:=by unfold popB;rw[ed];rfl
 have C2:CoreAt c H2 L (popB D):=eB▸C2
 have S2:Stp H L D H2 L (popB D):=eB▸S1.trans S2
 have l2:((popB D).il 17).length=ys.length:=congrArg List.length ed
 have hpB:HpOK n (popB D):=⟨hp.l15,by show ((D.il 16).set _ _).length=_;rw[Zp];exact hp.l16,by have:=hp.l17;rw[l2];lia,fun u hu=>hp.ent u (List.dropLast_subset _ hu)⟩
 refine sIf (.gt (.lenF C2 (n:=17) (.l17 C2 (.var rfl)) flat17) .cst) (fun p=>?_) fun p=>?_
 ·have p0:0<((popB D).il 17).length:=Zx.mp (of_decide_eq_true p)
  have q2:popD D=sinkD (putD (popB D) 0 v) 0:=by unfold popD;rw[if_neg (by rw[el];rw[l2] at p0;lia),eg]
  rw[q2] at q
  refine aE2 (hpB.put (spot:=0) hv) fun hp3 l3=>?_
  refine sExpr (wMethH C2 (f:=f_CoreHeap_put) (vs:=[.int ((0:Nat):Int),.int v]) (.var rfl) rfl rfl (.cons .cst (.cons (.var rfl) .nil)) ?_)
  refine put_spec g (by decide) C2 p0 (Yu (by decide) hv.1) (by rw[hpB.l16];exact Yf hv.2) fun H3 C3 S3=>⟨nofun,?_⟩
  refine sExpr (wMethH C3 (f:=f_CoreHeap_sink) (vs:=[.int ((0:Nat):Int)]) (.var rfl) rfl rfl (.cons .cst .nil) ?_)
  refine sink_spec g (by decide) C3 hp3 (l3▸p0) fun H4 C4 S4=>⟨nofun,?_⟩
  exact sNilT (sRetP (.var rfl) (q H4 C4 ((S2.trans S3).trans S4)))
 ·have q2:popD D=popB D:=by
   unfold popD
   refine if_pos ?_
   have:=of_decide_eq_false p
   rw[l2] at this
   rw[el];lia
  rw[q2] at q
  exact sNilT (sRetP (.var rfl) (q H2 C2 S2))
end
noncomputable def upF:Nat->Nat->Nat->Nat
 | 0,_,s=>s
 | f+1,p,s=>if s<p then upF f p (2*s+1) else s
noncomputable def upK:Nat->Nat->Nat->Bool
 | 0,p,s=>!decide (s<p)
 | f+1,p,s=>if s<p then upK f p (2*s+1) else true
noncomputable def dnF:Nat->Nat->Nat->Nat
 | 0,_,s=>s
 | f+1,p,s=>if p=s then s else dnF f (if s / 2<p then p - s / 2 else p) (s / 2)
noncomputable def dnK:Nat->Nat->Nat->Bool
 | 0,p,s=>decide (p=s)
 | f+1,p,s=>if p=s then true else dnK f (if s / 2<p then p - s / 2 else p) (s / 2)
noncomputable def lub (k:Nat):Nat:=(dnF 8 (k+1) (upF 5 (k+1) 1)+1) / 2
theorem c_up:∀ k,k<12->upK 5 (k+1) 1=true:=by decide +kernel
theorem c_dn:∀ k,k<12->dnK 8 (k+1) (upF 5 (k+1) 1)=true:=by decide +kernel
theorem half_n (s:Nat):((s:Int)).fdiv 2=((s / 2:Nat):Int):=by rw[Wv _ (by decide)];rfl
theorem luby_spec {B:Base}(g:Ctx B) {d k:Nat}{H:AH}{Q:MV->AH->Prop}(hd:4≤d) (hk:k<12) (q:∀ H',Ex H H'->Q (.int (lub k:Nat)) H'):SpecCall B d f_luby [.int (k:Int)] H Q:=by
 refine (Ctx.fn g (d:=0) k_luby rfl ?_).mono hd fun _ _=>id
 unfold a_luby
 refine sAsgT (wTup (.cons (.add (.var rfl) .cst) (.cons .cst .nil)) fun a ha=>(xI2 a _ (aI4 rfl upd_eq rfl ?_)))
 refine asCons (aName (asCons (aName (asNil ?_))))
 have x:=Ex.new ha (.tup [.int ((k:Int)+1),.int 1])
 generalize upd H a (.tup [.int ((k:Int)+1),.int 1])=H1 at x
 refine sWhile (fun m ρ H'=>H'=H1∧ρ 16=some (.int ((k+1:Nat):Int))∧∃ s:Nat,ρ 101=some (.int (s:Int))∧upF m (k+1) s=upF 5 (k+1) 1∧upK m (k+1) s=true) 5 (aI3 rfl rfl ⟨1,(aI3 rfl rfl (c_up k hk))⟩) fun m ρ H' h=>?_
 refine hide fun R done=>?_
 obtain ⟨rfl,r16,s,r101,e,o⟩:=h
 refine done ?_
 refine Pv.lt (.var r101) (.var r16) _ ⟨_,rfl,?_⟩
 by_cases c:s<k+1
 ·rw[if_pos (decide_eq_true (Zx.mpr c))]
  refine absN fun TT tn=>?_
  induction m using Nat.casesOn with
  | zero=>unfold upK at o;rw[decide_eq_true c] at o;exact nft o
  | succ m=>
   unfold upF at e
   unfold upK at o
   rw[if_pos c] at e o
   exact sSet (v:=.int ((2*s+1:Nat):Int)) (.toI (.add (.mul .cst (.var r101) (.inl (by decide))) .cst) rfl) (sNil (tn ⟨m,(aI4 (Yk _) rfl r16 ⟨2*s+1,(aI3 rfl e o)⟩)⟩))
 ·rw[if_neg (by rw[decide_eq_true_eq];exact fun z=>c (Zx.mp z))]
  have e:s=upF 5 (k+1) 1:=by
   induction m using Nat.casesOn with
   | zero=>exact e
   | succ m=>unfold upF at e;rw[if_neg c] at e;exact e
  subst e
  clear o c
  refine sWhile (fun m ρ H2=>H2=H'∧∃ p s:Nat,ρ 16=some (.int (p:Int))∧ρ 101=some (.int (s:Int))∧dnF m p s=dnF 8 (k+1) (upF 5 (k+1) 1)∧dnK m p s=true) 8 ⟨rfl,(xI2 (k+1) _ (aI4 r16 r101 rfl (c_dn k hk)))⟩ fun m ρ H2 h=>?_
  refine hide fun R done=>?_
  obtain ⟨rfl,p,s,r16,r101,e,o⟩:=h
  refine done ?_
  refine Pv.ne (.var r16) (.var r101) _ ⟨_,rfl,?_⟩
  by_cases c:p=s
  ·rw[if_neg (by rw[decide_eq_true (congrArg Wc c)];exact nofun)]
   have e:s=dnF 8 (k+1) (upF 5 (k+1) 1):=by
    induction m using Nat.casesOn with
    | zero=>exact e
    | succ m=>unfold dnF at e;rw[if_pos c] at e;exact e
   refine sRetP (.toI (.fdiv (.add (.var r101) .cst) .cst ⟨by decide,by decide⟩) ?_) (q _ x)
   unfold lub
   rw[← e]
   exact half_n (s+1)
  ·rw[if_pos (by rw[decide_eq_false fun z=>c (Wc.inj z)];rfl)]
   refine absN fun TT tn=>?_
   induction m using Nat.casesOn with
   | zero=>unfold dnK at o;rw[decide_eq_false c] at o;exact nft o
   | succ m=>
    unfold dnF at e
    unfold dnK at o
    rw[if_neg c] at e o
    refine sSet (v:=.int ((s / 2:Nat):Int)) (.toI (.fdiv (.var r101) .cst ⟨by decide,by decide⟩) (half_n s)) ?_
    refine sIf (.gt (.var r16) (.var rfl)) (fun z=>?_) fun z=>?_
    ·have z:=Zx.mp (of_decide_eq_true z)
     rw[if_pos z] at e o
     exact sSet (v:=.int ((p - s / 2:Nat):Int)) (.toI (.sub_ (.var r16) (.var rfl)) (Int.ofNat_sub (Yl z)).symm) (sNilT (sNil (tn ⟨m,(aI3 (Yk _) rfl (xI2 _ _ (aI4 rfl rfl e o)))⟩)))
    ·have z:¬s / 2<p:=fun w=>of_decide_eq_false z (Zx.mpr w)
     rw[if_neg z] at e o
     exact sNilT (sNil (tn ⟨m,(aI3 (Yk _) rfl (xI2 _ _ (aI4 r16 rfl e o)))⟩))
noncomputable def rowE:Nat->Int
 | 0=>1
 | j+1=>2*rowE j
noncomputable def rowI:Nat->List Int
 | 0=>[]
 | j+1=>(rowI j++[rowE j])++(rowI j++[rowE j])
noncomputable def rowL (j:Nat):List Int:=rowI j++[rowE j]
theorem c_row:rowL 3=[1,1,2,1,1,2,4,1,1,2,1,1,2,4,8]:=by decide +kernel
theorem c_lub:∀ k,k<12->(rowL 3).getD k 0=(lub k:Nat):=by decide +kernel
theorem c_rowlen:∀ j,j<3->(rowL j).length<12∧(rowL j).length≤7:=by decide +kernel
theorem row_spec {B:Base}(g:Ctx B) {d:Nat}{H:AH}{Q:MV->AH->Prop}(hd:4≤d) (q:∀ a H',Ex H H'->H a=none->H' a=some (.list ((rowL 3).map .int))->Q (.ref a) H'):SpecCall B d f__law_row [.int 12] H Q:=by
 refine (Ctx.fn g (d:=0) k__law_row rfl ?_).mono hd fun _ _=>id
 unfold a__law_row
 refine sAsg ?_
 refine eList (esCons (Pv.cst _ (esNil ?_)))
 intro a0 ha0
 show wpL _ _ (updR _ 117 (.ref a0)) _ _
 refine sWhile (fun m ρ H'=>ρ 46=some (.int 12)∧∃ a j,ρ 117=some (.ref a)∧Ex H H'∧H a=none∧H' a=some (.list ((rowL j).map .int))∧j≤3∧m=3 - j) 3 ⟨rfl,(xI2 a0 0 (aI6 rfl (Ex.new ha0 _) ha0 upd_eq (Z2 _) rfl))⟩ fun m ρ H' h=>?_
 refine hide fun R done=>?_
 obtain ⟨r46,a,j,r117,x,ha,h1,hj,e⟩:=h
 refine done ?_
 refine Pv.lt (.lenL (.var r117) h1) (.var r46) _ ⟨_,rfl,?_⟩
 by_cases c:j<3
 ·have cl:=c_rowlen j c
  rw[if_pos (decide_eq_true (Zx.mpr cl.1))]
  refine absN fun TT tn=>?_
  refine sAsg ?_
  refine eBin (eBin ?_)
  refine Pv.var r117 _ (Pv.var r117 _ ?_)
  refine⟨_,_,h1,h1,by rw[Zc];exact Zf (Nat.add_le_add cl.2 cl.2) (by decide),fun b hb=>?_⟩
  have hab:a≠b:=fun z=>by rw[z,hb] at h1;exact ncs h1
  have h1':upd H' b (.list ((rowL j).map .int++(rowL j).map .int)) a=some (.list ((rowI j++[rowE j]).map .int)):=(upd_ne hab).trans h1
  refine eList (esCons ?_)
  refine Pv.mul .cst (.sub (.var r117) (.neg .cst) (seqL h1') getAt_last) (.inl (by decide)) _ (esNil ?_)
  intro c2 hc2
  have hb2:b≠c2:=fun z=>by rw[← z,upd_eq] at hc2;exact nsc hc2
  refine⟨_,_,(upd_ne hb2).trans upd_eq,upd_eq,?_,fun b3 hb3=>?_⟩
  ·rw[Zd,Zc];exact Zf (Ye (Nat.add_le_add cl.2 cl.2)) (by decide)
  have x3:Ex H _:=((x.trans (Ex.new hb _)).trans (Ex.new hc2 _)).trans (Ex.new hb3 (.list (((rowL j).map .int++(rowL j).map .int)++[.int (2*rowE j)])))
  show wpL (sig B T1 0) .nil (updR ρ 117 (.ref b3)) _ TT
  refine sNil (tn ⟨3 - (j+1),(aI3 (e.symm▸Wp c (Yk j)) r46 (xI2 b3 (j+1) (aI6 rfl x3 ?_ ?_ c rfl)))⟩)
  ·exact Classical.byContradiction fun z=>by
    have:=((x.trans (Ex.new hb _)).trans (Ex.new hc2 (.list [.int (2*rowE j)]))) b3 z
    rw[hb3] at this;exact z this.symm
  ·rw[upd_eq]
   show some (AO.list (((rowL j).map MV.int++(rowL j).map MV.int)++[MV.int (2*rowE j)]))=some (AO.list (((rowL j++rowL j)++[2*rowE j]).map MV.int))
   generalize rowL j=r
   rw[Yg,Yg];rfl
 ·have e3:j=3:=Yq hj (Yj.mp c)
  rw[e3] at h1
  rw[if_neg (by rw[decide_eq_true_eq,e3];decide)]
  exact sRetP (.var r117) (q a _ x ha h1)
section
variable {B:Base}{d:Nat}{ρ:RH}{c:Addr}{H:AH}{L:Lay}{D:Dat}
theorem aPutV (C:CoreAt c H L D) {s:ME}{a:Nat}{v:MV}{Q:RH->AH->Prop}(hs:Pv (sig B T1 d) ρ H s (.ref c)) (ha:scal a) (ht:T1.at_ cSat a=true) (hr:notRaw v=true)
  (q:∀ H',CoreAt c H' L (D.setV a v)->Stp H L D H' L (D.setV a v)->Q ρ H'):wpA (sig B T1 d) (.attr s a) v ρ H Q:=by
 refine hide fun R done=>?_
 refine xE1 C.ns fun l t0_0=>aE3 t0_0 fun h1 h2 h3=>?_
 refine done ?_
 refine aAttr ?_
 refine hs _ (xI4 c cSat (L .d) l (aI7 rfl C.inst h1 ht hr ?_ ?_))
 ·rw[len_set _ _ _ (by rw[h3,fld_scal ha];rfl)];exact Zf h2 (by decide)
 ·refine aE2 (C.setV ha v h1) fun C' S'=>?_
  exact q _ C' S'
end
noncomputable def restD (D:Dat):Dat:=((D.setV 35 (.int (ivi D 35+1))).setV 36 (.int (ivi D 31))).setV 37 (.int (ivi D 37+1))
theorem pause_spec {B:Base}(g:Ctx B) {d n k:Nat}{c:Addr}{H:AH}{L:Lay}{D:Dat}{Q:MV->AH->Prop}(hd:24≤d) (C:CoreAt c H L D) (hD:Scl D) (hk:ivi D 35=(k:Nat)) (hk12:k<12)
  (hs:Shp n D) (hp:HpOK n D) (hl:(D.il 17).length+(D.il 8).length<800) (tr:∀ l∈D.il 8,Lt n l) (st:∀ s∈D.il 9,0≤s∧s≤(D.il 8).length)
  (h2:Two n D.cls) (h11:(D.il 11).length=D.cls.length) (h12:(D.il 12).length=D.cls.length) (hc:D.cls.length<60) (hb:∀ xs∈D.wat,xs.length≤900)
  (q1:32*(lub k:Int)≤ivi D 31 - ivi D 36->∀ H' L',CoreAt c H' L' (cancelD (restD D) 0)->Stp H L D H' L' (cancelD (restD D) 0)->Q (.bool true) H')
  (q2:¬32*(lub k:Int)≤ivi D 31 - ivi D 36->ivi D 33≤ivi D 23->∀ ws H' L',SrtW D (candL D D.cls.length) ws->CoreAt c H' L' (forgetD D ws)->Stp H L D H' L' (forgetD D ws)->Q (.bool false) H')
  (q3:¬32*(lub k:Int)≤ivi D 31 - ivi D 36->¬ivi D 33≤ivi D 23->∀ H',CoreAt c H' L D->Stp H L D H' L D->Q (.bool false) H') :
  SpecCall B d f_SatCore_pause [.ref c] H Q:=by
 refine (Ctx.fn g (d:=20) k_SatCore_pause rfl ?_).mono hd fun _ _=>id
 unfold a_SatCore_pause
 have iv:∀ {H':AH}{D':Dat}{ρ:RH}{L':Lay}(a:Nat),CoreAt c H' L' D'->Scl D'->ρ 40=some (.ref c)->(21≤a∧a≤23)∨(31≤a∧a≤37)->T1.at_ cSat a=true->Pv (sig B T1 20) ρ H' (.attr (.var 40) a) (.int (ivi D' a)):=fun a C' s r h t=>.int C' s (.var r) h t
 refine sIfW ?_
 refine eCmp ?_
 refine Pv.sub_ (iv 31 C hD rfl (.inr ⟨by decide,by decide⟩) rfl) (iv 36 C hD rfl (.inr ⟨by decide,by decide⟩) rfl) _ ?_
 refine eBin ?_
 refine Pv.glob _ ?_
 refine eCall ?_
 refine Pvs.cons (.toI (iv 35 C hD rfl (.inr ⟨by decide,by decide⟩) rfl) hk) .nil _ (scI (luby_spec g (by decide) hk12 fun H1 x=>?_))
 refine⟨.inl (by decide),?_⟩
 have C1:=x.core C
 show ∃ b,MV.bool (decide (32*(lub k:Int)≤ivi D 31 - ivi D 36))=.bool b∧_
 refine⟨_,rfl,?_⟩
 by_cases p:32*(lub k:Int)≤ivi D 31 - ivi D 36
 ·rw[if_pos (decide_eq_true p)]
  refine sAsgT (wTup (.cons (.add (iv 35 C1 hD rfl (.inr ⟨by decide,by decide⟩) rfl) .cst) (.cons (iv 31 C1 hD rfl (.inr ⟨by decide,by decide⟩) rfl) (.cons (.add (iv 37 C1 hD rfl (.inr ⟨by decide,by decide⟩) rfl) .cst) .nil))) fun a ha=>(xI2 a _ (aI4 rfl upd_eq rfl ?_)))
  have C2:=C1.new ha (.tup [.int (ivi D 35+1),.int (ivi D 31),.int (ivi D 37+1)])
  refine asCons (aPutV C2 (.var rfl) ⟨by decide,by decide⟩ rfl rfl fun H3 C3 S3=>?_)
  refine asCons (aPutV C3 (.var rfl) ⟨by decide,by decide⟩ rfl rfl fun H4 C4 S4=>?_)
  refine asCons (aPutV C4 (.var rfl) ⟨by decide,by decide⟩ rfl rfl fun H5 C5 S5=>?_)
  refine asNil ?_
  have C5:CoreAt c H5 L (restD D):=C5
  have S5:Stp H L D H5 L (restD D):=(((x.stp.alloc ha _).trans S3).trans S4).trans S5
  refine sExpr (wMeth C5 (f:=f_Trail_cancel_until) (vs:=[.int ((0:Nat):Int)]) (.var rfl) rfl rfl (.cons .cst .nil) ?_)
  refine cancel_until_spec g (by decide) C5 (scl_set (scl_set (scl_set hD (by decide)) (by decide)) (by decide)) (D:=restD D) ⟨hs.lv,hs.lw⟩ ⟨hp.l15,hp.l16,hp.l17,hp.ent⟩ hl tr st fun H6 L6 C6 S6=>⟨nofun,?_⟩
  exact sRetP .cst (q1 p H6 L6 C6 (S5.trans S6))
 ·rw[if_neg (by rw[decide_eq_true_eq];exact p)]
  refine sNilT (sIf (.ge (iv 23 C1 hD rfl (.inl ⟨by decide,by decide⟩) rfl) (iv 33 C1 hD rfl (.inr ⟨by decide,by decide⟩) rfl)) (fun z=>?_) fun z=>?_)
  ·refine sExpr (wMeth C1 (f:=f_SatCore_forget) (.var rfl) rfl rfl .nil ?_)
   refine forget_spec g (by decide) C1 hD hs h2 h11 h12 hc hb fun ws H6 L6 hw C6 S6=>⟨nofun,?_⟩
   exact sNilT (sRetP .cst (q2 p (of_decide_eq_true z) ws H6 L6 hw C6 (x.stp.trans S6)))
  ·exact sNilT (sRetP .cst (q3 p (of_decide_eq_false z) H1 C1 x.stp))
noncomputable def fl (D:Dat) (n:Nat):PyData:=.list ((D.il n).map .int)
noncomputable def st2D (D:Dat):List PyData:=[.list (D.cls.map cd),.list (D.wat.map fun ys=>.list (ys.map .int)),fl D 8,fl D 3,fl D 4,fl D 9,fl D 7,fl D 5,fl D 17,.int (ivi D 23),.int (ivi D 33)]
theorem conv_all {n:Nat}(h:∀ x,conv n x=.int x) (xs:List Int):xs.map (conv n)=xs.map .int:=Yb fun x _=>h x
theorem rd_fl {c:Addr}{H:AH}{L:Lay}{D:Dat}(C:CoreAt c H L D) {n:Nat}(hn:flat n) (h:∀ x,conv n x=.int x):ReadM H (.ref (L (.f n))) (fl D n):=by
 have e:=C.ct (.f n) _ (cont_flat hn)
 rw[conv_all h] at e
 exact rdList e
theorem state2_spec {B:Base}(g:Ctx B) {d:Nat}{c:Addr}{H:AH}{L:Lay}{D:Dat}{Q:MV->AH->Prop}(hd:4≤d) (C:CoreAt c H L D) (hD:Scl D)
  (q:∀ t H',Ex H H'->ReadM H' (.ref t) (.tuple (st2D D))->Q (.ref t) H'):SpecCall B d f__law_state [.ref c] H Q:=by
 refine (Ctx.fn g (d:=0) k__law_state rfl ?_).mono hd fun _ _=>id
 unfold a__law_state
 have v:∀ {a:Nat}{v:MV},T1.at_ cSat a=true->Mine.fld L D a=some v->Pv (sig B T1 0) (updRs (fun _=>none) [108] [.ref c]) H (.attr (.var 108) a) v:=fun h1 h2=>.fld C (.var rfl) h1 h2
 refine sRet (wTup (.cons (v rfl rfl) (.cons (v rfl rfl) (.cons (v rfl rfl) (.cons (v rfl rfl) (.cons (v rfl rfl) (.cons (v rfl rfl) (.cons (v rfl rfl) (.cons (v rfl rfl) (.cons (.l17 C (v rfl rfl)) (.cons (.int C hD (.var rfl) (.inl ⟨by decide,by decide⟩) rfl) (.cons (.int C hD (.var rfl) (.inr ⟨by decide,by decide⟩) rfl) .nil))))))))))) fun t ht=>?_)
 have C1:=C.new ht (.tup [.ref (L .K),.ref (L .W),.ref (L (.f 8)),.ref (L (.f 3)),.ref (L (.f 4)),.ref (L (.f 9)),.ref (L (.f 7)),.ref (L (.f 5)),.ref (L (.f 17)),.int (ivi D 23),.int (ivi D 33)])
 exact q t _ (Ex.new ht _) (.tup upd_eq (.cons (rd_cls C1) (.cons (rd_wat C1) (.cons (rd_fl C1 ⟨by decide,by decide⟩ fun _=>rfl) (.cons (rd_fl C1 ⟨by decide,by decide⟩ fun _=>rfl) (.cons (rd_fl C1 ⟨by decide,by decide⟩ fun _=>rfl) (.cons (rd_fl C1 ⟨by decide,by decide⟩ fun _=>rfl) (.cons (rd_fl C1 ⟨by decide,by decide⟩ fun _=>rfl) (.cons (rd_fl C1 ⟨by decide,by decide⟩ fun _=>rfl) (.cons (rd_fl C1 ⟨by decide,by decide⟩ fun _=>rfl) (.cons (.int _) (.cons (.int _) .nil))))))))))))
structure TP (n:Nat) (il:Nat->List Int) (T:List Int):Prop where
 lv:∀ k,3≤k->k≤7->(il k).length=n+1
 tr:∀ l∈T,Lt n l
 nd:T.Nodup
 as1:∀ l,Lt n l->(valA (il 3) l=1↔l∈T)
 as0:∀ v,(il 3).getD v 0=0∨(il 3).getD v 0=1∨(il 3).getD v 0=-1
 z:(il 3).getD 0 0=0
 sp:∀ (i:Nat) l,T[i]?=some l->at_ (il 6) l=i
noncomputable def RP (il:Nat->List Int) (cls:List (Option (List Int))) (T:List Int):Prop:=
 ∀ (i:Nat) l,T[i]?=some l->at_ (il 5) l=-1∨∃ (j:Nat) (x1:Int) (r:List Int),at_ (il 5) l=j∧cls[j]?=some (some (l::x1::r))∧∀ m∈x1::r,valA (il 3) m=-1∧at_ (il 6) m≤i
theorem undoN_il3 (D:Dat) (l:Int):(undoN D l).il 3=(D.il 3).set (vabs l).toNat 0:=rfl
theorem undoN_il5 (D:Dat) (l:Int):(undoN D l).il 5=(D.il 5).set (vabs l).toNat (-1):=rfl
theorem undoN_il6 (D:Dat) (l:Int):(undoN D l).il 6=D.il 6:=rfl
theorem TP.undo {n:Nat}{D:Dat}{T:List Int}{l:Int}(P:TP n D.il (T++[l])):TP n (undoN D l).il T:=by
 have hl:=P.tr l (Zo.mpr (.inr (.head _)))
 have l3:=P.lv 3 (by decide) (by decide)
 refine aE3 (Y7.mp P.nd) fun n1 n2 n3=>?_
 have nl:l∉T:=fun z=>n3 l z l (.head _) rfl
 have v1:valA (D.il 3) l=1:=(P.as1 l hl).mpr (Zo.mpr (.inr (.head _)))
 have nn : -l∉T:=fun z=>by
  have:=(P.as1 _ hl.neg).mpr (Zo.mpr (.inl z))
  rw[valA_neg hl.ne,v1] at this;cases this
 refine⟨(undoN_shp (n:=n) (D:=⟨D.iv,D.il,List.replicate (2*n+2) [],D.cls⟩) ⟨P.lv,Vc⟩ l).lv,fun m hm=>P.tr m (Zo.mpr (.inl hm)),n1,fun m hm=>?_,fun v=>?_,?_,fun i m e=>?_⟩
 ·rw[undoN_il3,valA_set (hl.nat l3)]
  by_cases q:vabs m=vabs l
  ·rw[if_pos q]
   have:m∉T:=by
    rcases vabs_eq q with rfl | rfl
    ·exact nl
    ·exact nn
   refine⟨fun z=>?_,fun z=>(this z).elim⟩
   split at z<;>cases z
  ·rw[if_neg q,P.as1 m hm,Zo,Zl]
   exact⟨fun z=>z.resolve_right fun e=>q (by rw[e]),.inl⟩
 ·rw[undoN_il3,getD_set (hl.nat l3)]
  split
  ·exact .inl rfl
  ·exact P.as0 v
 ·rw[undoN_il3,getD_set (hl.nat l3)]
  split
  ·rfl
  ·exact P.z
 ·rw[undoN_il6]
  exact P.sp i m (by rw[Zu (Za.mp e).1];exact e)
theorem RP.undo {n:Nat}{D:Dat}{T:List Int}{l:Int}(P:TP n D.il (T++[l])) (R:RP D.il D.cls (T++[l])) (hc:∀ (j:Nat) xs,D.cls[j]?=some (some xs)->∀ m∈xs,Lt n m):RP (undoN D l).il D.cls T:=by
 have hl:=P.tr l (Zo.mpr (.inr (.head _)))
 have l3:=P.lv 3 (by decide) (by decide)
 have l5:=P.lv 5 (by decide) (by decide)
 refine aE3 (Y7.mp P.nd) fun n1 n2 n3=>?_
 have nl:l∉T:=fun z=>n3 l z l (.head _) rfl
 have v1:valA (D.il 3) l=1:=(P.as1 l hl).mpr (Zo.mpr (.inr (.head _)))
 have nn : -l∉T:=fun z=>by
  have:=(P.as1 _ hl.neg).mpr (Zo.mpr (.inl z))
  rw[valA_neg hl.ne,v1] at this;cases this
 have hsp:at_ (D.il 6) l=(T.length:Int):=P.sp T.length l (by rw[Zz (Zk _),Yw];rfl)
 intro i m e
 have hi:=(Za.mp e).1
 have hm:=Zg e
 have na:vabs m≠vabs l:=fun z=>by
  rcases vabs_eq z with rfl | rfl
  ·exact nl hm
  ·exact nn hm
 rw[undoN_il5,undoN_il3,undoN_il6,at_set (hl.nat l5),if_neg na]
 rcases R i m (by rw[Zu hi];exact e) with a | ⟨j,x1,r,a,b,f⟩
 ·exact .inl a
 ·refine .inr (xI3 j x1 r (aI3 a b (fun y hy=>?_)))
  refine aE2 (f y hy) fun c1 c2=>?_
  have ly:=hc j _ b y (.tail _ hy)
  have q:vabs y≠vabs l:=fun z=>by
   rcases vabs_eq z with rfl | rfl
   ·rw[v1] at c1;cases c1
   ·rw[at_neg,hsp] at c2;lia
  rw[valA_set (hl.nat l3),if_neg q]
  exact⟨c1,c2⟩
noncomputable def Held (n:Nat) (D:Dat):Prop:=∀ v:Nat,1≤v->v≤n->0≤(D.il 16).getD v 0
theorem Inv.congr {n:Nat}{D D':Dat}(I:Inv n D) (h:∀ k,3≤k->k≤9->D'.il k=D.il k) (hs:Scl D') (hi:ivi D' 21=ivi D 21) (hc:D'.cls=D.cls) (hw:D'.wat=D.wat):Inv n D':=by
 have h3:=h 3 (by decide) (by decide)
 have h5:=h 5 (by decide) (by decide)
 have h6:=h 6 (by decide) (by decide)
 have h8:=h 8 (by decide) (by decide)
 have h9:=h 9 (by decide) (by decide)
 refine⟨I.n1,I.n8,by rw[hc];exact I.sz,hs,⟨fun k a b=>by rw[h k a (Zf b (by decide))];exact I.t.lv k a b,by rw[h8];exact I.t.tr,by rw[h8];exact I.t.nd,by rw[h8,h3];exact I.t.as1,by rw[h3];exact I.t.as0,by rw[h3];exact I.t.z,by rw[h8,h6];exact I.t.sp,by rw[h8,h9];exact I.t.st0,by rw[h9];exact I.t.st1,by rw[h9];exact I.t.st2,by rw[h8,h9];exact I.t.st3⟩,?_,by rw[hc,hw];exact I.w,by rw[hi];exact I.h0,by rw[hi,h8];exact I.h1⟩
 have:=I.r
 unfold RInv at this ⊢
 rw[hc,h3,h5,h6,h8];exact this
structure LP (n:Nat) (D:Dat) (uses:List Int):Prop where
 F:FP n D uses
 hp:HpOK n D
 held:Held n D
 h17:(D.il 17).length≤100
 bump:ivi D 34=1+uses.length
theorem wrt_same {D D':Dat}(h:D'.il 11=D.il 11) (uses:List Int):wrt D' uses=wrt D uses:=by funext k;unfold wrt;rw[h]
theorem set_nn {xs:List Int}{v i:Nat}{x:Int}(h:0≤xs.getD v 0) (hx:0≤x):0≤(xs.set i x).getD v 0:=by
 by_cases q:i<xs.length
 ·rw[getD_set q];split
  ·exact hx
  ·exact h
 ·rw[List.set_eq_of_length_le (Yj.mp q)];exact h
theorem rise_nn:∀ (f:Nat) (D:Dat) (x:Int) (s v:Nat),0≤(D.il 16).getD v 0->0≤((riseF f D x s).il 16).getD v 0
 | 0,D,x,s,v,h=>set_nn h (Zj s)
 | f+1,D,x,s,v,h=>by
  unfold riseF
  split
  ·exact set_nn h (Zj s)
  ·split
   ·exact rise_nn f _ _ _ v (set_nn h (Zj s))
   ·exact set_nn h (Zj s)
theorem push_nn {D:Dat}{x:Int}{v:Nat}(hx:x.toNat<(D.il 16).length) (h:0≤(D.il 16).getD v 0∨v=x.toNat):0≤((pushD D x).il 16).getD v 0:=by
 unfold pushD
 split
 ·rename_i q
  rcases h with h | h
  ·exact h
  ·subst h;exact q
 ·refine rise_nn _ _ _ _ v ?_
  show 0≤((D.il 16).set x.toNat ((D.il 17).length:Int)).getD v 0
  rw[getD_set hx]
  split
  ·exact Zj _
  ·rename_i q;exact h.resolve_right q
structure NV (n:Nat) (D:Dat):Prop where
 lv:∀ k,3≤k->k≤7->(D.il k).length=n+1
 a3:∀ i,(D.il 3).getD i 0=0
 e:∀ k,8≤k->k≤12->D.il k=[]
 lb:∀ k,k=13∨k=14->(D.il k).length=n+1
 cls:D.cls=[]
 wat:D.wat=List.replicate (2*n+2) []
 hp:HpOK n D
 held:Held n D
 l17:(D.il 17).length≤n
 scl:Scl D
 i21:ivi D 21=0
 i33:0≤ivi D 33
 i34:ivi D 34=1
 i39:D.iv 39=.int 1024
theorem NV.start (t:MV):NV 0 (D00 t):=by
 refine⟨fun k a b=>?_,fun i=>?_,fun k a b=>?_,fun k h=>?_,rfl,rfl,⟨rfl,rfl,by show 0<900;decide,nofun⟩,fun v a b=>by lia,Zk _,⟨rfl,fun a h=>?_⟩,rfl,by show (0:Int)≤60;decide,rfl,rfl⟩
 ·have:k=3∨k=4∨k=5∨k=6∨k=7:=d7 a b
  rcases this with rfl | rfl | rfl | rfl | rfl<;>rfl
 ·cases i<;>rfl
 ·have:k=8∨k=9∨k=10∨k=11∨k=12:=d12 a b
  rcases this with rfl | rfl | rfl | rfl | rfl<;>rfl
 ·rcases h with rfl | rfl<;>rfl
 ·have:a=21∨a=22∨a=23∨a=31∨a=32∨a=33∨a=34∨a=35∨a=36∨a=37:=a10 h
  rcases this with rfl | rfl | rfl | rfl | rfl | rfl | rfl | rfl | rfl | rfl<;>rfl
theorem getD_app0 {xs:List Int}(h:∀ i,xs.getD i 0=0) (i:Nat):(xs++[0]).getD i 0=0:=by
 rw[Zb]
 by_cases q:i<xs.length
 ·rw[Zu q,← Zb];exact h i
 ·rw[Zz (Yj.mp q)]
  cases i - xs.length<;>rfl
theorem NV.step {n:Nat}{D:Dat}(V:NV n D) (hn:n≤20):NV (n+1) (newD D):=by
 unfold newD growD growHD
 generalize hX:(D.setL 13 (D.il 13++[0])).setL 14 (D.il 14++[0])=X
 have e15:((grow0 X).il 15)=D.il 15:=by rw[← hX];rfl
 have l15:((grow0 X).il 15).length=n+1:=by rw[e15];exact V.hp.l15
 rw[l15]
 generalize hZ:((grow0 X).setL 15 ((grow0 X).il 15++[0])).setL 16 ((grow0 X).il 16++[-1])=Z
 have z16:Z.il 16=D.il 16++[-1]:=by rw[← hZ,← hX];rfl
 have z17:Z.il 17=D.il 17:=by rw[← hZ,← hX];rfl
 have zl16:(Z.il 16).length=n+2:=by rw[z16,Zd,V.hp.l16];rfl
 have v17:=V.l17
 have zh:HpOK (n+1) Z:=by
  refine⟨?_,zl16,by rw[z17];exact V.hp.l17,fun v hv=>?_⟩
  ·rw[← hZ,← hX];show (D.il 15++[0]).length=_;rw[Zd,V.hp.l15];rfl
  ·rw[z17] at hv
   have:=V.hp.ent v hv
   exact wd1 this
 refine aE2 (zh.push (v:=((n+1:Nat):Int)) (by lia) (by rw[z17];lia)) fun h1 h2=>?_
 have hs:=push_hs Z ((n+1:Nat):Int)
 have ivz:Z.iv=D.iv:=by rw[← hZ,← hX];rfl
 have iv':(pushD Z ((n+1:Nat):Int)).iv=D.iv:=hs.iv.trans ivz
 refine⟨fun k a b=>?_,fun i=>?_,fun k a b=>?_,fun k h=>?_,?_,?_,h1,fun v a b=>?_,?_,⟨by rw[iv'];exact V.scl.hook,fun a h=>by rw[iv',ivi_of iv'];exact V.scl.int a h⟩,by rw[ivi_of iv'];exact V.i21,by rw[ivi_of iv'];exact V.i33,by rw[ivi_of iv'];exact V.i34,by rw[iv'];exact V.i39⟩
 ·rw[hs.il k (Yd (Ze b (by decide))) (Yd (Ze b (by decide))),← hZ,← hX]
  have:k=3∨k=4∨k=5∨k=6∨k=7:=d7 a b
  rcases this with rfl | rfl | rfl | rfl | rfl
  ·show (D.il 3++[0]).length=_;rw[Zd,V.lv 3 a b];rfl
  ·show (D.il 4++[0]).length=_;rw[Zd,V.lv 4 a b];rfl
  ·show (D.il 5++[-1]).length=_;rw[Zd,V.lv 5 a b];rfl
  ·show (D.il 6++[0]).length=_;rw[Zd,V.lv 6 a b];rfl
  ·show (D.il 7++[-1]).length=_;rw[Zd,V.lv 7 a b];rfl
 ·rw[hs.il 3 (by decide) (by decide),← hZ,← hX]
  exact getD_app0 V.a3 i
 ·rw[hs.il k (Yd (Ze b (by decide))) (Yd (Ze b (by decide))),← hZ,← hX]
  have:k=8∨k=9∨k=10∨k=11∨k=12:=d12 a b
  rcases this with rfl | rfl | rfl | rfl | rfl
  ·exact V.e 8 a b
  ·exact V.e 9 a b
  ·exact V.e 10 a b
  ·exact V.e 11 a b
  ·exact V.e 12 a b
 ·rcases h with rfl | rfl
  ·rw[hs.il 13 (by decide) (by decide),← hZ,← hX]
   show (D.il 13++[0]).length=_;rw[Zd,V.lb 13 (.inl rfl)];rfl
  ·rw[hs.il 14 (by decide) (by decide),← hZ,← hX]
   show (D.il 14++[0]).length=_;rw[Zd,V.lb 14 (.inr rfl)];rfl
 ·rw[hs.cls,← hZ,← hX];exact V.cls
 ·rw[hs.wat,← hZ,← hX]
  show D.wat++[[]]++[[]]=_
  rw[V.wat,← List.replicate_succ',← List.replicate_succ']
  congr 1
 ·refine push_nn (by rw[zl16];exact Yk _) ?_
  by_cases q:v=n+1
  ·exact .inr q
  ·refine .inl ?_
   rw[z16,Zb,Zu (by rw[V.hp.l16];lia),← Zb]
   exact V.held v a (by lia)
 ·rw[z17] at h2;exact Zf h2 (Ye v17)
theorem NV.LP {n:Nat}{D:Dat}(V:NV n D) (h1:1≤n) (h8:n≤8):LP n D []∧D.il 8=[]∧D.il 9=[]:=by
 have e8:=V.e 8 (by decide) (by decide)
 have e9:=V.e 9 (by decide) (by decide)
 have e10:=V.e 10 (by decide) (by decide)
 have e11:=V.e 11 (by decide) (by decide)
 have e12:=V.e 12 (by decide) (by decide)
 have v0:∀ l,valA (D.il 3) l=0:=fun l=>by
  unfold valA
  split<;>rw[V.a3]
  rfl
 have T:TInv n D.il:=by
  refine⟨V.lv,by rw[e8];exact nofun,by rw[e8];exact .nil,fun l _=>?_,fun v=>.inl (V.a3 v),V.a3 0,by rw[e8];exact fun i l h=>(by cases h),fun _=>e8,by rw[e9];exact nofun,by rw[e9];exact .nil,by rw[e9];exact nofun⟩
  rw[v0,e8];exact⟨fun z=>(by cases z),nofun⟩
 have W:WInv n D.cls D.wat:=by
  rw[V.cls,V.wat]
  refine⟨Vc,fun j xs h=>(by cases h),fun p ys h=>?_,fun p ys h y=>?_⟩
  ·rw[(List.mem_replicate.mp (Zg h)).2];exact .nil
  ·rw[(List.mem_replicate.mp (Zg h)).2]
   refine⟨nofun,?_⟩
   rintro ⟨j,x0,x1,r,_,h,_⟩
   cases h
 have R:RInv D.il D.cls:=fun i l h=>by rw[e8] at h;cases h
 refine (aI3 ⟨⟨⟨h1,h8,by rw[V.cls];exact Z2 _,V.scl,T,R,W,by rw[V.i21];exact Int.le_refl _,by rw[V.i21];exact Zj _⟩,by rw[e10,V.cls];rfl,by rw[e11,V.cls];rfl,by rw[e12,V.cls];rfl,⟨_,V.i39⟩,by rw[e12,V.cls];rfl,Z2 _,V.i33⟩,V.hp,V.held,Zf V.l17 (Zf h8 (by decide)),by rw[V.i34];rfl⟩ e8 e9)
theorem memW_add {cls:List (Option (List Int))}{p:Nat}{y y0 y1:Int}{r:List Int}:memW (cls++[some (y0::y1::r)]) p y↔memW cls p y∨(y=(cls.length:Nat)∧(pl y0=p∨pl y1=p)):=by
 constructor
 ·rintro ⟨j,x0,x1,s,e,h,q⟩
  by_cases hj:j<cls.length
  ·rw[Zu hj] at h
   exact .inl ⟨j,x0,x1,s,e,h,q⟩
  ·have hl:=(Za.mp h).1
   rw[Zd,Zs] at hl
   have:j=cls.length:=Yq (Yt hl) (Yj.mp hj)
   subst this
   rw[Zz (Zk _),Yw] at h
   cases h
   exact .inr ⟨e,q⟩
 ·rintro (⟨j,x0,x1,s,e,h,q⟩ | ⟨e,q⟩)
  ·exact⟨j,x0,x1,s,e,by rw[Zu (Za.mp h).1];exact h,q⟩
  ·exact⟨cls.length,y0,y1,r,e,by rw[Zz (Zk _),Yw];rfl,q⟩
theorem WInv.add {n:Nat}{cls:List (Option (List Int))}{wat wat':List (List Int)}(w:WInv n cls wat) {y0 y1:Int}{r:List Int}(C:Cl n (y0::y1::r)) {p0 p1:Nat}(h0:pl y0=p0) (h1:pl y1=p1) (lw:wat'.length=wat.length)
  (hw:∀ p,wat'[p]?=if p=p0∨p=p1 then (wat[p]?).map (· ++ [(cls.length:Int)]) else wat[p]?):WInv n (cls++[some (y0::y1::r)]) wat':=by
 refine⟨lw.trans w.lw,fun j xs h=>?_,fun p ys h=>?_,fun p ys h y=>?_⟩
 ·by_cases hj:j<cls.length
  ·rw[Zu hj] at h;exact w.cl j xs h
  ·have:=Zg h
   have hl:=(Za.mp h).1
   rw[Zd,Zs] at hl
   have:j=cls.length:=Yq (Yt hl) (Yj.mp hj)
   subst this
   rw[Zz (Zk _),Yw] at h
   cases h;exact C
 ·rw[hw] at h
  split at h
  ·obtain ⟨row,h2,rfl⟩:=Zw.mp h
   refine Y7.mpr (aI3 (w.wn p row h2) (Xo _ _) (fun a ha b hb e=>?_))
   rw[Zl.mp hb] at e
   obtain ⟨j,_,_,_,e2,e3,_⟩:=(w.mem h2 a).mp ha
   have:=(Za.mp e3).1
   lia
  ·exact w.wn p ys h
 ·show _↔memW _ p y
  rw[memW_add]
  rw[hw] at h
  split at h
  ·rename_i q
   obtain ⟨row,h2,rfl⟩:=Zw.mp h
   rw[Zo,Zl,w.mem h2]
   refine or_congr Iff.rfl ⟨fun z=>⟨z,?_⟩,fun z=>z.1⟩
   rcases q with q | q
   ·exact .inl (by rw[h0,q])
   ·exact .inr (by rw[h1,q])
  ·rename_i q
   rw[w.mem h]
   refine⟨.inl,fun z=>z.resolve_right fun z=>q ?_⟩
   rcases z.2 with z | z
   ·exact .inl (by rw[h0] at z;lia)
   ·exact .inr (by rw[h1] at z;lia)
theorem wat_2 {D:Dat}{l0 l1:Int}{p0 p1:Nat}{y:Int}(h0:(pl l0).toNat=p0) (h1:(pl l1).toNat=p1) (ne:p0≠p1) (a:p0<D.wat.length) (b:p1<D.wat.length) :
  (watchD D l0 l1 y).wat.length=D.wat.length∧∀ p,(watchD D l0 l1 y).wat[p]?=if p=p0∨p=p1 then (D.wat[p]?).map (· ++ [y]) else D.wat[p]?:=by
 unfold watchD
 dsimp only
 rw[h0,h1]
 have e1:(D.setW p0 (D.wat.getD p0 []++[y])).wat=D.wat.set p0 (D.wat.getD p0 []++[y]):=rfl
 have e2:(D.setW p0 (D.wat.getD p0 []++[y])).wat.getD p1 []=D.wat.getD p1 []:=by
  rw[e1,Zb,Zi ne,← Zb]
 rw[e2]
 show ((D.wat.set p0 _).set p1 _).length=_∧∀ p,((D.wat.set p0 _).set p1 _)[p]?=_
 refine⟨by rw[Zp,Zp],fun p=>?_⟩
 by_cases q1:p=p1
 ·subst q1
  rw[Zh (by rw[Zp];exact b),if_pos (.inr rfl),getD_some (x:=[]) b];rfl
 ·rw[Zi (Ne.symm q1)]
  by_cases q0:p=p0
  ·subst q0
   rw[Zh a,if_pos (.inl rfl),getD_some (x:=[]) a];rfl
  ·rw[Zi (Ne.symm q0),if_neg (fun z=>z.elim q0 q1)]
theorem Cl.perm {n:Nat}{xs ys:List Int}(h:Cl n xs) (p:ys.Perm xs):Cl n ys:=
 ⟨by rw[p.length_eq];exact h.two,by rw[p.length_eq];exact h.five,fun l m=>h.lt l (p.mem_iff.mp m),(p.map vabs).nodup_iff.mpr h.nd⟩
theorem store_cls (D:Dat) (lits:List Int) (b:Bool):(storeD D lits b).cls=D.cls++[some lits]∧(storeD D lits b).wat=D.wat∧(∀ k,k≠10->k≠11->k≠12->(storeD D lits b).il k=D.il k)∧(storeD D lits b).il 10=D.il 10++[0]∧(storeD D lits b).il 11=D.il 11++[if b then 1 else 0]∧(storeD D lits b).il 12=D.il 12++[0]∧
  (∀ a,a≠23->(storeD D lits b).iv a=D.iv a):=by
 have il:∀ k,k≠10->k≠11->k≠12->((((D.addC (some lits)).setL 10 (D.il 10++[0])).setL 11 (D.il 11++[if b then 1 else 0])).setL 12 (D.il 12++[0])).il k=D.il k:=fun k h1 h2 h3=>(fu_ne h3).trans ((fu_ne h2).trans (fu_ne h1))
 unfold storeD
 induction b using Bool.casesOn with
 | true=>exact (aI7 rfl rfl il rfl rfl rfl (fun a ha=>fu_ne ha))
 | false=>exact (aI7 rfl rfl il rfl rfl rfl (fun a ha=>rfl))
theorem store_scl {D:Dat}(h:Scl D) (lits:List Int) (b:Bool):Scl (storeD D lits b):=by
 unfold storeD
 induction b using Bool.casesOn with
 | true=>exact scl_set (D:=(((D.addC (some lits)).setL 10 (D.il 10++[0])).setL 11 (D.il 11++[if true then 1 else 0])).setL 12 (D.il 12++[0])) ⟨h.hook,h.int⟩ (by decide)
 | false=>exact⟨h.hook,h.int⟩
structure BP (n:Nat) (D:Dat):Prop where
 P:LP n D []
 e8:D.il 8=[]
 e9:D.il 9=[]
theorem BP.val {n:Nat}{D:Dat}(b:BP n D) {l:Int}(h:Lt n l):val D l=0:=by
 rcases valA_tri b.P.F.I.t l with z | z | z
 ·exact z
 ·have:=(b.P.F.I.t.as1 l h).mp z
  rw[b.e8] at this;exact nnl this
 ·refine xE1 (b.P.F.I.t.false_at h z) fun i t0_0=>aE2 t0_0 fun hi _=>?_
  rw[b.e8] at hi;cases hi
theorem BP.add {n:Nat}{D:Dat}(b:BP n D) (hm:D.cls.length<16) {lits ys:List Int}(C:Cl n lits) (so:SrtP lits ys) (drop:Bool):BP n (placeD (storeD D lits drop) D.cls.length ys)∧(placeD (storeD D lits drop) D.cls.length ys).cls.length=D.cls.length+1:=by
 have I:=b.P.F.I
 have F:=b.P.F
 have C':=C.perm so.1
 refine aE7 (store_cls D lits drop) fun s1 s2 s3 s4 s5 s6 s7=>?_
 have ss:=store_scl I.scl lits drop
 generalize storeD D lits drop=S at s1 s2 s3 s4 s5 s6 s7 ss ⊢
 match ys,so,C' with
 | y0::y1::r,so,C'=>
  have l0:=C'.lt y0 (.head _)
  have l1:=C'.lt y1 (.tail _ (.head _))
  refine xE1 (pl_nat l0) fun p0 t2_0=>aE3 t2_0 fun a0 b0 c0=>?_
  refine xE1 (pl_nat l1) fun p1 t3_0=>aE3 t3_0 fun a1 b1 c1=>?_
  have ne:p0≠p1:=fun e=>by
   have:y0=y1:=pl_inj l0 l1 (by rw[a0,a1,e])
   have nd:=C'.nd
   rw[Z7,Z7,Yc] at nd
   exact nd.1 (by rw[this];exact .head _)
  have lw:=I.w.lw
  show BP n (watchD (S.setC D.cls.length (some (y0::y1::r))) y0 y1 D.cls.length)∧(watchD (S.setC D.cls.length (some (y0::y1::r))) y0 y1 D.cls.length).cls.length=_
  have clsE:(watchD (S.setC D.cls.length (some (y0::y1::r))) y0 y1 D.cls.length).cls=D.cls++[some (y0::y1::r)]:=by
   show S.cls.set _ _=_
   rw[s1,List.set_append_right _ _ (Zk _),Yw];rfl
  have ilE:(watchD (S.setC D.cls.length (some (y0::y1::r))) y0 y1 D.cls.length).il=S.il:=rfl
  have ivE:(watchD (S.setC D.cls.length (some (y0::y1::r))) y0 y1 D.cls.length).iv=S.iv:=rfl
  refine aE2 (wat_2 (D:=S.setC D.cls.length (some (y0::y1::r))) (y:=D.cls.length) b0 b1 ne (by show p0<S.wat.length;rw[s2];exact lw▸c0) (by show p1<S.wat.length;rw[s2];exact lw▸c1)) fun w1 w2=>?_
  rw[setC_wat,s2] at w1 w2
  generalize watchD (S.setC D.cls.length (some (y0::y1::r))) y0 y1 D.cls.length=X at clsE ilE ivE w1 w2 ⊢
  have xi:∀ k,k≠10->k≠11->k≠12->X.il k=D.il k:=fun k h1 h2 h3=>by rw[ilE];exact s3 k h1 h2 h3
  have xv:∀ a,a≠23->X.iv a=D.iv a:=fun a h=>by rw[ivE];exact s7 a h
  have x3:=xi 3 (by decide) (by decide) (by decide)
  have x6:=xi 6 (by decide) (by decide) (by decide)
  have x8:=xi 8 (by decide) (by decide) (by decide)
  have x9:=xi 9 (by decide) (by decide) (by decide)
  have x10:=(congrFun ilE 10).trans s4
  have x11:=(congrFun ilE 11).trans s5
  have x12:=(congrFun ilE 12).trans s6
  have xl:X.cls.length=D.cls.length+1:=by rw[clsE,Zd];rfl
  have vi:∀ a,a≠23->ivi X a=ivi D a:=fun a h=>by unfold ivi;rw[xv a h]
  have I':Inv n X:=by
   refine⟨I.n1,I.n8,by rw[xl];exact hm,⟨by rw[ivE];exact ss.hook,fun a h=>by rw[ivE,ivi_of ivE];exact ss.int a h⟩,⟨fun k a b=>by rw[xi k (Yd (Ze b (by decide))) (Yd (Ze b (by decide))) (Yd (Ze b (by decide)))];exact I.t.lv k a b,by rw[x8];exact I.t.tr,by rw[x8];exact I.t.nd,by rw[x8,x3];exact I.t.as1,by rw[x3];exact I.t.as0,by rw[x3];exact I.t.z,by rw[x8,x6];exact I.t.sp,by rw[x8,x9];exact I.t.st0,by rw[x9];exact I.t.st1,by rw[x9];exact I.t.st2,by rw[x8,x9];exact I.t.st3⟩,?_,?_,by rw[vi 21 (by decide)];exact I.h0,by rw[vi 21 (by decide),x8];exact I.h1⟩
   ·intro i l h;rw[x8,b.e8] at h;cases h
   ·rw[clsE];exact I.w.add C' a0 a1 w1 w2
  have z:∀ (D:Dat) (k:Nat),wrt D [] k=0:=fun D k=>by unfold wrt;split<;>rfl
  refine⟨⟨⟨⟨I',?_,?_,?_,?_,?_,Z2 _,?_⟩,⟨?_,?_,?_,?_⟩,fun v p q=>?_,?_,?_⟩,by rw[x8];exact b.e8,by rw[x9];exact b.e9⟩,xl⟩
  ·rw[x10,xl,Zd,F.h10];rfl
  ·rw[x11,xl,Zd,F.h11];rfl
  ·rw[x12,xl,Zd,F.h12];rfl
  ·rw[xv 39 (by decide)];exact F.h39
  ·rw[x12,xl,X9,Yg,F.act]
   congr 1
   ·exact Yb fun k _=>by rw[z,z]
   ·show[(0:Int)]=[wrt X [] _];rw[z]
  ·rw[vi 33 (by decide)];exact F.rm
  ·rw[xi 15 (by decide) (by decide) (by decide)];exact b.P.hp.l15
  ·rw[xi 16 (by decide) (by decide) (by decide)];exact b.P.hp.l16
  ·rw[xi 17 (by decide) (by decide) (by decide)];exact b.P.hp.l17
  ·rw[xi 17 (by decide) (by decide) (by decide)];exact b.P.hp.ent
  ·rw[xi 16 (by decide) (by decide) (by decide)];exact b.P.held v p q
  ·rw[xi 17 (by decide) (by decide) (by decide)];exact b.P.h17
  ·rw[vi 34 (by decide)];exact b.P.bump
 | [],so,C'=>exact absurd C'.two (by simp)
 | [_],so,C'=>exact absurd C'.two (by simp)
noncomputable def pl16 (D:Dat) (u:Int):Int:=(D.il 16).getD u.toNat 0
theorem at17_put {D:Dat}{s:Nat}{x:Int}(hs:s<(D.il 17).length) (i:Nat):at17 (putD D s x) i=if i=s then x else at17 D i:=by
 unfold at17
 show ((D.il 17).set s x).getD i 0=_
 rw[Zb]
 split
 ·rename_i e;rw[e,Zh hs];rfl
 ·rename_i e;rw[Zi (Ne.symm e),Zb]
theorem tnn {x u:Int}(hx:1≤x) (hu:1≤u) (ne:u≠x):x.toNat≠u.toNat:=fun e=>ne (by rw[← Y1 (Yu (by decide) hx),← Y1 (Yu (by decide) hu),e])
theorem pl16_put {n:Nat}{D:Dat}{s:Nat}{x:Int}(h:HpOK n D) (hx:1≤x∧x≤n) {u:Int}(hu:1≤u):pl16 (putD D s x) u=if u=x then (s:Int) else pl16 D u:=by
 unfold pl16
 show ((D.il 16).set x.toNat s).getD u.toNat 0=_
 rw[Zb]
 split
 ·rename_i e;rw[e,Zh (by rw[h.l16];exact tnv ⟨hx.1,Yf hx.2⟩)];rfl
 ·rename_i e;rw[Zi (tnn hx.1 hu e),Zb]
structure HI (n:Nat) (D:Dat) (s:Nat) (var:Int):Prop where
 i:∀ i,i<(D.il 17).length->i≠s->at17 D i≠var∧pl16 D (at17 D i)=i
 u:∀ u:Int,1≤u->u≤n->u≠var->0≤pl16 D u->∃ i:Nat,pl16 D u=i∧i<(D.il 17).length∧i≠s∧at17 D i=u
structure HF (n:Nat) (D:Dat):Prop where
 i:∀ i,i<(D.il 17).length->pl16 D (at17 D i)=i
 u:∀ u:Int,1≤u->u≤n->0≤pl16 D u->∃ i:Nat,pl16 D u=i∧i<(D.il 17).length∧at17 D i=u
theorem HI.step {n:Nat}{D:Dat}{s m:Nat}{var:Int}(h:HpOK n D) (k:HI n D s var) (hs:s<(D.il 17).length) (hm:m<(D.il 17).length) (ne:m≠s) :
  HI n (putD D s (at17 D m)) m var∧∀ u,1≤u->(0≤pl16 (putD D s (at17 D m)) u↔0≤pl16 D u):=by
 have hx:1≤at17 D m∧at17 D m≤n:=h.at_ hm
 have km:=k.i m hm ne
 have hl:((putD D s (at17 D m)).il 17).length=(D.il 17).length:=(h.put hx).2
 refine⟨⟨fun i hi im=>?_,fun u h1 h2 nv hp=>?_⟩,fun u h1=>?_⟩
 ·rw[hl] at hi
  rw[at17_put hs]
  split
  ·rename_i e
   exact⟨km.1,by rw[pl16_put h hx hx.1,if_pos rfl,e]⟩
  ·rename_i e
   have ki:=k.i i hi e
   refine⟨ki.1,?_⟩
   rw[pl16_put h hx (h.at_ hi).1]
   split
   ·rename_i q
    have:=ki.2
    rw[show at17 D i=at17 D m from q,km.2] at this
    exact absurd (Wc.inj this).symm im
   ·exact ki.2
 ·rw[pl16_put h hx h1] at hp ⊢
  split
  ·rename_i q
   exact⟨s,(aI4 rfl (by rw[hl];exact hs) (Ne.symm ne) (by rw[at17_put hs,if_pos rfl,q]))⟩
  ·rename_i q
   rw[if_neg q] at hp
   refine hide fun R done=>?_
   refine xE1 (k.u u h1 h2 nv hp) fun i t0_0=>aE4 t0_0 fun e1 e2 e3 e4=>?_
   refine done ?_
   exact⟨i,(aI4 e1 (by rw[hl];exact e2) (fun z=>q (by rw[← e4,z])) (by rw[at17_put hs,if_neg e3];exact e4))⟩
 ·rw[pl16_put h hx h1]
  split
  ·rename_i q
   rw[q,km.2]
   exact⟨fun _=>Zj _,fun _=>Zj _⟩
  ·exact Iff.rfl
theorem HI.done {n:Nat}{D:Dat}{s:Nat}{var:Int}(h:HpOK n D) (hv:1≤var∧var≤n) (k:HI n D s var) (hs:s<(D.il 17).length) :
  HF n (putD D s var)∧∀ u,1≤u->(0≤pl16 (putD D s var) u↔u=var∨0≤pl16 D u):=by
 have hl:((putD D s var).il 17).length=(D.il 17).length:=(h.put hv).2
 refine⟨⟨fun i hi=>?_,fun u h1 h2 hp=>?_⟩,fun u h1=>?_⟩
 ·rw[hl] at hi
  rw[at17_put hs]
  split
  ·rename_i e;rw[pl16_put h hv hv.1,if_pos rfl,e]
  ·rename_i e
   have ki:=k.i i hi e
   rw[pl16_put h hv (h.at_ hi).1,if_neg ki.1];exact ki.2
 ·rw[pl16_put h hv h1] at hp ⊢
  split
  ·rename_i q
   exact⟨s,(aI3 rfl (by rw[hl];exact hs) (by rw[at17_put hs,if_pos rfl,q]))⟩
  ·rename_i q
   rw[if_neg q] at hp
   refine hide fun R done=>?_
   refine xE1 (k.u u h1 h2 q hp) fun i t1_0=>aE4 t1_0 fun e1 e2 e3 e4=>?_
   refine done ?_
   exact⟨i,(aI3 e1 (by rw[hl];exact e2) (by rw[at17_put hs,if_neg e3];exact e4))⟩
 ·rw[pl16_put h hv h1]
  split
  ·rename_i q;exact⟨fun _=>.inl q,fun _=>Zj _⟩
  ·rename_i q;exact⟨.inr,fun z=>z.resolve_left q⟩
theorem rise_hf {n:Nat}{var:Int}(hv:1≤var∧var≤n):∀ (f:Nat) {D:Dat}(s:Nat),HpOK n D->HI n D s var->s<(D.il 17).length->
  HF n (riseF f D var s)∧∀ u:Int,1≤u->(0≤pl16 (riseF f D var s) u↔u=var∨0≤pl16 D u):=by
 intro f
 induction f with
 | zero=>exact fun s h k hs=>k.done h hv hs
 | succ f ih=>
  intro D s h k hs
  unfold riseF
  split
  ·exact k.done h hv hs
  ·rename_i s0
   split
   ·have hm:(s - 1) / 2<(D.il 17).length:=half1 hs
    have p:=h.put (spot:=s) (h.at_ hm)
    have st:=k.step h hs hm (Yd (half3 (Nat.pos_of_ne_zero s0)))
    have r:=ih ((s - 1) / 2) p.1 st.1 (p.2.symm▸hm)
    exact⟨r.1,fun u hu=>(r.2 u hu).trans (or_congr Iff.rfl (st.2 u hu))⟩
   ·exact k.done h hv hs
theorem sink_hf {n:Nat}{var:Int}(hv:1≤var∧var≤n):∀ (f:Nat) {D:Dat}(s:Nat),HpOK n D->HI n D s var->s<(D.il 17).length->
  HF n (sinkF f D var s)∧∀ u:Int,1≤u->(0≤pl16 (sinkF f D var s) u↔u=var∨0≤pl16 D u):=by
 intro f
 induction f with
 | zero=>exact fun s h k hs=>k.done h hv hs
 | succ f ih=>
  intro D s h k hs
  induction hk:kidN D s using Option.casesOn with
  | none=>rw[sinkF_none hk];exact k.done h hv hs
  | some m=>
   rw[sinkF_some hk]
   have lt:=kidN_lt hk
   split
   ·have p:=h.put (spot:=s) (h.at_ lt.2)
    have st:=k.step h hs lt.2 (Y5 lt.1)
    have r:=ih m p.1 st.1 (p.2.symm▸lt.2)
    exact⟨r.1,fun u hu=>(r.2 u hu).trans (or_congr Iff.rfl (st.2 u hu))⟩
   ·exact k.done h hv hs
theorem push_hf {n:Nat}{D:Dat}{v:Int}(h:HpOK n D) (k:HF n D) (hv:1≤v∧v≤n) (hl:(D.il 17).length<899) :
  HF n (pushD D v)∧∀ u:Int,1≤u->(0≤pl16 (pushD D v) u↔u=v∨0≤pl16 D u):=by
 unfold pushD
 split
 ·rename_i q
  exact⟨k,fun u _=>⟨.inr,fun z=>z.elim (fun e=>by rw[e];exact q) id⟩⟩
 ·rename_i q
  have q:¬0≤pl16 D v:=q
  generalize hD:(D.setL 17 (D.il 17++[v])).setL 16 ((D.il 16).set v.toNat (D.il 17).length)=D'
  have e17:D'.il 17=D.il 17++[v]:=by rw[← hD];rfl
  have e16:D'.il 16=(D.il 16).set v.toNat (D.il 17).length:=by rw[← hD];rfl
  have el:(D'.il 17).length=(D.il 17).length+1:=by rw[e17,Zd];rfl
  have hp:HpOK n D':=by
   refine⟨by rw[← hD];exact h.l15,by rw[e16,Zp];exact h.l16,by rw[el];exact X0 hl,fun u hu=>?_⟩
   rw[e17] at hu
   rcases Zo.mp hu with z | z
   ·exact h.ent u z
   ·rw[Zl.mp z];exact hv
  have a17:∀ i,i<(D.il 17).length->at17 D' i=at17 D i:=fun i hi=>by
   unfold at17;rw[e17,Zb,Zu hi,Zb]
  have p16:∀ u:Int,1≤u->u≠v->pl16 D' u=pl16 D u:=fun u hu ne=>by
   unfold pl16;rw[e16,Zb,Zi (tnn hv.1 hu ne),Zb]
  have hI:HI n D' (D.il 17).length v:=by
   refine⟨fun i hi ne=>?_,fun u h1 h2 nv hq=>?_⟩
   ·have hi:i<(D.il 17).length:=Xr (Yt (Y8 hi el)) ne
    have ki:=k.i i hi
    have nv:at17 D i≠v:=fun z=>q (by rw[← z,ki];exact Zj i)
    rw[a17 i hi]
    exact⟨nv,by rw[p16 _ (h.at_ hi).1 nv];exact ki⟩
   ·rw[p16 u h1 nv] at hq ⊢
    refine hide fun R done=>?_
    obtain ⟨i,e1,e2,e3⟩:=k.u u h1 h2 hq
    refine done ?_
    exact⟨i,(aI4 e1 (Y8 (Wf e2) el.symm) (Yd e2) (by rw[a17 i e2];exact e3))⟩
  have ev:(D'.il 17).getD (D.il 17).length 0=v:=by rw[e17,Zb,Zz (Zk _),Yw];rfl
  unfold riseD
  rw[ev]
  have r:=rise_hf hv (D.il 17).length (D.il 17).length hp hI (Y8 (Yk _) el.symm)
  refine⟨r.1,fun u hu=>(r.2 u hu).trans ?_⟩
  by_cases z:u=v
  ·exact⟨fun _=>.inl z,fun _=>.inl z⟩
  ·rw[p16 u hu z]
theorem pop_hf {n:Nat}{D:Dat}(h:HpOK n D) (k:HF n D) (hne:D.il 17≠[]) :
  HpOK n (popD D)∧HF n (popD D)∧(∀ u:Int,1≤u->u≤n->(0≤pl16 (popD D) u↔u≠at17 D 0∧0≤pl16 D u))∧((popD D).il 17).length+1=(D.il 17).length:=by
 have h0:0<(D.il 17).length:=Xp.mpr hne
 have hb:1≤at17 D 0∧at17 D 0≤n:=h.at_ h0
 have kb:=k.i 0 h0
 have lC:((popB D).il 17).length=(D.il 17).length - 1:=List.length_dropLast
 have lB:((popB D).il 17).length+1=(D.il 17).length:=by rw[lC];exact Vm h0
 have hB:HpOK n (popB D):=⟨h.l15,by show ((D.il 16).set _ _).length=_;rw[Zp];exact h.l16,Ya (Y8 (Yk _) lB) h.l17,fun u hu=>h.ent u (List.dropLast_subset _ hu)⟩
 have aB:∀ i,i+1<(D.il 17).length->at17 (popB D) i=at17 D i:=fun i hi=>by
  unfold at17
  show ((D.il 17).dropLast).getD i 0=_
  rw[Zb,List.getElem?_dropLast,if_pos (Nat.lt_sub_of_add_lt hi),Zb]
 have pB:∀ u:Int,1≤u->pl16 (popB D) u=if u=at17 D 0 then -1 else pl16 D u:=fun u hu=>by
  unfold pl16
  show ((D.il 16).set _ _).getD u.toNat 0=_
  rw[Zb]
  split
  ·rename_i e;rw[e,Zh (by rw[h.l16];exact tnv ⟨hb.1,Yf hb.2⟩)];rfl
  ·rename_i e;rw[Zi (tnn hb.1 hu e),Zb]
 have setB:∀ u:Int,1≤u->(0≤pl16 (popB D) u↔u≠at17 D 0∧0≤pl16 D u):=fun u hu=>by
  rw[pB u hu]
  split
  ·rename_i e;exact⟨fun z=>absurd z (by decide),fun z=>absurd e z.1⟩
  ·rename_i e;exact⟨fun z=>⟨e,z⟩,fun z=>z.2⟩
 unfold popD
 split
 ·rename_i q
  refine (aI4 hB ⟨fun i hi=>absurd hi (Yj.mpr (Zf (Nat.le_of_succ_le_succ (Zf (Y9 lB) q)) (Z2 i))),fun u h1 h2 hp=>?_⟩ (fun u h1 _=>setB u h1) lB)
  refine hide fun R done=>?_
  obtain ⟨ne,hp⟩:=(setB u h1).mp hp
  obtain ⟨i,_,e2,e3⟩:=k.u u h1 h2 hp
  refine done ?_
  have:i=0:=Nat.lt_one_iff.mp (Zv e2 q)
  exact absurd (by rw[← e3,this]) ne
 ·rename_i q
  generalize hl:(D.il 17).getLastD 0=last
  have el:at17 D ((D.il 17).length - 1)=last:=by
   rw[← hl]
   unfold at17
   rw[Zb,← List.getLast?_eq_getElem?,List.getLastD_eq_getLast?]
  have hl1:(D.il 17).length - 1<(D.il 17).length:=Wy h0 Wr
  have hv:1≤last∧last≤n:=el▸h.at_ hl1
  have kl:=k.i ((D.il 17).length - 1) hl1
  rw[el] at kl
  have hs0:0<((popB D).il 17).length:=W7 (Y8 (Wz.mp q) lB.symm)
  have p:=hB.put (spot:=0) hv
  have nb:last≠at17 D 0:=fun z=>by rw[z,kb] at kl;exact q (Nat.sub_eq_zero_iff_le.mp (Wc.inj kl).symm)
  have hI:HI n (putD (popB D) 0 last) 0 last:=by
   refine⟨fun i hi ne=>?_,fun u h1 h2 nv hq=>?_⟩
   ·rw[p.2] at hi
    have hi:i+1<(D.il 17).length:=Y8 (X0 hi) lB
    rw[at17_put hs0,if_neg ne,aB i hi]
    have ki:=k.i i (Nat.lt_of_succ_lt hi)
    have nl:at17 D i≠last:=fun z=>by rw[z,kl] at ki;exact Y5 (Nat.lt_sub_of_add_lt hi) (Wc.inj ki)
    have n0:at17 D i≠at17 D 0:=fun z=>by rw[z,kb] at ki;exact ne (Wc.inj ki).symm
    have h1:=(h.at_ (Nat.lt_of_succ_lt hi)).1
    exact⟨nl,by rw[pl16_put hB hv h1,if_neg nl,pB _ h1,if_neg n0];exact ki⟩
   ·rw[pl16_put hB hv h1,if_neg nv] at hq ⊢
    refine hide fun R done=>?_
    obtain ⟨n0,hq⟩:=(setB u h1).mp hq
    obtain ⟨i,e1,e2,e3⟩:=k.u u h1 h2 hq
    refine done ?_
    have i0:i≠0:=fun z=>n0 (by rw[← e3,z])
    have il:i<(D.il 17).length - 1:=Xr (Xf e2) fun z=>nv (by rw[← e3,z,el])
    exact⟨i,(aI4 (by rw[pB u h1,if_neg n0];exact e1) (by rw[p.2,lC];exact il) i0 (by rw[at17_put hs0,if_neg i0,aB i (Nat.add_lt_of_lt_sub il)];exact e3))⟩
  have e0:at17 (putD (popB D) 0 last) 0=last:=by rw[at17_put hs0,if_pos rfl]
  unfold sinkD
  rw[e0]
  have r:=sink_hf hv ((putD (popB D) 0 last).il 17).length 0 p.1 hI (by rw[p.2];exact hs0)
  have r2:=HpOK.sinkF hv ((putD (popB D) 0 last).il 17).length 0 p.1
  refine (aI4 r2.1 r.1 (fun u h1 h2=>(r.2 u h1).trans ?_) (by rw[r2.2,p.2];exact lB))
  rw[pl16_put hB hv h1]
  split
  ·rename_i z
   exact⟨fun _=>⟨z▸nb,by rw[z,kl];exact Zj _⟩,fun _=>.inl z⟩
  ·rename_i z
   exact⟨fun w=>(setB u h1).mp (w.resolve_left z),fun w=>.inr ((setB u h1).mpr w)⟩
structure HB (n:Nat) (D:Dat):Prop where
 ok:HpOK n D
 hf:HF n D
 hd:∀ u:Int,1≤u->u≤n->(D.il 3).getD u.toNat 0=0->0≤pl16 D u
theorem HF.nd {n:Nat}{D:Dat}(k:HF n D):(D.il 17).Nodup:=by
 refine Yv.mpr fun i j hi hj lt e=>?_
 have a:∀ {m:Nat}(hm:m<(D.il 17).length),at17 D m=(D.il 17)[m]:=fun {m} hm=>by
  unfold at17;rw[Zb,Yh hm];rfl
 have ki:=k.i i hi
 have kj:=k.i j hj
 rw[a hi,e,← a hj,kj] at ki
 exact absurd (Wc.inj ki) (Y5 lt)
theorem HF.len {n:Nat}{D:Dat}(h:HpOK n D) (k:HF n D):(D.il 17).length≤n:=by
 have:=nodup_len (L:=(List.range n).map fun (i:Nat)=>(i:Int)+1) k.nd fun x hx=>by
  have:=h.ent x hx
  exact Z3.mpr ⟨(x - 1).toNat,Yp.mpr ((Ve (Vh this.1)).mpr (Int.sub_one_lt_of_le this.2)),by show (((x - 1).toNat:Nat):Int)+1=x;rw[Y1 (Vh this.1)];exact Int.sub_add_cancel x 1⟩
 rwa [Zc,Z4] at this
theorem HB.of {n:Nat}{D D':Dat}(h:HB n D) (e3:D'.il 3=D.il 3) (e15:D'.il 15=D.il 15) (e16:D'.il 16=D.il 16) (e17:D'.il 17=D.il 17):HB n D':=by
 have a:∀ i,at17 D' i=at17 D i:=fun i=>by unfold at17;rw[e17]
 have p:∀ u,pl16 D' u=pl16 D u:=fun u=>by unfold pl16;rw[e16]
 refine⟨⟨by rw[e15];exact h.ok.l15,by rw[e16];exact h.ok.l16,by rw[e17];exact h.ok.l17,by rw[e17];exact h.ok.ent⟩,⟨fun i hi=>?_,fun u h1 h2 hp=>?_⟩,fun u h1 h2 e=>?_⟩
 ·rw[a,p];exact h.hf.i i (e17▸hi)
 ·rw[p] at hp ⊢
  refine xE1 (h.hf.u u h1 h2 hp) fun i t0_0=>aE3 t0_0 fun x y z=>?_
  exact⟨i,(aI3 x (e17.symm▸y) (by rw[a];exact z))⟩
 ·rw[p];exact h.hd u h1 h2 (by rw[← e3];exact e)
theorem HB.push {n:Nat}{D D0:Dat}{v:Int}(h:HB n D0) (n8:n≤8) (hv:1≤v∧v≤n) (e15:D.il 15=D0.il 15) (e16:D.il 16=D0.il 16) (e17:D.il 17=D0.il 17)
  (e3:∀ u:Int,1≤u->u≤n->u≠v->(D.il 3).getD u.toNat 0=(D0.il 3).getD u.toNat 0):HB n (pushD D v):=by
 have a:∀ i,at17 D i=at17 D0 i:=fun i=>by unfold at17;rw[e17]
 have p:∀ u,pl16 D u=pl16 D0 u:=fun u=>by unfold pl16;rw[e16]
 have ok:HpOK n D:=⟨by rw[e15];exact h.ok.l15,by rw[e16];exact h.ok.l16,by rw[e17];exact h.ok.l17,by rw[e17];exact h.ok.ent⟩
 have hf:HF n D:=⟨fun i hi=>by rw[a,p];exact h.hf.i i (e17▸hi),fun u h1 h2 hp=>by
  rw[p] at hp ⊢
  refine hide fun R done=>?_
  refine xE1 (h.hf.u u h1 h2 hp) fun i t1_0=>aE3 t1_0 fun x y z=>?_
  refine done ?_
  exact⟨i,(aI3 x (e17.symm▸y) (by rw[a];exact z))⟩⟩
 have len:(D.il 17).length<899:=Ze (HF.len ok hf) (Ze n8 (by decide))
 have r:=push_hf ok hf hv len
 have hs:=push_hs D v
 refine⟨(ok.push hv len).1,r.1,fun u h1 h2 e=>(r.2 u h1).mpr ?_⟩
 by_cases q:u=v
 ·exact .inl q
 ·rw[hs.il 3 (by decide) (by decide),e3 u h1 h2 q] at e
  exact .inr (by rw[p];exact h.hd u h1 h2 e)
theorem Lt.vb {n:Nat}{l:Int}(h:Lt n l):1≤vabs l∧vabs l≤n:=⟨h.abs.1,Int.le_of_lt_add_one h.abs.2⟩
theorem HB.undo1 {n:Nat}{D:Dat}{l:Int}(h:HB n D) (n8:n≤8) (hl:Lt n l):HB n (undo1 D l):=by
 refine h.push (v:=vabs l) n8 hl.vb rfl rfl rfl fun u h1 h2 ne=>?_
 rw[undoN_il3,Zb,Zi (tnn hl.vb.1 h1 ne),Zb]
theorem TP.of {n:Nat}{il il':Nat->List Int}{T:List Int}(P:TP n il T) (e:∀ k,k≤7->il' k=il k):TP n il' T:=
 ⟨fun k a b=>by rw[e k b];exact P.lv k a b,P.tr,P.nd,by rw[e 3 (by decide)];exact P.as1,by rw[e 3 (by decide)];exact P.as0,by rw[e 3 (by decide)];exact P.z,by rw[e 6 (by decide)];exact P.sp⟩
theorem RP.of {il il':Nat->List Int}{cls:List (Option (List Int))}{T:List Int}(P:RP il cls T) (e:∀ k,k≤7->il' k=il k):RP il' cls T:=by
 unfold RP
 rw[e 3 (by decide),e 5 (by decide),e 6 (by decide)];exact P
structure Uk2 (D D':Dat):Prop where
 iv:D'.iv=D.iv
 wat:D'.wat=D.wat
 cls:D'.cls=D.cls
 il:∀ k,k≠3->k≠5->k≠7->k≠16->k≠17->D'.il k=D.il k
theorem undo_all2 {n:Nat}(n8:n≤8):∀ (R:List Int) (D:Dat) (T:List Int),HB n D->(∀ (j:Nat) xs,D.cls[j]?=some (some xs)->∀ m∈xs,Lt n m)->TP n D.il (T++R)->RP D.il D.cls (T++R)->
  TP n (R.reverse.foldl undo1 D).il T∧RP (R.reverse.foldl undo1 D).il D.cls T∧Uk2 D (R.reverse.foldl undo1 D)∧HB n (R.reverse.foldl undo1 D):=by
 intro R
 induction hR:R.length generalizing R with
 | zero=>
  intro D T h _ P Q
  rw[List.length_eq_zero_iff.mp hR] at P Q ⊢
  rw[Y3] at P Q
  exact (aI4 P Q ⟨rfl,rfl,rfl,fun _ _ _ _ _ _=>rfl⟩ h)
 | succ k ih=>
  intro D T h hc P Q
  obtain ⟨R',l,rfl⟩ : ∃ R' l,R=R'++[l]:=⟨R.dropLast,R.getLast (fun e=>by rw[e] at hR;cases hR),(List.dropLast_concat_getLast _).symm⟩
  rw[← Wh] at P Q
  have hl:=P.tr l (Zo.mpr (.inr (.head _)))
  have hs:=push_hs (undoN D l) (vabs l)
  have e7:∀ k,k≤7->(undo1 D l).il k=(undoN D l).il k:=fun k hk=>hs.il k (by lia) (by lia)
  have ec:(undo1 D l).cls=D.cls:=hs.cls
  rw[List.reverse_append,List.reverse_singleton,List.singleton_append,Vd]
  obtain ⟨a,b,u,hb⟩:=ih R' (by rw[Zd] at hR;exact Nat.succ.inj hR) (undo1 D l) T (h.undo1 n8 hl) (by rw[ec];exact hc) (P.undo.of e7) (by rw[ec];exact (RP.undo P Q hc).of e7)
  rw[ec] at b
  refine⟨a,b,⟨u.iv.trans hs.iv,u.wat.trans hs.wat,u.cls.trans ec,fun i h3 h5 h7 h16 h17=>(u.il i h3 h5 h7 h16 h17).trans (undo1_il D l h3 h5 h7 h16 h17)⟩,hb⟩
theorem Inv.cancel2 {n:Nat}{D:Dat}(I:Inv n D) (h:HB n D) (k:Nat):Inv n (cancelD D k)∧HB n (cancelD D k)∧(cancelD D k).cls=D.cls∧(∀ i,10≤i->i≠16->i≠17->(cancelD D k).il i=D.il i)∧(∀ a,a≠21->a≠22->(cancelD D k).iv a=D.iv a)∧((cancelD D k).il 9=(D.il 9).take k):=by
 unfold cancelD
 by_cases q:(D.il 9).length≤k
 ·rw[if_pos q]
  exact (aI6 I h rfl (fun _ _ _ _=>rfl) (fun _ _ _=>rfl) ((W8 q).symm))
 ·rw[if_neg q]
  have hk:k<(D.il 9).length:=Wz.mp q
  have gs:(D.il 9)[k]?=some ((D.il 9).getD k 0):=getD_some hk
  refine aE2 (I.t.st3 _ (Zg gs)) fun s0 s1=>?_
  obtain ⟨s,hs⟩ : ∃ s:Nat,(D.il 9).getD k 0=s:=⟨((D.il 9).getD k 0).toNat,by lia⟩
  rw[hs] at gs s0 s1 ⊢
  rw[Ym]
  have eT:(D.il 8).take s++(D.il 8).drop s=D.il 8:=Wj ..
  have P0:TP n D.il ((D.il 8).take s++(D.il 8).drop s):=by
   rw[eT];exact⟨I.t.lv,I.t.tr,I.t.nd,I.t.as1,I.t.as0,I.t.z,I.t.sp⟩
  have R0:RP D.il D.cls ((D.il 8).take s++(D.il 8).drop s):=by rw[eT];exact I.r
  refine aE4 (undo_all2 I.n8 ((D.il 8).drop s) D ((D.il 8).take s) h (fun j xs e=>(I.w.cl j xs e).lt) P0 R0) fun P R u hb=>?_
  generalize ((D.il 8).drop s).reverse.foldl undo1 D=D1 at P R u hb ⊢
  have hlen:((D.il 8).take s).length=s:=by rw[Xq];exact Nat.min_eq_left (X7.mp s1)
  have il':∀ i,i≠8->i≠9->((D1.setL 8 ((D.il 8).take s)).setL 9 ((D.il 9).take k)).il i=D1.il i:=fun i h8 h9=>(fu_ne h9).trans (fu_ne h8)
  have e9:((((D1.setL 8 ((D.il 8).take s)).setL 9 ((D.il 9).take k)).setV 21 (.int (min (ivi D 21) s))).setV 22 (.int (min (ivi D 22) s))).il 9=(D.il 9).take k:=rfl
  have e8:((((D1.setL 8 ((D.il 8).take s)).setL 9 ((D.il 9).take k)).setV 21 (.int (min (ivi D 21) s))).setV 22 (.int (min (ivi D 22) s))).il 8=(D.il 8).take s:=rfl
  have i21:ivi ((((D1.setL 8 ((D.il 8).take s)).setL 9 ((D.il 9).take k)).setV 21 (.int (min (ivi D 21) s))).setV 22 (.int (min (ivi D 22) s))) 21=min (ivi D 21) s:=(ivi_ne (by decide)).trans ivi_set
  have sub9:∀ x∈(D.il 9).take k,0≤x∧x≤s:=fun x hx=>by
   refine xE1 (Yy hx) fun i hi=>?_
   have hlt:=(Za.mp hi).1
   rw[Xq] at hlt
   rw[W2 (min_l hlt)] at hi
   refine⟨(I.t.st3 x (Zg hi)).1,?_⟩
   refine xE1 (Za.mp hi) fun a1 a2=>?_
   refine xE1 (Za.mp gs) fun b1 b2=>?_
   have:=(Yv.mp I.t.st2) i k a1 b1 (min_l hlt)
   rw[a2,b2] at this;exact this
  refine (aI6 ⟨I.n1,I.n8,by show D1.cls.length≤16;rw[u.cls];exact I.sz,scl_set (scl_set (D:=(D1.setL 8 ((D.il 8).take s)).setL 9 ((D.il 9).take k)) ?_ (by decide)) (by decide),⟨fun i a b=>(congrArg List.length (il' i (Yd (Ze b (by decide))) (Yd (Ze b (by decide))))).trans (P.lv i a b),P.tr,P.nd,P.as1,P.as0,P.z,P.sp,fun e=>?_,fun x r e=>?_,?_,fun x hx=>?_⟩,?_,?_,?_,?_⟩ (hb.of ((il' 3 (by decide) (by decide))) (il' 15 (by decide) (by decide)) (il' 16 (by decide) (by decide)) (il' 17 (by decide) (by decide))) u.cls (fun i hi h16 h17=>?_) (fun a h1 h2=>?_) rfl)
  ·have:∀ a,ivi ((D1.setL 8 ((D.il 8).take s)).setL 9 ((D.il 9).take k)) a=ivi D a:=fun a=>ivi_of (D':=(D1.setL 8 ((D.il 8).take s)).setL 9 ((D.il 9).take k)) u.iv a
   refine⟨by show D1.iv 20=_;rw[u.iv];exact I.scl.hook,fun a z=>?_⟩
   rw[this];show D1.iv a=_;rw[u.iv];exact I.scl.int a z
  ·rw[e9] at e
   rw[e8]
   have hk0:k=0:=by
    have:((D.il 9).take k).length=0:=by rw[e];rfl
    rw[Xq] at this
    exact (Nat.min_eq_left (Yl (Wz.mp q))).symm.trans this
   subst hk0
   induction h9:D.il 9 using List.casesOn with
   | nil=>rw[h9] at hk;cases hk
   | cons a r=>
    have:=I.t.st1 a r h9
    rw[h9] at hs
    have hs:a=s:=hs
    have:s=0:=by lia
    subst this;rfl
  ·rw[e9] at e
   induction h9:D.il 9 using List.casesOn with
   | nil=>rw[h9] at hk;cases hk
   | cons a r'=>
    rw[h9] at e
    induction k using Nat.casesOn with
    | zero=>cases e
    | succ k=>cases e;exact I.t.st1 x r' h9
  ·rw[e9];exact List.Pairwise.sublist (W1 ..) I.t.st2
  ·rw[e9] at hx;rw[e8,hlen];exact sub9 x hx
  ·show RP _ D1.cls _;rw[u.cls];exact R
  ·show WInv n D1.cls D1.wat;rw[u.cls,u.wat];exact I.w
  ·rw[i21];have:=I.h0;exact Int.le_min.mpr ⟨this,Zj _⟩
  ·rw[i21,e8,hlen];exact Int.min_le_right _ _
  ·exact (il' i (by lia) (Y5 hi)).trans (u.il i (by lia) (by lia) (by lia) h16 h17)
  ·show fu (fu D1.iv 21 _) 22 _ a=_;rw[fu_ne h2,fu_ne h1,u.iv]
theorem sinkF_hs:∀ (f:Nat) (D:Dat) (v:Int) (s:Nat),Hs D (sinkF f D v s):=by
 intro f
 induction f with
 | zero=>exact fun D v s=>put_hs D s v
 | succ f ih=>
  intro D v s
  induction hk:kidN D s using Option.casesOn with
  | none=>rw[sinkF_none hk];exact put_hs D s v
  | some m=>
   rw[sinkF_some hk]
   split
   ·exact (put_hs D s _).trans (ih _ _ _)
   ·exact put_hs D s v
theorem pop_hs (D:Dat):Hs D (popD D):=by
 have b:Hs D (popB D):=⟨fun k a c=>by show fu (fu D.il 17 _) 16 _ k=_;rw[fu_ne a,fu_ne c],rfl,rfl,rfl⟩
 unfold popD
 split
 ·exact b
 ·exact (b.trans (put_hs _ _ _)).trans (sinkF_hs _ _ _ _)
noncomputable def popsF:Nat->Dat->Int->List Int × Dat
 | 0,D,v=>([],popD D)
 | f+1,D,v=>if at17 D 0=v then ([],popD D) else (at17 D 0::(popsF f (popD D) v).1,(popsF f (popD D) v).2)
noncomputable def backD (D:Dat) (u:Int):Dat:=if val D u=0 then pushD D u else D
noncomputable def dec2A (D:Dat) (l:Int):Dat:=(popsF (D.il 17).length D (vabs l)).1.foldl backD (popsF (D.il 17).length D (vabs l)).2
noncomputable def decD2 (D:Dat) (l:Int):Dat:=
 if (decD (dec2A D l) l).2=-1 then (decD (dec2A D l) l).1 else cancelD (decD (dec2A D l) l).1 (((decD (dec2A D l) l).1.il 9).length - 1)
theorem pops_ok {n:Nat}{v:Int}(hv:1≤v∧v≤n):∀ (f:Nat) {D:Dat},HpOK n D->HF n D->(D.il 17).length≤f->0≤pl16 D v->
  HpOK n (popsF f D v).2∧HF n (popsF f D v).2∧Hs D (popsF f D v).2∧(∀ u∈(popsF f D v).1,1≤u∧u≤n)∧
  (∀ u:Int,1≤u->u≤n->0≤pl16 D u->0≤pl16 (popsF f D v).2 u∨u=v∨u∈(popsF f D v).1):=by
 intro f
 induction f with
 | zero=>
  intro D h k hl hp
  refine hide fun R done=>?_
  refine xE1 (k.u v hv.1 hv.2 hp) fun i t0_0=>aE3 t0_0 fun _ hi _=>?_
  refine done ?_
  exact absurd (Zv hi hl) (Va _)
 | succ f ih=>
  intro D h k hl hp
  refine hide fun R done=>?_
  refine xE1 (k.u v hv.1 hv.2 hp) fun i t1_0=>aE3 t1_0 fun _ hi _=>?_
  have hne:D.il 17≠[]:=Xp.mp (Nat.zero_lt_of_lt hi)
  refine aE4 (pop_hf h k hne) fun p1 p2 p3 p4=>?_
  refine done ?_
  have h0:=h.at_ (i:=0) (Nat.zero_lt_of_lt hi)
  unfold popsF
  split
  ·rename_i e
   refine (aI5 p1 p2 (pop_hs D) nofun (fun u h1 h2 hu=>?_))
   by_cases q:u=v
   ·exact .inr (.inl q)
   ·exact .inl ((p3 u h1 h2).mpr ⟨by rw[e];exact q,hu⟩)
  ·rename_i e
   refine hide fun R done=>?_
   refine aE5 (ih p1 p2 (Nat.le_of_succ_le_succ (Zf (Y9 p4) hl)) ((p3 v hv.1 hv.2).mpr ⟨fun z=>e z.symm,hp⟩)) fun r1 r2 r3 r4 r5=>?_
   refine done ?_
   refine (aI5 r1 r2 ((pop_hs D).trans r3) (fun u hu=>?_) (fun u h1 h2 hu=>?_))
   ·rcases Zr.mp hu with z | z
    ·rw[z];exact h0
    ·exact r4 u z
   ·by_cases q:u=at17 D 0
    ·exact .inr (.inr (by rw[q];exact .head _))
    ·rcases r5 u h1 h2 ((p3 u h1 h2).mpr ⟨q,hu⟩) with z | z | z
     ·exact .inl z
     ·exact .inr (.inl z)
     ·exact .inr (.inr (.tail _ z))
theorem back_ok {n:Nat}(n8:n≤8):∀ (us:List Int) {D:Dat},HpOK n D->HF n D->(∀ u∈us,1≤u∧u≤n)->
  HpOK n (us.foldl backD D)∧HF n (us.foldl backD D)∧Hs D (us.foldl backD D)∧(∀ u:Int,1≤u->0≤pl16 D u->0≤pl16 (us.foldl backD D) u)∧(∀ u∈us,val D u=0->0≤pl16 (us.foldl backD D) u):=by
 intro us
 induction us with
 | nil=>exact fun h k _=>(aI5 h k .refl (fun _ _ z=>z) nofun)
 | cons v us ih=>
  intro D h k hu
  have hv:=hu v (.head _)
  have len:(D.il 17).length<899:=Ze (HF.len h k) (Ze n8 (by decide))
  have st:HpOK n (backD D v)∧HF n (backD D v)∧Hs D (backD D v)∧(∀ u:Int,1≤u->0≤pl16 D u->0≤pl16 (backD D v) u)∧(val D v=0->0≤pl16 (backD D v) v):=by
   unfold backD
   split
   ·have r:=push_hf h k hv len
    exact (aI5 ((h.push hv len).1) r.1 (push_hs D v) (fun u a b=>(r.2 u a).mpr (.inr b)) (fun _=>(r.2 v hv.1).mpr (.inl rfl)))
   ·rename_i q
    exact (aI5 h k .refl (fun _ _ z=>z) (fun z=>absurd z q))
  refine hide fun R done=>?_
  refine aE5 st fun a b c e e2=>?_
  refine aE5 (ih a b fun u m=>hu u (.tail _ m)) fun r1 r2 r3 r4 r5=>?_
  refine done ?_
  refine (aI5 r1 r2 (c.trans r3) (fun u x y=>r4 u x (e u x y)) (fun u m z=>?_))
  rcases Zr.mp m with rfl | m
  ·exact r4 u hv.1 (e2 z)
  ·exact r5 u m (by show valA ((backD D v).il 3) u=0;rw[c.il 3 (by decide) (by decide)];exact z)
theorem dec2A_ok {n:Nat}{D:Dat}(n8:n≤8) (h:HB n D) {l:Int}(hl:Lt n l) (v0:val D l=0) :
  HpOK n (dec2A D l)∧HF n (dec2A D l)∧Hs D (dec2A D l)∧∀ u:Int,1≤u->u≤n->(D.il 3).getD u.toNat 0=0->u≠vabs l->0≤pl16 (dec2A D l) u:=by
 have hv:=hl.vb
 have z0:(D.il 3).getD (vabs l).toNat 0=0:=by
  have:at_ (D.il 3) l=0:=by
   have:=valA_at (D.il 3) l
   have v0:valA (D.il 3) l=0:=v0
   rw[v0] at this
   split at this<;>lia
  exact this
 refine hide fun R done=>?_
 refine aE5 (pops_ok hv _ h.ok h.hf (Zk _) (h.hd _ hv.1 hv.2 z0)) fun p1 p2 p3 p4 p5=>?_
 refine aE5 (back_ok n8 _ p1 p2 p4) fun r1 r2 r3 r4 r5=>?_
 refine done ?_
 refine (aI4 r1 r2 (p3.trans r3) (fun u h1 h2 e ne=>?_))
 rcases p5 u h1 h2 (h.hd u h1 h2 e) with z | z | z
 ·exact r4 u h1 z
 ·exact absurd z ne
 ·refine r5 u z ?_
  show valA _ u=0
  rw[p3.il 3 (by decide) (by decide)]
  unfold valA
  rw[if_pos (Xs (by decide) h1)];exact e
structure LQ (n:Nat) (D:Dat):Prop where
 F:FP n D []
 hb:HB n D
theorem LQ.congr {n:Nat}{D D':Dat}(P:LQ n D) (I:Inv n D') (hb:HB n D') (hl:D'.cls.length=D.cls.length) (h:∀ k,k=10∨k=11∨k=12->D'.il k=D.il k) (h39:D'.iv 39=D.iv 39) (h33:0≤ivi D' 33):LQ n D':=by
 have h11:=h 11 (.inr (.inl rfl))
 have h12:=h 12 (.inr (.inr rfl))
 have F:=P.F
 exact⟨⟨I,by rw[h 10 (.inl rfl),hl];exact F.h10,by rw[h11,hl];exact F.h11,by rw[h12,hl];exact F.h12,by rw[h39];exact F.h39,by rw[h12,hl,wrt_same h11];exact F.act,F.ul,h33⟩,hb⟩
theorem LQ.cancel {n:Nat}{D:Dat}(P:LQ n D) (k:Nat):LQ n (cancelD D k):=by
 refine aE6 (P.F.I.cancel2 P.hb k) fun a b c d e _=>?_
 refine P.congr a b (by rw[c]) (fun j hj=>d j (by lia) (by lia) (by lia)) (e 39 (by decide) (by decide)) ?_
 unfold ivi;rw[e 33 (by decide) (by decide)];exact P.F.rm
theorem LQ.iv {n:Nat}{D:Dat}(P:LQ n D) {a:Nat}{z:Int}(ha:a=31∨a=35∨a=36∨a=37):LQ n (D.setV a (.int z)):=by
 have v:∀ b,b≠a->ivi (D.setV a (.int z)) b=ivi D b:=fun b h=>ivi_ne h
 refine P.congr (P.F.I.congr (fun _ _ _=>rfl) (scl_set P.F.I.scl (by lia)) (v 21 (by lia)) rfl rfl) (P.hb.of rfl rfl rfl rfl) rfl (fun _ _=>rfl) (fu_ne (by lia)) ?_
 rw[v 33 (by lia)];exact P.F.rm
theorem LQ.forget {n:Nat}{D:Dat}(P:LQ n D) {ws:List Int}(hw:SrtW D (candL D D.cls.length) ws):LQ n (forgetD D ws)∧(forgetD D ws).il 9=D.il 9∧(forgetD D ws).cls.length=D.cls.length:=by
 refine hide fun R done=>?_
 refine xE1 (forget_all P.F.I hw) fun gn t0_0=>aE8 t0_0 fun _ I7 il7 iv7 _ rm7 cls7 _=>?_
 refine done ?_
 exact (aI3 (P.congr I7 (P.hb.of (by rw[il7]) (by rw[il7]) (by rw[il7]) (by rw[il7])) (len_drop cls7) (fun k _=>by rw[il7]) (iv7 39 (by decide) (by decide)) (by rw[rm7];exact Int.add_nonneg (Int.add_nonneg P.F.rm (Int.fdiv_nonneg P.F.rm (by decide))) (by decide))) (by rw[il7]) (len_drop cls7))
theorem enq_il3 (D:Dat) (l:Int):(enqD D l (-1)).il 3=(D.il 3).set (vabs l).toNat (if 0<l then 1 else -1):=by
 rw[enq_il]
 exact (fu_ne (by decide)).trans ((fu_ne (by decide)).trans ((fu_ne (by decide)).trans ((fu_ne (by decide)).trans fu_eq)))
theorem val_back {n:Nat}{il il':Nat->List Int}(T:TInv n il) (T':TInv n il') {s:List Int}(e8:il' 8=il 8++s) {u:Int}(h1:1≤u) (h2:u≤n) (e:(il' 3).getD u.toNat 0=0):(il 3).getD u.toNat 0=0:=by
 have hu:Lt n u:=⟨by lia,by lia,h2⟩
 have v:∀ A:List Int,valA A u=A.getD u.toNat 0:=fun A=>by unfold valA;rw[if_pos (by lia)]
 have n1:∀ m,Lt n m->m∈il 8->valA (il' 3) m=1:=fun m hm z=>(T'.as1 m hm).mpr (by rw[e8];exact Zo.mpr (.inl z))
 rcases valA_tri T u with z | z | z
 ·rw[← v];exact z
 ·have:=n1 u hu ((T.as1 u hu).mp z)
  rw[v,e] at this;cases this
 ·have:=n1 (-u) hu.neg ((T.as1 (-u) hu.neg).mp (by rw[valA_neg hu.ne,z];rfl))
  rw[valA_neg hu.ne,v,e] at this;cases this
theorem LQ.dec2 {n:Nat}{D:Dat}(P:LQ n D) {l:Int}(hl:Lt n l) (v:val D l=0) :
  LQ n (decD (dec2A D l) l).1∧(decD (dec2A D l) l).1.il 9=D.il 9++[((D.il 8).length:Int)]∧(decD (dec2A D l) l).1.cls.length=D.cls.length:=by
 refine hide fun R done=>?_
 refine aE4 (dec2A_ok P.F.I.n8 P.hb hl v) fun a1 a2 a3 a4=>?_
 refine done ?_
 generalize dec2A D l=A at a1 a2 a3 a4 ⊢
 have IA:Inv n A:=P.F.I.congr (fun k h1 h2=>a3.il k (by lia) (by lia)) ⟨by rw[a3.iv];exact P.F.I.scl.hook,fun a h=>by rw[a3.iv,ivi_of a3.iv];exact P.F.I.scl.int a h⟩ (ivi_of a3.iv 21) a3.cls a3.wat
 have vA:val A l=0:=by show valA (A.il 3) l=0;rw[a3.il 3 (by decide) (by decide)];exact v
 refine hide fun R done=>?_
 refine aE2 IA.lev fun I1 n1=>?_
 refine aE2 (I1.enq0 n1 hl vA) fun I2 n2=>?_
 refine aE5 (I2.prop (9 - (ivi (enqD (levD A) l (-1)) 21).toNat) _ n2) fun a b c d _=>?_
 refine done ?_
 have hil:∀ k,10≤k->(enqD (levD A) l (-1)).il k=A.il k:=fun k hk=>by
  rw[enq_il,fu_ne (by lia),fu_ne (by lia),fu_ne (by lia),fu_ne (by lia),fu_ne (by lia)]
  exact fu_ne (Y5 hk)
 have hil':∀ k,10≤k->(decD A l).1.il k=A.il k:=fun k hk=>(b k (.inr (Yl hk))).trans (hil k hk)
 have l3:=(IA.t.lv 3 (by decide) (by decide))
 have i3:(enqD (levD A) l (-1)).il 3=(A.il 3).set (vabs l).toNat (if 0<l then 1 else -1):=enq_il3 _ _
 have z:∀ u:Int,1≤u->u≤n->((decD A l).1.il 3).getD u.toNat 0=0->((enqD (levD A) l (-1)).il 3).getD u.toNat 0=0:=fun u h1 h2 e=>by
  refine xE1 d.pre fun s d8=>?_
  have d8:(decD A l).1.il 8=(enqD (levD A) l (-1)).il 8++s:=d8
  exact val_back I2.t a.t d8 h1 h2 e
 have hbA:HB n (decD A l).1:=by
  have e15:=hil' 15 (by decide)
  have e16:=hil' 16 (by decide)
  have e17:=hil' 17 (by decide)
  have ok:HpOK n (decD A l).1:=⟨by rw[e15];exact a1.l15,by rw[e16];exact a1.l16,by rw[e17];exact a1.l17,by rw[e17];exact a1.ent⟩
  have pe:∀ u,pl16 (decD A l).1 u=pl16 A u:=fun u=>by unfold pl16;rw[e16]
  have ae:∀ i,at17 (decD A l).1 i=at17 A i:=fun i=>by unfold at17;rw[e17]
  refine⟨ok,⟨fun i hi=>?_,fun u h1 h2 hp=>?_⟩,fun u h1 h2 e=>?_⟩
  ·rw[ae,pe];exact a2.i i (e17▸hi)
  ·rw[pe] at hp ⊢
   refine hide fun R done=>?_
   refine xE1 (a2.u u h1 h2 hp) fun i t6_0=>aE3 t6_0 fun x y w=>?_
   refine done ?_
   exact⟨i,(aI3 x (e17.symm▸y) (by rw[ae];exact w))⟩
  ·have e2:=z u h1 h2 e
   rw[i3] at e2
   by_cases q:u=vabs l
   ·rw[q,getD_set (hl.nat l3),if_pos rfl] at e2
    split at e2<;>cases e2
   ·rw[getD_set (hl.nat l3),if_neg (by have:=hl.abs;lia),a3.il 3 (by decide) (by decide)] at e2
    rw[pe];exact a4 u h1 h2 e2 q
 have e9:(decD A l).1.il 9=D.il 9++[((D.il 8).length:Int)]:=by
  refine (b 9 (.inr (Zk _))).trans ?_
  show A.il 9++[((A.il 8).length:Int)]=_
  rw[a3.il 9 (by decide) (by decide),a3.il 8 (by decide) (by decide)]
 refine (aI3 (P.congr a hbA (d.cl.trans (congrArg List.length a3.cls)) (fun k hk=>(hil' k (by lia)).trans (a3.il k (by lia) (by lia))) ?_ ?_) e9 (d.cl.trans (congrArg List.length a3.cls)))
 ·exact (c 39 (by decide)).trans (congrFun a3.iv 39)
 ·unfold ivi;rw[show (decD A l).1.iv 33=D.iv 33 from (c 33 (by decide)).trans (congrFun a3.iv 33)];exact P.F.rm
theorem LQ.decD2 {n:Nat}{D:Dat}(P:LQ n D) {l:Int}(hl:Lt n l) (v:val D l=0):LQ n (decD2 D l)∧(decD2 D l).cls.length=D.cls.length:=by
 refine aE3 (P.dec2 hl v) fun a b c=>?_
 unfold Mine.decD2
 split
 ·exact⟨a,c⟩
 ·refine aE6 (a.F.I.cancel2 a.hb (((decD (dec2A D l) l).1.il 9).length - 1)) fun _ _ e _ _ _=>?_
  exact⟨a.cancel _,by rw[e];exact c⟩
theorem setV_comm {D:Dat}{a k:Nat}{y x:MV}(h:a≠k):(D.setV k x).setV a y=(D.setV a y).setV k x:=by
 unfold Dat.setV
 congr 1
 funext m
 show fu (fu D.iv k x) a y m=fu (fu D.iv a y) k x m
 by_cases p:m=a
 ·subst p;rw[fu_eq,fu_ne h,fu_eq]
 ·rw[fu_ne p]
  by_cases q:m=k
  ·subst q;rw[fu_eq,fu_eq]
  ·rw[fu_ne q,fu_ne q,fu_ne p]
section
variable {k:Nat}{x:MV}
noncomputable def sv1 {α:Type}(k:Nat) (x:MV) (p:Dat × α):Dat × α:=(p.1.setV k x,p.2)
theorem vafter_sv (D:Dat) (gone:Int) (j:Nat) (y0:Int) (r:List Int):vafter (D.setV k x) gone j y0 r=sv1 k x (vafter D gone j y0 r):=by
 unfold vafter
 show (if val D y0=1 then (D.setV k x,true,false) else match r.findIdx? (fun l=>!decide (val D l=-1)) with
  | some i=>(moveD (D.setV k x) j y0 gone r i,false,false)
  | none=>if val D y0=-1 then (D.setV k x,true,true) else (enqD (D.setV k x) y0 j,true,false))=_
 generalize r.findIdx? (fun l=>!decide (val D l=-1))=o
 split
 ·rfl
 ·cases o with
  | some i=>rfl
  | none=>show (if val D y0=-1 then _ else _)=sv1 k x (if val D y0=-1 then _ else _);split<;>rfl
theorem vstep_sv (D:Dat) (gone:Int) (j:Nat) (xs:List Int):vstep (D.setV k x) gone j xs=sv1 k x (vstep D gone j xs):=by
 unfold vstep
 split
 ·split
  ·exact vafter_sv (D.setC j _) _ _ _ _
  ·exact vafter_sv D _ _ _ _
 ·rfl
theorem vl_none {gone j:Int}{rest kept:List Int}{D:Dat}(h:D.cls[j.toNat]?.join=none):visitL gone (j::rest) D kept=visitL gone rest D kept:=by rw[visitL,h]
theorem vl_some {gone j:Int}{rest kept:List Int}{D:Dat}{xs:List Int}(h:D.cls[j.toNat]?.join=some xs):visitL gone (j::rest) D kept=if (vstep D gone j.toNat xs).2.1=false then visitL gone rest (vstep D gone j.toNat xs).1 kept
   else if (vstep D gone j.toNat xs).2.2=true then ((vstep D gone j.toNat xs).1,kept++[j]++rest,j)
   else visitL gone rest (vstep D gone j.toNat xs).1 (kept++[j]):=by rw[visitL,h]
theorem visitL_sv (gone:Int):∀ (rest:List Int) (D:Dat) (kept:List Int),visitL gone rest (D.setV k x) kept=sv1 k x (visitL gone rest D kept):=by
 intro rest
 induction rest with
 | nil=>exact fun _ _=>rfl
 | cons j rest ih=>
  intro D kept
  induction e:D.cls[j.toNat]?.join using Option.casesOn with
  | none=>rw[vl_none e,vl_none (show (D.setV k x).cls[j.toNat]?.join=none from e)];exact ih D kept
  | some xs=>
   rw[vl_some e,vl_some (show (D.setV k x).cls[j.toNat]?.join=some xs from e),vstep_sv]
   show (if (vstep D gone j.toNat xs).2.1=false then visitL gone rest ((vstep D gone j.toNat xs).1.setV k x) kept
   else if (vstep D gone j.toNat xs).2.2=true then ((vstep D gone j.toNat xs).1.setV k x,kept++[j]++rest,j)
   else visitL gone rest ((vstep D gone j.toNat xs).1.setV k x) (kept++[j]))=_
   rw[ih,ih]
   split
   ·rfl
   ·split<;>rfl
theorem visitD_sv (D:Dat) (gone:Int):visitD (D.setV k x) gone=sv1 k x (visitD D gone):=by
 unfold visitD
 show (((visitL gone (D.wat.getD (pl gone).toNat []) (D.setV k x) []).1.setW _ (visitL gone (D.wat.getD (pl gone).toNat []) (D.setV k x) []).2.1,(visitL gone (D.wat.getD (pl gone).toNat []) (D.setV k x) []).2.2):Dat × Int)=_
 rw[visitL_sv];rfl
theorem propF_sv (h:(21:Nat)≠k):∀ (f:Nat) (D:Dat),propF f (D.setV k x)=sv1 k x (propF f D):=by
 intro f
 induction f with
 | zero=>exact fun _=>rfl
 | succ f ih=>
  intro D
  have e21:ivi (D.setV k x) 21=ivi D 21:=by unfold ivi;rw[show (D.setV k x).iv 21=D.iv 21 from fu_ne h]
  unfold propF
  rw[e21]
  show (if ivi D 21<(D.il 8).length then _ else _)=_
  rw[setV_comm h,visitD_sv]
  split
  ·show (if (visitD (D.setV 21 (.int (ivi D 21+1))) (-((D.il 8).getD (ivi D 21).toNat 0))).2=-1 then propF f ((visitD (D.setV 21 (.int (ivi D 21+1))) (-((D.il 8).getD (ivi D 21).toNat 0))).1.setV k x) else _)=_
   rw[ih]
   split
   ·rfl
   ·show (((((visitD (D.setV 21 (.int (ivi D 21+1))) (-((D.il 8).getD (ivi D 21).toNat 0))).1.setV k x).setV 21 _),_):Dat × Int)=_
    rw[setV_comm h];rfl
  ·rfl
theorem propD_sv (h:(21:Nat)≠k) (D:Dat):propD (D.setV k x)=sv1 k x (propD D):=by
 unfold propD
 rw[show ivi (D.setV k x) 21=ivi D 21 by unfold ivi;rw[show (D.setV k x).iv 21=D.iv 21 from fu_ne h]]
 exact propF_sv h _ D
theorem drop1_sv (h:(23:Nat)≠k) (D:Dat) (j:Int):drop1 (D.setV k x) j=(drop1 D j).setV k x:=by
 unfold drop1
 show dropC (D.setV k x) j D.cls[j.toNat]?.join=_
 generalize D.cls[j.toNat]?.join=o
 rcases o with _ | (_ | ⟨x0,_ | ⟨x1,r⟩⟩)
 ·rfl
 ·rfl
 ·rfl
 ·show ((uwD j (uwD j (D.setV k x) x0) x1).setC j.toNat none).setV 23 (.int (ivi (D.setV k x) 23 - 1))=_
  rw[show ivi (D.setV k x) 23=ivi D 23 by unfold ivi;rw[show (D.setV k x).iv 23=D.iv 23 from fu_ne h]]
  exact setV_comm (D:=(uwD j (uwD j D x0) x1).setC j.toNat none) h
theorem foldl_sv {op:Dat->Int->Dat}(h:∀ D y,op (D.setV k x) y=(op D y).setV k x):∀ (ys:List Int) (D:Dat),ys.foldl op (D.setV k x)=(ys.foldl op D).setV k x:=by
 intro ys
 induction ys with
 | nil=>exact fun _=>rfl
 | cons y ys ih=>intro D;rw[Vd,Vd,h];exact ih _
theorem forget_sv (h:(23:Nat)≠k) (h3:(33:Nat)≠k) (D:Dat) (ws:List Int):forgetD (D.setV k x) ws=(forgetD D ws).setV k x:=by
 unfold forgetD
 rw[foldl_sv (drop1_sv h),show ivi (D.setV k x) 33=ivi D 33 by unfold ivi;rw[show (D.setV k x).iv 33=D.iv 33 from fu_ne h3]]
 exact setV_comm h3
theorem riseF_sv:∀ (f:Nat) (D:Dat) (v:Int) (s:Nat),riseF f (D.setV k x) v s=(riseF f D v s).setV k x:=by
 intro f
 induction f with
 | zero=>exact fun _ _ _=>rfl
 | succ f ih=>
  intro D v s
  unfold riseF
  split
  ·rfl
  ·show (if beforeD D v ((D.il 17).getD ((s - 1) / 2) 0)=true then riseF f ((putD D s ((D.il 17).getD ((s - 1) / 2) 0)).setV k x) v ((s - 1) / 2) else _)=_
   rw[ih]
   split<;>rfl
theorem push_sv (D:Dat) (v:Int):pushD (D.setV k x) v=(pushD D v).setV k x:=by
 unfold pushD
 show (if 0≤(D.il 16).getD v.toNat 0 then _ else _)=_
 split
 ·rfl
 ·exact riseF_sv _ ((D.setL 17 (D.il 17++[v])).setL 16 ((D.il 16).set v.toNat (D.il 17).length)) _ _
theorem sinkF_sv:∀ (f:Nat) (D:Dat) (v:Int) (s:Nat),sinkF f (D.setV k x) v s=(sinkF f D v s).setV k x:=by
 intro f
 induction f with
 | zero=>exact fun _ _ _=>rfl
 | succ f ih=>
  intro D v s
  induction hk:kidN D s using Option.casesOn with
  | none=>rw[sinkF_none hk,sinkF_none (show kidN (D.setV k x) s=none from hk)];rfl
  | some m=>
   rw[sinkF_some hk,sinkF_some (show kidN (D.setV k x) s=some m from hk)]
   show (if beforeD D (at17 D m) v=true then sinkF f ((putD D s (at17 D m)).setV k x) v m else _)=_
   rw[ih]
   split<;>rfl
theorem pop_sv (D:Dat):popD (D.setV k x)=(popD D).setV k x:=by
 unfold popD
 show (if (D.il 17).length≤1 then _ else _)=_
 split
 ·rfl
 ·exact sinkF_sv _ (putD (popB D) 0 ((D.il 17).getLastD 0)) _ _
theorem pops_sv (v:Int):∀ (f:Nat) (D:Dat),popsF f (D.setV k x) v=((popsF f D v).1,(popsF f D v).2.setV k x):=by
 intro f
 induction f with
 | zero=>intro D;unfold popsF;rw[pop_sv]
 | succ f ih=>
  intro D
  unfold popsF
  show (if at17 D 0=v then _ else _)=_
  rw[pop_sv,ih]
  split<;>rfl
theorem undo1_sv (D:Dat) (l:Int):undo1 (D.setV k x) l=(undo1 D l).setV k x:=push_sv (undoN D l) _
theorem cancel_sv (h:(21:Nat)≠k) (h2:(22:Nat)≠k) (D:Dat) (m:Nat):cancelD (D.setV k x) m=(cancelD D m).setV k x:=by
 unfold cancelD
 rw[foldl_sv undo1_sv,show ivi (D.setV k x) 21=ivi D 21 by unfold ivi;rw[show (D.setV k x).iv 21=D.iv 21 from fu_ne h],show ivi (D.setV k x) 22=ivi D 22 by unfold ivi;rw[show (D.setV k x).iv 22=D.iv 22 from fu_ne h2]]
 show (if (D.il 9).length≤m then _ else _)=_
 split
 ·rfl
 ·rw[← setV_comm h2,← setV_comm h];rfl
theorem back_sv (D:Dat) (u:Int):backD (D.setV k x) u=(backD D u).setV k x:=by
 unfold backD
 show (if val D u=0 then _ else _)=_
 split
 ·exact push_sv _ _
 ·rfl
theorem dec2A_sv (D:Dat) (l:Int):dec2A (D.setV k x) l=(dec2A D l).setV k x:=by
 unfold dec2A
 show (popsF (D.il 17).length (D.setV k x) (vabs l)).1.foldl backD (popsF (D.il 17).length (D.setV k x) (vabs l)).2=_
 rw[pops_sv]
 exact foldl_sv back_sv _ _
theorem decD2_sv (h:(21:Nat)≠k) (h2:(22:Nat)≠k) (D:Dat) (l:Int):decD2 (D.setV k x) l=(decD2 D l).setV k x:=by
 have e:decD (dec2A (D.setV k x) l) l=sv1 k x (decD (dec2A D l) l):=by
  rw[dec2A_sv];exact propD_sv h (enqD (levD (dec2A D l)) l (-1))
 unfold decD2
 rw[e]
 show (if (decD (dec2A D l) l).2=-1 then _ else cancelD ((decD (dec2A D l) l).1.setV k x) _)=_
 rw[cancel_sv h h2]
 split<;>rfl
end
theorem lexLe_two {a b c d:Int}(h:lexLe [a,b] [c,d]=true):a<c∨(a=c∧b≤d):=by
 unfold lexLe at h
 split at h
 ·rename_i p
  have p:a=c:=by simpa using p
  unfold lexLe at h
  split at h
  ·rename_i w
   have w:b=d:=by simpa using w
   exact .inr ⟨p,by lia⟩
  ·exact .inr ⟨p,by have:=of_decide_eq_true h;lia⟩
 ·exact .inl (of_decide_eq_true h)
theorem srtW_one {D:Dat}{zs ws vs:List Int}(h:SrtW D zs ws) (k:SrtW D zs vs):ws=vs:=
 List.Perm.eq_of_pairwise (fun a b _ _ x y=>by
  have x:=lexLe_two x
  have y:=lexLe_two y
  lia) h.2 k.2 (h.1.trans k.1.symm)
noncomputable def bare (D:Dat):Dat:=((((D.setV 28 .none).setV 31 .none).setV 35 .none).setV 36 .none).setV 37 .none
noncomputable def eye (a:Nat):Prop:=a=28∨a=31∨a=35∨a=36∨a=37
theorem bare_iv (D:Dat) (a:Nat):(bare D).iv a=if a=28∨a=31∨a=35∨a=36∨a=37 then .none else D.iv a:=by
 show fu (fu (fu (fu (fu D.iv 28 .none) 31 .none) 35 .none) 36 .none) 37 .none a=_
 unfold fu
 by_cases h1:a=37
 ·subst h1;rfl
 by_cases h2:a=36
 ·subst h2;rfl
 by_cases h3:a=35
 ·subst h3;rfl
 by_cases h4:a=31
 ·subst h4;rfl
 by_cases h5:a=28
 ·subst h5;rfl
 rw[if_neg h1,if_neg h2,if_neg h3,if_neg h4,if_neg h5,if_neg]
 simp only [h1,h2,h3,h4,h5,or_self,not_false_eq_true]
theorem bare_set {D:Dat}{a:Nat}{x:MV}(h:eye a):bare (D.setV a x)=bare D:=by
 have e:(bare (D.setV a x)).iv=(bare D).iv:=by
  funext b
  rw[bare_iv,bare_iv]
  split
  ·rfl
  ·rename_i q;exact fu_ne fun z=>q (z▸h)
 show (⟨(bare (D.setV a x)).iv,D.il,D.wat,D.cls⟩ : Dat)=⟨(bare D).iv,D.il,D.wat,D.cls⟩
 rw[e]
theorem srtP_one {n:Nat}{xs ys zs:List Int}(C:Cl n xs) (h:SrtP xs ys) (k:SrtP xs zs):ys=zs:=by
 refine List.Perm.eq_of_pairwise (le:=fun a b=>vabs a≤vabs b) (fun a b ha hb x y=>?_) h.2 k.2 (h.1.trans k.1.symm)
 have e:vabs a=vabs b:=Int.le_antisymm x y
 have ha:=h.1.mem_iff.mp ha
 have hb:=k.1.mem_iff.mp hb
 obtain ⟨i,hi,e1⟩:=List.getElem_of_mem ha
 obtain ⟨j,hj,e2⟩:=List.getElem_of_mem hb
 have nd:=C.nd
 have:i=j:=(List.getElem_inj (h₀:=by rw[Zc];exact hi) (h₁:=by rw[Zc];exact hj) nd).mp (by rw[List.getElem_map,List.getElem_map,e1,e2];exact e)
 subst this
 rw[← e1,← e2]
theorem decD2_bare (D:Dat) (l:Int):decD2 (bare D) l=bare (decD2 D l):=by
 unfold bare
 rw[decD2_sv (by decide) (by decide),decD2_sv (by decide) (by decide),decD2_sv (by decide) (by decide),decD2_sv (by decide) (by decide),decD2_sv (by decide) (by decide)]
theorem cancel_bare (D:Dat) (m:Nat):cancelD (bare D) m=bare (cancelD D m):=by
 unfold bare
 rw[cancel_sv (by decide) (by decide),cancel_sv (by decide) (by decide),cancel_sv (by decide) (by decide),cancel_sv (by decide) (by decide),cancel_sv (by decide) (by decide)]
theorem forget_bare (D:Dat) (ws:List Int):forgetD (bare D) ws=bare (forgetD D ws):=by
 unfold bare
 rw[forget_sv (by decide) (by decide),forget_sv (by decide) (by decide),forget_sv (by decide) (by decide),forget_sv (by decide) (by decide),forget_sv (by decide) (by decide)]
structure Tw (D D':Dat):Prop where
 b:bare D'=bare D
theorem Tw.il {D D':Dat}(h:Tw D D'):D'.il=D.il:=by
 have z:(bare D').il=(bare D).il:=by rw[h.b]
 exact z
theorem Tw.wat {D D':Dat}(h:Tw D D'):D'.wat=D.wat:=by
 have z:(bare D').wat=(bare D).wat:=by rw[h.b]
 exact z
theorem Tw.cls {D D':Dat}(h:Tw D D'):D'.cls=D.cls:=by
 have z:(bare D').cls=(bare D).cls:=by rw[h.b]
 exact z
theorem Tw.iv {D D':Dat}(h:Tw D D') {a:Nat}(ha:¬eye a):D'.iv a=D.iv a:=by
 have:=congrFun (congrArg Dat.iv h.b) a
 rw[bare_iv,bare_iv,if_neg ha,if_neg ha] at this;exact this
theorem Tw.ivi {D D':Dat}(h:Tw D D') {a:Nat}(ha:¬eye a):ivi D' a=ivi D a:=by unfold Mine.ivi;rw[h.iv ha]
theorem Tw.setl {D D':Dat}(h:Tw D D') {a:Nat}{x:MV}(ha:eye a):Tw (D.setV a x) D':=⟨by rw[bare_set ha];exact h.b⟩
theorem Tw.dec {D D':Dat}(h:Tw D D') (l:Int):Tw (decD2 D l) (decD2 D' l):=⟨(decD2_bare D' l).symm.trans ((congrArg (fun z=>Mine.decD2 z l) h.b).trans (decD2_bare D l))⟩
theorem Tw.cancel {D D':Dat}(h:Tw D D') (m:Nat):Tw (cancelD D m) (cancelD D' m):=⟨(cancel_bare D' m).symm.trans ((congrArg (fun z=>cancelD z m) h.b).trans (cancel_bare D m))⟩
theorem candL_il {D D':Dat}(h1:D'.il=D.il) (h2:D'.cls=D.cls) (m:Nat):candL D' m=candL D m:=by
 cases D
 cases D'
 dsimp only at h1 h2
 subst h1
 subst h2
 rfl
theorem Tw.forget {D D':Dat}(h:Tw D D') {ws vs:List Int}(hw:SrtW D (candL D D.cls.length) ws) (hv:SrtW D' (candL D' D'.cls.length) vs):Tw (forgetD D ws) (forgetD D' vs):=by
 have e:vs=ws:=by
  refine srtW_one (D:=D) (zs:=candL D D.cls.length) ?_ hw
  have z:candL D' D'.cls.length=candL D D.cls.length:=by rw[h.cls];exact candL_il h.il h.cls _
  rw[z] at hv
  exact⟨hv.1,by have:=hv.2;rw[h.il] at this;exact this⟩
 rw[e]
 exact⟨(forget_bare D' ws).symm.trans ((congrArg (fun z=>forgetD z ws) h.b).trans (forget_bare D ws))⟩
noncomputable def preD (D:Dat):Dat:=((grow0 ((D.setL 13 (D.il 13++[0])).setL 14 (D.il 14++[0]))).setL 15 (D.il 15++[0])).setL 16 (D.il 16++[-1])
theorem newD_sv {k:Nat}{x:MV}(D:Dat):newD (D.setV k x)=(newD D).setV k x:=by
 show pushD ((preD D).setV k x) (D.il 15).length=(pushD (preD D) (D.il 15).length).setV k x
 exact push_sv _ _
theorem newD_bare (D:Dat):newD (bare D)=bare (newD D):=by
 unfold bare
 rw[newD_sv,newD_sv,newD_sv,newD_sv,newD_sv]
theorem HF.of {n:Nat}{D D':Dat}(h:HF n D) (e16:D'.il 16=D.il 16) (e17:D'.il 17=D.il 17):HF n D':=by
 have a:∀ i,at17 D' i=at17 D i:=fun i=>by unfold at17;rw[e17]
 have p:∀ u,pl16 D' u=pl16 D u:=fun u=>by unfold pl16;rw[e16]
 refine⟨fun i hi=>?_,fun u h1 h2 hp=>?_⟩
 ·rw[a,p];exact h.i i (e17▸hi)
 ·rw[p] at hp ⊢
  refine xE1 (h.u u h1 h2 hp) fun i t0_0=>aE3 t0_0 fun x y z=>?_
  exact⟨i,(aI3 x (e17.symm▸y) (by rw[a];exact z))⟩
theorem NV.stepF {n:Nat}{D:Dat}(V:NV n D) (F:HF n D) (hn:n≤20):HF (n+1) (newD D):=by
 unfold newD growD growHD
 generalize hX:(D.setL 13 (D.il 13++[0])).setL 14 (D.il 14++[0])=X
 have e15:((grow0 X).il 15)=D.il 15:=by rw[← hX];rfl
 have l15:((grow0 X).il 15).length=n+1:=by rw[e15];exact V.hp.l15
 rw[l15]
 generalize hZ:((grow0 X).setL 15 ((grow0 X).il 15++[0])).setL 16 ((grow0 X).il 16++[-1])=Z
 have z16:Z.il 16=D.il 16++[-1]:=by rw[← hZ,← hX];rfl
 have z17:Z.il 17=D.il 17:=by rw[← hZ,← hX];rfl
 have zl16:(Z.il 16).length=n+2:=by rw[z16,Zd,V.hp.l16];rfl
 have v17:=V.l17
 have zh:HpOK (n+1) Z:=by
  refine⟨?_,zl16,by rw[z17];exact V.hp.l17,fun v hv=>?_⟩
  ·rw[← hZ,← hX];show (D.il 15++[0]).length=_;rw[Zd,V.hp.l15];rfl
  ·rw[z17] at hv
   have:=V.hp.ent v hv
   exact wd1 this
 have pz:∀ u:Int,0≤u->u≤n->pl16 Z u=pl16 D u:=fun u h1 h2=>by
  unfold pl16
  rw[z16,Zb,Zu (by rw[V.hp.l16];lia),← Zb]
 have az:∀ i,at17 Z i=at17 D i:=fun i=>by unfold at17;rw[z17]
 have fz:HF (n+1) Z:=by
  refine⟨fun i hi=>?_,fun u h1 h2 hp=>?_⟩
  ·rw[z17] at hi
   have:=V.hp.at_ hi
   rw[az,pz _ (by have:=this.1;show 0≤(D.il 17).getD i 0;lia) (by exact this.2)]
   exact F.i i hi
  ·by_cases q:u=(n:Int)+1
   ·subst q
    have:pl16 Z ((n:Int)+1)=-1:=by
     unfold pl16
     rw[z16,show ((n:Int)+1).toNat=n+1 by lia,Zb,Zz (by rw[V.hp.l16];exact Zk _),V.hp.l16,Yw]
     rfl
    rw[this] at hp;exact absurd hp (by decide)
   ·have h3:u≤n:=by lia
    rw[pz u (by lia) h3] at hp ⊢
    refine xE1 (F.u u h1 h3 hp) fun i t1_0=>aE3 t1_0 fun a b c=>?_
    exact⟨i,(aI3 a (by rw[z17];exact b) (by rw[az];exact c))⟩
 exact (push_hf zh fz (v:=((n+1:Nat):Int)) (by lia) (by rw[z17];lia)).1
noncomputable def srt1 (xs:List Int):List Int:=open Classical in if h:∃ ys,SrtP xs ys then h.choose else []
theorem srt1_eq {n:Nat}{xs ys:List Int}(C:Cl n xs) (h:SrtP xs ys):srt1 xs=ys:=by
 unfold srt1
 rw[dif_pos ⟨ys,h⟩]
 exact srtP_one C (Exists.choose_spec (⟨ys,h⟩ : ∃ ys,SrtP xs ys)) h
noncomputable def vD (t:MV):Nat->Dat
 | 0=>D00 t
 | n+1=>newD (vD t n)
noncomputable def clD (D:Dat) (lits:List Int):Dat:=placeD (storeD D lits true) D.cls.length (srt1 lits)
noncomputable def coreD (t:MV) (n:Nat) (cs:List (List Int)) (room:Int):Dat:=(cs.foldl clD (vD t n)).setV 33 (.int room)
theorem clD_sv {k:Nat}{x:MV}(h:23≠k) (D:Dat) (l:List Int):clD (D.setV k x) l=(clD D l).setV k x:=by
 unfold clD
 have e:storeD (D.setV k x) l true=(storeD D l true).setV k x:=by
  have:ivi (D.setV k x) 23=ivi D 23:=ivi_ne h
  show ((((((D.addC (some l)).setL 10 (D.il 10++[0])).setL 11 (D.il 11++[1])).setL 12 (D.il 12++[0])).setV k x).setV 23 (.int (ivi (D.setV k x) 23+1)))=((((((D.addC (some l)).setL 10 (D.il 10++[0])).setL 11 (D.il 11++[1])).setL 12 (D.il 12++[0])).setV 23 (.int (ivi D 23+1))).setV k x)
  rw[this]
  exact setV_comm h
 rw[e];rfl
theorem clD_bare (D:Dat) (l:List Int):clD (bare D) l=bare (clD D l):=by
 unfold bare
 rw[clD_sv (by decide),clD_sv (by decide),clD_sv (by decide),clD_sv (by decide),clD_sv (by decide)]
theorem clF_bare (cs:List (List Int)):∀ D,cs.foldl clD (bare D)=bare (cs.foldl clD D):=by
 induction cs with
 | nil=>exact fun _=>rfl
 | cons c cs ih=>intro D;rw[Vd,clD_bare,ih];rfl
theorem vD_bare (t:MV):∀ n,bare (vD t n)=bare (vD .none n):=by
 intro n
 induction n with
 | zero=>
  have e:(bare (D00 t)).iv=(bare (D00 .none)).iv:=by
   funext b
   rw[bare_iv,bare_iv]
   by_cases q:b=28∨b=31∨b=35∨b=36∨b=37
   ·rw[if_pos q,if_pos q]
   ·rw[if_neg q,if_neg q]
    unfold D00
    have:b≠28:=fun z=>q (.inl z)
    simp only [if_neg this]
  show (⟨(bare (D00 t)).iv,(D00 t).il,(D00 t).wat,(D00 t).cls⟩ : Dat)=⟨(bare (D00 .none)).iv,(D00 .none).il,(D00 .none).wat,(D00 .none).cls⟩
  rw[e];rfl
 | succ n ih=>show bare (newD _)=bare (newD _);rw[← newD_bare,ih,newD_bare]
theorem coreD_tw (t t':MV) (n:Nat) (cs:List (List Int)) (room:Int):Tw (coreD t n cs room) (coreD t' n cs room):=by
 constructor
 have e:bare (cs.foldl clD (vD t' n))=bare (cs.foldl clD (vD t n)):=by rw[← clF_bare,← clF_bare,vD_bare t,vD_bare t']
 have c:∀ D:Dat,bare (D.setV 33 (.int room))=(bare D).setV 33 (.int room):=fun D=>by
  unfold bare
  rw[setV_comm (a:=28) (k:=33) (by decide),setV_comm (a:=31) (k:=33) (by decide),setV_comm (a:=35) (k:=33) (by decide),setV_comm (a:=36) (k:=33) (by decide),setV_comm (a:=37) (k:=33) (by decide)]
 unfold coreD
 rw[c,c,e]
theorem vD_ok (t:MV):∀ n,n≤20->NV n (vD t n)∧HF n (vD t n)∧∀ a,(vD t n).iv a=(D00 t).iv a:=by
 intro n
 induction n with
 | zero=>
  intro _
  exact (aI3 (.start t) ⟨fun i hi=>absurd hi (by show ¬i<0;lia),fun u a b=>by lia⟩ (fun _=>rfl))
 | succ n ih=>
  intro h
  refine aE3 (ih (by lia)) fun V F e=>?_
  refine (aI3 (V.step (by lia)) (V.stepF F (by lia)) (fun a=>?_))
  rw[← e a]
  show (pushD _ _).iv a=_
  rw[(push_hs _ _).iv];rfl
structure BQ (n:Nat) (m:Nat) (D:Dat):Prop where
 b:BP n D
 m:D.cls.length=m
 f:HF n D
 iv:∀ a,a=31∨a=35∨a=36∨a=37->ivi D a=0
theorem BQ.start {n:Nat}(t:MV) (h1:1≤n) (h8:n≤8):BQ n 0 (vD t n):=by
 refine aE3 (vD_ok t n (by lia)) fun V F e=>?_
 refine aE3 (V.LP h1 h8) fun P e8 e9=>?_
 refine⟨⟨P,e8,e9⟩,by rw[V.cls];rfl,F,fun a ha=>?_⟩
 unfold ivi
 rw[e a]
 unfold D00
 rcases ha with rfl | rfl | rfl | rfl<;>rfl
theorem BQ.add {n m:Nat}{D:Dat}(b:BQ n m D) (hm:m<16) {lits ys:List Int}(C:Cl n lits) (so:SrtP lits ys):BQ n (m+1) (placeD (storeD D lits true) D.cls.length ys)∧placeD (storeD D lits true) D.cls.length ys=clD D lits:=by
 refine hide fun R done=>?_
 refine aE2 (b.b.add (by rw[b.m];exact hm) C so true) fun x y=>?_
 refine aE7 (store_cls D lits true) fun s1 s2 s3 s4 s5 s6 s7=>?_
 refine done ?_
 refine⟨⟨x,by rw[y,b.m],b.f.of (s3 16 (by decide) (by decide) (by decide)) (s3 17 (by decide) (by decide) (by decide)),fun a ha=>?_⟩,by unfold clD;rw[srt1_eq C so]⟩
 have:(placeD (storeD D lits true) D.cls.length ys).iv a=D.iv a:=s7 a (by lia)
 unfold ivi
 rw[this]
 exact b.iv a ha
theorem BQ.fin {n m:Nat}{D:Dat}(b:BQ n m D) {room:Int}(hr:0≤room):LQ n (D.setV 33 (.int room))∧(D.setV 33 (.int room)).cls.length=m∧(D.setV 33 (.int room)).il 9=[]∧∀ a,a=31∨a=35∨a=36∨a=37->ivi (D.setV 33 (.int room)) a=0:=by
 have v:∀ c,c≠33->ivi (D.setV 33 (.int room)) c=ivi D c:=fun c h=>ivi_ne h
 have P:=b.b.P
 have F:=P.F
 refine (aI4 ⟨⟨F.I.congr (fun _ _ _=>rfl) (scl_set F.I.scl (by decide)) (v 21 (by decide)) rfl rfl,F.h10,F.h11,F.h12,by obtain ⟨z,e⟩:=F.h39;exact⟨z,(show fu D.iv 33 (.int room) 39=_ from (fu_ne (by decide)).trans e)⟩,F.act,F.ul,?_⟩,⟨⟨P.hp.l15,P.hp.l16,P.hp.l17,P.hp.ent⟩,b.f.of rfl rfl,fun u h1 h2 _=>?_⟩⟩ b.m b.b.e9 (fun a ha=>(v a (by lia)).trans (b.iv a ha)))
 ·show 0≤ivi (D.setV 33 (.int room)) 33
  have:ivi (D.setV 33 (.int room)) 33=room:=by unfold ivi;rw[show (D.setV 33 (.int room)).iv 33=.int room from (show fu D.iv 33 (.int room) 33=_ from fu_eq)]
  rw[this];exact hr
 ·exact P.held u.toNat (by lia) (by lia)
section
variable {B:Base}(g:Ctx B) {d n:Nat}{ρ:RH}{c:Addr}{H:AH}{L:Lay}{D:Dat}
theorem Pv.hp_ (C:CoreAt c H L D) {e:ME}(hi:Pv (sig B T1 d) ρ H e (.ref c)):Pv (sig B T1 d) ρ H (.attr e 17) (.ref (L .hp)):=.fld C hi rfl rfl
end
structure PL (n:Nat) (D:Dat) (v:Int) (f:Nat) (acc:List Int) (Dk:Dat):Prop where
 ok:HpOK n Dk
 hf:HF n Dk
 len:(Dk.il 17).length≤f
 hv:0≤pl16 Dk v
 eq1:(popsF (D.il 17).length D v).1=acc++(popsF f Dk v).1
 eq2:(popsF (D.il 17).length D v).2=(popsF f Dk v).2
 hs:Hs D (popD Dk)
 al:acc.length+f≤900
theorem PL.ne {n:Nat}{D Dk:Dat}{v:Int}{f:Nat}{acc:List Int}(h:PL n D v f acc Dk) (hv:1≤v∧v≤n):Dk.il 17≠[]:=by
 obtain ⟨i,_,hi,_⟩:=h.hf.u v hv.1 hv.2 h.hv
 exact Xp.mp (by lia)
theorem PL.end_ {n:Nat}{D Dk:Dat}{v:Int}{f:Nat}{acc:List Int}(h:PL n D v f acc Dk) (e:at17 Dk 0=v):(popsF (D.il 17).length D v).1=acc∧(popsF (D.il 17).length D v).2=popD Dk:=by
 have z:popsF f Dk v=([],popD Dk):=by
  cases f with
  | zero=>rfl
  | succ f=>rw[popsF,if_pos e]
 rw[h.eq1,h.eq2,z]
 exact⟨Y3 _,rfl⟩
theorem PL.next {n:Nat}{D Dk:Dat}{v:Int}{f:Nat}{acc:List Int}(h:PL n D v f acc Dk) (hv:1≤v∧v≤n) (e:at17 Dk 0≠v):∃ m,m<f∧PL n D v m (acc++[at17 Dk 0]) (popD Dk):=by
 have hne:=h.ne hv
 refine aE4 (pop_hf h.ok h.hf hne) fun p1 p2 p3 p4=>?_
 have len:=h.len
 cases f with
 | zero=>lia
 | succ f=>
  have z:popsF (f+1) Dk v=(at17 Dk 0::(popsF f (popD Dk) v).1,(popsF f (popD Dk) v).2):=by rw[popsF,if_neg e]
  refine⟨f,Yk f,p1,p2,by lia,(p3 v hv.1 hv.2).mpr ⟨fun w=>e w.symm,h.hv⟩,?_,?_,h.hs.trans (pop_hs _),by rw[Zd];have:=h.al;show acc.length+1+f≤900;lia⟩
  ·rw[h.eq1,z,Wh];rfl
  ·rw[h.eq2,z]
theorem decided2_spec {B:Base}(g:Ctx B) {d n:Nat}{c:Addr}{H:AH}{L:Lay}{D:Dat}{Q:MV->AH->Prop}(hd:40≤d) (C:CoreAt c H L D) (P:LQ n D) {lit:Int}(hl:Lt n lit) (h9:(D.il 9).length<900)
  (q:∀ H' L',CoreAt c H' L' (if val D lit=0 then decD2 D lit else D)->Stp H L D H' L' (if val D lit=0 then decD2 D lit else D)->Q .none H'):SpecCall B d f__law_decided [.ref c,.int lit] H Q:=by
 refine (Ctx.fn g (d:=36) k__law_decided rfl ?_).mono hd fun _ _=>id
 unfold a__law_decided
 have I:=P.F.I
 have hv:=hl.vb
 refine sIf (.eq (.meth C (f:=f_Trail_value) (vs:=[.int lit]) (.var rfl) rfl rfl (.cons (.var rfl) .nil) (fun Q q=>value_spec g (by decide) C (I.t.lv 3 (by decide) (by decide)) hl q)) .cst) (fun p=>?_) (fun p=>?_)
 ·have v0:=of_decide_eq_true p
  rw[if_pos v0] at q
  have ze:((D.il 3).getD (vabs lit).toNat 0)=0:=by
   have:=valA_at (D.il 3) lit
   have v0:valA (D.il 3) lit=0:=v0
   rw[v0] at this
   show at_ (D.il 3) lit=0
   split at this<;>lia
  have hne:D.il 17≠[]:=by
   refine hide fun R done=>?_
   refine xE1 (P.hb.hf.u _ hv.1 hv.2 (P.hb.hd _ hv.1 hv.2 ze)) fun i t2_0=>aE3 t2_0 fun _ hi _=>?_
   refine done ?_
   exact Xp.mp (by lia)
  have p0:PL n D (vabs lit) (D.il 17).length [] D:=⟨P.hb.ok,P.hb.hf,Zk _,P.hb.hd _ hv.1 hv.2 ze,rfl,rfl,pop_hs D,by have:=P.hb.ok.l17;show 0+_≤900;lia⟩
  refine sAsg ?_
  refine eList (esCons ?_)
  refine wMethH C (f:=f_CoreHeap_pop) (vs:=[]) (.hp_ C (.var rfl)) rfl rfl .nil ?_
  refine pop_spec g (by decide) C P.hb.ok hne fun H1 C1 S1=>?_
  refine esNil fun a ha=>?_
  have ha0:=S1.gone ha
  refine sWhile (fun m ρ H'=>ρ 108=some (.ref c)∧ρ 54=some (.int lit)∧ρ 155=some (.ref a)∧∃ Dk acc,PL n D (vabs lit) m acc Dk∧CoreAt c H' L (popD Dk)∧Stp H L D H' L (popD Dk)∧H' a=some (.list ((acc++[at17 Dk 0]).map .int))∧¬Foot L (popD Dk) a) (D.il 17).length (aI4 rfl rfl rfl (xI2 D [] (aI5 p0 (C1.new ha _) (S1.alloc ha _) upd_eq (fun f=>f.alive C1 ha)))) fun m ρ H' h=>?_
  refine hide fun R done=>?_
  refine aE4 h fun r108 r54 r155 t3_0=>xE2 t3_0 fun Dk acc t3_1=>aE5 t3_1 fun pl C2 S2 h2 nf=>?_
  refine done ?_
  have b0:=pl.ok.at_ (i:=0) (Xp.mpr (pl.ne hv))
  have b0:1≤at17 Dk 0∧at17 Dk 0≤n:=b0
  refine eCmp ?_
  refine Pv.sub (.var r155) (.neg .cst) (seqL h2) getAt_last _ ?_
  refine wTup (.cons .cst (.cons (.abs (.var r54)) .nil)) fun b hb=>?_
  have ab:a≠b:=fun z=>by rw[← z,h2] at hb;exact nsc hb
  have hbH:H b=none:=S2.gone hb
  have C3:=C2.new hb (.tup [.int 0,.int (vabs lit)])
  have S3:=S2.alloc hb (.tup [.int 0,.int (vabs lit)])
  have h3:upd H' b (.tup [.int 0,.int (vabs lit)]) a=_:=(upd_ne ab).trans h2
  refine⟨[0,vabs lit],by unfold seqAt;rw[upd_eq];rfl,_,rfl,?_⟩
  by_cases e:at17 Dk 0=vabs lit
  ·rw[if_neg (by rw[decide_eq_true_eq,e];simp)]
   refine hide fun R done=>?_
   refine aE2 (pl.end_ e) fun e1 e2=>?_
   refine aE5 (pops_ok hv _ P.hb.ok P.hb.hf (Zk _) (P.hb.hd _ hv.1 hv.2 ze)) fun p1 p2 p3 p4 p5=>?_
   refine done ?_
   rw[e1] at p4
   rw[e2] at p1 p2 p3
   refine sForM (xs:=acc.map .int) (J:=fun t H0=>CoreAt c H0 L (popD Dk)∧Stp H L D H0 L (popD Dk)∧¬Foot L (popD Dk) t∧H t=none∧H0 t=some (.list (acc.map .int))) (fun Q q=>?_) (fun t H0 i ρ H'=>ρ 108=some (.ref c)∧ρ 54=some (.int lit)∧CoreAt c H' L ((acc.take i).foldl backD (popD Dk))∧Stp H L D H' L ((acc.take i).foldl backD (popD Dk))∧H' t=some (.list (acc.map .int))∧¬Foot L ((acc.take i).foldl backD (popD Dk)) t) (fun t H0 j=>?_) (fun t H0 i ρ H' j h0 h=>h.2.2.2.2.1) (fun t H0 i y ρ H' j hy h=>?_) fun t H0 ρ H' j h=>?_
   ·refine eSTo ?_
    refine Pv.var r155 _ ?_
    refine Pv.neg .cst _ ?_
    refine .inr (xI2 a _ (aI4 rfl rfl h3 (fun t ht=>?_)))
    have z:upd (upd H' b (.tup [.int 0,.int (vabs lit)])) t (.list ((acc++[at17 Dk 0]).map MV.int).dropLast) t=some (.list (acc.map .int)):=by
     rw[upd_eq,Yg]
     show some (AO.list (acc.map MV.int++[MV.int (at17 Dk 0)]).dropLast)=_
     rw[List.dropLast_concat]
    exact q t _ (aI5 (C3.new ht _) (S3.alloc ht _) (fun f=>f.alive C3 ht) (S3.gone ht) z) z
   ·exact (aI6 r108 r54 j.1 j.2.1 j.2.2.2.2 j.2.2.1)
   ·refine aE6 h fun q108 q54 Cq Sq hq nq=>?_
    have ht0:=j.2.2.2.1
    rw[Zn] at hy
    refine hide fun R done=>?_
    refine xE1 (Zw.mp hy) fun u t7_0=>aE2 t7_0 fun hu e7_2=>?_
    subst e7_2
    have hm:=Zg hu
    have hu1:=p4 u hm
    refine aE5 (back_ok I.n8 (acc.take i) p1 p2 fun u m=>p4 u (Xy m)) fun r1 r2 r3 _ _=>?_
    refine done ?_
    have et:(acc.take (i+1)).foldl backD (popD Dk)=backD ((acc.take i).foldl backD (popD Dk)) u:=by
     rw[List.take_succ,hu,Wg];rfl
    generalize (acc.take i).foldl backD (popD Dk)=X at *
    have l3:(X.il 3).length=n+1:=by rw[r3.il 3 (by decide) (by decide),p3.il 3 (by decide) (by decide)];exact I.t.lv 3 (by decide) (by decide)
    have lu:Lt n u:=⟨by lia,by lia,hu1.2⟩
    refine absN fun TT tn=>?_
    refine sIf (.eq (.meth Cq (f:=f_Trail_value) (vs:=[.int u]) (.var q108) rfl rfl (.cons (.var rfl) .nil) (fun Q q=>value_spec g (by decide) Cq l3 lu q)) .cst) (fun w=>?_) (fun w=>?_)
    ·refine sExpr (wMethH Cq (f:=f_CoreHeap_push) (vs:=[.int u]) (.hp_ Cq (.var q108)) rfl rfl (.cons (.var rfl) .nil) ?_)
     refine push_spec g (by decide) Cq r1 hu1.1 hu1.2 (by have:=HF.len r1 r2;have:=I.n8;lia) fun H5 C5 S5=>⟨nofun,?_⟩
     refine aE2 (S5.outs nq (by rw[hq];exact nofun)) fun nf5 k5=>?_
     have ex:backD X u=pushD X u:=by unfold backD;exact if_pos (of_decide_eq_true w)
     refine sNilT (sNil (tn (aI6 q108 q54 ?_ ?_ (k5.trans hq) ?_)))<;>rw[et,ex]
     ·exact C5
     ·exact Sq.trans S5
     ·exact nf5
    ·have ex:backD X u=X:=by unfold backD;exact if_neg (of_decide_eq_false w)
     refine sNilT (sNil (tn (aI6 q108 q54 ?_ ?_ hq ?_)))<;>rw[et,ex]
     ·exact Cq
     ·exact Sq
     ·exact nq
   ·refine aE6 h fun q108 q54 Cq Sq _ _=>?_
    rw[Zc,Wm] at Cq Sq
    refine hide fun R done=>?_
    refine aE4 (dec2A_ok I.n8 P.hb hl v0) fun a1 a2 a3 a4=>?_
    have ed:acc.foldl backD (popD Dk)=dec2A D lit:=by unfold dec2A;rw[e1,e2]
    rw[ed] at Cq Sq
    refine aE3 (P.dec2 hl v0) fun L1 l1 l2=>?_
    refine done ?_
    unfold decD2 at q
    generalize dec2A D lit=A at *
    have IA:Inv n A:=I.congr (fun k h1 h2=>a3.il k (by lia) (by lia)) ⟨by rw[a3.iv];exact I.scl.hook,fun a h=>by rw[a3.iv,ivi_of a3.iv];exact I.scl.int a h⟩ (ivi_of a3.iv 21) a3.cls a3.wat
    have vA:val A lit=0:=by show valA (A.il 3) lit=0;rw[a3.il 3 (by decide) (by decide)];exact v0
    refine hide fun R done=>?_
    refine aE2 IA.lev fun I1 n1=>?_
    refine aE2 (I1.enq0 n1 hl vA) fun I2 n2=>?_
    refine done ?_
    refine sExpr (wMeth Cq (f:=f_Trail_new_level) (vs:=[]) (.var q108) rfl rfl .nil (new_level_spec g (by decide) Cq IA.scl (by rw[a3.il 9 (by decide) (by decide)];lia) fun H1 C1 S1=>⟨nofun,?_⟩))
    refine sExpr (wMeth C1 (f:=f_Trail_enqueue) (.var q108) rfl rfl (.cons (.var q54) (.cons (.neg .cst) .nil)) ?_)
    refine enqueue_spec g (by decide) C1 ⟨I1.t.lv,I1.w.lw⟩ hl (Ze I1.t.len (by have:=I.n8;lia)) fun H2 C2 S2=>⟨nofun,?_⟩
    refine sIfW ?_
    refine eCmp ?_
    refine wMeth C2 (f:=f_SatCore_propagate) (vs:=[]) (.var q108) rfl rfl .nil (prop_spec g (by decide) C2 I2 n2 fun H3 L3 C3 S3=>?_)
    refine Pv.neg .cst _ ?_
    have C3:CoreAt c H3 L3 (decD A lit).1:=C3
    have SS:Stp H L D H3 L3 (decD A lit).1:=((Sq.trans S1).trans S2).trans S3
    show ∃ b,MV.bool ((decD A lit).2 != -1)=.bool b∧_
    refine⟨_,rfl,?_⟩
    by_cases w:(decD A lit).2=-1
    ·rw[if_pos w] at q
     rw[if_neg (by simp [w])]
     exact sNilT (sNilT (sNil (q _ _ C3 SS)))
    ·rw[if_neg w] at q
     rw[if_pos (by simp [w])]
     have J:=L1.F.I
     have dep:((((decD A lit).1.il 9).length:Int) - 1)=((((decD A lit).1.il 9).length - 1:Nat):Int):=by rw[l1,Zd];show (((D.il 9).length+1:Nat):Int) - 1=(((D.il 9).length+1 - 1:Nat):Int);lia
     refine sExpr (wMeth C3 (f:=f_Trail_cancel_until) (vs:=[.int ((((decD A lit).1.il 9).length - 1:Nat):Int)]) (.var q108) rfl rfl (.cons (.toI (.sub_ (Pv.depth g C3 (.var q108) (by decide)) .cst) dep) .nil) ?_)
     have ln:=HF.len L1.hb.ok L1.hb.hf
     have l8:=J.t.len
     refine cancel_until_spec g (by decide) C3 J.scl ⟨J.t.lv,J.w.lw⟩ L1.hb.ok (by have:=I.n8;lia) J.t.tr J.t.st3 fun H4 L4 C4 S4=>⟨nofun,?_⟩
     exact sNilT (sNilT (sNil (q _ _ C4 (SS.trans S4))))
  ·rw[if_pos (decide_eq_true (by simp only [Zr,Yz,or_false,not_or];exact⟨by lia,e⟩))]
   refine hide fun R done=>?_
   refine xE1 (pl.next hv e) fun m' t15_0=>aE2 t15_0 fun lt pn=>?_
   refine done ?_
   refine absN fun TT tn=>?_
   refine sExpr ?_
   refine eMcall ?_
   refine Pv.var r155 _ ⟨a,rfl,?_⟩
   rw[h3]
   refine⟨by decide,?_⟩
   refine esCons ?_
   refine wMethH C3 (f:=f_CoreHeap_pop) (vs:=[]) (.hp_ C3 (.var r108)) rfl rfl .nil ?_
   refine pop_spec g (by decide) C3 pn.ok (pn.ne hv) fun H4 C4 S4=>?_
   refine aE2 (S4.outs nf (by rw[h3];exact nofun)) fun nf4 k4=>?_
   have h4:=k4.trans h3
   refine esNil ⟨_,h4,?_⟩
   refine⟨by rw[Zc,Zd];have:=pl.al;show acc.length+1<1000000;lia,nofun,?_⟩
   refine sNil (tn ⟨m',(aI5 lt r108 r54 r155 (xI2 (popD Dk) (acc++[at17 Dk 0]) (aI5 pn (C4.out nf4 _) ((S3.trans S4).set ha0 _) ?_ nf4)))⟩)
   rw[upd_eq,Yg (l₁:=acc++_)];rfl
 ·rw[if_neg (of_decide_eq_false p)] at q
  exact sNilT (sNil (q H L C .refl))
section
variable {B:Base}{d n m:Nat}{ρ:RH}{Q:MV->AH->Prop}{c:Addr}{H:AH}{L:Lay}{D:Dat}
theorem wMethG (C:CoreAt c H L D) {s:ME}{m:Nat}{args:MEs}{f:Addr}(hi:Pv (sig B T1 d) ρ H s (.ref c)) (hm:T1.meth cSat m=some f) (hf:fld L D m=none) (h:wpEs (sig B T1 d) args ρ H fun vs H'=>SpecCall B d f (.ref c::vs) H' Q) :
  wpE (sig B T1 d) (.mcall s m args) ρ H Q:=by
 refine hide fun R done=>?_
 refine xE1 C.ns fun l t3_0=>aE3 t3_0 fun h1 _ h3=>?_
 refine done ?_
 refine eMcall ?_
 refine hi _ ⟨c,rfl,?_⟩
 rw[C.inst]
 exact (xI2 l f (aI4 h1 ((h3 m).trans hf) hm h))
end
structure Nw (H H':AH) (L:Lay) (D:Dat):Prop where
 x:Ex H H'
 f:∀ b,Foot L D b->H b=none
theorem Nw.step {H H' H'':AH}{L L':Lay}{D D':Dat}(F:Nw H H' L D) (S:Stp H' L D H'' L' D'):Nw H H'' L' D':=by
 refine⟨fun b hb=>?_,fun b f=>?_⟩
 ·have e:=F.x b hb
  exact (S.keep b (fun f=>hb (F.f b f)) (by rw[e];exact hb)).trans e
 ·rcases S.foot b f with f | h
  ·exact F.f b f
  ·exact Classical.byContradiction fun z=>z ((F.x b z).symm.trans h)
theorem core_spec {B:Base}(g:Ctx B) {d n:Nat}{H:AH}{a:Addr}{us:List MV}{cs:List (List Int)}{room:Int}{Q:MV->AH->Prop}(hd:32≤d) (hn:1≤n∧n≤8) (ha:H a=some (.list us))
  (hus:All2 (fun u xs=>∃ r,u=.ref r∧H r=some (.list (xs.map .int))) us cs) (hcs:∀ xs∈cs,Cl n xs) (hm:cs.length≤12)
  (q:∀ t co L H',BQ n cs.length (cs.foldl clD (vD t n))->CoreAt co H' L (coreD t n cs room)->Nw H H' L (coreD t n cs room)->Q (.ref co) H'):SpecCall B d f__law_core [.int n,.ref a,.int room] H Q:=by
 refine (Ctx.fn g (d:=28) k__law_core rfl ?_).mono hd fun _ _=>id
 unfold a__law_core
 refine sAsg (eNew ?_)
 refine Pvs.cons .cst (.cons .cst .nil) _ ?_
 intro dx co hdx hco ne
 refine scI (init_spec g (by decide) (MkI.init hdx hco ne) fun t L H1 C1 x1 f1=>⟨rfl,?_⟩)
 have hn2:n<2000000:=by lia
 refine sForN (k:=1) (n:=n) (.var rfl) hn2 (fun i ρ H'=>ρ 108=some (.ref co)∧ρ 19=some (.ref a)∧ρ 119=some (.int room)∧∃ L,CoreAt co H' L (vD t i)∧Nw H H' L (vD t i)) ⟨rfl,rfl,rfl,L,C1,x1,f1⟩ (fun i ρ H' hi h=>absN fun T tn=>?_) fun ρ H2 h=>?_
 ·refine aE4 h fun r108 r19 r119 t0_0=>xE1 t0_0 fun L t0_1=>aE2 t0_1 fun C F=>?_
  refine aE3 (vD_ok t i (by lia)) fun V _ _=>?_
  have v17:=V.l17
  refine sExpr (wMeth C (f:=f_Search_new_var) (.var (i:=108) r108) rfl rfl .nil (new_var_spec g (m:=i+1) (by decide) C V.lv (by rw[V.wat,Vc];lia) (by rw[V.lb 13 (.inl rfl)];lia) (by rw[V.lb 14 (.inr rfl)];lia) V.hp.l15 V.hp.l16 (by lia) (fun v hv=>by have:=V.hp.ent v hv;exact wd1 this) (by lia) (by lia) fun H' L' C' S'=>⟨nofun,sNil (tn ?_)⟩))
  exact (aI4 r108 r19 r119 ⟨L',⟨C',F.step S'⟩⟩)
 refine aE4 h fun r108 r19 r119 t2_0=>xE1 t2_0 fun L t2_1=>aE2 t2_1 fun C2 F2=>?_
 refine sForM (xs:=us) (J:=fun a' H0=>a'=a∧H0=H2) (fun Q q=>Pv.var r19 _ (q a H2 ⟨rfl,rfl⟩ (F2.x.list ha))) (fun a' H0 i ρ H'=>ρ 108=some (.ref co)∧ρ 119=some (.int room)∧BQ n i ((cs.take i).foldl clD (vD t n))∧∃ L,CoreAt co H' L ((cs.take i).foldl clD (vD t n))∧Nw H H' L ((cs.take i).foldl clD (vD t n))) (fun a' H0 j=>?_) (fun a' H0 i ρ H' j h0 h=>?_) (fun a' H0 i y ρ H' j hy h=>absN fun T tn=>?_) fun a' H0 ρ H' j h=>?_
 ·refine aE2 j fun e3_0 e3_1=>?_
  subst e3_0
  subst e3_1
  exact (aI4 r108 r119 (.start t hn.1 hn.2) ⟨L,⟨C2,F2⟩⟩)
 ·refine aE4 h fun _ _ _ t4_0=>xE1 t4_0 fun L t4_1=>aE2 t4_1 fun _ F=>?_
  rw[j.1];exact F.x.list ha
 ·refine aE4 h fun r108 r119 b t5_0=>xE1 t5_0 fun L t5_1=>aE2 t5_1 fun C F=>?_
  refine xE1 (all2_get hus i y hy) fun lits t6_0=>aE2 t6_0 fun hl t6_1=>xE1 t6_1 fun r t6_2=>aE2 t6_2 fun e6_3 hr=>?_
  subst e6_3
  have hi:i<cs.length:=(Za.mp hl).1
  have hC:=hcs lits (Zg hl)
  have et:(cs.take (i+1)).foldl clD (vD t n)=clD ((cs.take i).foldl clD (vD t n)) lits:=by
   rw[Xt,hl,Wg];rfl
  generalize (cs.take i).foldl clD (vD t n)=D at *
  have P:=b.b.P.F
  have I:=P.I
  have hm':=b.m
  have h10:=P.h10
  have h11:=P.h11
  have h12:=P.h12
  refine sExpr (wMethG C (f:=f_Trail_place) (.var (ρ:=updR ρ 56 (.ref r)) (i:=108) (v:=.ref co) r108) rfl rfl (wEs1 (wMeth C (f:=f_Trail_store) (vs:=[.ref r,.none,.bool true]) (.var (ρ:=updR ρ 56 (.ref r)) (i:=108) (v:=.ref co) r108) rfl rfl (.cons (.var rfl) (.cons .cst (.cons .cst .nil))) ?_)))
  refine store_spec g (by decide) C I.scl (F.x.list hr) (by lia) (by lia) (by lia) (by lia) fun H4 L4 C4 S4=>?_
  refine aE7 (store_cls D lits true) fun s1 s2 s3 s4 s5 s6 s7=>?_
  have i3:=s3 3 (by decide) (by decide) (by decide)
  refine place_spec (n:=n) g (by decide) C4 ⟨fun k a b=>by rw[s3 k (by lia) (by lia) (by lia)];exact I.t.lv k a b,by rw[s2];exact I.w.lw⟩ (by rw[s1,Zz (Zk _),Yw];rfl) (fun l hl=>⟨hC.lt l hl,by show valA _ l=0;rw[i3];exact b.b.val (hC.lt l hl)⟩) hC.two (by have:=hC.five;lia) (fun xs hx=>by rw[s2] at hx;have:=I.w.len hx;lia) fun ys H5 L5 so C5 S5=>⟨nofun,?_⟩
  refine aE2 (b.add (by lia) hC so) fun b2 e2=>?_
  rw[e2] at C5 S5 b2
  exact sNil (tn (aI4 r108 r119 (by rw[et];exact b2) ⟨L5,⟨by rw[et];exact C5,by rw[et];exact F.step (S4.trans S5)⟩⟩))
 ·refine aE4 h fun r108 r119 b t9_0=>xE1 t9_0 fun L t9_1=>aE2 t9_1 fun C F=>?_
  have el:us.length=cs.length:=hus.length
  rw[el,Wm] at b C F
  refine sPutV C (.var r119) (.var r108) ⟨by decide,by decide⟩ rfl rfl fun H6 C6 S6=>?_
  exact sRetP (.var r108) (q t co L H6 b C6 (F.step S6))
structure TW (p cl c1 c2:Addr) (vs:List Int) (bud:Nat) (W:Addr->Prop) (H0 H:AH) (L1:Lay) (D1:Dat) (L2:Lay) (D2:Dat):Prop where
 C1:CoreAt c1 H L1 D1
 C2:CoreAt c2 H L2 D2
 P:PotAt p cl vs bud H
 n1:¬Foot L1 D1 p
 n2:¬Foot L2 D2 p
 dj:∀ b,Foot L1 D1 b->¬Foot L2 D2 b
 fr:∀ b,W b->b≠p∧H b≠none∧H b=H0 b∧¬Foot L1 D1 b∧¬Foot L2 D2 b
 wc:W cl
theorem PotAt.live {p cl:Addr}{vs:List Int}{bud:Nat}{H:AH}(P:PotAt p cl vs bud H):H p≠none:=by obtain ⟨i,e,_⟩:=P.hp;rw[e];exact nofun
section
variable {p cl c1 c2:Addr}{vs:List Int}{bud:Nat}{W:Addr->Prop}{H0 H H':AH}{L1 L1':Lay}{D1 D1':Dat}{L2 L2':Lay}{D2 D2':Dat}
theorem TW.swap (w:TW p cl c1 c2 vs bud W H0 H L1 D1 L2 D2):TW p cl c2 c1 vs bud W H0 H L2 D2 L1 D1:=
 ⟨w.C2,w.C1,w.P,w.n2,w.n1,fun b f2 f1=>w.dj b f1 f2,fun b h=>by obtain ⟨a1,a2,a3,a4,a5⟩:=w.fr b h;exact (aI5 a1 a2 a3 a5 a4),w.wc⟩
theorem TW.core1 (w:TW p cl c1 c2 vs bud W H0 H L1 D1 L2 D2) (C:CoreAt c1 H' L1' D1') (S:Stp H L1 D1 H' L1' D1'):TW p cl c1 c2 vs bud W H0 H' L1' D1' L2 D2:=by
 refine hide fun R done=>?_
 refine aE2 (S.outs w.n1 w.P.live) fun a1 a2=>?_
 refine aE5 (w.fr cl w.wc) fun _ b2 _ b4 _=>?_
 refine done ?_
 refine⟨C,w.C2.keep fun b f=>S.keep b (fun z=>w.dj b z f) (f.alive w.C2),w.P.keep a2 (S.keep cl b4 b2),a1,w.n2,fun b f f2=>?_,fun b h=>?_,w.wc⟩
 ·rcases S.foot b f with z | z
  ·exact w.dj b z f2
  ·exact f2.alive w.C2 z
 ·refine aE5 (w.fr b h) fun e1 e2 e3 e4 e5=>?_
  refine aE2 (S.outs e4 e2) fun o1 o2=>?_
  exact (aI5 e1 (by rw[o2];exact e2) (o2.trans e3) o1 e5)
theorem TW.core2 (w:TW p cl c1 c2 vs bud W H0 H L1 D1 L2 D2) (C:CoreAt c2 H' L2' D2') (S:Stp H L2 D2 H' L2' D2'):TW p cl c1 c2 vs bud W H0 H' L1 D1 L2' D2':=(w.swap.core1 C S).swap
theorem TW.ex (w:TW p cl c1 c2 vs bud W H0 H L1 D1 L2 D2) (x:Ex H H'):TW p cl c1 c2 vs bud W H0 H' L1 D1 L2 D2:=w.core1 (x.core w.C1) x.stp
theorem TW.weak (w:TW p cl c1 c2 vs bud W H0 H L1 D1 L2 D2) {b':Nat}(h:b'≤bud):TW p cl c1 c2 vs b' W H0 H L1 D1 L2 D2:=⟨w.C1,w.C2,w.P.weak h,w.n1,w.n2,w.dj,w.fr,w.wc⟩
theorem TW.pot (w:TW p cl c1 c2 vs bud W H0 H L1 D1 L2 D2) {b':Nat}(P:PotAt p cl vs b' H') (k:∀ b,b≠p->H' b=H b):TW p cl c1 c2 vs b' W H0 H' L1 D1 L2 D2:=
 ⟨w.C1.keep fun b f=>k b fun e=>w.n1 (e▸f),w.C2.keep fun b f=>k b fun e=>w.n2 (e▸f),P,w.n1,w.n2,w.dj,fun b h=>by
  refine aE4 (w.fr b h) fun a1 a2 a3 a4=>?_
  have e:=k b a1
  exact (aI4 a1 (by rw[e];exact a2) (e.trans a3) a4),w.wc⟩
variable {B:Base}{d n m:Nat}{ρ:RH}{Q:MV->AH->Prop}
theorem TW.draw (g:Ctx B) (hd:4≤d) (w:TW p cl c1 c2 vs (bud+1) W H0 H L1 D1 L2 D2) {e k:ME}(he:Pv (sig B T1 d) ρ H e (.ref p)) (hk:Pv (sig B T1 d) ρ H k (.int (m:Int))) (hm:0<m) (hm2:m<1000)
  (q:∀ (r:Nat) H',r<m->TW p cl c1 c2 vs bud W H0 H' L1 D1 L2 D2->Q (.int (r:Int)) H'):wpE (sig B T1 d) (.call 154 f__law_stein (.cons e (.cons k .nil))) ρ H Q:=
 wDraw g hd w.P he hk hm hm2 fun r H' hr P k _=>q r H' hr (w.pot P k)
theorem TW.lit (g:Ctx B) (hd:4≤d) (w:TW p cl c1 c2 vs (bud+2) W H0 H L1 D1 L2 D2) (hn:1≤n) (hn8:n≤8) (r153:ρ 153=some (.ref p)) (r45:ρ 45=some (.int (n:Int)))
  (q:∀ lit H',Lt n lit->TW p cl c1 c2 vs bud W H0 H' L1 D1 L2 D2->Q (.int lit) H'):wpE (sig B T1 d) (.bin .Mult (.bin .Add (.cst (.int 1)) (.call 154 f__law_stein (.cons (.var 153) (.cons (.var 45) .nil)))) (.bin .Sub (.cst (.int 1)) (.bin .Mult (.cst (.int 2)) (.call 154 f__law_stein (.cons (.var 153) (.cons (.cst (.int 2)) .nil)))))) ρ H Q:=by
 refine eBin (eBin ?_)
 refine Pv.cst _ ?_
 refine TW.draw g (m:=n) hd w (.var r153) (.var r45) hn (Ze hn8 (by decide)) fun a H1 ha w1=>?_
 show wpE _ _ _ _ _
 refine eBin ?_
 refine Pv.cst _ ?_
 refine eBin ?_
 refine Pv.cst _ ?_
 refine TW.draw g (m:=2) hd w1 (.var r153) .cst (by decide) (by decide) fun b H2 hb w2=>?_
 refine⟨.inl (by decide),⟨.inl (Ze (ab1 ha hn8) (by decide)),?_⟩⟩
 refine q _ H2 ?_ w2
 have:b=0∨b=1:=by lia
 rcases this with rfl | rfl<;>exact⟨by lia,by lia,by lia⟩
end
structure PV (n many lap part:Nat) (since:Int) (D1 D2:Dat):Prop where
 l1:LQ n D1
 l2:LQ n D2
 tw:Tw D1 D2
 m:D1.cls.length=many
 c:ivi D1 31 - ivi D1 36=since
 i35:ivi D1 35=part
 i37:ivi D1 37=part
 dp:(D1.il 9).length≤lap
theorem fl_ok (D:Dat) (k:Nat):(fl D k).canLay0=true∧(fl D k).depth≤2:=
 ⟨lay_list fun d h=>(int_mem h).1,Zf (dep_list fun d h=>(int_mem h).2) (by decide)⟩
theorem shd_st2 (D:Dat):Shd (.tuple (st2D D)):=by
 have key:∀ d∈st2D D,d.canLay0=true∧d.depth≤2:=fun d h=>by
  unfold st2D at h
  simp only [Zr,Yz,or_false] at h
  have kc:∀ cs:List (Option (List Int)),(PyData.list (cs.map cd)).depth≤2:=fun cs=>dep_list (n:=1) fun d h=>by obtain ⟨o,_,rfl⟩:=Z3.mp h;exact (cd_shd o).2
  rcases h with rfl | rfl | rfl | rfl | rfl | rfl | rfl | rfl | rfl | rfl | rfl
  ·exact⟨(shd_cls _).lay,kc _⟩
  ·refine⟨(shd_wat _).lay,?_⟩
   have:=kc (D.wat.map some)
   rw[Y0] at this
   exact this
  all_goals first | exact fl_ok D _ | exact⟨rfl,Z2 _⟩
 exact⟨lay_tup fun d h=>(key d h).1,Zf (dep_tup fun d h=>(key d h).2) (by decide)⟩
theorem st2_tw {D D':Dat}(h:Tw D D'):st2D D'=st2D D:=by
 have n:∀ a,a=23∨a=33->¬eye a:=fun a h=>by unfold eye;lia
 unfold st2D fl
 rw[h.cls,h.wat,h.il,h.ivi (n 23 (.inl rfl)),h.ivi (n 33 (.inr rfl))]
section
variable {S:Sig}{ρ:RH}{H:AH}
theorem srcN1 {hi:ME}{k n:Nat}(hhi:Pv S ρ H hi (.int ((n:Int)+1))) (hn:n<2000000):SrcIs S (.rng (.cst (.int 1)) hi true k) ρ H ((List.range n).map fun (i:Nat)=>[.int (1+(i:Int))]):=fun Q q=>by
 refine rUp .cst hhi ⟨by decide,by decide⟩ ⟨by lia,by lia⟩ _ (q _ fun H' x i=>?_)
 unfold Src.nextL
 dsimp only
 unfold rngUp
 rw[Zn,Zn]
 have e:((n:Int)+1 - 1).toNat=n:=by lia
 rw[e,Option.map_map]
 cases (List.range n)[i]? with
 | none=>rfl
 | some v=>simp
end
theorem ReadM.ex {H H':AH}{v:MV}{d:PyData}(h:ReadM H v d) (x:Ex H H'):ReadM H' v d:=
 ReadM.rec (H:=H) (motive_1:=fun v d _=>ReadM H' v d) (motive_2:=fun xs ds _=>All2 (ReadM H') xs ds) .none .bool .int
  (fun h _ ih=>.list (x.list h) ih) (fun h _ ih=>.tup (x.list h) ih) .nil (fun _ _ a b=>.cons a b) h
theorem Pv.neB {S:Sig}{ρ:RH}{H:AH}{a b:ME}{x y:Bool}(h1:Pv S ρ H a (.bool x)) (h2:Pv S ρ H b (.bool y)):Pv S ρ H (.cmp .NotEq a b) (.bool (x != y)):=.cmp h1 h2 fun _ q=>q
noncomputable def t_tail:MSs:=
  (.cons (.ifS (.bop false (.cmp .NotEq (.var 22) (.var 161)) (.cmp .NotEq (.attr (.var 108) 37) (.var 35))) (.cons (.ret (.cst (.bool false)))
  .nil) .nil)
  (.cons (.ifS (.bop false (.cmp .NotEq (.call 120 654 (.cons (.var 108) .nil)) (.call 120 654 (.cons (.var 44) .nil))) (.not (.mcall (.var 108) 124 .nil))) (.cons (.ret (.cst (.bool false)))
  .nil) .nil)
  (.cons (.ifS (.cmp .NotEq (.comp (.var 42) [42] (.rng (.cst (.int 1)) (.bin .Add (.var 45) (.cst (.int 1))) true 2) (.cons (.bop true (.cmp .Eq (.mcall (.var 108) 71 (.cons (.var 42) .nil)) (.cst (.int 0))) (.cmp .NotIn (.var 42) (.attr (.attr (.var 108) 17) 17))) .nil)) (.list .nil)) (.cons (.ret (.cst (.bool false)))
  .nil) .nil)
  .nil)))
theorem tail_ok {B:Base}(g:Ctx B) {d n many lap part:Nat}{since:Int}{t:Bool}{c1 c2:Addr}{ρ:RH}{H:AH}{L1:Lay}{D1:Dat}{L2:Lay}{D2:Dat}{T:Fl->RH->AH->Prop}(hd:24≤d) (C1:CoreAt c1 H L1 D1) (C2:CoreAt c2 H L2 D2) (V:PV n many lap part since D1 D2)
  (r22:ρ 22=some (.bool t)) (r161:ρ 161=some (.bool t)) (r108:ρ 108=some (.ref c1)) (r44:ρ 44=some (.ref c2)) (r35:ρ 35=some (.int (part:Int))) (r45:ρ 45=some (.int (n:Int)))
  (q:∀ H',Ex H H'->T .next ρ H'):wpL (sig B T1 d) t_tail ρ H T:=by
 unfold t_tail
 have I:=V.l1.F.I
 refine sIf (c:=false) (.or (x:=false) (.to (.neB (.var r22) (.var r161)) (by cases t<;>rfl)) (fun _=>.to (.ne (.int C1 I.scl (.var r108) (.inr ⟨by decide,by decide⟩) rfl) (.var r35)) (by rw[V.i37,decide_eq_true rfl];rfl)) nofun) nofun fun _=>sNilT ?_
 refine sIfW ?_
 refine wOr (eCmp ?_)
 refine eCall (Pvs.cons (.var r108) .nil _ (scI (state2_spec g (by lia) C1 I.scl fun t1 H1 x1 rd1=>?_)))
 refine eCall (Pvs.cons (.var r44) .nil _ (scI (state2_spec g (by lia) (x1.core C2) V.l2.F.I.scl fun t2 H2 x2 rd2=>?_)))
 rw[st2_tw V.tw] at rd2
 have x12:=x1.trans x2
 refine cNeR (rd1.ex x2) rd2 (shd_st2 D1) (shd_st2 D1) ?_
 rw[eqv_refl _ (shd_st2 D1).lay]
 refine⟨false,rfl,?_⟩
 rw[if_pos rfl]
 refine eNot (wMeth (x12.core C1) (f:=f_Trail_is_sound) (.var r108) rfl rfl .nil (is_sound_spec g (by lia) (x12.core C1) I fun H3 x3=>⟨true,rfl,false,rfl,?_⟩))
 rw[if_neg nofun]
 have x13:=x12.trans x3
 have C3:=x13.core C1
 refine sNilT (sIfW ?_)
 refine eCmp ?_
 have n8:=I.n8
 refine wCompN (srcN1 (.add (.var r45) .cst) (by lia)) (by rw[Zc,Z4];lia) (fun _=>false) (fun _ _ _=>True) (fun _ _ _ _ _ h=>h) (fun i v hv H' x=>?_) (fun i v hv hsel=>nomatch hsel) fun us b H4 x4 hb al=>?_
 ·rw[Zn] at hv
  refine xE1 (Zw.mp hv) fun k t5_0=>aE2 t5_0 fun hk e5_2=>?_
  subst e5_2
  have hk:=Yp.mp (Zg hk)
  have C5:=x.core C3
  have lu:Lt n (1+(k:Int)):=⟨by lia,by lia,by lia⟩
  refine cOneX ?_
  refine .and (.eq (.meth C5 (f:=f_Trail_value) (vs:=[.int (1+(k:Int))]) (.var (ρ:=updRs ρ [42] [.int (1+(k:Int))]) (i:=108) (v:=.ref c1) r108) rfl rfl (.cons (.var rfl) .nil) (fun Q q=>value_spec g (by lia) C5 (I.t.lv 3 (by decide) (by decide)) lu q)) .cst) (fun p=>?_) (fun _=>rfl)
  have v0:=of_decide_eq_true p
  have ze:(D1.il 3).getD (1+(k:Int)).toNat 0=0:=by
   have v0:valA (D1.il 3) (1+(k:Int))=0:=v0
   unfold valA at v0
   rwa [if_pos (by lia)] at v0
  refine xE1 (V.l1.hb.hf.u _ (by lia) (by lia) (V.l1.hb.hd _ (by lia) (by lia) ze)) fun i t6_0=>aE3 t6_0 fun _ hi e=>?_
  have c17:=C5.ct (.f 17) _ (cont_flat ⟨by decide,by decide⟩)
  rw[conv_all (fun _=>rfl)] at c17
  refine .to (.notIn (.var rfl) (.l17 C5 (.fld C5 (.var (ρ:=updRs ρ [42] [.int (1+(k:Int))]) (i:=108) (v:=.ref c1) r108) rfl rfl)) c17) (decide_eq_false fun z=>z ?_)
  rw[← e]
  unfold at17
  rw[Zb,Yh hi]
  exact List.getElem_mem hi
 ·have e:us=[]:=by
   have z:∀ l:List Nat,l.filter (fun _=>false)=[]:=fun l=>W9.mpr fun _ _ e=>Bool.false_ne_true e
   rw[z] at al
   cases al;rfl
  subst e
  have h5:upd H4 b (.list []) b=some (.list (([]:List Int).map .int)):=upd_eq
  refine wNew fun b2 hb2=>?_
  refine cNeR (rdList ((Ex.new hb2 _).list h5)) (rdList (xs:=[]) upd_eq) (shd_ints _) (shd_ints _) ?_
  rw[eqv_ints,decide_eq_true rfl]
  refine⟨false,rfl,?_⟩
  rw[if_neg nofun]
  exact sNilT (sNil (q _ (((x13.trans x4).trans (Ex.new hb _)).trans (Ex.new hb2 _))))
theorem sv_keep {op:Dat->Dat}{k:Nat}(h:∀ D x,op (D.setV k x)=(op D).setV k x) (D:Dat):(op D).iv k=D.iv k:=by
 have e:D.setV k (D.iv k)=D:=by
  cases D
  unfold Dat.setV
  dsimp only
  congr 1
  funext m
  unfold fu
  split
  ·rename_i q;rw[q]
  ·rfl
 have z:(op (D.setV k (D.iv k))).iv k=D.iv k:=by
  rw[h]
  show fu (op D).iv k (D.iv k) k=_
  exact fu_eq
 rwa [e] at z
theorem dec_iv (D:Dat) (l:Int) {k:Nat}(h:k=31∨k=35∨k=36∨k=37):ivi (decD2 D l) k=ivi D k:=by
 unfold ivi
 rw[sv_keep (op:=fun D=>decD2 D l) (fun D x=>decD2_sv (by lia) (by lia) D l) D]
theorem can_iv (D:Dat) (m:Nat) {k:Nat}(h:k=31∨k=35∨k=36∨k=37):ivi (cancelD D m) k=ivi D k:=by
 unfold ivi
 rw[sv_keep (op:=fun D=>cancelD D m) (fun D x=>cancel_sv (by lia) (by lia) D m) D]
theorem for_iv (D:Dat) (ws:List Int) {k:Nat}(h:k=31∨k=35∨k=36∨k=37):ivi (forgetD D ws) k=ivi D k:=by
 unfold ivi
 rw[sv_keep (op:=fun D=>forgetD D ws) (fun D x=>forget_sv (by lia) (by lia) D ws) D]
noncomputable def decX (D:Dat) (l:Int):Dat:=if val D l=0 then decD2 D l else D
theorem decX_iv (D:Dat) (l:Int) {k:Nat}(h:k=31∨k=35∨k=36∨k=37):ivi (decX D l) k=ivi D k:=by
 unfold decX
 split
 ·exact dec_iv D l h
 ·rfl
theorem LQ.decX {n:Nat}{D:Dat}(P:LQ n D) {l:Int}(hl:Lt n l):LQ n (decX D l)∧(Mine.decX D l).cls.length=D.cls.length∧((Mine.decX D l).il 9).length≤(D.il 9).length+1:=by
 unfold Mine.decX
 split
 ·rename_i v
  refine hide fun R done=>?_
  refine aE2 (P.decD2 hl v) fun a b=>?_
  refine aE3 (P.dec2 hl v) fun x y _=>?_
  refine done ?_
  refine (aI3 a b ?_)
  have e:((decD (dec2A D l) l).1.il 9).length=(D.il 9).length+1:=by rw[y,Zd];rfl
  unfold Mine.decD2
  split
  ·exact Y9 e
  ·refine aE6 (x.F.I.cancel2 x.hb (((decD (dec2A D l) l).1.il 9).length - 1)) fun _ _ _ _ _ f=>?_
   rw[f,Xq];exact Zf (Nat.min_le_right _ _) (Y9 e)
 ·exact (aI3 P rfl (Xc _))
theorem Tw.decX {D D':Dat}(h:Tw D D') (l:Int):Tw (decX D l) (Mine.decX D' l):=by
 have e:val D' l=val D l:=by show valA _ l=valA _ l;rw[h.il]
 unfold Mine.decX
 rw[e]
 split
 ·exact h.dec l
 ·exact h
section
variable {n many lap part:Nat}{since:Int}{D1 D2:Dat}
theorem PV.count (V:PV n many lap part since D1 D2) (z:Int):PV n many lap part (since+z) (D1.setV 31 (.int (ivi D1 31+z))) D2:=by
 have v:∀ c,c≠31->ivi (D1.setV 31 (.int (ivi D1 31+z))) c=ivi D1 c:=fun c h=>ivi_ne h
 have v31:ivi (D1.setV 31 (.int (ivi D1 31+z))) 31=ivi D1 31+z:=by
  unfold ivi
  rw[show (D1.setV 31 (.int (ivi D1 31+z))).iv 31=.int (ivi D1 31+z) from (show fu D1.iv 31 _ 31=_ from fu_eq)]
  rfl
 have c:=V.c
 exact⟨V.l1.iv (.inl rfl),V.l2,V.tw.setl (.inr (.inl rfl)),V.m,by rw[v31,v 36 (by decide)];lia,by rw[v 35 (by decide)];exact V.i35,by rw[v 37 (by decide)];exact V.i37,V.dp⟩
theorem PV.skip (V:PV n many lap part since D1 D2):PV n many (lap+1) part since D1 D2:=⟨V.l1,V.l2,V.tw,V.m,V.c,V.i35,V.i37,Nat.le_succ_of_le V.dp⟩
theorem PV.dec (V:PV n many lap part since D1 D2) {l:Int}(hl:Lt n l):PV n many (lap+1) part since (decX D1 l) (decX D2 l):=by
 refine aE3 (V.l1.decX hl) fun a b c=>?_
 have dp:=V.dp
 exact⟨a,(V.l2.decX hl).1,V.tw.decX l,by rw[b];exact V.m,by rw[decX_iv _ _ (.inl rfl),decX_iv _ _ (.inr (.inr (.inl rfl)))];exact V.c,by rw[decX_iv _ _ (.inr (.inl rfl))];exact V.i35,by rw[decX_iv _ _ (.inr (.inr (.inr rfl)))];exact V.i37,by lia⟩
theorem PV.rest (V:PV n many lap part since D1 D2):PV n many lap (part+1) 0 (cancelD (restD D1) 0) (cancelD D2 0):=by
 have P:LQ n (restD D1):=((V.l1.iv (.inr (.inl rfl))).iv (.inr (.inr (.inl rfl)))).iv (.inr (.inr (.inr rfl)))
 have t:Tw (restD D1) D2:=((V.tw.setl (.inr (.inr (.inl rfl)))).setl (.inr (.inr (.inr (.inl rfl))))).setl (.inr (.inr (.inr (.inr rfl))))
 refine aE6 (P.F.I.cancel2 P.hb 0) fun _ _ c _ _ f=>?_
 have e35:ivi (restD D1) 35=ivi D1 35+1:=rfl
 have e36:ivi (restD D1) 36=ivi D1 31:=rfl
 have e37:ivi (restD D1) 37=ivi D1 37+1:=rfl
 have e31:ivi (restD D1) 31=ivi D1 31:=rfl
 have i35:=V.i35
 have i37:=V.i37
 exact⟨P.cancel 0,V.l2.cancel 0,t.cancel 0,by rw[c];exact V.m,by rw[can_iv _ _ (.inl rfl),can_iv _ _ (.inr (.inr (.inl rfl))),e31,e36];lia,by rw[can_iv _ _ (.inr (.inl rfl)),e35];lia,by rw[can_iv _ _ (.inr (.inr (.inr rfl))),e37];lia,by rw[f];exact Z2 _⟩
theorem PV.forget (V:PV n many lap part since D1 D2) {ws vs:List Int}(hw:SrtW D1 (candL D1 D1.cls.length) ws) (hv:SrtW D2 (candL D2 D2.cls.length) vs):PV n many lap part since (forgetD D1 ws) (forgetD D2 vs):=by
 refine aE3 (V.l1.forget hw) fun a b c=>?_
 exact⟨a,(V.l2.forget hv).1,V.tw.forget hw hv,by rw[c];exact V.m,by rw[for_iv _ _ (.inl rfl),for_iv _ _ (.inr (.inr (.inl rfl)))];exact V.c,by rw[for_iv _ _ (.inr (.inl rfl))];exact V.i35,by rw[for_iv _ _ (.inr (.inr (.inr rfl)))];exact V.i37,by rw[b];exact V.dp⟩
theorem PV.start {t t':MV}{cs:List (List Int)}{room:Int}(hr:0≤room) (h1:BQ n cs.length (cs.foldl clD (vD t n))) (h2:BQ n cs.length (cs.foldl clD (vD t' n))):PV n cs.length 0 0 0 (coreD t n cs room) (coreD t' n cs room):=by
 refine hide fun R done=>?_
 refine aE4 (h1.fin hr) fun a b c d=>?_
 refine done ?_
 exact⟨a,(h2.fin hr).1,coreD_tw t t' n cs room,b,by show ivi (coreD t n cs room) 31 - ivi (coreD t n cs room) 36=0;unfold coreD;rw[d 31 (.inl rfl),d 36 (.inr (.inr (.inl rfl)))];rfl,d 35 (.inr (.inl rfl)),d 37 (.inr (.inr (.inr rfl))),by unfold coreD;rw[c];exact Zk _⟩
end
theorem LQ.can {n:Nat}{D:Dat}(P:LQ n D):Shp n D∧(D.il 17).length+(D.il 8).length<800∧(∀ l∈D.il 8,Lt n l)∧(∀ s∈D.il 9,0≤s∧s≤(D.il 8).length)∧Two n D.cls∧∀ xs∈D.wat,xs.length≤900:=by
 have I:=P.F.I
 have a:=I.t.len
 have b:=HF.len P.hb.ok P.hb.hf
 have c:=I.n8
 refine (aI6 ⟨I.t.lv,I.w.lw⟩ (by lia) I.t.tr I.t.st3 (fun j xs e=>?_) (fun xs hx=>?_))
 ·have C:=I.w.cl j xs e
  match xs,C with
  | x0::x1::r,C=>exact (xI3 x0 x1 r (aI3 rfl (C.lt _ (.head _)) (C.lt _ (.tail _ (.head _)))))
  | [],C=>exact absurd C.two (by simp)
  | [_],C=>exact absurd C.two (by simp)
 ·have:=I.w.len hx
  have:=I.sz
  lia
noncomputable def t_mid:MSs:=
  (.cons (.asgT [(.name 22),(.name 161)] (.tup (.cons (.mcall (.var 108) 162 .nil) (.cons (.cmp .GtE (.var 157) (.bin .Mult (.cst (.int 32)) (.sub (.var 117) (.var 35)))) .nil))))
  (.cons (.ifS (.var 161) (.cons (.expr (.mcall (.var 44) 74 (.cons (.cst (.int 0)) .nil)))
  (.cons (.asgT [(.name 157),(.name 35)] (.tup (.cons (.cst (.int 0)) (.cons (.bin .Add (.var 35) (.cst (.int 1))) .nil))))
  .nil)) (.cons (.ifS (.cmp .GtE (.attr (.var 44) 23) (.attr (.var 44) 33)) (.cons (.expr (.mcall (.var 44) 122 .nil))
  .nil) .nil)
  .nil))
  t_tail))
section
variable {p cl c1 c2 rw:Addr}{vs:List Int}{bud:Nat}{W:Addr->Prop}{H0 H:AH}{L1:Lay}{D1:Dat}{L2:Lay}{D2:Dat}
theorem rest_ok {B:Base}(g:Ctx B) {d n many lap part:Nat}{since:Int}{ρ:RH}{T:Fl->RH->AH->Prop}(hd:24≤d) (w:TW p cl c1 c2 vs bud W H0 H L1 D1 L2 D2) (V:PV n many lap part since D1 D2)
  (hw:W rw) (hrw:H0 rw=some (.list ((rowL 3).map .int))) (hp:part<12)
  (r108:ρ 108=some (.ref c1)) (r44:ρ 44=some (.ref c2)) (r117:ρ 117=some (.ref rw)) (r157:ρ 157=some (.int since)) (r35:ρ 35=some (.int (part:Int))) (r45:ρ 45=some (.int (n:Int)))
  (q:∀ ρ' H' L1' D1' L2' D2' part' since',part'≤part+1->(∀ i,i≠22->i≠161->i≠157->i≠35->ρ' i=ρ i)->ρ' 157=some (.int since')->ρ' 35=some (.int (part':Nat))->TW p cl c1 c2 vs bud W H0 H' L1' D1' L2' D2'->PV n many lap part' since' D1' D2'->T .next ρ' H'):wpL (sig B T1 d) t_mid ρ H T:=by
 unfold t_mid
 refine hide fun R done=>?_
 refine aE6 V.l1.can fun s1 s2 s3 s4 s5 s6=>?_
 refine aE6 V.l2.can fun u1 u2 u3 u4 u5 u6=>?_
 refine done ?_
 have P:=V.l1.F
 have P2:=V.l2.F
 have sz:=P.I.sz
 have sz2:=P2.I.sz
 have cs:=V.c
 have due:∀ {H' L1' D1' L2' D2'},TW p cl c1 c2 vs bud W H0 H' L1' D1' L2' D2'->Pv (sig B T1 d) ρ H' (.cmp .GtE (.var 157) (.bin .Mult (.cst (.int 32)) (.sub (.var 117) (.var 35)))) (.bool (decide (32*(lub part:Int)≤since))):=fun w'=>by
  refine hide fun R done=>?_
  refine aE4 (w'.fr rw hw) fun _ _ e _=>?_
  refine done ?_
  refine .ge (.var r157) (.mul .cst (.sub (.var r117) (.var r35) (seqL (e.trans hrw)) ?_) (.inl (by decide)))
  rw[getAt_map (Zj _) (by rw[c_row];exact Zx.mpr (Ya hp (by decide))),Ym,c_lub part hp]
 refine sAsgT ?_
 refine eTup (esCons ?_)
 refine wMeth w.C1 (f:=f_SatCore_pause) (vs:=[]) (.var r108) rfl rfl .nil (pause_spec g (by lia) w.C1 P.I.scl V.i35 hp s1 V.l1.hb.ok s2 s3 s4 s5 P.h11 P.h12 (by lia) s6 (fun z H1 L1' C1 S1=>?_) (fun z y ws H1 L1' hws C1 S1=>?_) (fun z y H1 C1 S1=>?_))
 ·rw[cs] at z
  have w1:=w.core1 C1 S1
  refine esCons (due w1 _ (esNil fun t ht=>?_))
  have w2:=w1.ex (Ex.new ht (.tup [.bool true,.bool (decide (32*(lub part:Int)≤since))]))
  refine (xI2 t _ (aI4 rfl upd_eq rfl (asCons (aName (asCons (aName (asNil ?_)))))))
  rw[decide_eq_true z] at w2 ⊢
  generalize upd H1 t (.tup [.bool true,.bool true])=H2 at w2
  refine sIf (c:=true) (.var rfl) (fun _=>?_) nofun
  refine sExpr (wMeth w2.C2 (f:=f_Trail_cancel_until) (vs:=[.int ((0:Nat):Int)]) (.var r44) rfl rfl (.cons .cst .nil) ?_)
  refine cancel_until_spec g (by lia) w2.C2 P2.I.scl u1 V.l2.hb.ok u2 u3 u4 fun H3 L3 C3 S3=>⟨nofun,?_⟩
  have w3:=w2.core2 C3 S3
  refine sAsgT (wTup (.cons .cst (.cons (.add (.var r35) .cst) .nil)) fun t2 ht2=>(xI2 t2 _ (aI4 rfl upd_eq rfl (asCons (aName (asCons (aName (asNil ?_))))))))
  have w4:=w3.ex (Ex.new ht2 (.tup [.int 0,.int ((part:Int)+1)]))
  have V4:=V.rest
  refine sNilT (tail_ok g hd w4.C1 w4.C2 V4 (t:=true) rfl rfl r108 r44 rfl r45 fun H5 x5=>?_)
  refine q _ _ _ _ _ _ (part+1) 0 (Zk _) (fun i h1 h2 h3 h4=>?_) rfl rfl (w4.ex x5) V4
  unfold updR
  rw[if_neg h4,if_neg h3,if_neg h2,if_neg h1]
 ·rw[cs] at z
  have w1:=w.core1 C1 S1
  refine esCons (due w1 _ (esNil fun t ht=>?_))
  have w2:=w1.ex (Ex.new ht (.tup [.bool false,.bool (decide (32*(lub part:Int)≤since))]))
  refine (xI2 t _ (aI4 rfl upd_eq rfl (asCons (aName (asCons (aName (asNil ?_)))))))
  rw[decide_eq_false z] at w2 ⊢
  generalize upd H1 t (.tup [.bool false,.bool false])=H2 at w2
  refine sIf (c:=false) (.var rfl) nofun fun _=>?_
  have e23:ivi D2 23=ivi D1 23:=V.tw.ivi (by unfold eye;decide)
  have e33:ivi D2 33=ivi D1 33:=V.tw.ivi (by unfold eye;decide)
  refine sIf (c:=true) (.to (.ge (.int w2.C2 P2.I.scl (.var r44) (.inl ⟨by decide,by decide⟩) rfl) (.int w2.C2 P2.I.scl (.var r44) (.inr ⟨by decide,by decide⟩) rfl)) (by rw[e23,e33];exact decide_eq_true y)) (fun _=>?_) nofun
  refine sExpr (wMeth w2.C2 (f:=f_SatCore_forget) (.var r44) rfl rfl .nil ?_)
  refine forget_spec g (by lia) w2.C2 P2.I.scl u1 u5 P2.h11 P2.h12 (by lia) u6 fun vs' H3 L3 hvs C3 S3=>⟨nofun,?_⟩
  have w3:=w2.core2 C3 S3
  have V3:=V.forget hws hvs
  refine sNilT (sNilT (tail_ok g hd w3.C1 w3.C2 V3 (t:=false) rfl rfl r108 r44 r35 r45 fun H5 x5=>?_))
  refine q _ _ _ _ _ _ part since (Xc _) (fun i h1 h2 h3 h4=>?_) r157 r35 (w3.ex x5) V3
  unfold updR
  rw[if_neg h2,if_neg h1]
 ·rw[cs] at z
  have w1:=w.core1 C1 S1
  refine esCons (due w1 _ (esNil fun t ht=>?_))
  have w2:=w1.ex (Ex.new ht (.tup [.bool false,.bool (decide (32*(lub part:Int)≤since))]))
  refine (xI2 t _ (aI4 rfl upd_eq rfl (asCons (aName (asCons (aName (asNil ?_)))))))
  rw[decide_eq_false z] at w2 ⊢
  generalize upd H1 t (.tup [.bool false,.bool false])=H2 at w2
  refine sIf (c:=false) (.var rfl) nofun fun _=>?_
  have e23:ivi D2 23=ivi D1 23:=V.tw.ivi (by unfold eye;decide)
  have e33:ivi D2 33=ivi D1 33:=V.tw.ivi (by unfold eye;decide)
  refine sIf (c:=false) (.to (.ge (.int w2.C2 P2.I.scl (.var r44) (.inl ⟨by decide,by decide⟩) rfl) (.int w2.C2 P2.I.scl (.var r44) (.inr ⟨by decide,by decide⟩) rfl)) (by rw[e23,e33];exact decide_eq_false y)) nofun fun _=>?_
  refine sNilT (sNilT (tail_ok g hd w2.C1 w2.C2 V (t:=false) rfl rfl r108 r44 r35 r45 fun H5 x5=>?_))
  refine q _ _ _ _ _ _ part since (Xc _) (fun i h1 h2 h3 h4=>?_) r157 r35 (w2.ex x5) V
  unfold updR
  rw[if_neg h2,if_neg h1]
end
noncomputable def t_lap:MSs:=
 (.cons (.asg (.name 159) (.sub (.glob 160 (.ref 614)) (.call 154 621 (.cons (.var 153) (.cons (.cst (.int 8)) .nil)))))
  (.cons (.asg (.name 54) (.bin .Mult (.bin .Add (.cst (.int 1)) (.call 154 621 (.cons (.var 153) (.cons (.var 45) .nil)))) (.bin .Sub (.cst (.int 1)) (.bin .Mult (.cst (.int 2)) (.call 154 621 (.cons (.var 153) (.cons (.cst (.int 2)) .nil)))))))
  (.cons (.asgT [(.name 157),(.attr (.var 108) 31)] (.tup (.cons (.bin .Add (.var 157) (.var 159)) (.cons (.bin .Add (.attr (.var 108) 31) (.var 159)) .nil))))
  (.cons (.ifS (.cmp .Gt (.call 154 621 (.cons (.var 153) (.cons (.cst (.int 3)) .nil))) (.cst (.int 0))) (.cons (.expr (.call 136 647 (.cons (.var 108) (.cons (.var 54) .nil))))
  (.cons (.expr (.call 136 647 (.cons (.var 44) (.cons (.var 54) .nil))))
  .nil)) .nil)
  t_mid))))
section
variable {p cl c1 c2 rw:Addr}{vs:List Int}{bud:Nat}{W:Addr->Prop}{H0 H:AH}{L1:Lay}{D1:Dat}{L2:Lay}{D2:Dat}
theorem cGtI {H:AH}{Q:MV->AH->Prop}{i j:Int}(q:Q (.bool (decide (j<i))) H):wpCmp .Gt (.int i) (.int j) H Q:=q
theorem lap_ok {B:Base}(g:Ctx B) {d n many lap part:Nat}{since:Int}{pn:List Int}{ρ:RH}{T:Fl->RH->AH->Prop}(hd:40≤d) (w:TW p cl c1 c2 vs (bud+4) W H0 H L1 D1 L2 D2) (V:PV n many lap part since D1 D2)
  (hw:W rw) (hrw:H0 rw=some (.list ((rowL 3).map .int))) (hg:W 614) (hg2:H0 614=some (.tup (pn.map .int))) (hpn:pn.length=8) (hp:part<12) (hlap:lap<800)
  (r153:ρ 153=some (.ref p)) (r108:ρ 108=some (.ref c1)) (r44:ρ 44=some (.ref c2)) (r117:ρ 117=some (.ref rw)) (r157:ρ 157=some (.int since)) (r35:ρ 35=some (.int (part:Int))) (r45:ρ 45=some (.int (n:Int)))
  (q:∀ ρ' H' L1' D1' L2' D2' part' since',part'≤part+1->ρ' 153=some (.ref p)->ρ' 108=some (.ref c1)->ρ' 44=some (.ref c2)->ρ' 117=some (.ref rw)->ρ' 45=some (.int (n:Int))->ρ' 157=some (.int since')->ρ' 35=some (.int (part':Nat))->TW p cl c1 c2 vs bud W H0 H' L1' D1' L2' D2'->PV n many (lap+1) part' since' D1' D2'->T .next ρ' H'):wpL (sig B T1 d) t_lap ρ H T:=by
 unfold t_lap
 have n1:=V.l1.F.I.n1
 have n8:=V.l1.F.I.n8
 refine sAsg (eSub (Pv.glob _ ?_))
 refine TW.draw g (m:=8) (by lia) w (.var r153) .cst (by decide) (by decide) fun r H1 hr w1=>?_
 refine aE4 (w1.fr 614 hg) fun _ _ e614 _=>?_
 refine (xI4 614 r (pn.map .int) (.int (pn.getD r 0)) (aI5 rfl rfl (by unfold seqAt;rw[e614,hg2]) ?_ ?_))
 ·rw[getAt_map (Zj _) (by lia),Ym]
 generalize pn.getD r 0=z
 show wpL _ _ (updR ρ 159 (.int z)) H1 _
 refine sAsg (TW.lit (ρ:=updR ρ 159 (.int z)) (bud:=bud+1) g (by lia) w1 n1 n8 r153 r45 fun lit H2 hl w2=>?_)
 show wpL _ _ (updR (updR ρ 159 (.int z)) 54 (.int lit)) H2 _
 have I:=V.l1.F.I
 refine sAsgT (wTup (.cons (.add (.var (ρ:=updR (updR ρ 159 (.int z)) 54 (.int lit)) (i:=157) r157) (.var rfl)) (.cons (.add (.int w2.C1 I.scl (.var (ρ:=updR (updR ρ 159 (.int z)) 54 (.int lit)) (i:=108) r108) (.inr ⟨by decide,by decide⟩) rfl) (.var rfl)) .nil)) fun t ht=>(xI2 t _ (aI4 rfl upd_eq rfl (asCons (aName (asCons ?_))))))
 have w3:=w2.ex (Ex.new ht (.tup [.int (since+z),.int (ivi D1 31+z)]))
 refine aPutV w3.C1 (.var (i:=108) r108) ⟨by decide,by decide⟩ rfl rfl fun H4 C4 S4=>asNil ?_
 have w4:=w3.core1 C4 S4
 have V4:=V.count z
 generalize D1.setV 31 (.int (ivi D1 31+z))=D4 at V4 w4
 refine sIfWJ (fun H'=>∃ L1 D1 L2 D2,TW p cl c1 c2 vs bud W H0 H' L1 D1 L2 D2∧PV n many (lap+1) part (since+z) D1 D2) (fun H' h=>?_) fun kk=>?_
 ·refine xE4 h fun L1 D1 L2 D2 t1_0=>aE2 t1_0 fun w5 V5=>?_
  refine rest_ok g (by lia) w5 V5 hw hrw hp r108 r44 r117 rfl r35 r45 fun ρ' H' L1' D1' L2' D2' part' since' hp' hρ h157 h35 w6 V6=>?_
  exact q ρ' H' L1' D1' L2' D2' part' since' hp' ((hρ 153 (by decide) (by decide) (by decide) (by decide)).trans r153) ((hρ 108 (by decide) (by decide) (by decide) (by decide)).trans r108) ((hρ 44 (by decide) (by decide) (by decide) (by decide)).trans r44) ((hρ 117 (by decide) (by decide) (by decide) (by decide)).trans r117) ((hρ 45 (by decide) (by decide) (by decide) (by decide)).trans r45) h157 h35 w6 V6
 ·refine eCmp ?_
  refine TW.draw g (m:=3) (by lia) w4 (.var (i:=153) r153) .cst (by decide) (by decide) fun x H5 hx w5=>Pv.cst _ (cGtI ?_)
  refine⟨_,rfl,?_⟩
  by_cases c:(0:Int)<x
  ·rw[if_pos (decide_eq_true c)]
   have dp:=V4.dp
   refine sExpr (eCall (Pvs.cons (.var (ρ:=(updR (updR (updR ρ 159 (.int z)) 54 (.int lit)) 157 (.int (since+z)))) (i:=108) (v:=.ref c1) r108) (.cons (.var (v:=.int lit) rfl) .nil) _ (scI (decided2_spec g hd w5.C1 V4.l1 hl (by lia) fun H6 L6 C6 S6=>⟨nofun,?_⟩))))
   have w6:TW p cl c1 c2 vs bud W H0 H6 L6 (decX D4 lit) L2 D2:=w5.core1 C6 S6
   refine sExpr (eCall (Pvs.cons (.var (ρ:=(updR (updR (updR ρ 159 (.int z)) 54 (.int lit)) 157 (.int (since+z)))) (i:=44) (v:=.ref c2) r44) (.cons (.var (v:=.int lit) rfl) .nil) _ (scI (decided2_spec g hd w6.C2 V4.l2 hl (by rw[V4.tw.il];lia) fun H7 L7 C7 S7=>⟨nofun,?_⟩))))
   have w7:TW p cl c1 c2 vs bud W H0 H7 L6 (decX D4 lit) L7 (decX D2 lit):=w6.core2 C7 S7
   exact kk H7 (xI4 L6 _ L7 _ ⟨w7,V4.dec hl⟩)
  ·rw[if_neg (by rw[decide_eq_true_eq];exact c)]
   exact kk H5 (xI4 L1 D4 L2 D2 ⟨w5,V4.skip⟩)
end
theorem sForRng {S:Sig}{ρ:RH}{H:AH}{R:Fl->RH->AH->Prop}{x n:Nat}{lo hi:ME}{b r:MSs}(h:wpE S lo ρ H fun u H=>wpE S hi ρ H fun v H=>∃ i j,u=.int i∧v=.int j∧small i∧small j∧ForGo S x b (thenL S r R) ρ (.ints (rngUp i j)) H):wpL S (.cons (.forS x (.rng lo hi true n) b) r) ρ H R:=h
theorem goN {S:Sig}{ρ:RH}{H:AH}{R:Fl->RH->AH->Prop}{x n:Nat}{b r:MSs}(hn:n<2000000) (I:Nat->RH->AH->Prop) (h0:I 0 ρ H)
  (step:∀ i ρ H,i<n->I i ρ H->wpL S b (updR ρ x (.int (i:Int))) H (turn S r R (I (i+1)))) (done:∀ ρ H,I n ρ H->wpL S r ρ H R):∃ i j,MV.int 0=.int i∧MV.int (n:Int)=.int j∧small i∧small j∧ForGo S x b (thenL S r R) ρ (.ints (rngUp i j)) H:=by
 have hl:(rngUp 0 (n:Int)).length=n:=by unfold rngUp;rw[Zc,Z4];exact rfl
 refine⟨0,n,rfl,rfl,⟨by decide,by decide⟩,small_nat hn,fun i ρ H=>i≤n∧I i ρ H,n,⟨Z2 _,h0⟩,fun i ρ H h=>⟨h.1,?_⟩⟩
 obtain ⟨hi,h⟩:=h
 unfold Src.next
 dsimp only
 cases q:(rngUp 0 (n:Int))[i]? with
 | none=>
  have:=Yr.mp q
  have:i=n:=by lia
  subst this
  exact done ρ H h
 | some y=>
  have hlt:=(Za.mp q).1
  rw[hl] at hlt
  refine aE2 (rngUp_at q) fun e _=>?_
  have e:y=(i:Int):=by lia
  subst e
  have:=step i ρ H hlt h
  refine (congrArg (wpL S b _ _) ?_).mp this
  funext fl ρ H
  induction fl using Mine.Fl.casesOn with
  | next=>exact propext ⟨fun z=>⟨hlt,z⟩,fun z=>z.2⟩
  | cont=>exact propext ⟨fun z=>⟨hlt,z⟩,fun z=>z.2⟩
  | brk=>rfl
  | ret v=>rfl
noncomputable abbrev isTrue_:Fl->RH->AH->Prop:=fun fl _ _=>fl=.ret (.bool true)
theorem pot_ok {B:Base}{d:Nat}{sc:Addr}{vs:List Int}{ρ:RH}{H:AH}{Q:MV->AH->Prop}(r127:ρ 127=some (.ref sc)) (hs:H sc=some (.ro (vs.map .int)))
  (q:∀ p cl ws H',PotAt p cl ws 100000 H'->Ex H H'->H p=none->Q (.ref p) H') :
  wpE (sig B T1 d) (.dict2 (.comp (.bcall 128 .int (.cons (.var 129) .nil)) [129] (.seq (.sliceTo (.var 127) (.cst (.int 60)))) .nil) (.cst (.int 0))) ρ H Q:=by
 refine eDict ?_
 refine eComp (eSeq (eSTo ?_))
 refine Pv.var r127 _ (Pv.cst _ (.inl (xI3 sc 60 (vs.map .int) (aI4 rfl rfl (.inr hs) (fun a ha=>?_)))))
 rw[← Vq]
 refine⟨a,rfl,.inr ⟨⟨_,upd_eq⟩,?_⟩⟩
 have hl:(vs.take 60).length≤60:=Vl ..
 refine (xI2 (fun i acc H'=>i≤(vs.take 60).length∧acc=((vs.take 60).take i).map .int∧H'=upd H a (.list ((vs.take 60).map .int))) 60 ⟨(aI3 (Z2 _) rfl rfl),fun i acc H' h=>?_⟩)
 refine hide fun R done=>?_
 obtain ⟨hi,rfl,rfl⟩:=h
 refine done ?_
 refine (aI3 (Zf hi hl) ?_ ?_)
 ·rw[Zc];exact Zf (Vl ..) (by lia)
 unfold Src.nextL
 dsimp only
 rw[upd_eq]
 dsimp only
 rw[Zn]
 cases q':(vs.take 60)[i]? with
 | none=>
  intro b hb
  have:=Yq hi (Yr.mp q')
  rw[this,Wm]
  refine Pv.cst _ fun p hpn=>?_
  have bp:b≠p:=fun e=>by rw[← e,upd_eq] at hpn;exact nsc hpn
  have x1:Ex H (upd (upd H a (.list ((vs.take 60).map .int))) b (.list ((vs.take 60).map .int))):=(Ex.new ha _).trans (Ex.new hb _)
  refine q p b (vs.take 60) _ ⟨bp,?_,0,upd_eq,Int.le_refl _,by decide⟩ (x1.trans (Ex.new hpn _)) (Classical.byContradiction fun z=>z ((x1 p z).symm.trans hpn))
  unfold seqAt
  rw[upd_ne bp,upd_eq]
 | some y=>
  dsimp only [Yx]
  refine ecNil ?_;rw[if_pos rfl]
  unfold updRs updRs
  refine eBcall ?_
  refine wEs1 (Pv.var rfl _ ?_)
  refine⟨(Za.mp q').1,?_,rfl⟩
  rw[Xt (l:=vs.take 60) (i:=i),q',X8,Yg];rfl
theorem draw_ok {B:Base}(g:Ctx B) {d bud n:Nat}{p cl:Addr}{vs:List Int}{ρ:RH}{H:AH}{Q:MV->AH->Prop}(hd:8≤d) (P:PotAt p cl vs (bud+50) H) (hn:4≤n) (hn8:n≤8) (r153:ρ 153=some (.ref p)) (r45:ρ 45=some (.int (n:Int)))
  (q:∀ a us cs H',PotAt p cl vs bud H'->(∀ z,z≠p->H z≠none->H' z=H z)->H' a=some (.list us)->All2 (fun u xs=>∃ r,u=.ref r∧r≠p∧H' r=some (.list (xs.map .int))) us cs->(∀ xs∈cs,Cl n xs)->cs.length≤7->a≠p->Q (.ref a) H') :
  wpE (sig B T1 d) (.comp (.call 133 626 (.cons (.var 153) (.cons (.var 45) .nil))) [112] (.rng (.cst (.int 0)) (.bin .Add (.cst (.int 4)) (.call 154 621 (.cons (.var 153) (.cons (.cst (.int 4)) .nil)))) true 1) .nil) ρ H Q:=by
 refine eComp (eRng ?_)
 refine Pv.cst _ (eBin (Pv.cst _ ?_))
 refine wDraw g (m:=4) (by lia) (bud:=bud+49) P (.var r153) .cst (by decide) (by decide) fun s H1 hs P1 k1 l1=>?_
 have em:(4:Int)+s=((4+s:Nat):Int):=by lia
 refine⟨0,(4+s:Nat),rfl,congrArg MV.int em,⟨by decide,by decide⟩,small_nat (by lia),?_⟩
 have m7:4+s≤7:=by lia
 generalize 4+s=many at m7
 refine⟨fun i acc H'=>∃ cs:List (List Int),cs.length=i∧i≤many∧(∀ c∈cs,Cl n c)∧All2 (fun u xs=>∃ r,u=.ref r∧r≠p∧H' r=some (.list (xs.map .int))) acc cs∧PotAt p cl vs (bud+7*(7 - i)) H'∧(∀ z,z≠p->H z≠none->H' z=H z)∧H' p≠none,many,⟨[],rfl,Z2 _,nofun,.nil,P1,fun z a b=>k1 z a,l1⟩,fun i acc H' h=>?_⟩
 refine hide fun R done=>?_
 obtain ⟨cs,hi,hi2,hcs,al,PP,kk,ll⟩:=h
 refine done ?_
 refine⟨hi2,by have:=al.length;lia,?_⟩
 unfold Src.nextL
 dsimp only
 by_cases q':i<many
 ·have hg:(rngUp 0 (many:Int))[i]?=some (i:Int):=by
   unfold rngUp
   rw[Zn,Yi q']
   simp
  rw[hg]
  dsimp only [Yx]
  refine ecNil ?_;rw[if_pos rfl]
  unfold updRs updRs
  rw[fu7 i (Zv q' m7),← Vn] at PP
  refine eCall (Pvs.cons (.var (ρ:=updR ρ 112 (.int (i:Int))) (i:=153) (v:=.ref p) r153) (.cons (.var (ρ:=updR ρ 112 (.int (i:Int))) (i:=45) (v:=.int (n:Int)) r45) .nil) _ (scI (clause_spec g hd PP hn hn8 fun lits b H2 hC P2 kb hb hbp h2=>?_)))
  refine⟨cs++[lits],by rw[Zd,hi];rfl,q',fun c hc=>?_,All2.append (al.mono fun u xs z=>?_) (.cons ⟨b,rfl,hbp,h2⟩ .nil),P2,fun z zp hz=>?_,P2.live⟩
  ·rcases Zo.mp hc with hc | hc
   ·exact hcs c hc
   ·rw[Zl.mp hc];exact hC
  ·obtain ⟨r,e1,e2,e3⟩:=z
   exact⟨r,e1,e2,(kb r e2 (fun e=>by rw[e,hb] at e3;exact ncs e3) (by rw[e3];exact nofun)).trans e3⟩
  ·have:=kk z zp hz
   exact (kb z zp (fun e=>by rw[e,hb] at this;exact hz (e▸this.symm)) (by rw[this];exact hz)).trans this
 ·have hg:(rngUp 0 (many:Int))[i]?=none:=Z1 (by unfold rngUp;rw[Zc,Z4];exact Yj.mp q')
  rw[hg]
  dsimp only [Option.map_none]
  intro a ha
  have hap:a≠p:=fun e=>ll (e▸ha)
  have x:Ex H' (upd H' a (.list acc)):=Ex.new ha _
  refine q a acc cs _ ((PP.keep (x p ll) (x cl (seqAt_live PP.hc))).weak (Wl _ _)) (fun z zp hz=>?_) upd_eq (al.mono fun u xs z=>?_) hcs (by lia) hap
  ·have:=kk z zp hz
   exact (x z (by rw[this];exact hz)).trans this
  ·obtain ⟨r,e1,e2,e3⟩:=z
   exact⟨r,e1,e2,x.list e3⟩
theorem law_walk {B:Base}(g:Ctx B) {sc:Addr}{vs:List Int}{H:AH}(hs:H sc=some (.ro (vs.map .int))) {pn:List Int}(hp:H 614=some (.tup (pn.map .int))) (hpn:pn.length=8) :
  wpL (sig B T1 44) a_law (updR (fun _=>none) 127 (.ref sc)) H isTrue_:=by
 unfold a_law
 refine sAsg (pot_ok rfl hs fun p cl ws H1 P1 x1 hpH=>?_)
 show wpL _ _ (updR _ 153 (.ref p)) _ _
 have g1:H1 614=some (.tup (pn.map .int)):=x1.list hp
 have p614:p≠614:=fun e=>by rw[e,hp] at hpH;exact nsc hpH
 refine sAsg (eBin (Pv.cst _ ?_))
 refine wDraw g (m:=3) (bud:=99999) (by decide) P1 (.var rfl) .cst (by decide) (by decide) fun r H2 hr P2 k2 _=>?_
 have g2:H2 614=some (.tup (pn.map .int)):=(k2 614 p614.symm).trans g1
 have en:(4:Int)+r=((4+r:Nat):Int):=by lia
 show wpL _ _ (updR _ 45 (.int ((4:Int)+r))) _ _
 rw[en]
 have hn:4≤4+r∧4+r≤8:=by lia
 generalize 4+r=n at hn
 obtain ⟨n4,n8⟩:=hn
 refine sAsg (draw_ok g (bud:=99949) (by decide) P2 n4 n8 rfl rfl fun a us cs H3 P3 k3 ha al hcs cl7 hap=>?_)
 show wpL _ _ (updR _ 19 (.ref a)) _ _
 have g3:H3 614=some (.tup (pn.map .int)):=(k3 614 p614.symm (by rw[g2];exact nofun)).trans g2
 refine sAsg (eBin (Pv.cst _ ?_))
 refine wDraw g (m:=6) (bud:=99948) (by decide) P3 (.var rfl) .cst (by decide) (by decide) fun x H4 hx P4 k4 _=>?_
 have g4:H4 614=some (.tup (pn.map .int)):=(k4 614 p614.symm).trans g3
 have ha4:H4 a=some (.list us):=(k4 a hap).trans ha
 have al4:All2 (fun u xs=>∃ r,u=MV.ref r∧H4 r=some (.list (xs.map .int))) us cs:=al.mono fun u xs z=>by
  refine hide fun R done=>?_
  obtain ⟨r,e1,e2,e3⟩:=z
  refine done ?_
  exact⟨r,e1,(k4 r e2).trans e3⟩
 have hr0:(0:Int)≤1+x:=by lia
 show wpL _ _ (updR _ 119 (.int ((1:Int)+x))) _ _
 generalize (1:Int)+x=room at hr0
 clear k2 k3 k4 al ha P1 P2 P3 g1 g2 g3
 refine sAsgT (eTup (esCons (eCall (Pvs.cons (.var rfl) (.cons (.var rfl) (.cons (.var rfl) .nil)) _ (scI (core_spec g (by decide) ⟨by lia,n8⟩ ha4 al4 hcs (by lia) fun t1 c1 L1 H5 b1 C1 F1=>?_))))))
 refine esCons (eCall (Pvs.cons (.var rfl) (.cons (.var rfl) (.cons (.var rfl) .nil)) _ (scI (core_spec g (by decide) ⟨by lia,n8⟩ (F1.x.list ha4) (al4.mono fun u xs z=>by obtain ⟨r,e1,e2⟩:=z;exact⟨r,e1,F1.x.list e2⟩) hcs (by lia) fun t2 c2 L2 H6 b2 C2 F2=>?_))))
 refine esNil fun tt htt=>(xI2 tt _ (aI4 rfl upd_eq rfl (asCons (aName (asCons (aName (asNil ?_)))))))
 have V:=PV.start hr0 b1 b2
 have dj:∀ b,Foot L1 (coreD t1 n cs room) b->¬Foot L2 (coreD t2 n cs room) b:=fun b f1 f2=>f1.alive C1 (F2.f b f2)
 have x6:=F1.x.trans F2.x
 have nf:∀ b,H4 b≠none->¬Foot L1 (coreD t1 n cs room) b∧¬Foot L2 (coreD t2 n cs room) b:=fun b h=>⟨fun f=>h (F1.f b f),fun f=>by
  have:=F2.f b f
  rw[F1.x b h] at this;exact h this⟩
 have x7:=x6.trans (Ex.new htt (.tup [.ref c1,.ref c2]))
 have C1:=(F2.x.trans (Ex.new htt (.tup [.ref c1,.ref c2]))).core C1
 have C2:=(Ex.new htt (.tup [.ref c1,.ref c2])).core C2
 generalize upd H6 tt (.tup [.ref c1,.ref c2])=H7 at x7 C1 C2
 refine sAsgT (eTup (esCons (eCall (Pvs.cons .cst .nil _ (scI (row_spec g (by decide) fun rw H8 x8 hrw0 hrw=>?_))))))
 refine esCons (Pv.cst _ (esCons (Pv.cst _ (esNil fun t3 ht3=>(xI2 t3 _ (aI4 rfl upd_eq rfl (asCons (aName (asCons (aName (asCons (aName (asNil ?_)))))))))))))
 have x9:Ex H7 (upd H8 t3 (.tup [.ref rw,.int 0,.int 0])):=x8.trans (Ex.new ht3 _)
 have hrw9:upd H8 t3 (.tup [.ref rw,.int 0,.int 0]) rw=some (.list ((rowL 3).map .int)):=(Ex.new ht3 (.tup [.ref rw,.int 0,.int 0])).list hrw
 generalize upd H8 t3 (.tup [.ref rw,.int 0,.int 0])=H9 at x9 hrw9
 have x49:=x7.trans x9
 have np:=nf p P4.live
 have g9:=x49.list g4
 have w:TW p cl c1 c2 ws 99948 (fun b=>b=cl∨b=rw∨b=614) H9 H9 L1 (coreD t1 n cs room) L2 (coreD t2 n cs room):=by
  refine⟨x9.core C1,x9.core C2,P4.keep (x49 p P4.live) (x49 cl (seqAt_live P4.hc)),np.1,np.2,dj,fun b h=>?_,.inl rfl⟩
  rcases h with rfl | rfl | rfl
  ·have z:=seqAt_live P4.hc
   exact (aI4 P4.ne (by rw[x49 b z];exact z) rfl (nf b z))
  ·refine (aI5 (fun e=>?_) (by rw[hrw9];exact nofun) rfl (fun f=>f.alive C1 hrw0) (fun f=>f.alive C2 hrw0))
   have:=x7 p P4.live
   rw[← e,hrw0] at this
   exact P4.live (by rw[← e];exact this.symm)
  ·exact (aI4 p614.symm (by rw[g9];exact nofun) rfl (nf 614 (by rw[g4];exact nofun)))
 clear x9 x49 x7 x8 hrw hrw0 nf np dj C1 C2 F1 F2 P4 ha4 al4 g4 b1 b2 x6
 refine sForRng (Pv.cst _ (eBin (Pv.cst _ ?_)))
 refine TW.draw g (m:=8) (bud:=99947) (by decide) w (.var rfl) .cst (by decide) (by decide) fun s H10 hs8 w10=>?_
 have em:(4:Int)+s=((4+s:Nat):Int):=by lia
 show ∃ i j,MV.int 0=.int i∧MV.int ((4:Int)+s)=.int j∧_
 rw[em]
 have hl:4+s≤11:=by lia
 generalize 4+s=laps at hl
 refine goN (n:=laps) (by lia) (fun lap ρ H'=>ρ 153=some (.ref p)∧ρ 108=some (.ref c1)∧ρ 44=some (.ref c2)∧ρ 117=some (.ref rw)∧ρ 45=some (.int (n:Int))∧∃ since part L1 D1 L2 D2,ρ 157=some (.int since)∧ρ 35=some (.int (part:Nat))∧part≤lap∧TW p cl c1 c2 ws (90000 - 4*lap) (fun b=>b=cl∨b=rw∨b=614) H9 H' L1 D1 L2 D2∧PV n cs.length lap part since D1 D2)
  (aI6 rfl rfl rfl rfl rfl (xI6 0 0 L1 _ L2 _ (aI5 rfl rfl (Zk _) (w10.weak (by decide)) V))) (fun lap ρ H' hi h=>absN fun T tn=>?_) fun ρ H' h=>sRetP .cst rfl
 refine hide fun R done=>?_
 obtain ⟨r153,r108,r44,r117,r45,since,part,L1,D1,L2,D2,r157,r35,hpart,w,V⟩:=h
 refine done ?_
 rw[fu4 lap (Zv hi hl)] at w
 exact lap_ok g (by decide) w V (.inr (.inl rfl)) hrw9 (.inr (.inr rfl)) g9 hpn (by lia) (by lia) r153 r108 r44 r117 r157 r35 r45 fun ρ' H' L1' D1' L2' D2' part' since' h1 h2 h3 h4 h5 h6 h7 h8 h9 h10=>tn (aI6 h2 h3 h4 h5 h6 (xI6 since' part' L1' D1' L2' D2' (aI5 h7 h8 (by lia) h9 h10)))
noncomputable def isIntV:Value->Bool
 | .int _ _=>true
 | _=>false
noncomputable def plainOk (K:Frag):Bool:=match K.lookup 614 with
 | some o=>decide (o.cls=.type "tuple") && (match o.data with | .seq vs _=>vs.toList.all isIntV && decide (vs.toList.length=8) | _=>false)
 | none=>false
theorem c_plain (P:Params):plainOk (hd02.heap_39 P)=true:=by kernel_rfl
noncomputable def lawChk (scope:Scope) (body:List Stmt):Bool:=decide (scope.kind=.function) && (kdF scope.names (X1.nm 127) == some .local) && (scope.names.all fun x=>x.2 != .free) && (chkS X1 (chk X1 60) (kdF scope.names) (okN X1 scope.names) 60).l a_law body
theorem plain_of:∀ {vs:List Value},vs.all isIntV=true->∃ is:List Int,vs.map strip=is.map MV.int
 | [],_=>⟨[],rfl⟩
 | v::vs,h=>by
  rw[List.all_cons,Zy] at h
  refine xE1 (plain_of h.2) fun is e=>?_
  induction v using PySem.Value.casesOn with
  | int i t=>exact⟨i::is,by rw[Z7,e];rfl⟩
  | _=>cases h.1
theorem ints_are:∀ {vs:List Value}{ns:List Int},IntsAre vs ns->vs.map strip=ns.map MV.int:=fun {vs ns} h=>by
 induction h with
 | nil=>rfl
 | cons _ _ _ ih=>rw[Z7,Z7,ih];rfl
theorem cl_of {h₀ h:Heap}{L:Addr}{cm:Str->Option Value}{names:List (Str × NameKind)}{cells:List (Addr × Obj)}(N:News h₀ L h cells) (X:CellsAre cm (cellsFrom (L+1) names []) cells):PyProof.Rows.Cl L (cellsFrom (L+1) names []) h cm:=
 PyProof.Rows.Cl.of_news (own:=[]) N X (cells_apart names (L+1) [] .nil fun _ h=>absurd h Yz) fun n c hm=>(cells_mem names (L+1) [] (n,c) hm).elim (fun h=>absurd h Yz) fun h=>h.1
theorem law_end {w:World}{s₁:Shared}{h₁:Heap}{p p':Program}{loose:List Str}{mg mb:Str->Option Value}{scope:Scope}{body:List Stmt}{nm:Str}{L fa sc:Addr}{cd:Value}{vs:List Value}{ns:List Int}{m cm:Str->Option Value}{A:Around}{tk:Nat}{Q:Flow->Shared->Prop}{E:Value->Shared->Prop}
  (hprog:p=PySem.Challenge.rw_rg0221_02.row.prog) (hchk:lawChk scope body=true) (KX:(hd02.heap_39 w.params).In s₁.heap) (T:TopRead p' loose mg mb s₁.heap) (hg:s₁.gens = #[]) (hL:s₁.heap.IsList sc vs.toArray) (hI:IntsAre vs ns) (hn:ns.length≤63) (F:Fr s₁.heap L h₁ m) (XC:PyProof.Rows.Cl L (cellsFrom (L+1) scope.names []) h₁ cm) (hm:m (X1.nm 127)=some (.ref sc)) (hA:Room 47 A) (hLs:s₁.heap.objs.size≤L)
  (q:∀ s',(∀ b o,s₁.heap.get? b=some o->s'.heap.get? b=some o)->s'.os=s₁.os->s'.gens = #[]->Q (.ret (.bool true)) s') :
  wpAny (model p w) A (execs body (envOfC nm scope L fa cd)) Q E { s₁ with heap:=h₁,toks:=tk }:=by
 subst hprog
 have hnd:nmT.Nodup:=noDup_nodup c_nodup
 let B:Base:=B1 PySem.Challenge.rw_rg0221_02.row.prog w s₁.heap s₁.os
 have good:B.Good:=⟨KX,(xI4 _ loose mg mb T),hnd⟩
 have ctx:Ctx B:=⟨good,tab1 _ _ _ _,nm1 _ _ _ _,tabs1 _ _ _ _,⟨w.params,rfl⟩,rfl⟩
 have hlv:vs.length=ns.length:=by have:=congrArg List.length (ints_are hI);rwa [Zc,Zc] at this
 refine hide fun R done=>?_
 obtain ⟨pn,items,hpt,hpi,hpl⟩ : ∃ (pn:List Int) (items:Array Value),s₁.heap.IsTuple 614 items∧items.toList.map strip=pn.map MV.int∧pn.length=8:=by
  have c:=c_plain w.params
  unfold plainOk at c
  cases ho:(hd02.heap_39 w.params).lookup 614 with
  | none=>rw[ho] at c;exact nft c
  | some o=>
   rw[ho] at c
   dsimp only at c
   rw[Zy,decide_eq_true_eq] at c
   refine aE2 c fun c1 c2=>?_
   induction hd:o.data using PySem.Data.casesOn with
   | seq xs k=>
    rw[hd] at c2
    dsimp only at c2
    rw[Zy,decide_eq_true_eq] at c2
    refine xE1 (plain_of c2.1) fun is e=>?_
    refine⟨is,xs,⟨o,KX _ _ ho,c1,k,hd⟩,e,?_⟩
    have:=congrArg List.length e
    rw[Zc,Zc] at this
    omega
   | _=>rw[hd] at c2;exact nft c2
 refine xE1 hL fun osc t3_0=>aE3 t3_0 fun hosc hcl t3_1=>xE1 t3_1 fun kn hdt=>?_
 refine xE1 hpt fun opl t4_0=>aE3 t4_0 fun hopl hpcl t4_1=>xE1 t4_1 fun kp hpdt=>?_
 refine done ?_
 have ne:sc≠614:=fun e=>by rw[e,hopl] at hosc;have hosc:=Option.some.inj hosc;subst hosc;exact absurd (hcl.symm.trans hpcl) (by decide)
 let H:AH:=fun b=>if b=sc then some (.ro (ns.map .int)) else if b=614 then some (.tup (pn.map .int)) else none
 have Hs:H sc=some (.ro (ns.map .int)):=if_pos rfl
 have Hp:H 614=some (.tup (pn.map .int)):=by show ite _ _ _=_;rw[if_neg ne.symm,if_pos rfl]
 have Hn:∀ b,b≠sc->b≠614->H b=none:=fun b h1 h2=>by show ite _ _ _=_;rw[if_neg h1,if_neg h2]
 have hLn:H L=none:=Hn L (fun e=>absurd (Yn hosc) (Yj.mpr (e▸hLs))) (fun e=>absurd (Yn hopl) (Yj.mpr (e▸hLs)))
 have bLn:s₁.heap.get? L=none:=Z9 hLs
 refine hide fun R done=>?_
 refine xE3 F.ns fun oL esL epL t5_0=>aE2 t5_0 fun hoL rL=>?_
 have k:Ok B H { s₁ with heap:=h₁,toks:=tk }:=by
  refine⟨fun b o e=>?_,hg,rfl,F.keep,fun b z=>?_⟩
  ·by_cases q1:b=sc
   ·subst q1
    rw[Hs] at e;have e:=Option.some.inj e;subst e
    exact⟨vs.toArray,⟨osc,F.keep _ _ hosc,hcl,kn,hdt⟩,ints_are hI,by rw[Zc];unfold LIM;omega⟩
   ·by_cases q2:b=614
    ·subst q2
     rw[Hp] at e;have e:=Option.some.inj e;subst e
     exact⟨items,⟨opl,F.keep _ _ hopl,hpcl,kp,hpdt⟩,hpi,by rw[Zc];unfold LIM;omega⟩
    ·rw[Hn b q1 q2] at e;exact ncs e
  ·by_cases q1:b=sc
   ·rw[q1,Hs] at z;exact z.elim
   ·by_cases q2:b=614
    ·rw[q2,Hp] at z;exact z.elim
    ·rw[Hn b q1 q2] at z;exact z.elim
 unfold lawChk at hchk
 rw[Zy,Zy,Zy,decide_eq_true_eq,beq_iff_eq,Z8] at hchk
 refine aE2 hchk fun p6_0 hk4=>?_
 refine aE2 p6_0 fun p0b_0 hk3=>?_
 obtain ⟨hk1,hk2⟩:=p0b_0
 refine done ?_
 have hkind:∀ x,(envOfC nm scope L fa cd).kindOf x=kdF scope.names x:=fun x=>(kdF_eq scope.names x).symm
 have nof:∀ y,¬(envOfC nm scope L fa cd).kindOf y=some .free:=fun y z=>by
  have hk:(envOfC nm scope L fa cd).kindOf y=scope.names.lookup y:=rfl
  rw[hk] at z
  have:=hk3 _ (mem_of_lookupK z)
  simp at this
 have hcel:∀ x,(envOfC nm scope L fa cd).kindOf x=some .cell->∃ c,(envOfC nm scope L fa cd).cells.lookup x=some c:=fun x z=>by
  refine xE1 (cells_has scope.names (L+1) [] x (mem_of_lookupK z)) fun c hc=>?_
  exact lookup_of_key hc
 have cab:∀ x c,(envOfC nm scope L fa cd).cells.lookup x=some c->L<c:=fun x c hc=>XC.above x c (mem_of_lookup hc)
 have Hab:∀ c,L≤c->H c=none:=fun c h=>Hn c (fun e=>absurd (Yn hosc) (Yj.mpr (Zf hLs (e▸h)))) (fun e=>absurd (Yn hopl) (Yj.mpr (Zf hLs (e▸h))))
 have FF:FrOK B (envOfC nm scope L fa cd) (updR (fun _=>none) 127 (.ref sc)) H h₁:=by
  refine⟨hk1,rfl,rfl,⟨m,⟨oL,esL,epL,hoL,rL⟩,fun i v e hi=>?_⟩,hLn,fun x c hc=>⟨Hab c (Yl (cab x c hc)),_,XC.cell x c hc⟩,fun x x' c hc hc'=>name_of_addr XC.apart (mem_of_lookup hc) (mem_of_lookup hc'),fun x hx=>hx.elim (hcel x) fun z=>absurd z (nof x)⟩
  unfold updR at e
  by_cases q1:i=127
  ·subst q1
   rw[if_pos rfl] at e
   have e:=Option.some.inj e;subst e
   refine⟨fun _=>⟨.ref sc,hm,rfl⟩,fun z=>?_⟩
   have hl:(envOfC nm scope L fa cd).kindOf (B.nm 127)=some .local:=(hkind _).trans hk2
   rw[hl] at z
   rcases z with z | z<;>cases z
  ·rw[if_neg q1] at e;exact ncs e
 have O:Own B (envOfC nm scope L fa cd) (ownC (envOfC nm scope L fa cd)) H h₁:=by
  refine⟨.inl rfl,fun b hb=>?_⟩
  rcases hb with rfl | ⟨x,hx⟩
  ·exact⟨hLn,bLn,oL,hoL⟩
  ·have hlt:=cab x b hx
   refine hide fun R done=>?_
   refine xE1 (XC.cell x b hx) fun oc t7_0=>aE2 t7_0 fun hoc _=>?_
   refine done ?_
   exact⟨Hab b (Yl hlt),Z9 (Zf hLs (Yl hlt)),oc,hoc⟩
 have so:=(sndS (d:=44) (kd:=kdF scope.names) (ok:=okN X1 scope.names) good (tab1 _ _ _ _) (tabs1 _ _ _ _) (snd good (tab1 _ _ _ _) (nm1 _ _ _ _) (tabs1 _ _ _ _) 60) 60).l a_law body hk4
 refine wpAny_mono (so A (envOfC nm scope L fa cd) _ H { s₁ with heap:=h₁,toks:=tk } (ownC (envOfC nm scope L fa cd)) _ hA hkind (fun i hi=>?_) FF O k (law_walk ctx Hs Hp hpl)) (fun fl s2 h=>?_) fun _ _ e=>e.elim
 ·unfold okN at hi
  rw[Zy,Bool.or_eq_true,decide_eq_true_eq,beq_iff_eq,beq_iff_eq] at hi
  refine⟨hi.1,?_⟩
  rcases hi.2 with z | z
  ·exact .inl ((hkind _).trans z)
  ·refine xE1 (hcel _ ((hkind _).trans z)) fun c hc=>?_
   exact .inr ⟨(hkind _).trans z,c,hc,.inr ⟨_,hc⟩⟩
 ·refine xE3 h fun fl' ρ2 H2 t9_0=>aE6 t9_0 fun hfl k2 x2 F2 O2 e=>?_
  have e:fl'=.ret (.bool true):=e
  subst e
  induction fl using PySem.Flow.casesOn with
  | ret v=>
   have:strip v=.bool true:=hfl
   rw[strip_bool this]
   exact q s2 k2.base k2.os k2.gens
  | _=>exact hfl.elim
end Mine
open PySem PySem.W PyProof.Rows
theorem PySem.Challenge.cw_rg0221_02_holds : PySem.Challenge.rw_rg0221_02.Holds :=
 hd02 (by
 k_go0
 refine' Mine.law_end rfl ?chk ?KX ?T ?hg ?hL ?hI ?hn ?F ?XC ?hm ?hA ?hLs ?q
 case KX=>assumption
 case hg=>assumption
 case hL=>assumption
 case hI=>assumption
 case F=>assumption
 case XC=>exact Mine.cl_of (by assumption) (by assumption)
 case T=>exact topRead_of (by assumption)
 case hLs=>exact Zk _
 case hA=>exact⟨rfl,Ys rfl,Ys rfl⟩
 case hm=>rfl
 case chk=>kernel_rfl
 case hn=>omega
 case q=>
  intro s' h1 h2 h3
  exact⟨.inl ⟨.bool true,.bool true,[],rfl,fun cls=>by rfl,.bool true,postW_of (r:=PySem.Challenge.rw_rg0221_02.row.toRowW) (X:=true) rfl (by show WTm.value [] (.eq .res (.lit (.bool true))) _=_;simp [WTm.value,PySem.W.same]) rfl,unshared_nil⟩,h1,h2,h3⟩)
