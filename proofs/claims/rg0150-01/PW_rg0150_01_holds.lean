import PyProof.Rows.All
import PyProof.Rows.Walk
import Wide.All
import OpenK.AllK
import Wide.FinOn
import KE.KLam
import KE.KSortTup
import Lean
import PySem.Challenge.RW_rg0150_01
set_option autoImplicit true
set_option Elab.async false
set_option maxRecDepth 100000
set_option maxHeartbeats 8000000
set_option tactic.hygienic false
set_option bootstrap.genMatcherCode false
set_option linter.all false
namespace Ev.Internal
def VO:=λ{a b c d}=>(@List.mem_cons a b c d).mp
def VP:=λ{a b}=>(@Bool.and_eq_true_iff a b).mp
def VQ:=λ{a b}=>(@Option.isSome_iff_exists a b).mp
def VS:=λ{a b c}=>(@List.mem_singleton a b c).mp
def VT:=λ{a b c d e}=>(@List.mem_map a b c d e).mp
def VU:=λ{a b c}=>(@List.all_eq_true a b c).mp
def Wh:=@congrArg
def Xa:=@decide_eq_false
def Xb:=@if_pos
def Xd:=@if_neg
def Xh:=@decide_eq_true
def Xm:=@of_decide_eq_true
open Array renaming any_toList→XQ,any_eq_false'→Yo,size_modify→Yt,size_push→Yu,find?_toList→YW,length_toList→ZI,getElem?_toList→ZJ,forIn_toList→a0u
open Bool renaming and_true→W6,not_not→XP,and_eq_true→XR,and_false→Yp,not_eq_true'→Y3,true_or→Z0,or_true→Z2,false_eq_true→a0s,or_eq_true→a0Y,or_false→a1o,false_and→a1W,false_or→a1X
open Exists renaming imp→W7
open Int renaming toNat_of_nonneg→Wa,add_nonneg→Wb,toNat_le_toNat→Wc,add_le_add_left→Wd,le_sub_one_of_lt→We,lt_of_le_of_lt→Wf,natCast_sub→Wq,sub_sub→Wr,add_comm→Ws,zero_sub→Wt,le_trans→Wy,sub_add_cancel→Wz,sub_nonneg_of_le→WA,le_of_lt→WB,sub_nonpos_of_le→WD,max_eq_right→WG,natCast_nonneg→WH,min_eq_left→WI,natCast_add→WK,one_mul→WQ,lt_of_lt_of_le→WU,neg_le_neg→WV,lt_trans→WW,negSucc_lt_zero→Xj,add_sub_cancel→Xl,fdiv_eq_ediv_of_nonneg→Xp,pow_pos→Xq,ediv_one→YJ,natCast_zero→YK,add_zero→YL,add_assoc→YN,le_of_eq→ZK,le_antisymm→ZL,le_refl→a1c,zero_add→a1d,eq_ofNat_of_zero_le→a1l,le_add_of_nonneg_right→a1p,mul_nonneg→a1u,ofNat_fdiv→a1N,ofNat_fmod→a1Q
open Int.ofNat renaming inj→Xg,injEq→a1t
open List renaming all_cons→W5,all_eq_true→Xr,not_mem_nil→Xu,any_cons→Xv,mem_cons_of_mem→Xw,map_cons→Xy,mem_cons_self→Xz,nodup_cons→XB,mem_map_of_mem→XC,nodup_nil→XG,map_map→XJ,length_map→XK,size_toArray→XS,length_set→XU,append_nil→Ya,length_append→Yb,append_toArray→Yc,foldl_cons→Yf,append_assoc→Yg,getElem?_toArray→YM,lookup_cons→Y9,forIn_nil→Zb,forIn_cons→Zc,any_eq_false→Zj,length_take→Zo,eraseIdxIfInBounds_toArray→Zq,drop_eq_nil_of_le→Zr,filterMap_cons→ZD,filter_cons→ZE,length_cons→ZF,eq_nil_of_length_eq_zero→ZH,contains_cons→ZZ,mem_cons→Z6,getElem?_map→a0c,getElem?_eq_none→a0d,map_congr_left→a0m,map_append→a0n,mem_singleton→a0o,lookup_nil→a0v,take_of_length_le→a0w,zip_cons_cons→a0x,zip_append→a0y,foldl_append→a0z,mem_append_right→a0A,of_mem_zip→a0B,map_fst_zip→a0C,mem_of_mem_take→a0D,length_drop→a0F,take_append_drop→a0G,length_nil→a0H,nil_append→a0J,mem_append→a0P,getElem?_set→a0S,mem_of_getElem?→a0Z,getElem?_eq_getElem→a00,getElem_mem→a03,take_succ_eq_append_getElem→a04,take_length→a05,any_append→a06,find?_append→a07,find?_cons→a08,mem_of_find?_eq_some→a09,filter_append→a1a,length_filter_le→a1b,drop_eq_getElem_cons→a1f,eq_nil_or_concat→a1h,concat_eq_append→a1i,mem_append_left→a1j,find?_eq_none→a1k,flatMap_cons→a1m,any_nil→a1n,mem_filter→a1q,find?_some→a1r,mem_flatMap→a1s,length_replicate→a1v,getElem?_append_left→a1w,getElem?_append_right→a1x,map_replicate→a1z,map_set→a1A,length_range'→a1E,getD_eq_getElem?_getD→a1F,getElem_of_mem→a1M,flatMap_nil→a1T,flatMap_append→a1U,any_eq_true→a1Y,length_take_le→a1Z
open List.cons renaming injEq→a0U
open Nat renaming sub_add_cancel→VV,lt_of_le_of_lt→VW,sub_lt→VX,zero_le→VY,one_pos→VZ,sub_sub_self→V8,le_of_lt_succ→V9,div_add_mod→Wg,mod_two_eq_zero_or_one→Wi,pos_of_ne_zero→Wj,le_trans→Wk,add_assoc→Wl,add_comm→Wm,add_le_add_left→Wo,le_add_right→Wp,succ_pos→Wu,add_sub_of_le→Wv,add_sub_cancel_left→Ww,sub_le_of_le_add→Wx,lt_of_succ_lt_succ→WE,lt_or_ge→WJ,le_add_left→WL,le_succ_of_le→WM,sub_eq_zero_of_le→WN,le_of_lt→WO,le_sub_one_of_lt→WP,lt_of_lt_of_le→WR,add_le_add→WT,le_of_eq→WX,add_right_comm→WY,add_le_add_right→WZ,lt_succ_of_lt→W0,lt_succ_self→W1,eq_of_beq_eq_true→W3,not_lt_zero→W4,beq_refl→W9,ne_of_lt→Xe,le_of_ble_eq_true→Xi,lt_trans→Xk,shiftLeft_eq→Xn,shiftRight_eq_div_pow→Xo,min_self→Xs,le_refl→XA,le_succ→XD,succ_le_succ→XE,lt_irrefl→XM,ne_of_gt→Za,min_le_right→Zp,succ_lt_succ→a0e,lt_of_add_right_lt→a0k,min_eq_left→a0E,zero_add→a0I,mul_le_mul_left→a0L,ne_of_beq_eq_false→a0O,sub_self→a0Q,sub_zero→a0R,blt_eq→a0T,add_left_cancel→a0V,not_le_of_lt→a01,le_antisymm→a02,lt_of_lt_of_eq→a1e,le_of_not_lt→a1g,le_of_sub_eq_zero→a1y,lt_add_of_pos_left→a1B,zero_lt_of_lt→a1C,lt_sub_of_add_lt→a1D,mod_lt→a1G,zero_lt_succ→a1H,eq_zero_or_pos→a1I,and_one_is_mod→a1J,add_zero→a1K,mod_eq_of_lt→a1L,div_lt_of_lt_mul→a1O,mul_le_mul_right→a1P,add_lt_add_left→a1R,mul_one→a1S
open Ne renaming symm→Xf
open Option renaming some_ne_none→W8,isSome_map→XH,bind_some→YX,bind_assoc→a0l,isNone_iff_eq_none→a0K,map_some→a0W,isNone_some→a1V
open Option.some renaming inj→W2,injEq→a0X
open PyProof.Rows renaming assignInOrder_nil→YO,assignInOrder_cons→YQ,len_tuple→ZC,entry_list_sort→a0b,listUpdate_at→a0r,listItems_at→a0t
open PySem renaming sizeLine_eq→XI,concat_meets→XV,noFill_tuple_add→XW,seq_tuple_add→XX,call_meets→Yi,wpAny_loadName_local→Yj,wpAny_bind→Yk,wpAny_askSetting→Yl,wpAny_pure→Ym,wpAny_loadPart→Yn,wpAny_updatePart→Yq,storeName_local→Yv,wpAny_storeName_cell→Yw,wpAny_truthy_bool→Yx,wpAny_Constant_str→Yy,wpAny_Name→Yz,wpAny_Compare1→YA,wpAny_isTrue_BoolOp→YB,wpAny_Tuple→YE,wpAny_Return_some→YF,wpAny_execs_nil→YG,wpAny_execs_cons→YH,wpAny_Assign_Name→YI,wpAny_assign_Name→YR,wpAny_holding→YS,codeAny_builtin→YT,wpAny_specialOf→YU,wpAny_operating→YV,wpAny_lookBehind→YY,pastItsLine_dict→YZ,wpAny_mono→Y0,wpAny_standAt→Y1,plainObj_wpAny_Assign_Attribute→Y2,wpAny_call→Y5,arm_eval_Call_Name'→Y6,wpAny_point→Y7,pushCells_keeps→Ze,codeAny_call_function→Zf,codeAny_mono→Zh,wpAny_of_eq→Zk,getMethod_builtin→ZA,wpAny_bindName→ZG,wpAny_newObj_type→ZM,wpAny_setField→ZN,wpAny_field→ZR,wpAt_bind→ZT,wpAt_of_wpAny→ZU,wpAny_loadPart_at→ZV,wpAny_isSubtype_exc→ZW,codeAny_of_tree→Z1,codeAny_call_builtin→Z3,wpAny_Try_except→Z8,wpAny_newList→Z9,wpAny_call_entry→a0a,wpAny_collect_seq→a0f,codeAny_loop→a0g,wpAny_noted→a0h,wpAny_rule→a0i,wpAny_comprehension_free→a0j,wpAny_tupleItemsOf→a0p
open PySem.Calls renaming spliced_nil→YC,spliced_cons→YD,Name_function_global→Y4,loadGlobal_builtin→Y8
open PySem.F renaming slot_tuple_add→XY,entry_tuple_add→XZ,args_tuple_add_2→X9,slot_int_rmul→Yh,slot_list_append→Zl,entry_list_append→Zm,args_list_append_2→Zn,slot_list_pop→Zs,entry_list_pop→Zt,slot_list_extend→Zu,entry_list_extend→Zv,args_list_extend_2→Zw,slot_dict_get→Zx,entry_dict_get→Zy,args_dict_get_3→Zz,plainAttrs_list→ZB,excBase_Exception→ZS,slot_tuple_lt→a0q
open PySem.Heap renaming lt_size→XN,get?_push_of_some→Yd,get?_push_size→Ye,get?_update_self→Yr,size_push→Zd,get?_update_other→ZQ,get?_none_of_le→ZX,get?_push_at→ZY,get?_update_ne→Z5
open PySem.Heap.SameBut renaming update→XT
open PySem.Obj renaming putName_eq→Ys,data_mapFields→ZO,isFreed_of_fields→ZP,dropName_eq→Z7
open PySem.W renaming looks_findIn→Zg,callWith_of→Zi,looks_mroIn→Z4,piece_app→a0M,looks_pair→a0N
noncomputable section
theorem rc {j p:Nat} (h:j+1<=p):p-j=p-(j+1)+1:=(VV<|Nat.le_sub_of_add_le' h).symm
theorem O9 {n i j:Nat} (h:i<n) (e:n-(i+1)=j):n-i=j+1:=e▸rc h
theorem NI {n i:Nat} (h:i<n):n-1-i<n:=VW (Nat.sub_le _ _)<|VX (VW (VY i) h) VZ
theorem NZ {n i j J:Nat} (h:i<n) (e:n-(i+1)=j) (l:j<J):n-i<=J:=O9 h e▸l
theorem OH {x:Nat} (h:x<2):x=1-(1-x):=(V8<|V9 h).symm
theorem JE {d:Int} (h:0<=d):1+d=((1+d).toNat:Int):=(Wa<|Wb (by decide) h).symm
theorem J5 {d:Int} (h:d<2):(1+d).toNat<=2:=Wc<|Wd (We h) 1
theorem Et {i:Int} {n:Nat} (h:i.natAbs<n):i<(n:Int):=Wf Int.le_natAbs<|Int.ofNat_lt.mpr h
theorem C9 {i:Int} {n:Nat} (h:i.natAbs<n):-(n:Int)<i:=Int.neg_lt_of_neg_lt (Et<|by rw[Int.natAbs_neg];exact h)
theorem NE {i:Nat} (h:i%2=1):i=2*(i/2)+1:=(Wg i 2).symm.trans<|Wh (2*(i/2)+·) h
theorem Mn {i:Nat} (h0:i≠0) (h:i%2≠1):i=2*(i/2-1)+2:=
 have e:i=2*(i/2):=(Wg i 2).symm.trans<|Wh (2*(i/2)+·)<|(Wi i).resolve_right h
 e.trans (Wh (2*·) (VV<|Wj λz=>h0<|e.trans<|Wh (2*·) z).symm)
theorem KU {A F f N:Nat} (h:A+F<=N) (l:f<F):A+1+f<=N:=Wk (by rw[Wl,Wm 1];exact Wo l A) h
theorem Fr {a b:Nat} (h:a+b<=802):a<1000:=VW (Wk (Wp _ _) h) (by decide)
theorem Oi {n j:Nat} (h:j<n):Int.negSucc j=((n-(j+1):Nat):Int)-(n:Int):=by rw[Wq h,Wr,Ws,<-Wr,Int.sub_self,Wt];rfl
theorem Si {n j:Nat} (h:j<n):n-(j+1)<n:=VX (VW (VY j) h)<|Wu j
theorem LZ {n v d:Nat} (h:n<=v+d) (H:d<=n):v=n-d+(v+d-n):=by rw[<-Nat.sub_add_comm H,Wv h,Nat.add_sub_cancel]
theorem LY {n v d:Nat} (h:v<=n) (H:n<=v+d):d=v+d-n+(n-v):=by rw[Wm,<-Nat.add_sub_assoc H,Wm<|n-v,Wl,Wm d,<-Wl,Wv h,Ww]
theorem Fm {n v d:Nat} (h:v<=n) (H:n<=v+d):n=v+(d-(v+d-n)):=(Wv h).symm.trans<|Wh (v+·) (Nat.sub_eq_of_eq_add<|(LY h H).trans<|Wm _ _).symm
theorem Rz {n v d:Nat} (h:v<=n):v+d-n<=d:=Wx<|Wm v d▸Wo h d
theorem CV {a:Int} (h:a<=100000):a<9223372036854775808:=Wf h (by decide)
theorem xA {a:Int} (h:-100000<=a):-9223372036854775808<=a:=Wy (by decide) h
theorem I7 {a b:Int} (h:-100000<=a) (H:b<=100000):(b-a).toNat<=200000:=Wc<|show b-a<=200000 from Int.sub_le_sub H h
theorem Em {a b:Int} (h:a<b):b-a-1+1=((b-a).toNat:Int):=by rw[Wz,Wa<|WA<|WB h]
theorem EV {a b:Int} (h:b<=a):((b-a).toNat:Int)=0:=Wh Int.ofNat<|Int.toNat_of_nonpos<|WD h
theorem fD {x:Nat} (h:x<2):x=0\/x=1:=by
 cases x with
 |zero=>exact .inl rfl
 |succ x=>exact .inr<|Wh (·+1)<|Nat.lt_one_iff.mp<|WE h
theorem yz {x:Nat} (h:x<3):x=0\/x=1\/x=2:=by
 cases x with
 |zero=>exact .inl rfl
 |succ x=>exact .inr<|(fD<|WE h).imp (Wh (·+1))<|Wh (·+1)
theorem JF {x:Nat} (h:x<4):x=0\/x=1\/x=2\/x=3:=by
 cases x with
 |zero=>exact .inl rfl
 |succ x=>exact .inr<|(yz<|WE h).imp (Wh (·+1))<|Or.imp (Wh (·+1))<|Wh (·+1)
theorem HK {n k:Nat} (h:n<=k):max 0 (min (k:Int) n)=(n:Int):=by rw[Int.min_eq_right<|Int.ofNat_le.mpr h,WG<|WH n]
theorem zK {n k:Nat} (h:k<=n):max 0 (min (k:Int) n)=(k:Int):=by rw[WI<|Int.ofNat_le.mpr h,WG<|WH k]
theorem HS (n k:Nat):max 0 (min (Int.negSucc k+(n:Int)) n)=((n-(k+1):Nat):Int):=by
 rcases WJ k n with q|q
 .obtain⟨m,rfl⟩:=Nat.exists_eq_add_of_le (Nat.succ_le_of_lt q)
  have e:Int.negSucc k+((k+1+m:Nat):Int)=m:=by rw[WK];exact Int.neg_add_cancel_left ((k+1:Nat):Int) m
  rw[Ww,e];exact zK<|WL m _
 .have e:Int.negSucc k+(n:Int)<=0:=by rw[Ws];exact WD (Int.ofNat_le.mpr<|WM q)
  rw[WN<|WM q,WI<|Wy e<|WH n,Int.max_eq_left e];rfl
theorem Cy {d:Int} (h:d<3):(1+d).toNat<=3:=Wc<|Wd (We h) 1
theorem zQ {n:Nat} (h:n<1000):(n:Int)<=1000000:=Int.ofNat_le.mpr (Wk (WO h)<|by decide)
theorem LS {n i:Nat} (h:i<n):(n:Int)-1+-1*(i:Int)=((n-1-i:Nat):Int):=by rw[Wq<|WP h,Wq<|VW (VY i) h,Int.neg_mul,WQ];rfl
theorem MR {a b m n k:Nat} (h:a<m) (H:b<=n) (c:m+n<=k):a+b<k:=WR (Nat.add_lt_add_of_lt_of_le h H) c
theorem CH {a b m n k:Nat} (h:a<=m) (H:b<=n) (c:m+n<=k):a+b<=k:=Wk (WT h H) c
theorem Kp {x g f:Nat} (h:x<4+g):x<4+(g+f):=WR h<|Wo (Wp g f) 4
theorem ED {y n k:Nat} (h:y=n) (H:n<k):y<k:=h▸H
theorem fQ {a b k:Nat} (h:a<=b) (H:b<k):a<k:=VW h H
theorem Mx {k n:Nat} (h:n<=100000) (H:k<n):(k:Int)<2^63:=WU (Int.ofNat_lt.mpr<|WR H h) (by decide)
theorem Mk (k n:Nat):-(n:Int)<=(k:Int)-n:=(Wt n)▸Int.sub_le_sub_right (WH k) n
theorem ME {k n:Nat} (h:n<=100000):-2^63<=(k:Int)-n:=Wy (show(-2^63:Int)<=-((100000:Nat):Int) by decide)<|Wy (WV<|Int.ofNat_le.mpr h)<|Mk k n
theorem II {k n:Nat} (h:k<n):(k:Int)-n<0:=Int.sub_neg_of_lt<|Int.ofNat_lt.mpr h
theorem Ie {j:Int} {k n:Nat} (h:n<=100000) (H:k<n/\(j=k\/j=k-n)):-2^63<=j/\j<2^63:=by
 obtain⟨a,rfl|rfl⟩:=H;.exact⟨Wy (by decide)<|WH k,Mx h a⟩
 .exact⟨ME h,WW (II a)<|by decide⟩
theorem Q3 {n m:Nat} (h:n<m):-(m:Int)<=Int.negSucc n:=WV<|Int.ofNat_le.mpr h
theorem Lf {n:Nat} (h:n<=100000):(n:Int)<2^63:=Wf (Int.ofNat_le.mpr h) (by decide)
theorem Jd {x a b k m:Nat} (h:x+a<=k) (e:k+b<=m+a):x+b<=m:=Nat.le_of_add_le_add_right (b:=a)<|Wk (WX<|WY x b a)<|Wk (WZ h b) e
theorem r9 {x n m:Nat} (h:m=n+1) (e:x<4+n):x<4+m:=h▸W0 e
theorem Fo {n m:Nat} (h:m=n+1):4+n<4+m:=h▸W1 _
theorem Q9 {d:Int} (h0:0<=d) (h:d<2):d=0\/d=1:=by
 cases d with
 |ofNat n=>exact(fD<|Int.ofNat_lt.mp h).imp (Wh Int.ofNat)<|Wh Int.ofNat
 |negSucc n=>exact nomatch h0
noncomputable def Gy {c:Type} (l:List c) (f:c->c->Bool):Bool:=l.casesOn false λa t=>t.casesOn false λb t=>t.casesOn (f a b) λU U=>false
theorem Di {c:Type} {l:List c} {f:c->c->Bool} {R:Prop} (h:Gy l f=true) (k:∀a b,l=[a,b]->f a b=true->R):R:=by
 cases l with
 |nil=>cases h
 |cons a l=>cases l with
  |nil=>cases h
  |cons b l=>cases l with
   |nil=>exact k a b rfl h
   |cons=>cases h
noncomputable def Mb (i:Int) (f:Nat->Bool):Bool:=i.casesOn f λU=>false
theorem CX {i:Int} {f:Nat->Bool} {R:Prop} (h:Mb i f=true) (k:∀n,i=.ofNat n->f n=true->R):R:=by
 cases i with
 |ofNat n=>exact k n rfl h
 |negSucc n=>cases h
theorem mP (h0:A) (h:b) (H:c):A/\b/\c:=⟨h0,h,H⟩
theorem G0 (h0:A) (h:b) (H:c) (e:d):A/\b/\c/\d:=⟨h0,h,H,e⟩
theorem Ux (h0:A) (h:b) (H:c) (i:d) (j:e) (k:f) (l:g):A/\b/\c/\d/\e/\f/\g:=⟨h0,h,H,i,j,k,l⟩
theorem bK {b:Sort _} {A c:b->Prop} (x:b) (h0:A x) (h:c x):∃x,A x/\c x:=⟨x,h0,h⟩
theorem jy {b:Sort _} {A c d:b->Prop} (x:b) (h0:A x) (h:c x) (H:d x):∃x,A x/\c x/\d x:=⟨x,h0,h,H⟩
theorem y7 {b:Sort _} {A c d e:b->Prop} (x:b) (h0:A x) (h:c x) (H:d x) (f:e x):∃x,A x/\c x/\d x/\e x:=⟨x,h0,h,H,f⟩
theorem PK {b c:Sort _} {A:b->c->Prop} (x:b) (d:c) (h0:A x d):∃x d,A x d:=⟨x,d,h0⟩
theorem yu {c d:Sort _} {A e:c->d->Prop} (x:c) (b:d) (h0:A x b) (h:e x b):∃x b,A x b/\e x b:=⟨x,b,h0,h⟩
theorem vK {c d:Sort _} {A e f:c->d->Prop} (x:c) (b:d) (h0:A x b) (h:e x b) (H:f x b):∃x b,A x b/\e x b/\f x b:=⟨x,b,h0,h,H⟩
theorem PP {c d:Sort _} {A e f g:c->d->Prop} (x:c) (b:d) (h0:A x b) (h:e x b) (H:f x b) (i:g x b):∃x b,A x b/\e x b/\f x b/\g x b:=⟨x,b,h0,h,H,i⟩
theorem FW {c d:Sort _} {A e f g h i:c->d->Prop} (x:c) (b:d) (h0:A x b) (H:e x b) (j:f x b) (k:g x b) (l:h x b) (m:i x b):∃x b,A x b/\e x b/\f x b/\g x b/\h x b/\i x b:=⟨x,b,h0,H,j,k,l,m⟩
theorem UV {b c d:Sort _} {A:b->c->d->Prop} (x:b) (e:c) (f:d) (h0:A x e f):∃x e f,A x e f:=⟨x,e,f,h0⟩
theorem Rx {d e f:Sort _} {A g:d->e->f->Prop} (x:d) (b:e) (c:f) (h0:A x b c) (h:g x b c):∃x b c,A x b c/\g x b c:=⟨x,b,c,h0,h⟩
theorem T5 {d e f:Sort _} {A g h:d->e->f->Prop} (x:d) (b:e) (c:f) (h0:A x b c) (H:g x b c) (i:h x b c):∃x b c,A x b c/\g x b c/\h x b c:=⟨x,b,c,h0,H,i⟩
theorem Do {d e f:Sort _} {A g h i:d->e->f->Prop} (x:d) (b:e) (c:f) (h0:A x b c) (H:g x b c) (j:h x b c) (k:i x b c):∃x b c,A x b c/\g x b c/\h x b c/\i x b c:=⟨x,b,c,h0,H,j,k⟩
theorem VG {d e f:Sort _} {A g h i j:d->e->f->Prop} (x:d) (b:e) (c:f) (h0:A x b c) (H:g x b c) (k:h x b c) (l:i x b c) (m:j x b c):∃x b c,A x b c/\g x b c/\h x b c/\i x b c/\j x b c:=⟨x,b,c,h0,H,k,l,m⟩
theorem Us {e f g h:Sort _} {A i j k l m:e->f->g->h->Prop} (x:e) (b:f) (c:g) (d:h) (h0:A x b c d) (H:i x b c d) (n:j x b c d) (o:k x b c d) (p:l x b c d) (q:m x b c d):∃x b c d,A x b c d/\i x b c d/\j x b c d/\k x b c d/\l x b c d/\m x b c d:=⟨x,b,c,d,h0,H,n,o,p,q⟩
theorem Um {e f g h:Sort _} {A i j k l m n o p:e->f->g->h->Prop} (x:e) (b:f) (c:g) (d:h) (h0:A x b c d) (H:i x b c d) (q:j x b c d) (r:k x b c d) (s:l x b c d) (t:m x b c d) (u:n x b c d) (v:o x b c d) (w:p x b c d):∃x b c d,A x b c d/\i x b c d/\j x b c d/\k x b c d/\l x b c d/\m x b c d/\n x b c d/\o x b c d/\p x b c d:=⟨x,b,c,d,h0,H,q,r,s,t,u,v,w⟩
theorem TZ {f g h i j:Sort _} {A k l m n o:f->g->h->i->j->Prop} (x:f) (b:g) (c:h) (d:i) (e:j) (h0:A x b c d e) (H:k x b c d e) (p:l x b c d e) (q:m x b c d e) (r:n x b c d e) (s:o x b c d e):∃x b c d e,A x b c d e/\k x b c d e/\l x b c d e/\m x b c d e/\n x b c d e/\o x b c d e:=⟨x,b,c,d,e,h0,H,p,q,r,s⟩
theorem Up {f g h i j:Sort _} {A k l m n o p q:f->g->h->i->j->Prop} (x:f) (b:g) (c:h) (d:i) (e:j) (h0:A x b c d e) (H:k x b c d e) (r:l x b c d e) (s:m x b c d e) (t:n x b c d e) (u:o x b c d e) (v:p x b c d e) (w:q x b c d e):∃x b c d e,A x b c d e/\k x b c d e/\l x b c d e/\m x b c d e/\n x b c d e/\o x b c d e/\p x b c d e/\q x b c d e:=⟨x,b,c,d,e,h0,H,r,s,t,u,v,w⟩
theorem TF {b:Type _} {x:Option b} {a:b} {C:Prop} (h:x=some a) (q:x=none):C:=by rw[h] at q;cases q
theorem dj {b:Type _} {x:Option b} {a:b} {C:Prop} (h:x=none) (q:x=some a):C:=by rw[h] at q;cases q
theorem NS {C:Prop} (h:x=true) (q:x=false):C:=by rw[h] at q;cases q
theorem sB {C:Prop} (h:x=false) (q:x):C:=by rw[h] at q;cases q
@[elab_as_elim]
theorem qL {c:Sort u} {a b:c} {P:c->Prop} (h:a=b) (x:P b):P a:=h▸x
@[elab_as_elim]
theorem qR {c:Sort u} {a b:c} {P:c->Prop} (h:a=b) (x:P a):P b:=h▸x
theorem kh {A b c:Prop} {R:Prop} (h:A/\b/\c) (k:A->b->c->R):R:=k h.1 h.2.1 h.2.2
theorem Mu {A b c d:Prop} {R:Prop} (h:A/\b/\c/\d) (k:A->b->c->d->R):R:=k h.1 h.2.1 h.2.2.1 h.2.2.2
theorem PJ {A b c d e f g:Prop} {R:Prop} (h:A/\b/\c/\d/\e/\f/\g) (k:A->b->c->d->e->f->g->R):R:=k h.1 h.2.1 h.2.2.1 h.2.2.2.1 h.2.2.2.2.1 h.2.2.2.2.2.1 h.2.2.2.2.2.2
theorem aI {b:Sort _} {A c:b->Prop} {R:Prop} (h:∃x,A x/\c x) (k:∀x,A x->c x->R):R:=h.elim λx h=>k x h.1 h.2
theorem e7 {b:Sort _} {A c d:b->Prop} {R:Prop} (h:∃x,A x/\c x/\d x) (k:∀x,A x->c x->d x->R):R:=h.elim λx h=>k x h.1 h.2.1 h.2.2
theorem uj {b:Sort _} {A c d e:b->Prop} {R:Prop} (h:∃x,A x/\c x/\d x/\e x) (k:∀x,A x->c x->d x->e x->R):R:=h.elim λx h=>k x h.1 h.2.1 h.2.2.1 h.2.2.2
theorem TX {b:Sort _} {A c d e f g:b->Prop} {R:Prop} (h:∃x,A x/\c x/\d x/\e x/\f x/\g x) (k:∀x,A x->c x->d x->e x->f x->g x->R):R:=h.elim λx h=>k x h.1 h.2.1 h.2.2.1 h.2.2.2.1 h.2.2.2.2.1 h.2.2.2.2.2
theorem UA {b:Sort _} {A c d e f g i:b->Prop} {R:Prop} (h:∃x,A x/\c x/\d x/\e x/\f x/\g x/\i x) (k:∀x,A x->c x->d x->e x->f x->g x->i x->R):R:=h.elim λx h=>k x h.1 h.2.1 h.2.2.1 h.2.2.2.1 h.2.2.2.2.1 h.2.2.2.2.2.1 h.2.2.2.2.2.2
theorem EH {c d:Sort _} {A:c->d->Prop} {R:Prop} (h:∃x b,A x b) (k:∀x b,A x b->R):R:=h.elim λx h=>h.elim λb h=>k x b h
theorem oi {c d:Sort _} {A e:c->d->Prop} {R:Prop} (h:∃x b,A x b/\e x b) (k:∀x b,A x b->e x b->R):R:=h.elim λx h=>h.elim λb h=>k x b h.1 h.2
theorem du {c d:Sort _} {A e f:c->d->Prop} {R:Prop} (h:∃x b,A x b/\e x b/\f x b) (k:∀x b,A x b->e x b->f x b->R):R:=h.elim λx h=>h.elim λb h=>k x b h.1 h.2.1 h.2.2
theorem Nd {c d:Sort _} {A e f g:c->d->Prop} {R:Prop} (h:∃x b,A x b/\e x b/\f x b/\g x b) (k:∀x b,A x b->e x b->f x b->g x b->R):R:=h.elim λx h=>h.elim λb h=>k x b h.1 h.2.1 h.2.2.1 h.2.2.2
theorem On {c d:Sort _} {A e f g i:c->d->Prop} {R:Prop} (h:∃x b,A x b/\e x b/\f x b/\g x b/\i x b) (k:∀x b,A x b->e x b->f x b->g x b->i x b->R):R:=h.elim λx h=>h.elim λb h=>k x b h.1 h.2.1 h.2.2.1 h.2.2.2.1 h.2.2.2.2
theorem Ji {c d:Sort _} {A e f g i j:c->d->Prop} {R:Prop} (h:∃x b,A x b/\e x b/\f x b/\g x b/\i x b/\j x b) (k:∀x b,A x b->e x b->f x b->g x b->i x b->j x b->R):R:=h.elim λx h=>h.elim λb h=>k x b h.1 h.2.1 h.2.2.1 h.2.2.2.1 h.2.2.2.2.1 h.2.2.2.2.2
theorem M4 {d e f:Sort _} {A:d->e->f->Prop} {R:Prop} (h:∃x b c,A x b c) (k:∀x b c,A x b c->R):R:=h.elim λx h=>h.elim λb h=>h.elim λc h=>k x b c h
theorem BQ {d e f:Sort _} {A g:d->e->f->Prop} {R:Prop} (h:∃x b c,A x b c/\g x b c) (k:∀x b c,A x b c->g x b c->R):R:=h.elim λx h=>h.elim λb h=>h.elim λc h=>k x b c h.1 h.2
theorem IT {d e f:Sort _} {A g i:d->e->f->Prop} {R:Prop} (h:∃x b c,A x b c/\g x b c/\i x b c) (k:∀x b c,A x b c->g x b c->i x b c->R):R:=h.elim λx h=>h.elim λb h=>h.elim λc h=>k x b c h.1 h.2.1 h.2.2
theorem mQ {d e f:Sort _} {A g i j:d->e->f->Prop} {R:Prop} (h:∃x b c,A x b c/\g x b c/\i x b c/\j x b c) (k:∀x b c,A x b c->g x b c->i x b c->j x b c->R):R:=h.elim λx h=>h.elim λb h=>h.elim λc h=>k x b c h.1 h.2.1 h.2.2.1 h.2.2.2
theorem rq {d e f:Sort _} {A g i j l:d->e->f->Prop} {R:Prop} (h:∃x b c,A x b c/\g x b c/\i x b c/\j x b c/\l x b c) (k:∀x b c,A x b c->g x b c->i x b c->j x b c->l x b c->R):R:=h.elim λx h=>h.elim λb h=>h.elim λc h=>k x b c h.1 h.2.1 h.2.2.1 h.2.2.2.1 h.2.2.2.2
theorem MW {d e f:Sort _} {A g i j l m:d->e->f->Prop} {R:Prop} (h:∃x b c,A x b c/\g x b c/\i x b c/\j x b c/\l x b c/\m x b c) (k:∀x b c,A x b c->g x b c->i x b c->j x b c->l x b c->m x b c->R):R:=h.elim λx h=>h.elim λb h=>h.elim λc h=>k x b c h.1 h.2.1 h.2.2.1 h.2.2.2.1 h.2.2.2.2.1 h.2.2.2.2.2
theorem Ut {e f g i:Sort _} {A j:e->f->g->i->Prop} {R:Prop} (h:∃x b c d,A x b c d/\j x b c d) (k:∀x b c d,A x b c d->j x b c d->R):R:=h.elim λx h=>h.elim λb h=>h.elim λc h=>h.elim λd h=>k x b c d h.1 h.2
theorem O2 {e f g i:Sort _} {A j l:e->f->g->i->Prop} {R:Prop} (h:∃x b c d,A x b c d/\j x b c d/\l x b c d) (k:∀x b c d,A x b c d->j x b c d->l x b c d->R):R:=h.elim λx h=>h.elim λb h=>h.elim λc h=>h.elim λd h=>k x b c d h.1 h.2.1 h.2.2
theorem Ue {e f g i:Sort _} {A j l m n o:e->f->g->i->Prop} {R:Prop} (h:∃x b c d,A x b c d/\j x b c d/\l x b c d/\m x b c d/\n x b c d/\o x b c d) (k:∀x b c d,A x b c d->j x b c d->l x b c d->m x b c d->n x b c d->o x b c d->R):R:=h.elim λx h=>h.elim λb h=>h.elim λc h=>h.elim λd h=>k x b c d h.1 h.2.1 h.2.2.1 h.2.2.2.1 h.2.2.2.2.1 h.2.2.2.2.2
theorem Ud {f g i j l:Sort _} {A m n o p q r s:f->g->i->j->l->Prop} {R:Prop} (h:∃x b c d e,A x b c d e/\m x b c d e/\n x b c d e/\o x b c d e/\p x b c d e/\q x b c d e/\r x b c d e/\s x b c d e) (k:∀x b c d e,A x b c d e->m x b c d e->n x b c d e->o x b c d e->p x b c d e->q x b c d e->r x b c d e->s x b c d e->R):R:=h.elim λx h=>h.elim λb h=>h.elim λc h=>h.elim λd h=>h.elim λe h=>k x b c d e h.1 h.2.1 h.2.2.1 h.2.2.2.1 h.2.2.2.2.1 h.2.2.2.2.2.1 h.2.2.2.2.2.2.1 h.2.2.2.2.2.2.2
set_option genSizeOf false
set_option genCtorIdx false
inductive V where
 |non|bool (b:Bool)|int (i:Int)|str (s:List Nat)
 |tup (l:List V)|ref (n:Nat)|rng (a b c:Int)|arr (l:List V)
noncomputable def V.ctorIdx (v:V):Nat:=v.casesOn 0 (λU=>1) (λU=>2) (λU=>3) (λU=>4) (λU=>5) (λU U U=>6) λU=>7
set_option genInjectivity false
inductive aB where
 |lst (l:List V)|dct (l:List<|V×V)|set (l:List V)|ins (c d:Nat)|ns (fs:List<|Nat×V)|tab
noncomputable def aB.ctorIdx (c:aB):Nat:=c.casesOn (λU=>0) (λU=>1) (λU=>2) (λU U=>3) (λU=>4) 5
inductive Qm (p:Prop) where|add|sub|mul|fdiv|mod|pow|shl|shr|band|bor|bxor
noncomputable abbrev Op:=Qm True
noncomputable def Qm.ctorIdx (o:Qm p):Nat:=o.casesOn 0 1 2 3 4 5 6 7 8 9 10
inductive LV (p:Prop) where|eq|ne|lt|gt|le|ge|isn|isnn|inn|nin
noncomputable abbrev Cm:=LV True
noncomputable def LV.ctorIdx (o:LV p):Nat:=o.casesOn 0 1 2 3 4 5 6 7 8 9
inductive PM (p:Prop) where|len|range|tuple|list|sorted|max|min|set
noncomputable abbrev Bi:=PM True
noncomputable def PM.ctorIdx (o:PM p):Nat:=o.casesOn 0 1 2 3 4 5 6 7
inductive RB (p:Prop) where|append|extend|pop|get
noncomputable abbrev Me:=RB True
noncomputable def RB.ctorIdx (o:RB p):Nat:=o.casesOn 0 1 2 3
inductive PT where
 |loc (x:Nat)|tup (xs:List Nat)
noncomputable abbrev Sg:=List<|Nat×V
noncomputable abbrev Hp:=List<|Nat×aB
inductive R (α:Type) where
 |ok (a:α) (h:Hp)|ex (x:V) (h:Hp)|no (why:Nat)
noncomputable def R.ctorIdx (r:R h):Nat:=r.casesOn (λU U=>0) (λU U=>1) λU=>2
noncomputable def R.bind {h j:Type} (r:R h) (f:h->Hp->R j):R j:=r.casesOn f .ex .no
noncomputable def R.bind0 {h j:Type} (r:R h) (f:h->Hp->R j):R j:=r.casesOn f (λU U=>.no 1) .no
noncomputable def ro {b c:Type} (w:Nat) (o:Option b) (f:b->R c):R c:=o.casesOn (.no w) f
def lift {b:Type} (w:Nat) (o:Option b) (h:Hp):R b:=ro w o λa=>.ok a h
inductive Fl where|next|brk|cont|ret (v:V)
noncomputable def Fl.ctorIdx (f:Fl):Nat:=f.casesOn 0 1 2 λU=>3
noncomputable def nO {b c:Type} (_:b):Option c:=none
noncomputable def V.sel {h:Type} (d:h) (j:Int->h) (p:List Nat->h) (q:List V->h) (r:Nat->h) (v:V):h:=v.casesOn d (λU=>d) j p q r (λU U U=>d) λU=>d
def V.int?:V->Option Int:=V.sel none some nO nO nO
def V.str?:V->Option (List Nat):=V.sel none nO some nO nO
def V.tup?:V->Option (List V):=V.sel none nO nO some nO
def V.ref?:V->Option Nat:=V.sel none nO nO nO some
noncomputable def aB.sel {h:Type} (d:h) (L:List V->h) (fd:List (V×V)->h) (c:aB):h:=c.casesOn L fd (λU=>d) (λU U=>d) (λU=>d) d
def aB.lst?:aB->Option (List V):=aB.sel none some nO
def aB.dct?:aB->Option (List<|V×V):=aB.sel none nO some
def aB.ins? (c:aB):Option (Nat×Nat):=c.casesOn nO nO nO (λc d=>some (c,d)) nO none
def aB.ns? (c:aB):Option (List<|Nat×V):=c.casesOn nO nO nO (λU U=>none) some none
noncomputable def Op.add? (o:Op):Bool:=o.casesOn true false false false false false false false false false false
noncomputable def Op.mul? (o:Op):Bool:=o.casesOn false false true false false false false false false false false
noncomputable def Me.get? (m:Me):Bool:=m.casesOn false false false true
noncomputable def Am (f:Bool->Bool->Bool) (a b:Option Bool):Option Bool:=a.bind λx=>b.map<|f x
noncomputable def ac (H:Hp) (x:Nat):Option aB:=H.rec none λp U i=>cond (Nat.beq p.1 x) (some p.2) i
noncomputable def bj (H:Hp) (x:Nat) (v:aB):Hp:=H.rec [] λp l i=>cond (Nat.beq p.1 x) ((x,v)::l)<|p::i
noncomputable def ak (H:Hp):Nat:=H.casesOn 0 λp U=>Nat.succ p.1
def sS (v:aB) (H:Hp):R V:=.ok (.ref<|ak H)<|(ak H,v)::H
noncomputable def jE {b:Type} (l:List b):Bool:=Nat.blt l.length 100000
def fU (l:List V) (H:Hp):R V:=cond (jE l) (sS (.lst l) H)<|.no 8
def ow (l:List V) (H:Hp):R V:=cond (jE l) (.ok (.tup l) H)<|.no 9
noncomputable def look (b:Sg) (x:Nat):Option V:=b.rec none λp U i=>cond (Nat.beq p.1 x) (some p.2) i
noncomputable def put (b:Sg) (x:Nat) (v:V):Sg:=b.rec [(x,v)] λp l i=>cond (Nat.beq p.1 x) ((x,v)::l)<|p::i
noncomputable def nth {b:Type} (l:List b) (n:Nat):Option b:=l.rec (λU=>none) (λa U i n=>n.casesOn (some a) i) n
noncomputable def setNth {c:Type} (l:List c) (n:Nat) (b:c):List c:=l.rec (λU=>[]) (λa l i n=>n.casesOn (b::l) λn=>a::i n) n
noncomputable def idx (i:Int) (n:Nat):Option Nat:=i.casesOn (λk=>cond (Nat.blt k n) (some k) none) λk=>cond (Nat.blt k n) (some<|n-(k+1)) none
noncomputable def ieq (a b:Int):Bool:=a.casesOn (λm=>b.casesOn (λn=>Nat.beq m n) λU=>false) λm=>b.casesOn (λU=>false) λn=>Nat.beq m n
noncomputable def iH (a b:Int):Bool:=a.casesOn (λm=>b.casesOn (λn=>Nat.blt m n) λU=>false) λm=>b.casesOn (λU=>true) λn=>Nat.blt n m
noncomputable def seq (l m:List Nat):Bool:=l.rec (λm=>m.casesOn true λU U=>false) (λa U i m=>m.casesOn false λb m=>cond (Nat.beq a b) (i m) false) m
noncomputable def small (i:Int):Bool:=i.casesOn (λn=>Nat.blt n 4611686018427387904) λn=>Nat.blt n 4611686018427387904
def Int.nat? (a:Int):Option Nat:=a.casesOn some nO
noncomputable def rP (f:Nat->Nat->Nat) (a b:Int):Option Int:=(Int.nat? a).bind λm=>(Int.nat? b).map λn=>.ofNat<|f m n
def JO (a b:Int):Option Int:=cond (small a) ((Int.nat? b).bind λn=>cond (Nat.blt n 1000) (rP Nat.shiftLeft a<|.ofNat n) none) none
def JS (a b:Int):Option Int:=cond (ieq a 2) ((Int.nat? b).bind λn=>cond (Nat.blt n 1000) (some<|.ofNat<|Nat.pow 2 n) none) none
def Jk (a b:Int):Option Int:=cond (small a) (some<|a*b) none
def qc (f:Int->Int->Int) (a b:Int):Option Int:=cond (ieq b 0) none<|some<|f a b
def js (o:Op) (a b:Int):Option Int:=match o with
 |.add=>some (a+b)|.sub=>some (a-b)|.mul=>Jk a b
 |.fdiv=>qc Int.fdiv a b
 |.mod=>qc Int.fmod a b
 |.pow=>JS a b
 |.shl=>JO a b
 |.shr=>rP Nat.shiftRight a b
 |.band=>rP Nat.land a b
 |.bor=>rP Nat.lor a b
 |.bxor=>rP (λm n=>Nat.lor m n-Nat.land m n) a b
def cellOf (H:Hp) (v:V):Option aB:=v.ref?.bind<|ac H
def im (H:Hp) (v:V):Option (List V):=(cellOf H v).bind aB.lst?
def GV (p:Nat->Option Bool) (n:Nat):Option Bool:=n.rec (some true) λk i=>Am and i<|p k
def Ol (f:V->V->Option Bool) (l m:List V):Option Bool:=GV (λj=>(nth l j).bind λa=>(nth m j).bind<|f a)<|min l.length m.length
def Cf (n:Nat):V->V->Option Bool:=n.rec (λU U=>none) λU h a b=>a.sel none (λi=>b.int?.map<|ieq i) (λs=>b.str?.map<|seq s) (λl=>b.tup?.bind λm=>(Ol h l m).map (·&&Nat.beq l.length m.length)) nO
noncomputable def Bj:Nat:=4
def ot (l m:List V):Option Bool:=cond (Nat.beq l.length m.length) (Ol (Cf Bj) l m)<|some false
def Mr (H:Hp) (a b:V):Option Bool:=(im H a).bind λl=>(im H b).bind<|ot l
def PG (H:Hp) (a b:V):Option Bool:=a.ref?.casesOn (Cf Bj a b) λU=>Mr H a b
noncomputable def cG (l:List V):Option (List Int):=l.rec (some []) λx U h=>x.int?.bind λi=>h.map (i::·)
def u8 (l m:List Int):Bool:=l.rec (λm=>m.casesOn true λU U=>false) (λa U i m=>m.casesOn false λb m=>cond (ieq a b) (i m) false) m
def FJ (a b:V):Option Bool:=a.sel none (λi=>b.int?.map<|ieq i) (λs=>b.str?.map<|seq s) (λl=>b.tup?.bind λm=>(cG l).bind λx=>(cG m).map<|u8 x) nO
def vZ (a:V):Bool:=a.sel false (λU=>true) (λU=>true) (λl=>(cG l).isSome) λU=>false
def TI (f:V->Option Bool) (l:List V):Option Bool:=l.rec (some false) λa U i=>Am or (f a) i
def Pg (k:Int):List V->Option Bool:=TI λa=>a.int?.map λj=>ieq j k
def PA (k:List Nat):List V->Option Bool:=TI λa=>a.str?.map λj=>seq j k
def xO (x:V) (l:List V):Option Bool:=x.sel none (λk=>Pg k l) (λk=>PA k l) nO nO
def jZ (x:V) (l:List<|V×V):Option (Option V):=l.rec (some none) λp U i=>(FJ p.1 x).bind λb=>cond b (some<|some p.2) i
def n9 (x v:V) (l:List<|V×V):Option (List<|V×V):=l.rec (some [(x,v)]) λp l i=>(FJ p.1 x).bind λb=>cond b (some<|(p.1,v)::l)<|i.map (p::·)
def wx (x:V) (l:List<|V×V):Option (Option V):=cond (vZ x) (jZ x l) none
def ry (x v:V) (l:List<|V×V):Option (List<|V×V):=cond (vZ x) (cond (jE l) (n9 x v l) none) none
noncomputable def mM (a step:Int) (n:Nat):List V:=n.rec (λU=>[]) (λU i a=>.int a::i (a+step)) a
noncomputable def gA (a b c:Int):Nat:=c.casesOn (λU=>(b-a).toNat) λU=>(a-b).toNat
def IK (b:Sg) (c:List Nat) (l:List V):Option Sg:=c.rec (λb l=>l.casesOn (some b) λU U=>none) (λx U i b l=>l.casesOn none λv s=>i (put b x v) s) b l
def cU (b:Sg) (t:PT) (v:V):Option Sg:=t.casesOn (λx=>some<|put b x v) λs=>v.tup?.bind<|IK b s
def truth (v:V):Option Bool:=v.casesOn none some (λi=>some<|cond (ieq i 0) false true) nO nO nO (λU U U=>none) nO
noncomputable def N0 (n:Nat) (i:Int):Nat:=i.casesOn (λk=>cond (Nat.blt n k) n k) λk=>n-(k+1)
def ip (n d:Nat) (o:Option Int):Nat:=o.casesOn d<|N0 n
def jY (l:List V) (lo h:Option Int):List V:=(l.take<|ip l.length l.length h).drop<|ip l.length 0 lo
abbrev Cl:=Nat->List V->Hp->R V
abbrev E:=Cl->Sg->Hp->R V
abbrev C:=Cl->Sg->Hp->R Bool
abbrev S:=Cl->Sg->Hp->R (Fl×Sg)
def C8 (o:Op) (i:Int) (b:V) (H:Hp):R V:=lift 2 (b.int?.bind λj=>(js o i j).map V.int) H
def Lo (o:Op) (s:List Nat) (b:V) (H:Hp):R V:=ro 3 b.str? λt=>cond (o.add?&&jE (s++t)) (.ok (.str<|s++t) H)<|.no 3
def MQ (o:Op) (s:List V) (b:V) (H:Hp):R V:=ro 4 b.tup? λt=>cond o.add? (ow (s++t) H)<|.no 4
noncomputable def one (A:List V):Option V:=A.casesOn none λa r=>r.casesOn (some a) λU U=>none
def Dl (l:List V) (b:V) (H:Hp):R V:=ro 6 b.int? λi=>ro 6 (one l) λx=>cond (iH i 4096&&iH (.negSucc 0) i) (fU (List.replicate i.toNat x) H)<|.no 6
def xM (o:Op) (l:List V) (b:V) (H:Hp):R V:=cond o.add? (ro 5 (im H b) λm=>fU (l++m) H)<|cond o.mul? (Dl l b H)<|.no 7
def ym (o:Op) (a b:V) (H:Hp):R V:=a.sel (.no 7) (λi=>C8 o i b H) (λs=>Lo o s b H) (λl=>MQ o l b H) λn=>ro 7 (im H<|.ref n) λl=>xM o l b H
def Qv (a:V) (c:aB):Option Bool:=c.sel none (xO a) λl=>(wx a l).map Option.isSome
def Ja (H:Hp) (a b:V):Option Bool:=b.sel none nO nO (xO a) λn=>(ac H n).bind<|Qv a
noncomputable def Oz (f:Int->Int->Bool) (a b:V):Option Bool:=a.int?.bind λi=>b.int?.map<|f i
noncomputable def rZ (a:V):Bool:=a.casesOn true (λU=>false) (λU=>false) (λU=>false) (λU=>false) (λU=>false) (λU U U=>false) λU=>false
def xo (a b:V):Option Bool:=cond (rZ b) (some<|rZ a) none
noncomputable def neg (r:Option Bool):Option Bool:=r.map not
def gU (o:Cm) (a b:V) (H:Hp):Option Bool:=match o with
 |.eq=>PG H a b
 |.ne=>neg<|PG H a b
 |.lt=>Oz iH a b
 |.gt=>Oz (λi j=>iH j i) a b
 |.le=>Oz (λi j=>!iH j i) a b
 |.ge=>Oz (λi j=>!iH i j) a b
 |.isn=>xo a b
 |.isnn=>neg<|xo a b
 |.inn=>Ja H a b
 |.nin=>neg<|Ja H a b
def rI (o:Cm) (a b:V) (H:Hp):R Bool:=lift 10 (gU o a b H) H
def Bp (H:Hp) (a:V):Option (Nat×List (Nat×V)):=(cellOf H a).bind λc=>c.ins?.bind λp=>(ac H p.2).bind λc=>c.ns?.map λf=>(p.2,f)
def getAttr (a:V) (f:Nat) (H:Hp):R V:=lift 20 ((Bp H a).bind λp=>look p.2 f) H
def setAttr (a:V) (f:Nat) (v:V) (H:Hp):R Unit:=ro 30 (Bp H a) λp=>cond (Nat.blt p.2.length 100) (.ok ()<|bj H p.1<|.ns<|put p.2 f v)<|.no 31
def MZ (l:List V) (i:V):Option V:=i.int?.bind λi=>(idx i l.length).bind<|nth l
def TY (l:List Nat) (i:V):Option V:=i.int?.bind λi=>cond (jE l) ((idx i l.length).bind λk=>(nth l k).map λc=>.str [c]) none
def U4 (l:List<|V×V) (i:V):Option V:=(wx i l).bind id
def So (i:V) (c:aB):Option V:=c.sel none (λl=>MZ l i) λl=>U4 l i
def gW (H:Hp) (a i:V):Option V:=a.sel none nO (λs=>TY s i) (λl=>MZ l i) λn=>(ac H n).bind<|So i
def getItem (a i:V) (H:Hp):R V:=lift 22 (gW H a i) H
def Ox (l:List V) (i v:V):Option aB:=i.int?.bind λi=>(idx i l.length).map λk=>.lst<|setNth l k v
def O6 (l:List<|V×V) (i v:V):Option aB:=(ry i v l).map .dct
def zJ (c:aB) (i v:V):Option aB:=c.sel none (λl=>Ox l i v) λl=>O6 l i v
def setItem (a i v:V) (H:Hp):R Unit:=ro 36 a.ref? λn=>ro 33 (ac H n) λc=>ro 32 (zJ c i v) λd=>.ok ()<|bj H n d
noncomputable def yQ (L:Int->Int->Bool) (a:Int) (l:List V):Option V:=l.rec (λa=>some<|.int a) (λx U i a=>x.int?.bind λb=>i<|cond (L a b) b a) a
def wd (L:Int->Int->Bool) (l:List V):Option V:=l.casesOn none λx r=>x.int?.bind λa=>yQ L a r
def xg (x:Int) (l:List Int):Bool:=l.rec false λa U i=>cond (ieq a x) true i
def lL (l A:List Int):List Int:=l.rec id (λx U i A=>cond (xg x A) (i A)<|i<|A++[x]) A
def ub (x:Int) (l:List Int):List Int:=l.rec [x] λy l i=>cond (iH x y) (x::y::l)<|y::i
def jT (l:List Int):List Int:=l.rec [] λx U i=>ub x i
def JU (c:aB):Option V:=c.casesOn (λl=>some<|.int<|.ofNat l.length) nO (λl=>some<|.int<|.ofNat l.length) (λU U=>none) nO none
def NF (H:Hp) (a:V):Option V:=a.sel none nO nO (λl=>some<|.int<|.ofNat l.length) λn=>(ac H n).bind JU
def Hr (A:List V) (H:Hp):R V:=lift 40 ((one A).bind<|NF H) H
noncomputable def Kw (a:Int):Bool:=a.casesOn (λn=>Nat.blt n 100000) λn=>Nat.blt n 100000
def EB (a b c:Int) (H:Hp):R V:=cond (Kw a&&Kw b) (.ok (.rng a b c) H)<|.no 42
def OS (l:List Int):Option (Int×Int×Int):=l.casesOn none λa r=>r.casesOn (some (0,a,1)) λb r=>r.casesOn (some (a,b,1)) λc r=>r.casesOn (cond (ieq c (-1)) (some (a,b,-1)) none) λU U=>none
def AS (A:List V) (H:Hp):R V:=ro 43 ((cG A).bind OS) λp=>EB p.1 p.2.1 p.2.2 H
def eO (H:Hp):V->Option (List V):=V.sel none nO nO some λn=>(ac H n).bind aB.lst?
def qT (H:Hp) (v:V):Option (List V):=v.casesOn none nO nO nO some (λn=>(ac H n).bind aB.lst?) (λa b c=>some<|mM a c<|gA a b c) nO
def Hq (v:V) (H:Hp):R V:=ro 47 (qT H v) λl=>fU l H
def B8 (A:List V) (H:Hp):R V:=ro 48 (one A) λv=>Hq v H
def MM (v:V) (H:Hp):R V:=ro 45 (qT H v) λl=>ow l H
def AT (A:List V) (H:Hp):R V:=ro 46 (one A) λv=>MM v H
def CW (H:Hp):V->Option (List Int):=V.sel none nO nO cG λn=>(ac H n).bind λc=>c.dct?.bind λl=>cG<|l.map (·.1)
def JL (n:List Int) (H:Hp):R V:=cond (Nat.blt n.length 64) (fU ((jT n).map .int) H)<|.no 49
def xP (A:List V) (H:Hp):R V:=ro 50 ((one A).bind<|CW H) λn=>JL n H
def FY (A:List V) (H:Hp):R V:=ro 55 ((one A).bind λv=>(im H v).bind cG) λn=>cond (Nat.blt n.length 4000) (sS (.set<|(lL n []).map .int) H)<|.no 55
def two (A:List V):Option (V×V):=A.casesOn none λa r=>(one r).map λb=>(a,b)
def HD (A:List V) (H:Hp):R V:=lift 53 ((two A).bind λp=>wd iH [p.1,p.2]) H
def Hh (A:List V) (H:Hp):R V:=lift 52 ((one A).bind λv=>(im H v).bind<|wd λi j=>iH j i) H
def cM (b:Bi) (A:List V) (H:Hp):R V:=match b with
 |.len=>Hr A H
 |.range=>AS A H
 |.tuple=>AT A H
 |.list=>B8 A H
 |.sorted=>xP A H
 |.max=>HD A H
 |.min=>Hh A H
 |.set=>FY A H
inductive Tg where|fn (f:Nat)|me (m:Me)
noncomputable def Tg.ctorIdx (t:Tg):Nat:=t.casesOn (λU=>0) λU=>1
def Kf (l:List V):Option (V×List V):=l.length.casesOn none λk=>(nth l k).map λx=>(x,l.take k)
def RU (l:List V) (a:V):Option (V×List V):=a.int?.bind λi=>cond (ieq i 0) (l.casesOn none λx r=>some (x,r)) none
def OF (l:List V) (A:List V):Option (V×List V):=A.casesOn (Kf l) λa r=>r.casesOn (RU l a) λU U=>none
def Gm (v:V) (l:List V):Option (V×List V):=cond (jE l) (some (v,l)) none
def JC (m:Me) (l:List V) (A:List V) (H:Hp):Option (V×List V):=m.casesOn ((one A).bind λx=>Gm .non<|l++[x]) ((one A).bind λv=>(eO H v).bind λx=>Gm .non<|l++x) (OF l A) none
def JI (l:List<|V×V) (A:List V):Option V:=(two A).bind λp=>(wx p.1 l).map λo=>o.getD p.2
def pk (m:Me) (a:V) (A:List V) (H:Hp):R V:=ro 63 a.ref? λn=>ro 62 (ac H n) λc=>c.sel (.no 62) (λl=>ro 60 (JC m l A H) λp=>.ok p.1<|bj H n<|.lst p.2) λl=>cond m.get? (lift 61 (JI l A) H) (.no 61)
noncomputable abbrev MT:=List<|Nat×Nat×Nat
noncomputable def pQ (l:MT) (c m:Nat):Option Nat:=l.rec none λp U i=>cond (Nat.beq p.1 c&&Nat.beq p.2.1 m) (some p.2.2) i
noncomputable def yf (m:Nat):Option Me:=match m with
 |0=>some .append|1=>some .extend|2=>some .pop|3=>some .get|_=>none
def target (mt:MT) (a:V) (m:Nat) (H:Hp):Option Tg:=(cellOf H a).bind λc=>c.casesOn (λU=>(yf m).bind λk=>cond k.get? none<|some<|.me k) (λU=>(yf m).bind λk=>cond k.get? (some<|.me .get) none) nO
 (λc d=>(ac H d).bind λx=>x.ns?.bind λf=>(look f m).casesOn ((pQ mt c m).map .fn) nO) nO none
def ug (c:Cl) (t:Tg) (a:V) (A:List V) (H:Hp):R V:=t.casesOn (λf=>c f (a::A) H) λm=>pk m a A H
noncomputable def eK (v:V):E:=λU U H=>.ok v H
def ab (x:Nat):E:=λU b H=>lift 80 (look b x) H
def ap (o:Op) (a b:E):E:=λl c H=>(a l c H).bind λa H=>(b l c H).bind λb H=>ym o a b H
def JZ (v:V) (H:Hp):R V:=ro 81 v.int? λi=>.ok (.int (-i)) H
def mR (a:E):E:=λc b H=>(a c b H).bind JZ
def aw (o:Cm) (a b:E):C:=λl c H=>(a l c H).bind λa H=>(b l c H).bind λb H=>rI o a b H
noncomputable def OD (b:Bool) (H:Hp):R V:=.ok (.bool b) H
def jI (o:Cm) (a b:E):E:=λl c H=>(aw o a b l c H).bind OD
noncomputable def P1 (b:Bool) (H:Hp):R Bool:=.ok (!b) H
def pK (a:C):C:=λc b H=>(a c b H).bind P1
noncomputable def gX (l:List C):C:=l.rec (λU U H=>.ok true H) λa U i L c H=>(a L c H).bind λb H=>cond b (i L c H)<|.ok false H
noncomputable def oG (l:List C):C:=l.rec (λU U H=>.ok false H) λa U i L c H=>(a L c H).bind λb H=>cond b (.ok true H)<|i L c H
def jl (v:V) (H:Hp):R Bool:=lift 92 (truth v) H
def aW (e:E):C:=λc b H=>(e c b H).bind jl
def Ge (l:List E):E:=l.rec (λU U U=>.no 86) λx l i=>l.casesOn x λU U=>λc b H=>(x c b H).bind λv H=>(jl v H).bind λt H=>cond t (i c b H)<|.ok v H
def MY (l:List E):E:=l.rec (λU U U=>.no 86) λx l i=>l.casesOn x λU U=>λc b H=>(x c b H).bind λv H=>(jl v H).bind λt H=>cond t (.ok v H)<|i c b H
def SL (v:V) (H:Hp):R V:=(jl v H).bind λb H=>.ok (.bool (!b)) H
def NK (a:E):E:=λc b H=>(a c b H).bind SL
noncomputable def ta (c:C) (a b:E):E:=λl d H=>(c l d H).bind λr H=>cond r (a l d H)<|b l d H
def al (a:E) (f:Nat):E:=λc b H=>(a c b H).bind λa H=>getAttr a f H
def aq (a i:E):E:=λc b H=>(a c b H).bind λa H=>(i c b H).bind λi H=>getItem a i H
def Pk (v:V) (H:Hp):R (Option Int):=ro 77 v.int? λi=>.ok (some i) H
def F8 (o:Option E):Cl->Sg->Hp->R (Option Int):=o.casesOn (λU U H=>.ok none H) λe c b H=>(e c b H).bind Pk
def yD (H:Hp) (a:V):Option (List V):=a.casesOn none nO nO nO nO (λn=>(ac H n).bind aB.lst?) (λU U U=>none) some
def rz (a:E) (lo h:Option E):E:=λc b H=>(a c b H).bind λa H=>(F8 lo c b H).bind λlo H=>(F8 h c b H).bind λh H=>ro 83 (yD H a) λl=>fU (jY l lo h) H
noncomputable def lQ (l:List E):Cl->Sg->Hp->R (List V):=l.rec (λU U H=>.ok [] H) λa U i c b H=>(a c b H).bind λv H=>(i c b H).bind λs H=>.ok (v::s) H
def bq (l:List E):E:=λc b H=>(lQ l c b H).bind ow
def aT (l:List E):E:=λc b H=>(lQ l c b H).bind fU
def oC (l:List V) (A:List<|V×V):Option (List<|V×V):=l.rec some (λp U i A=>(p.tup?.bind two).bind λq=>(ry q.1 q.2 A).bind i) A
noncomputable def qJ:List V->Option (List V)
 |[]=>some []
 |k::l=>match l with
  |v::l=>k.int?.bind λU=>(qJ l).map (.tup [k,v]::·)
  |[]=>none
def cZ (l:List V):Option aB:=cond (jE l) (some<|.lst l) none
def jx (l:List V):Option aB:=(oC l []).map .dct
def HO (o:Option aB) (H:Hp):R V:=ro 90 o λc=>sS c H
def iU (l:List E):E:=λc b H=>(lQ l c b H).bind λv H=>ro 91 (qJ v) λp=>HO (jx p) H
def ag (f:Nat) (l:List E):E:=λc b H=>(lQ l c b H).bind λv H=>c f v H
def wb (c f:Nat) (l:Cl) (s:List V) (H:Hp):R V:=
 (l f (.ref (ak H+1)::s)<|(ak H+1,.ins c<|ak H)::(ak H,.ns [])::H).bind λv h=>cond (rZ v) (.ok (.ref<|ak H+1) h) (.no 93)
def mF (c f:Nat) (l:List E):E:=λL b H=>(lQ l L b H).bind λv H=>wb c f L v H
def ah (b:Bi) (l:List E):E:=λL c H=>(lQ l L c H).bind λv H=>cM b v H
def aj (mt:MT) (a:E) (m:Nat) (l:List E):E:=λc b H=>(a c b H).bind λa H=>ro 92 (target mt a m H) λt=>(lQ l c b H).bind λv H=>ug c t a v H
def bT (H:Hp) (v:V) (i:Nat):Option (Option V):=v.casesOn none nO nO nO (λl=>some<|nth l i) (λn=>(ac H n).bind λc=>c.lst?.map λl=>nth l i)
 (λa b c=>some<|cond (Nat.blt i<|gA a b c) (some<|.int<|a+c*.ofNat i) none) nO
noncomputable def cS:Nat:=4096
abbrev Cs:=Cl->Sg->Hp->R (List V)
def dW (t:PT) (O:Cs) (v:V) (l:Cl) (c:Sg) (n:Nat):Nat->Hp->R (List V):=n.rec (λU U=>.no 95) λU h i H=>ro 114 (bT H v i) λo=>o.casesOn (.ok [] H) λx=>ro 115 (cU c t x) λd=>(O l d H).bind0 λa H=>(h (i+1) H).bind0 λb H=>.ok (a++b) H
noncomputable def cr (e:E):Cs:=λc b H=>(e c b H).bind0 λv H=>.ok [v] H
noncomputable def l9 (c:C) (o:Cs):Cs:=λl d H=>(c l d H).bind0 λb H=>cond b (o l d H)<|.ok [] H
def pE (b:Sg) (l:List Nat):Bool:=l.rec true λx U i=>(look b x).casesOn i λU=>false
def fE (b:Sg) (t:PT):Bool:=t.casesOn (λx=>pE b [x])<|pE b
def lT (t:PT) (i:E) (o:Cs):Cs:=λc b H=>(i c b H).bind0 λv H=>cond (fE b t) (dW t o v c b cS 0 H)<|.no 116
def pick (b:Sg) (l:List Nat):Sg:=l.rec [] λx U i=>(look b x).casesOn i λv=>(x,v)::i
def kX (mk:List V->Option aB) (t:PT) (o:Cs) (v:V) (c:Cl) (b:Sg) (H:Hp):R V:=cond (fE b t) ((dW t o v c b cS 0 H).bind0 λl H=>HO (mk l) H)<|.no 116
def bQ (f:List Nat) (t:PT) (i:E) (o:Cs):E:=λc b H=>(i c b H).bind λv H=>kX cZ t o v c (pick b f) H
def qN (k v:E):Cs:=λc b H=>(k c b H).bind0 λk H=>(v c b H).bind0 λv H=>ro 117 k.str? λU=>.ok [.tup [k,v]] H
def sZ (f:List Nat) (t:PT) (i:E) (o:Cs):E:=λc b H=>(i c b H).bind λv H=>kX jx t o v c (pick b f) H
noncomputable def iN (v:V):Option (Int×Nat):=v.tup?.bind λl=>l.casesOn none λx U=>x.int?.map λa=>(a,l.length)
def ui (x y:V):Bool:=(iN x).casesOn false λp=>(iN y).casesOn false λq=>Nat.beq p.2 q.2&&iH p.1 q.1&&((Cf Bj y x).casesOn false not)
def OQ (l:List V) (H:Hp):R V:=l.casesOn (.no 84) λx r=>r.casesOn (ro 84 (iN x) λU=>fU [x] H) λy r=>r.casesOn (cond (ui x y) (fU [x,y] H)<|.no 84) λU U=>.no 84
noncomputable def aB.tab? (c:aB):Bool:=c.casesOn (λU=>false) (λU=>false) (λU=>false) (λU U=>false) (λU=>false) true
def HW (a:E):E:=λL b H=>(a L b H).bind λv H=>ro 84 (im H v) λl=>ro 85 (ac H 0) λc=>cond c.tab? (OQ l H)<|.no 85
def x5 (o:Op) (a b:V) (H:Hp):R V:=ro 94 a.int? λi=>C8 o i b H
noncomputable def dy (b:Sg) (H:Hp):R (Fl×Sg):=.ok (.next,b) H
def aM (e:E):S:=λc b H=>(e c b H).bind λv H=>v.casesOn (dy b H) (λU=>dy b H) (λU=>dy b H) (λU=>dy b H) (λU=>.no 99) (λU=>.no 99) (λU U U=>.no 99) λU=>.no 99
def ue (t:PT) (b:Sg) (v:V) (H:Hp):R (Fl×Sg):=ro 100 (cU b t v) λb=>dy b H
def ai (t:PT) (e:E):S:=λc b H=>(e c b H).bind λv H=>ue t b v H
def cD (o:E) (f:Nat) (e:E):S:=λc b H=>(e c b H).bind λv H=>(o c b H).bind λo H=>(setAttr o f v H).bind λU H=>dy b H
def bN (o i e:E):S:=λc b H=>(e c b H).bind λv H=>(o c b H).bind λo H=>(i c b H).bind λi H=>(setItem o i v H).bind λU H=>dy b H
def cE (x:Nat) (o:Op) (e:E):S:=λl c H=>(lift 101 (look c x) H).bind λa H=>(e l c H).bind λb H=>(x5 o a b H).bind λr H=>dy (put c x r) H
def zf (b:E) (f:Nat) (o:Op) (e:E):S:=λl c H=>(b l c H).bind λb H=>(getAttr b f H).bind λa H=>(e l c H).bind λv H=>(x5 o a v H).bind λr H=>(setAttr b f r H).bind λU H=>dy c H
def uz (b i:E) (o:Op) (e:E):S:=λl c H=>(b l c H).bind λb H=>(i l c H).bind λi H=>(getItem b i H).bind λa H=>(e l c H).bind λv H=>(x5 o a v H).bind λr H=>(setItem b i r H).bind λU H=>dy c H
noncomputable def Rt (b:Sg) (v:V) (H:Hp):R (Fl×Sg):=.ok (.ret v,b) H
def ay (e:E):S:=λc b H=>(e c b H).bind λv H=>Rt b v H
noncomputable def br (c:C) (a b:S):S:=λl d H=>(c l d H).bind λr H=>cond r (a l d H)<|b l d H
def again (k:Sg->Hp->R (Fl×Sg)) (r:Fl×Sg) (H:Hp):R (Fl×Sg):=r.1.casesOn (k r.2 H) (dy r.2 H) (k r.2 H) λv=>.ok (.ret v,r.2) H
def Nw (c:C) (b:S) (l:Cl) (n:Nat):Sg->Hp->R (Fl×Sg):=n.rec (λU U=>.no 96) λU i d H=>(c l d H).bind λr H=>cond r ((b l d H).bind<|again i)<|dy d H
def xv (c:C) (b:S):S:=λl d H=>Nw c b l cS d H
def jB (t:PT) (b:S) (v:V) (l:Cl) (n:Nat):Nat->Sg->Hp->R (Fl×Sg):=n.rec (λU U U=>.no 97) λU h i c H=>ro 112 (bT H v i) λo=>o.casesOn (dy c H) λx=>ro 113 (cU c t x) λc=>(b l c H).bind (again<|h<|i+1)
def aP (t:PT) (i:E) (b:S):S:=λl c H=>(i l c H).bind λv H=>jB t b v l cS 0 c H
noncomputable def CY:S:=λU b H=>.ok (.brk,b) H
noncomputable def mh:S:=λU b H=>.ok (.cont,b) H
def FB:S:=λU b H=>dy b H
def zF (c:Nat) (l:List V):Option V:=l.casesOn none λk r=>k.str?.bind λk=>r.casesOn (some<|.tup [.int<|.ofNat c,.str k,.int (-1),.str []]) λa r=>a.int?.bind λa=>(one r).bind λd=>d.str?.map λd=>.tup [.int<|.ofNat c,.str k,.int a,.str d]
def jg (c:Nat) (l:List E):S:=λL b H=>(lQ l L b H).bind λv H=>ro 102 (zF c v) λx=>.ex x H
noncomputable def Cw:S:=λU U U=>.no 103
def pC (c:Nat) (x:V):Option (V×V):=x.tup?.bind λl=>l.casesOn none λk r=>k.int?.bind λk=>r.casesOn none λv r=>r.casesOn none λU r=>(one r).bind λd=>cond (ieq k<|.ofNat c) (some (v,d)) none
def tr (c:Sg) (o:Option Bool) (H:Hp):R (Fl×Sg):=ro 106 o λb=>.ok (.ret<|.bool b,c) H
def pZ (c:Nat) (x:V) (v:Option V) (H:Hp):Option Bool:=(pC c x).bind λk=>v.bind λv=>Ja H k.1 v
def ny (b:S) (c x:Nat):S:=λl d H=>(b l d H).casesOn .ok (λe H=>tr d (pZ c e (look d x) H) H) .no
def Mw (c:Nat) (s t:List Nat) (x:V):Option Bool:=(pC c x).bind λp=>Cf Bj (.tup [p.1,p.2])<|.tup [.str s,.str t]
def nj (b:S) (c:Nat) (s t:List Nat):S:=λl d H=>(b l d H).casesOn .ok (λe H=>tr d (Mw c s t e) H) .no
def ad (l:List S):S:=l.rec (λU b H=>dy b H) λx U i c b H=>(x c b H).bind λr H=>r.1.casesOn (i c r.2 H) (.ok r H) (.ok r H) λU=>.ok r H
def zA (D:List V) (s:List Nat):Option Sg:=s.rec (some []) λp s i=>cond (Nat.blt D.length<|s.length+1) none<|(nth D<|D.length-(s.length+1)).bind λd=>i.map ((p,d)::·)
def bindArgs (d:List V) (s:List Nat) (A:List V):Option Sg:=s.rec (λA=>A.casesOn (some []) λU U=>none) (λp s i A=>A.casesOn (zA d<|p::s) λa A=>(i A).map ((p,a)::·)) A
structure Fn where
 params:List Nat
 dflts:List V:=[]
 body:S
inductive Tr (α:Type) where
 |nil|node (v:Option α) (l r:Tr α)
noncomputable def Tr.get {h:Type} (t:Tr h) (i:Nat):Option h:=t.rec (λU=>none) (λv U U l r i=>cond (Nat.beq i 0) v<|cond (Nat.beq (i%2) 1) (l<|i/2)<|r<|i/2-1) i
noncomputable def Rn (r:Fl×Sg) (H:Hp):R V:=r.1.casesOn (.ok .non H) (.ok .non H) (.ok .non H) λv=>.ok v H
def je (f:Fn) (c:Cl) (A:List V) (H:Hp):R V:=ro 110 (bindArgs f.dflts f.params A) λb=>(f.body c b H).bind Rn
abbrev Nc:=Nat->List V->Hp->Option (R V)
def Np (P:Tr Fn) (o:Nc) (c:Cl):Cl:=λf A H=>(o f A H).casesOn (ro 111 (P.get f) λn=>je n c A H) id
def run (P:Tr Fn) (o:Nc) (n:Nat):Cl:=Nat.rec (λU U U=>.no 0) (λU c=>Np P o c) n
section
variable {b c:Type} {C:Prop}
theorem ao {f:b->Option c} (h:o.bind f=some r) (k:∀a,o=some a->f a=some r->C):C:=by
 cases o with
 |none=>exact dj rfl h
 |some a=>exact k a rfl h
theorem bB {f:b->c} (h:o.map f=some r) (k:∀a,o=some a->f a=r->C):C:=by
 cases o with
 |none=>exact dj rfl h
 |some a=>exact k a rfl<|W2 h
theorem Lg {P:b->Prop} (h:some a=some r) (k:P a):P r:=W2 h▸k
theorem cg {x:Option b} (h:cond d x none=some r) (k:d->x=some r->C):C:=by
 cases d with
 |false=>exact dj rfl h
 |true=>exact k rfl h
theorem xt {x:Option b} (h:cond d none x=some r) (k:d=false->x=some r->C):C:=by
 cases d with
 |true=>exact dj rfl h
 |false=>exact k rfl h
theorem Dk (h:Am f a d=some r) (k:∀x y,a=some x->d=some y->f x y=r->C):C:=ao h λx e h=>bB h λy q z=>k x y e q z
theorem yL {P:V->Prop} (h:V.sel none f s t d v=some r) (k:∀i,f i=some r->P (.int i)) (g:∀i,s i=some r->P (.str i)) (j:∀i,t i=some r->P (.tup i)) (e:∀i,d i=some r->P (.ref i)):P v:=by cases v<;>first|exact k _ h|exact g _ h|exact j _ h|exact e _ h|exact dj rfl h
theorem jU (h:V.sel none f s t d v=some r) (k:∀i,v=.int i->f i=some r->C) (j:∀i,v=.str i->s i=some r->C) (l:∀i,v=.tup i->t i=some r->C) (g:∀i,v=.ref i->d i=some r->C):C:=
 yL (P:=λw=>v=w->C) h (λi h e=>k i e h) (λi h e=>j i e h) (λi h e=>l i e h) (λi h e=>g i e h) rfl
theorem dJ (h:nO a=some r):C:=dj rfl h
end
theorem bF {v:V} (h:v.int? =some i):v=.int i:=jU h (λU e h=>e.trans<|Wh V.int<|W2 h) (λU U=>dJ) (λU U=>dJ) λU U=>dJ
theorem lj {v:V} (h:v.str? =some i):v=.str i:=jU h (λU U=>dJ) (λU e h=>e.trans<|Wh V.str<|W2 h) (λU U=>dJ) λU U=>dJ
theorem jM {v:V} (h:v.tup? =some i):v=.tup i:=jU h (λU U=>dJ) (λU U=>dJ) (λU e h=>e.trans<|Wh V.tup<|W2 h) λU U=>dJ
theorem nz {v:V} (h:v.ref? =some i):v=.ref i:=jU h (λU U=>dJ) (λU U=>dJ) (λU U=>dJ) λU e h=>e.trans<|Wh V.ref<|W2 h
section
theorem mT {P:aB->Prop} (h:aB.sel none f fd c=some r) (L:∀l,f l=some r->P (.lst l)) (k:∀l,fd l=some r->P (.dct l)):P c:=by cases c<;>first|exact L _ h|exact k _ h|exact dj rfl h
end
theorem qZ {c:aB} (h:c.lst? =some l):c=.lst l:=mT (P:=(·=.lst l)) h (λU h=>Wh aB.lst<|W2 h) λU=>dJ
theorem Mg {c:aB} (h:c.dct? =some l):c=.dct l:=mT (P:=(·=.dct l)) h (λU=>dJ) λU h=>Wh aB.dct<|W2 h
theorem LX {c:aB} (h:c.ins? =some p):c=.ins p.1 p.2:=by cases c<;>first|exact dj rfl h|skip;cases h;rfl
theorem Ju {c:aB} (h:c.ns? =some l):c=.ns l:=by cases c<;>first|exact dj rfl h|skip;cases h;rfl
theorem LU {c:aB} (h:c.tab?):c=.tab:=by cases c<;>first|rfl|exact sB rfl h
theorem xG {o:Op} (h:o.add?):o=.add:=by cases o<;>first|rfl|exact sB rfl h
theorem Ku {o:Op} (h:o.mul?):o=.mul:=by cases o<;>first|rfl|exact sB rfl h
theorem DF {o:Me} (h:o.get?):o=.get:=by cases o<;>first|rfl|exact sB rfl h
theorem EI (h:rZ v):v=.non:=by cases v<;>first|rfl|exact sB rfl h
theorem qq (h:Int.nat? a=some n):a=n:=by
 cases a with
 |ofNat m=>exact Wh Int.ofNat<|W2 h
 |negSucc m=>exact dj rfl h
theorem aD (h:ieq a b):a=b:=by
 cases a with
 |ofNat m=>cases b with
  |ofNat n=>exact Wh Int.ofNat<|W3 h
  |negSucc n=>exact sB rfl h
 |negSucc m=>cases b with
  |ofNat n=>exact sB rfl h
  |negSucc n=>exact Wh Int.negSucc<|W3 h
theorem xd {C:Prop} (h:cellOf H v=some c) (k:∀n,v=.ref n->ac H n=some c->C):C:=ao h λn e h=>k n (nz e) h
theorem rQ {C:Prop} (h:im H v=some l) (k:∀n,v=.ref n->ac H n=some (.lst l)->C):C:=ao h λc e h=>xd e λn e q=>k n e<|q.trans<|Wh some<|qZ h
theorem Ff (h:((ac H n).bind aB.lst?)=some l):ac H n=some (.lst l):=ao h λU e h=>e.trans<|Wh some<|qZ h
theorem ml {C:Prop} (h:one A=some v) (k:A=[v]->C):C:=by
 cases A with
 |nil=>exact dj rfl h
 |cons a l=>cases l with
  |nil=>exact k<|Wh (λv=>[v])<|W2 h
  |cons=>exact dj rfl h
theorem Jo {C:Prop} (h:two A=some p) (k:A=[p.1,p.2]->C):C:=by
 cases A with
 |nil=>exact dj rfl h
 |cons a l=>cases l with
  |nil=>exact dj rfl h
  |cons b l=>cases l with
   |nil=>exact k<|Wh (λp:V×V=>[p.1,p.2])<|W2 h
   |cons=>exact dj rfl h
theorem qF {C:Prop} {mt:MT} (h:target mt a m H=some t) (i:∀n c d s f,a=.ref n->ac H n=some (.ins c d)->ac H d=some (.ns s)->look s m=none->pQ mt c m=some f->t=.fn f->C)
  (L:∀n l k,a=.ref n->ac H n=some (.lst l)->yf m=some k->k.get? =false->t=.me k->C) (D:∀n l k,a=.ref n->ac H n=some (.dct l)->yf m=some k->k.get?->t=.me .get->C):C:=by
 refine ao h λc e h=>xd e λn b g=>?_;clear e;cases c with
 |lst l=>exact ao h λk q h=>xt h λz h=>L n l k b g q z (W2 h).symm
 |dct l=>exact ao h λk q h=>cg h λz h=>D n l k b g q z (W2 h).symm
 |ins c d=>
  refine ao h λx q h=>ao h λs z h=>?_;cases w:look s m with
  |some u=>rw[w] at h;exact dJ h
  |none=>rw[w] at h;exact bB h λf r y=>i n c d s f b g (q.trans<|Wh some<|Ju z) w r y.symm
 |_=>exact dj rfl h
theorem mK {k b a A d D:V} (h:V.tup [.int<|.ofNat c,k,a,d]=.tup [.int<|.ofNat e,b,A,D]):c=e/\k=b/\d=D:=by cases h;exact⟨rfl,rfl,rfl⟩
theorem ji {C:Prop} (h:pC c x=some p) (k:∀a,x=.tup [.int<|.ofNat c,p.1,a,p.2]->C):C:=by
 refine ao h λl L h=>?_;rw[jM L] at k;cases l with
 |nil=>exact dj rfl h
 |cons i r=>
  refine ao h λf b h=>?_;cases r with
  |nil=>exact dj rfl h
  |cons v r=>cases r with
   |nil=>exact dj rfl h
   |cons a r=>exact ao h λd e h=>cg h λq h=>k a (by rw[ml e id,bF b,<-W2 h,aD q])
theorem tD (h:Tg.me k=Tg.me b):k=b:=by cases h;rfl
theorem Jg {C:Prop} (h:qT H v=some l) (s:eO H v=some l->C) (k:∀a b c,v=.rng a b c->l=mM a c (gA a b c)->C):C:=by cases v<;>first|exact s h|exact k _ _ _ rfl (W2 h).symm|exact dj rfl h
theorem kz:∀{n:Nat} {r:Bool},GV p n=some r->(List.range n).all (λj=>(p j).getD true)=r/\∀j,j<n->p j=some ((p j).getD true)
 |0,_,h=>⟨W2 h,λj q=>((W4 j) q).elim⟩
 |n+1,r,h=>Dk h λx y e q z=>by
  haveI H:=(kz e).1;haveI b:=(kz e).2;haveI Y:p n=some ((p n).getD true):=by rw[q];rfl
  refine⟨?_,λj J=>(Nat.lt_succ_iff_lt_or_eq.mp J).elim (b j) λe=>e▸Y⟩;rw[List.range_succ,List.all_append,H,<-z,W5,List.all_nil,W6,q];rfl
section
variable {C:Prop}
theorem gK {r:R c} (h:r.bind0 f=.ok b H) (k:∀a d,r=.ok a d->f a d=.ok b H->C):C:=by
 cases r with
 |ok a d=>exact k a d rfl h
 |_=>cases h
theorem Kj {r:R c} (h:cond b r (.no w)=.ok x H) (k:b->r=.ok x H->C):C:=by
 cases b with
 |false=>cases h
 |true=>exact k rfl h
theorem HV (h:ro w o f=.ok b H) (k:∀a,o=some a->f a=.ok b H->C):C:=by
 cases o with
 |none=>cases h
 |some a=>exact k a rfl h
end
noncomputable def gd {c:Type}:(b:Bool)->(b=true->Option c)->Option c
 |true,f=>f rfl
 |false,_=>none
noncomputable def ob {b c:Type} (o:Option b) (f:b->Option c):Option c:=match o with|some a=>f a|none=>none
noncomputable def op {b c:Type}:(o:Option b)->((a:b)->o=some a->Option c)->Option c
 |some a,f=>f a rfl
 |none,_=>none
noncomputable def NC {c:Type} (a b:Option c):Option c:=a.casesOn b some
noncomputable def gt {c:Type} (b:Bool) (x:Option c) (y:Unit->Option c):Option c:=b.casesOn (y ()) x
noncomputable abbrev Pf (p:Prop):=Option<|PLift p
theorem zG (x:Pf p) (h:x.isSome):p:=by
 cases x with
 |none=>exact sB rfl h
 |some x=>exact x.1
theorem aA (h:(!b)):b=false:=by cases b<;>first|rfl|cases h
theorem Mj {b:Type} {o:Option b} {f:b->Bool} {R:Prop} (h:(o.casesOn false f:Bool)) (k:∀a,o=some a->f a->R):R:=by
 cases o with
 |none=>cases h
 |some a=>exact k a rfl h
section
open PySem PySem.W PySem.Calls PyProof.Rows
open PySem.SeqAt
noncomputable def Tl (v:Value):Option Addr:=v.casesOn none none none (λU=>none) (λU U=>none) (λU U=>none) (λU U=>none) (λU U=>none) (λU=>none) (λU=>none) some
noncomputable def Pc (v:Value):Option (Str×Tok):=v.casesOn none none none (λU=>none) (λU U=>none) (λU U=>none) (λs t=>some (s,t)) (λU U=>none) (λU=>none) (λU=>none) λU=>none
noncomputable def Nz (v:Value):Option (Int×Tok):=v.casesOn none none none (λU=>none) (λi t=>some (i,t)) (λU U=>none) (λU U=>none) (λU U=>none) (λU=>none) (λU=>none) λU=>none
noncomputable def OY (v:Value):Option Bool:=v.casesOn none none none some (λU U=>none) (λU U=>none) (λU U=>none) (λU U=>none) (λU=>none) (λU=>none) λU=>none
noncomputable def Od (v:Value):Option Unit:=v.casesOn (some ()) none none (λU=>none) (λU U=>none) (λU U=>none) (λU U=>none) (λU U=>none) (λU=>none) (λU=>none) λU=>none
noncomputable def Th (d:Data):Option (Array Value):=d.casesOn none (λU=>none) (λU U=>none) (λU U=>none) (λU U U=>none) (λU U=>none) (λU=>none) (λU=>none) (λU=>none) some none
noncomputable def Tv (d:Data):Option (Array Value×Nat):=d.casesOn none (λU=>none) (λa n=>some (a,n)) (λU U=>none) (λU U U=>none) (λU U=>none) (λU=>none) (λU=>none) (λU=>none) (λU=>none) none
theorem tA (h:Tl v=some a):v=.ref a:=by cases v<;>first|exact Wh Value.ref (W2 h)|exact dj rfl h
theorem yP (h:Pc v=some a):v=.str a.1 a.2:=by cases v<;>first|exact Wh (λa:Str×Tok=>Value.str a.1 a.2) (W2 h)|exact dj rfl h
theorem y5 (h:Nz v=some a):v=.int a.1 a.2:=by cases v<;>first|exact Wh (λa:Int×Tok=>Value.int a.1 a.2) (W2 h)|exact dj rfl h
theorem CZ (h:OY v=some a):v=.bool a:=by cases v<;>first|exact Wh Value.bool (W2 h)|exact dj rfl h
theorem vP (h:Od v=some a):v=.none:=by cases v<;>first|rfl|exact dj rfl h
theorem Il (h:Th d=some a):d=.fields a:=by cases d<;>first|exact Wh Data.fields (W2 h)|exact dj rfl h
theorem Hy (h:Tv d=some a):d=.seq a.1 a.2:=by cases d<;>first|exact Wh (λa:Array Value×Nat=>Data.seq a.1 a.2) (W2 h)|exact dj rfl h
noncomputable def O8 (d:Data):Option FuncData:=d.casesOn none (λU=>none) (λU U=>none) (λU U=>none) (λU U U=>none) (λU U=>none) (λU=>none) some (λU=>none) (λU=>none) none
theorem Ha (h:O8 d=some a):d=.func a:=by cases d<;>first|exact Wh Data.func (W2 h)|exact dj rfl h
noncomputable abbrev cJ:=Nat->Option Addr
noncomputable abbrev dH (v:List Value) (n:Nat):Obj:=⟨.type "tuple",none,.seq v.toArray n,#[]⟩
noncomputable abbrev bL (v:List Value) (n:Nat):Obj:=⟨.type "list",none,.seq v.toArray n,#[]⟩
noncomputable abbrev cv (s:List Nat):Str:=⟨s.toArray⟩
noncomputable def bv (o:Obj):Prop:=(o.cls=.type "tuple"/\∃v n,o.data=.seq v n)\/((o.cls=.type "range"\/o.cls=.type "code")/\∃v,o.data=.fields v)
theorem m9 (v:List Value) (n:Nat):bv (dH v n):=.inl ⟨rfl,_,_,rfl⟩
noncomputable def yw (a b c:Int):Prop:=(c=1\/c=-1)/\(-100000<=a/\a<=100000)/\-100000<=b/\b<=100000
mutual
noncomputable def VR (B h:Heap) (d:cJ):V->Value->Prop
 |.non,A=>A=.none
 |.bool b,A=>A=.bool b
 |.int i,A=>∃t,A=.int i t
 |.str x,A=>∃t,A=.str (cv x) t
 |.tup l,A=>∃a s n,A=.ref a/\h.get? a=some (dH s n)/\s.length<=100000/\aX B h d l s
 |.ref n,A=>∃a,A=.ref a/\d n=some a
 |.rng a b c,A=>∃r t u v,A=.ref r/\h.get? r=some ⟨.type "range",none,.fields #[.int a t,.int b u,.int c v],#[]⟩/\yw a b c
 |.arr l,A=>∃a s n,A=.ref a/\B.get? a=some (bL s n)/\s.length<=100000/\aX B h d l s
noncomputable def aX (B h:Heap) (b:cJ):List V->List Value->Prop
 |[],vs=>vs=[]
 |x::l,vs=>∃v w,vs=v::w/\VR B h b x v/\aX B h b l w
end
mutual
theorem VR.mono {B h u:Heap} {j p:cJ} (q:∀a o,h.get? a=some o->bv o->u.get? a=some o) (r:∀n a,j n=some a->p n=some a):
  ∀(v:V) {A:Value},VR B h j v A->VR B u p v A
 |.non,_,x=>x
 |.bool _,_,x=>x
 |.int _,_,x=>x
 |.str _,_,x=>x
 |.tup l,_,x=>W7 (λU=>W7 λy=>W7 λn h=>⟨h.1,q _ _ h.2.1<|m9 y n,h.2.2.1,aX.mono q r l h.2.2.2⟩) x
 |.ref _,_,x=>W7 (λU h=>⟨h.1,r _ _ h.2⟩) x
 |.rng _ _ _,_,x=>W7 (λU=>W7 λU=>W7 λU=>W7 λU h=>⟨h.1,q _ _ h.2.1<|.inr ⟨.inl rfl,_,rfl⟩,h.2.2⟩) x
 |.arr l,_,x=>W7 (λU=>W7 λU=>W7 λU h=>⟨h.1,h.2.1,h.2.2.1,aX.mono q r l h.2.2.2⟩) x
theorem aX.mono {B h q:Heap} {j p:cJ} (u:∀a o,h.get? a=some o->bv o->q.get? a=some o) (r:∀n a,j n=some a->p n=some a):
  ∀(l:List V) {A:List Value},aX B h j l A->aX B q p l A
 |[],_,x=>x
 |x::l,_,y=>W7 (λU=>W7 λU h=>⟨h.1,VR.mono u r x h.2.1,aX.mono u r l h.2.2⟩) y
end
theorem aX.length:∀(l:List V) {p:List Value},aX B h j l p->p.length=l.length
 |[],_,x=>Wh List.length x
 |_::l,_,x=>du x λU U e U z=>e▸Wh Nat.succ (aX.length l z)
theorem aX.append:∀(l:List V) {r:List Value} {m:List V} {p:List Value},aX B h j l r->aX B h j m p->aX B h j (l++m) (r++p)
 |[],_,_,_,x,y=>by cases x;exact y
 |_::l,_,_,_,x,q=>du x λv p e y z=>by subst e;exact vK v _ rfl y<|aX.append l z q
theorem aX.one (x:VR B h j v A):aX B h j [v] [A]:=⟨A,[],rfl,x,rfl⟩
theorem aX.nth:∀(l:List V) {p:List Value} {k:Nat} {v:V},aX B h j l p->nth l k=some v->∃A,p[k]?=some A/\VR B h j v A
 |[],_,_,_,_,e=>dj rfl e
 |x::l,_,0,v,h,q=>du h λw r e y U=>by subst e;cases q;exact bK w rfl y
 |x::l,_,k+1,v,h,q=>du h λw r e U z=>by subst e;exact aX.nth l (k:=k) z q
theorem aX.take:∀(l:List V) {p:List Value} (k:Nat),aX B h j l p->aX B h j (l.take k) (p.take k)
 |_,_,0,_=>rfl
 |[],_,_+1,x=>by cases x;rfl
 |_::l,_,k+1,h=>du h λv q e y z=>by subst e;exact vK v _ rfl y<|aX.take l k z
theorem aX.drop:∀(l:List V) {p:List Value} (k:Nat),aX B h j l p->aX B h j (l.drop k) (p.drop k)
 |_,_,0,x=>x
 |[],_,_+1,x=>by cases x;rfl
 |_::l,_,k+1,h=>du h λv q e y z=>by subst e;exact aX.drop l k z
theorem aX.setNth (y:VR B h j w A):∀(l:List V) {p:List Value} (k:Nat),aX B h j l p->aX B h j (setNth l k w) (p.set k A)
 |[],_,_,x=>by cases x;rfl
 |_::l,_,0,h=>du h λv r e U z=>by subst e;exact vK A r rfl y z
 |_::l,_,k+1,h=>du h λv r e q z=>by subst e;exact vK v _ rfl q<|aX.setNth y l k z
theorem aX.replicate (y:VR B h j w A):∀(k:Nat),aX B h j (List.replicate k w) (List.replicate k A):=by
 intro p;induction p with
 |zero=>exact rfl
 |succ k q=>exact⟨A,_,rfl,y,q⟩
noncomputable def n6 (o:Obj):Prop:=o.cls=.type "frame"/\∃s e,o.data=.dict s e
noncomputable def jQ (o O:Obj):Prop:=O=o\/n6 o/\∃s,O={o with slots:=s}
theorem jQ.refl (o:Obj):jQ o o:=.inl rfl
theorem jQ.trans (x:jQ o j) (y:jQ j O):jQ o O:=by
 rcases x with rfl|⟨h,p,rfl⟩;.exact y
 .rcases y with rfl|⟨q,L,rfl⟩
  .exact .inr ⟨h,p,rfl⟩
  .exact .inr ⟨h,L,rfl⟩
theorem n6.noFields (h:n6 o):∀j,o.data≠.fields j:=λj e=>by obtain⟨_,q,p,D⟩:=h;rw[D] at e;cases e
theorem n6.nf (h:n6 o):∀j,o.data=.fields j->o.cls=.none:=λj e=>((h.noFields j) e).elim
theorem jQ.fra (x:jQ o O) (h:n6 o):n6 O:=by
 rcases x with rfl|⟨h,L,rfl⟩;.exact h
 .exact h
noncomputable def cx (o:Obj):Prop:=∀v,o.data=.fields v->o.cls=.none
structure bc (X:Addr->Prop) (s:Shared) (ρ:cJ) (s':Shared) (ρ':cJ):Prop where
 le:∀n a,ρ n=some a->ρ' n=some a
 fresh:∀n a,ρ' n=some a->ρ n=some a\/s.heap.get? a=none
 keep:∀a o,s.heap.get? a=some o->(∀n,ρ n≠some a)->X a\/∃o',s'.heap.get? a=some o'/\jQ o o'
 still:∀a o,s.heap.get? a=some o->bv o->s'.heap.get? a=some o
 there:∀a o,s.heap.get? a=some o->∃o',s'.heap.get? a=some o'/\(cx o->cx o')/\(n6 o->n6 o')
 gens:s'.gens=s.gens
 drawn:s'.drawn=s.drawn
 os:s'.os=s.os
theorem bc.refl (X:Addr->Prop) (s:Shared) (h:cJ):bc X s h s h:=⟨λU U e=>e,λU U e=>.inl e,λU o e U=>.inr ⟨o,e,.refl o⟩,λU U e U=>e,λU o e=>⟨o,e,id,id⟩,rfl,rfl,rfl⟩
theorem bc.trans (x:bc X s u Y A) (y:bc X Y A J D):bc X s u J D:=by
 refine⟨λn a e=>y.le n a<|x.le n a e,λn a e=>?_,λa o e L=>?_,λa o e h=>y.still a o (x.still a o e h) h,λa o e=>?_,y.gens.trans x.gens,y.drawn.trans x.drawn,y.os.trans x.os⟩
 .rcases y.fresh n a e with q|q
  .exact x.fresh n a q
  .cases p:s.heap.get? a with
   |none=>exact .inr rfl
   |some o=>refine aI (x.there a o p) λG h U=>?_;exact absurd (h.symm.trans q)<|W8 _
 .rcases x.keep a o e L with q|⟨G,q,l⟩
  .exact .inl q
  .haveI N:∀n,A n≠some a:=λn h=>by
    exact(x.fresh n a h).elim (λz=>L n z) λz=>nomatch (z.symm.trans e)
   rcases y.keep a G q N with r|⟨O,r,j⟩;.exact .inl r
   .exact .inr ⟨O,r,l.trans j⟩
 .refine e7 (x.there a o e) λG h k j=>?_
  exact e7 (y.there a G h) λO p Q N=>jy O p (λz=>Q<|k z)  λz=>N<|j z
theorem bc.none_of (x:bc X s j p r) (h:p.heap.get? a=none):s.heap.get? a=none:=by
 cases q:s.heap.get? a with
 |none=>rfl
 |some o=>refine aI (x.there a o q) λO g U=>?_;exact nomatch (h.symm.trans g)
theorem bc.weak (x:bc X s j r p) (h:∀a,X a->Y a):bc Y s j r p:=
 {x with keep:=λa o e q=>(x.keep a o e q).imp (h a) id}
theorem bc.toks (x:bc X s h p j) (t:Nat):bc X s h {p with toks:=t} j:=⟨x.1,x.2,x.3,x.4,x.5,x.6,x.7,x.8⟩
theorem bc.mono (x:bc X s h p j) (y:VR B s.heap h v A):VR B p.heap j v A:=VR.mono x.still x.le v y
theorem bc.monos (x:bc X s h p j) (y:aX B s.heap h v A):aX B p.heap j v A:=aX.mono x.still x.le v y
noncomputable abbrev r6 (b:Type):=(b->Shared->Prop)->(Value->Shared->Prop)->Shared->Prop
abbrev i9 (c b:Type):=c->b->Heap->cJ->Prop
theorem Kh {b:Type} {c:Sem b} {E:Value->Shared->Prop} {Q:b->Shared->Prop} (h:∀(q:b->Shared->Prop) (e:Value->Shared->Prop),(∀a s,Q a s->q a s)->(∀a s,E a s->e a s)->wpAny M A c q e s):wpAny M A c Q E s:=h Q E (λU U h=>h) λU U h=>h
theorem UY {b:Type} {c:Sem b} {E:Value->Shared->Prop} {Q:b->Shared->Prop} (h:∀q:b->Shared->Prop,(∀a s,Q a s->q a s)->wpAny M A c q E s):wpAny M A c Q E s:=h Q λU U h=>h
section
structure Fx where
 prog:Program
 w:World
 B:Heap
 K:Frag
 KB:K.In B
 cls:Nat->Addr
 nm:Nat->Str
 lim:B.NoLimit
 sys:∃o,B.get? sysModules=some o
 stat:∃o,B.get? cStatics=some o
 seer:B.NoSeer
 fn:Nat->Addr
 inj:∀x y,nm x=nm y->x=y
 tree:prog.given.tree=none
 ins:Nat->Bool
 lamPos:Pos
 lamQual:Str
 lamTab:Addr
 lamCode:Addr
 lamSc:List (Str×NameKind)
variable (F:Fx)
def dY {b:Type} (e:b->V) (h:Heap) (c:cJ):List (b×Value)->List (V×V)->Prop
 |[],l=>l=[]
 |p::k,l=>∃v m,l=(e p.1,v)::m/\VR F.B h c v p.2/\dY e h c k m
theorem dY.mono {j:Type} {N:j->V} (D:∀a o,h.get? a=some o->bv o->y.get? a=some o) (A:∀n a,p n=some a->u n=some a):
  ∀(q:List<|j×Value) {l:List<|V×V},dY F N h p q l->dY F N y u q l:=by
 intro r;induction r with
 |nil=>exactλx=>x
 |cons _ q G=>exactλx=>W7 (λv=>W7 λU h=>⟨h.1,VR.mono D A v h.2.1,G h.2.2⟩) x
noncomputable abbrev mX:=tupleKind<|intKind F.prog F.w
noncomputable def Kr (l:List Int):V:=.tup<|l.map .int
noncomputable def DR (h:Heap) (b:cJ) (a:Addr) (l:List<|V×V):Prop:=
 l.length<=100000/\((∃k:List _,h.DictOf (intKind F.prog F.w) a k/\dY F .int h b k l)\/
 (∃k:List _,h.DictOf (strKind F.prog F.w) a k/\dY F (λx=>.str x.cps.toList) h b k l)\/
 (∃s:List _,h.DictOfH (mX F) a s/\dY F Kr h b (s.map λx=>(x.1,x.2.2)) l))
noncomputable def CR (h:Heap) (b:cJ) (a:Addr):aB->Prop
 |.lst l=>∃s n,h.get? a=some (bL s n)/\s.length<=100000/\aX F.B h b l s
 |.dct l=>DR F h b a l
 |.set l=>∃e p t,h.get? a=some ⟨.type "set",none,.set e p t,#[]⟩/\e.size=l.length/\l.length<=100000/\t.fits e.size=true
 |.ins c d=>∃D,b d=some D/\h.get? a=some (instObj (F.cls c) D)/\F.ins c=true
 |.ns d=>∃m:Str->Option Value,(∃(o:Obj) (e:Array DictEntry) (p:Nat),h.get? a=some o/\o.cls≠.type "frame"/\o.data=.dict e p/\StrKeys e/\(∀n,nsFind e n=m n)/\e.size<=d.length)/\(∀f v,look d f=some v->∃A,m (F.nm f)=some A/\VR F.B h b v A)/\∀f,look d f=none->m (F.nm f)=none
 |.tab=>a=F.lamTab/\∃d:Array Value,h.get? a=some {cls:=.none,data:=.fields d}/\(d=#[]\/∃c o s t,d=#[rawInt F.lamPos.line,rawInt F.lamPos.col,.ref c]/\h.get? c=some o/\o.cls=.type "code"/\o.data=.fields s/\s[1]?=some (.str F.lamQual t))
theorem aU {s p} (h:o.data=.dict s p):¬bv o:=by rintro (⟨_,vs,n,e⟩|⟨_,vs,e⟩)<;>rw[h] at e<;>cases e
theorem bZ (h:o.cls≠.type "tuple") (H:o.cls≠.type "range") (b:o.cls≠.type "code"):¬bv o:=by
 rintro (⟨e,_⟩|⟨e|e,_⟩);.exact h e
 .exact H e
 .exact b e
theorem CR.obj2 (x:CR F h j a c):∃o,h.get? a=some o/\¬bv o/\cx o/\¬n6 o:=by
 induction c with
 |lst l=>refine oi x λp n g U=>?_;exact y7 _ g (bZ (by simp) (by simp)<|by simp) (λU e=>by cases e) (λe=>by simp[n6] at e)
 |dct l=>obtain⟨_,⟨p,⟨o,r,q,g,u,D,_⟩,_⟩|⟨p,⟨o,r,q,g,u,D,_⟩,_⟩|⟨p,⟨o,r,q,g,u,D,_⟩,_⟩⟩:=x;all_goals exact y7 o g (aU D) (λU e=>by rw[D] at e;cases e) (λe=>by haveI:=u.1.symm.trans e.1;simp at this)
 |set l=>refine BQ x λr q p g U=>?_;exact y7 _ g (bZ (by simp) (by simp)<|by simp) (λU e=>by cases e) (λe=>by simp[n6] at e)
 |ins c d=>refine e7 x λp U g U=>?_;exact y7 _ g (bZ (by simp) (by simp)<|by simp) (λU e=>by cases e) (λe=>by simp[n6] at e)
 |ns u=>obtain⟨m,⟨o,r,q,g,p,D,_⟩,_⟩:=x;exact y7 o g (aU D) (λU e=>by rw[D] at e;cases e)  λe=>p e.1
 |tab=>obtain⟨_,p,g,_⟩:=x;exact y7 _ g (bZ (by simp) (by simp)<|by simp) (λU U=>rfl) (λe=>by simp[n6] at e)
theorem CR.obj (x:CR F h j a c):∃o,h.get? a=some o/\¬bv o:=x.obj2.imp λU h=>⟨h.1,h.2.1⟩
theorem rH (H:∀a o,h.get? a=some o->bv o->b.get? a=some o) (x:(tupleKind<|intKind prog w).is h k a):(tupleKind<|intKind prog w).is b k a:=by refine IT x λo i n g c r=>?_;haveI d:=r.1;haveI e:=r.2;exact Do o i n (H a o g<|.inl ⟨c,_,_,d⟩) c d e
theorem CR.keep (x:CR F h j a c) (p:∀o,h.get? a=some o->A.get? a=some o)
  (q:∀a o,h.get? a=some o->bv o->A.get? a=some o) (u:∀n a,j n=some a->y n=some a):CR F A y a c:=by
 induction c with
 |lst l=>exact W7 (λU=>W7 λU h=>⟨p _ h.1,h.2.1,aX.mono q u l h.2.2⟩) x
 |dct l=>
  exact⟨x.1,x.2.imp (W7 λr h=>⟨h.1.imp λU=>W7 λU=>W7 λU h=>⟨p _ h.1,h.2⟩,dY.mono F q u r h.2⟩)
   (Or.imp (W7 λr h=>⟨h.1.imp λU=>W7 λU=>W7 λU h=>⟨p _ h.1,h.2⟩,dY.mono F q u r h.2⟩)
   (W7 λU h=>⟨h.1.imp λU=>W7 λU=>W7 λU h=>⟨p _ h.1,h.2.1,h.2.2.1,h.2.2.2.1,λx D=>rH q<|h.2.2.2.2.1 x D,h.2.2.2.2.2⟩,dY.mono F q u _ h.2⟩))⟩
 |set l=>exact W7 (λU=>W7 λU=>W7 λU h=>⟨p _ h.1,h.2⟩) x
 |ins c d=>exact W7 (λU h=>⟨u _ _ h.1,p _ h.2.1,h.2.2⟩) x
 |ns r=>exact W7 (λU h=>⟨h.1.imp λU=>W7 λU=>W7 λU h=>⟨p _ h.1,h.2⟩,λf v e=>(h.2.1 f v e).imp λU h=>⟨h.1,VR.mono q u v h.2⟩,h.2.2⟩) x
 |tab=>exact⟨x.1,x.2.imp λU h=>⟨p _ h.1,h.2.imp id<|W7 λU=>W7 λU=>W7 λr=>W7 λU h=>⟨h.1,q _ _ h.2.1<|.inr ⟨.inr h.2.2.1,r,h.2.2.2.1⟩,h.2.2⟩⟩⟩
structure aG (H:Hp) (ρ:cJ) (s:Shared):Prop where
 keep:∀b o,F.B.get? b=some o->s.heap.get? b=some o
 cell:∀n c,ac H n=some c->∃a,ρ n=some a/\F.B.get? a=none/\CR F s.heap ρ a c
 dom:∀n a,ρ n=some a->∃c,ac H n=some c
 inj:∀n m a,ρ n=some a->ρ m=some a->n=m
 lt:∀n c,ac H n=some c->n<ak H
end
section
theorem qY (a b:Nat):Nat.beq a b=decide (a=b):=by
 by_cases h:a=b;.subst h;simp[W9]
 .refine .trans ?_ (Xa h).symm
  cases q:Nat.beq a b with
  |false=>rfl
  |true=>exact(h<|W3 q).elim
theorem aL (p:Nat×aB) (H:Hp) (n:Nat):ac (p::H) n=if p.1=n then some p.2 else ac H n:=by show(match Nat.beq p.1 n with|true=>some p.2|false=>ac H n)=_;rw[qY];by_cases h:p.1=n<;>simp[h]
theorem nh (p:Nat×aB) (H:Hp) (n:Nat) (c:aB):bj (p::H) n c=if p.1=n then(n,c)::H else p::bj H n c:=by show(match Nat.beq p.1 n with|true=>(n,c)::H|false=>p::bj H n c)=_;rw[qY];by_cases h:p.1=n<;>simp[h]
theorem fX (c:aB):∀(H:Hp) (n m:Nat),ac (bj H n c) m=if n=m then(ac H n).map (λU=>c) else ac H m:=by
 intro z;induction z with
 |nil=>intro n m;by_cases h:n=m<;>simp[bj,ac]
 |cons p H i=>
  intro n m;rw[nh];by_cases h:p.1=n
  .subst h
   rw[Xb rfl,aL,aL,Xb rfl,aL];by_cases q:p.1=m<;>simp[q]
  .rw[Xd h,aL,aL,Xd h,i n m,aL]
   by_cases q:n=m;.subst q;simp[h]
   .simp[q]
theorem sL (c:aB):∀(H:Hp) (n:Nat),ak (bj H n c)=ak H:=by
 intro z;induction z with
 |nil=>exactλU=>rfl
 |cons p H i=>
  intro n;rw[nh];by_cases h:p.1=n;.rw[Xb h,<-h];rfl
  .rw[Xd h];rfl
theorem aG.none_of (R:aG F H j s) (h:s.heap.get? a=none):F.B.get? a=none:=by
 cases q:F.B.get? a with
 |none=>rfl
 |some o=>rw[R.keep a o q] at h;cases h
theorem aG.cellAt (R:aG F H j s) (h:ac H n=some c) (e:j n=some a):CR F s.heap j a c:=by refine e7 (R.cell n c h) λA p U x=>?_;obtain rfl:=W2<|e.symm.trans p;exact x
theorem aG.owned (R:aG F H h s) (e:h n=some a):F.B.get? a=none/\∃o,s.heap.get? a=some o/\¬bv o:=by obtain⟨c,q⟩:=R.dom n a e;refine e7 (R.cell n c q) λA j p x=>?_;obtain rfl:=W2<|e.symm.trans j;exact⟨p,x.obj⟩
theorem aG.notFra (R:aG F H h s) (e:h n=some a) (g:s.heap.get? a=some o):¬n6 o:=by obtain⟨c,p⟩:=R.dom n a e;refine e7 (R.cell n c p) λA j q x=>?_;obtain rfl:=W2<|e.symm.trans j;refine uj x.obj2 λO G U U N=>?_;obtain rfl:=W2<|g.symm.trans G;exact N
theorem aG.other (R:aG F H j s) (X:Addr->Prop) (r:∀a o,s.heap.get? a=some o->¬X a->u.heap.get? a=some o)
  (p:∀a,X a->F.B.get? a=none/\∀n,j n≠some a) (D:∀a o,s.heap.get? a=some o->bv o->u.heap.get? a=some o):aG F H j u:=by
 refine⟨λb o e=>r b o (R.keep b o e) λx=>?_,λn c h=>?_,R.dom,R.inj,R.lt⟩;.exact nomatch (((p b x).1).symm.trans e)
 .exact e7 (R.cell n c h) λa e A y=>jy a e A<|y.keep F (λo q=>r a o q λx=>(p a x).2 n e) D λU U e=>e
theorem aG.grow (R:aG F H h s) (j:∀a o,s.heap.get? a=some o->s'.heap.get? a=some o):aG F H h s':=
 R.other (λU=>False) (λa o e U=>j a o e) (λU x=>x.elim) λa o e U=>j a o e
theorem aG.toks (R:aG F H h s) (t:Nat):aG F H h {s with toks:=t}:=R.grow λU U e=>e
noncomputable def cJ.put (h:cJ) (n:Nat) (a:Addr):cJ:=λm=>if m=n then some a else h m
theorem aG.fresh_le (R:aG F H h s) (a:Addr):∀n b,h n=some b->h.put (ak H) a n=some b:=by intro n b e;obtain⟨c,j⟩:=R.dom n b e;haveI:=R.lt n c j;delta cJ.put;exact(Xd<|Xe ‹_›)▸e
theorem aG.new (R:aG F H j s) (A:s.heap.get? a=none) (x:∀a o,s.heap.get? a=some o->s'.heap.get? a=some o)
  (D:CR F s'.heap (j.put (ak H) a) a c):aG F ((ak H,c)::H) (j.put (ak H) a) s':=by
 refine⟨λb o e=>x b o<|R.keep b o e,λn d h=>?_,λn b e=>?_,λn m b p r=>?_,λn d h=>?_⟩
 .rw[aL] at h
  by_cases q:ak H=n
  .simp only [q] at h
   obtain rfl:=W2 h;exact jy a (by unfold cJ.put;rw[Xb q.symm]) (R.none_of A) D
  .simp only [q,if_false] at h
   exact e7 (R.cell n d h) λb e u y=>jy b (R.fresh_le a n b e) u<|y.keep F (λo z=>x b o z) (λb o z U=>x b o z)<|R.fresh_le a
 .unfold cJ.put at e
  rw[aL];by_cases q:n=ak H;.exact⟨c,by simp[q]⟩
  .rw[Xd q] at e
   obtain⟨d,u⟩:=R.dom n b e;exact⟨d,by simp[Xf q,u]⟩
 .unfold cJ.put at p r
  by_cases Q:n=ak H<;>by_cases u:m=ak H;.exact qL Q<|qL u rfl
  .rw[Xb Q] at p;rw[Xd u] at r;cases p
   obtain⟨_,o,g,_⟩:=R.owned r;exact absurd (g.symm.trans A) nofun
  .rw[Xd Q] at p;rw[Xb u] at r;cases r
   obtain⟨_,o,g,_⟩:=R.owned p;exact absurd (g.symm.trans A) nofun
  .rw[Xd Q] at p;rw[Xd u] at r;exact R.inj n m b p r
 .rw[aL] at h
  show n<ak H+1;by_cases q:ak H=n;.lia
  .simp only [q,if_false] at h
   haveI:=R.lt n d h;exact W0 ‹_›
theorem aG.upd (R:aG F H j s) (e:j n=some a) (r:∀b o,b≠a->s.heap.get? b=some o->s'.heap.get? b=some o)
  (x:CR F s'.heap j a c):aG F (bj H n c) j s':=by
 haveI N:=(R.owned e).1;have u:∀b o,s.heap.get? b=some o->bv o->s'.heap.get? b=some o:=λb o g st=>r b o (λq=>by subst q;obtain⟨_,O,G,p⟩:=R.owned e;obtain rfl:=W2<|g.symm.trans G;exact p st) g;refine⟨λb o g=>r b o (λq=>by subst q;exact nomatch (N.symm.trans g))<|R.keep b o g,λm d h=>?_,λm b g=>?_,R.inj,λm d h=>?_⟩
 .rw[fX] at h
  by_cases q:n=m
  .subst q
   replace h:=(Xb rfl).symm.trans h;obtain⟨y,p⟩:=R.dom n a e;rw[p] at h;cases h;exact jy a e N x
  .rw[Xd q] at h
   refine e7 (R.cell m d h) λb g p y=>?_;haveI A:b≠a:=λz=>q<|R.inj n m a e<|z▸g;exact jy b g p<|y.keep F (λo z=>r b o A z) u λU U e=>e
 .obtain⟨d,D⟩:=R.dom m b g
  rw[fX];by_cases q:n=m;.subst q;exact⟨c,by simp[D]⟩
  .exact⟨d,by simp[q,D]⟩
 .rw[sL]
  rw[fX] at h;by_cases q:n=m
  .subst q
   cases z:ac H n with
   |none=>rw[z] at h;simp at h
   |some D=>exact R.lt n D z
  .rw[Xd q] at h;exact R.lt m d h
theorem bc.grow (X:Addr->Prop) (h:cJ) (j:∀a o,s.heap.get? a=some o->s'.heap.get? a=some o) (p:s'.gens=s.gens) (q:s'.drawn=s.drawn) (r:s'.os=s.os):bc X s h s' h:=
 ⟨λU U e=>e,λU U e=>.inl e,λa o e U=>.inr ⟨o,j a o e,.refl o⟩,λa o e U=>j a o e,λa o e=>⟨o,j a o e,id,id⟩,p,q,r⟩
theorem bc.new (X:Addr->Prop) (R:aG F H h s) (A:s.heap.get? a=none) (j:∀a o,s.heap.get? a=some o->s'.heap.get? a=some o)
  (p:s'.gens=s.gens) (r:s'.drawn=s.drawn) (u:s'.os=s.os):bc X s h s' (h.put (ak H) a):=
 ⟨R.fresh_le a,λn b e=>by
  delta cJ.put at e;by_cases q:n=ak H;.rw[Xb q] at e;cases e;exact .inr A
  .rw[Xd q] at e;exact .inl e,λa o e U=>.inr ⟨o,j a o e,.refl o⟩,λa o e U=>j a o e,λa o e=>⟨o,j a o e,id,id⟩,p,r,u⟩
theorem bc.upd (X:Addr->Prop) (R:aG F H h s) (e:h n=some a) (j:∀b o,b≠a->s.heap.get? b=some o->s'.heap.get? b=some o) (x:s'.heap.get? a=some O) (N:cx O)
  (p:s'.gens=s.gens) (r:s'.drawn=s.drawn) (u:s'.os=s.os):bc X s h s' h:=
 ⟨λU U e=>e,λU U e=>.inl e,λb o g N=>.inr ⟨o,j b o (λq=>N n<|q▸e) g,.refl o⟩,λb o g st=>j b o (λq=>by
  subst q;obtain⟨_,O,G,y⟩:=R.owned e;obtain rfl:=W2<|g.symm.trans G;exact y st) g,λb o g=>by
  by_cases q:b=a;.subst q;exact jy O x (λU=>N)  λz=>((R.notFra e g) z).elim
  .exact⟨o,j b o q g,id,id⟩,p,r,u⟩
section
variable (F)
noncomputable def bO {b c:Type} (i:V->Value->List Addr->Shared->Prop) (X:Addr->Prop) (h:i9 c b) (s:Shared) (d:cJ) (Q:b->Shared->Prop) (E:Value->Shared->Prop) (r:R c):Prop:=
 r.casesOn (λv H=>∀a g f,aG F H f g->bc X s d g f->h v a g.heap f->Q a g)
  (λx H=>∀e g f p,aG F H f g->bc X s d g f->(∀a∈p,s.heap.get? a=none)->i x e p g->E e g) λU=>False
noncomputable def am {b c:Type} (x:V->Value->List Addr->Shared->Prop) (X:Addr->Prop) (T:r6 b) (r:R c) (RV:i9 c b) (s:Shared) (d:cJ):Prop:=∀Q E,bO F x X RV s d Q E r->T Q E s
end
variable {r:i9 b c}
theorem am.no:am F x X T (.no w:R b) r s h:=λU U p=>p.elim
theorem am.imp (x:am F y X T j r s p) (h:∀Q E,T Q E s->u Q E s):am F y X u j r s p:=λQ E q=>h Q E<|x Q E q
theorem am.ok (R:aG F H j s) (a:c) (p:r v a s.heap j) (h:∀Q E,Q a s->T Q E s):am F x X T (.ok v H) r s j:=
 λQ E q=>h Q E (q a s j R (.refl X s j) p)
theorem bO.bind {E:Value->Shared->Prop} (P:bO F q X D s j Q E<|h.bind f)
  (J:∀x p,bO F q X D s j Q E (.ex x p)->bO F q Y r G u A y (.ex x p:R b)) (O:∀v p,h=.ok v p->bO F q X D s j Q E (f v p)->bO F q Y r G u A y (.ok v p)):bO F q Y r G u A y h:=by
 induction h with
 |ok v H=>exact O v H rfl P
 |ex x H=>exact J x H P
 |no w=>exact P
theorem bO.ro {C:Prop} {E:Value->Shared->Prop} (P:bO F x X r s h Q E<|Internal.ro w o f) (k:∀a,o=some a->bO F x X r s h Q E (f a)->C):C:=by
 induction o with
 |none=>exact P.elim
 |some a=>exact k a rfl P
theorem bO.cnd {C:Prop} {E:Value->Shared->Prop} (P:bO F x X r s p Q E<|cond h j<|.no w) (k:h->bO F x X r s p Q E j->C):C:=by
 induction h with
 |false=>exact P.elim
 |true=>exact k rfl P
theorem bO.bind0 {C:Prop} {h:R j} {E:Value->Shared->Prop} (P:bO F x X r s p Q E<|h.bind0 f) (k:∀a H,h=.ok a H->bO F x X r s p Q E (f a H)->C):C:=by
 induction h with
 |ok a H=>exact k a H rfl P
 |_=>exact P.elim
theorem bO.imp {D:i9 b q} {E:Value->Shared->Prop} (P:bO F N X D s u Q E p)
  (h:∀v a A y,r v a A.heap y->(∀j,D v j A.heap y->Q j A)->G a A):bO F N X r s u G E p:=by
 induction p with
 |ok v H=>exactλa A y x L J=>h v a A y J λj=>P j A y x L
 |ex x H=>exact P
 |no w=>exact P
theorem bO.after {E:Value->Shared->Prop} (P:bO F G X r s j Q E h) (x:bc X s j O D):bO F G X r O D Q E h:=by
 induction h with
 |ok v H=>exactλa A p q y u=>P a A p q (x.trans y) u
 |ex v H=>exactλe A p J q y N u=>P e A p J q (x.trans y) (λa L=>x.none_of<|N a L) u
 |no=>exact P
theorem am.bind {K:c->r6 j} (x:am F G X T h r s p)
  (y:∀v A,h=.ok v A->∀a u q,aG F A q u->bc X s p u q->r v a u.heap q->am F G X (K a) (f v A) L u q):
  am F G X (λQ E s=>T (λa u=>K a Q E u) E s) (h.bind f) L s p:=
 λQ E P=>x _ E (P.bind (λU U P=>P) λv H e P a u q J D N=>y v H e a u q J D N Q E<|P.after D)
theorem am.lift (h:∀v,o=some v->am F x X T (.ok v H) r s j):am F x X T (lift w o H) r s j:=by
 induction o with
 |none=>exact am.no
 |some v=>exact h v rfl
end
theorem eI (a b:Int):ieq a b=decide (a=b):=by
 induction a with
 |ofNat m=>induction b with
  |ofNat n=>exact(qY m n).trans<|decide_eq_decide.mpr ⟨Wh _,Xg⟩
  |negSucc n=>exact(Xa nofun).symm
 |negSucc m=>induction b with
  |ofNat n=>exact(Xa nofun).symm
  |negSucc n=>exact(qY m n).trans<|decide_eq_decide.mpr ⟨Wh _,Int.negSucc.inj⟩
theorem vm (a b:Nat):Nat.blt a b=decide (a<b):=by
 by_cases h:a<b;.simp only [Xh h];exact Nat.ble_eq_true_of_le h
 .simp only [Xa h]
  cases q:Nat.blt a b with
  |false=>rfl
  |true=>exact(h<|Xi q).elim
theorem il (a b:Int):iH a b=decide (a<b):=by
 induction a with
 |ofNat m=>induction b with
  |ofNat n=>exact(vm m n).trans<|decide_eq_decide.mpr Int.ofNat_lt.symm
  |negSucc n=>exact(Xa<|Int.not_lt.mpr<|Wy (WB<|Xj n)<|WH m).symm
 |negSucc m=>induction b with
  |ofNat n=>exact(Xh<|WU (Xj m)<|WH n).symm
  |negSucc n=>exact(vm n m).trans (decide_eq_decide.mpr<|by simp only [Int.negSucc_eq,Int.neg_lt_neg_iff];exact⟨λh=>Int.add_lt_add_right (Int.ofNat_lt.mpr h) 1,λh=>Int.ofNat_lt.mp<|Int.lt_of_add_lt_add_right h⟩)
theorem se (h:small a):a.natAbs<2^64:=by cases a<;>simp only [small,vm,decide_eq_true_eq] at h<;>simp only [Int.ofNat_eq_natCast,Int.natAbs_natCast,Int.natAbs_negSucc]<;>first|exact Xk h (by decide)|exact fQ h (by decide)
theorem Pw (m n:Nat):Builtin.bitAnd (m:Int) (n:Int)=((Nat.land m n:Nat):Int):=by rfl
theorem ud (m n:Nat):Builtin.bitOr (m:Int) (n:Int)=((Nat.lor m n:Nat):Int):=by rw[bitOr_and,<-WK,<-nat_or_add_and m n,WK];exact Xl _ _
theorem vS (m n:Nat):Builtin.bitXor (m:Int) (n:Int)=((Nat.lor m n-Nat.land m n:Nat):Int):=by delta Builtin.bitXor;rw[ud];exact(Wq<|Wk Nat.and_le_left Nat.left_le_or).symm
def rt:Op->Operator
 |.add=>.Add|.sub=>.Sub|.mul=>.Mult|.fdiv=>.FloorDiv|.mod=>.Mod|.pow=>.Pow|.shl=>.LShift|.shr=>.RShift|.band=>.BitAnd|.bor=>.BitOr|.bxor=>.BitXor
structure kJ (A:Around) (D:Nat):Prop where
 handled:A.handled=none
 depth:A.depth+4*D<=800
 units:A.units+40*D<=8000
 frames:∃env l,A.frames=some (env::l)/\env.scope.isGenerator=false/\env.scope.isCoroutine=false/\env.builtins=builtinsNs/\env.globals=mainGlobals
section
variable {M:Model}
theorem cQ (h:rP f a b=some r):∃m n:Nat,a=m/\b=n/\r=(f m n:Nat):=
 ao h λm e h=>bB h λn q z=>vK m n (qq e) (qq q) z.symm
theorem iV (h:qc f a b=some r):b≠0/\r=f a b:=
 xt h λq h=>⟨of_decide_eq_false<|(eI b 0).symm.trans q,(W2 h).symm⟩
theorem pn (h:Jk a b=some r):a.natAbs<2^64/\r=a*b:=cg h λq h=>⟨se q,(W2 h).symm⟩
theorem iA (h:Nat.blt a b):a<b:=Xm<|(vm a b).symm.trans h
theorem pt (h:JS a b=some r):∃n:Nat,a=2/\b=n/\n<1000/\r=((2^n:Nat):Int):=
 cg h λq h=>ao h λn e h=>cg h λz h=>y7 n (Xm<|(eI a 2).symm.trans q) (qq e) (iA z) (W2 h).symm
theorem pJ (h:JO a b=some r):∃m n:Nat,a=m/\b=n/\n<1000/\a.natAbs<2^64/\r=((m <<< n:Nat):Int):=
 cg h λq h=>ao h λn e h=>cg h λz h=>ao h λm c h=>bB h λN d y=>by cases d;exact⟨m,n,qq c,qq e,iA z,se q,y.symm⟩
end
section
variable {E:Value->Shared->Prop} {t u:Tok} {Q:Value->Shared->Prop}
theorem KK (h:js o i j=some r) (p:PySem.PylongRoom (model prog w) A s) (H:Q (.int r s.toks) {s with toks:=s.toks+1}):
  wpAny (model prog w) A (binaryOp (rt o) (.int i t)<|.int j u) Q E s:=by
 induction o with
 |add=>cases h;exact PyProof.Rows.add_int H
 |sub=>cases h;exact PyProof.Rows.sub_int H
 |mul=>obtain⟨d,rfl⟩:=pn h;exact PySem.P.mul_int H<|IntMulOk.of_left<|intBits_le_64 (C9 d)<|Et d
 |fdiv=>obtain⟨d,rfl⟩:=iV h;exact PyProof.Rows.floordiv_int d H<|.inr p
 |mod=>obtain⟨d,rfl⟩:=iV h;exact PyProof.Rows.mod_int' d H
 |pow=>refine uj (pt h) λn f q N c=>?_;subst f q c;exact PyProof.Rows.pow_int_small (WH _) (zQ N) (by decide) (by simpa using H)
 |shl=>refine On (pJ h) λm n q b N M f=>?_;subst q b f;refine PyProof.Rows.lshift_int_small (WH _) (zQ N) M ?_;rw[Xn] at H;simpa using H
 |shr=>
  refine du (cQ h) λm n q b c=>?_;subst q b c;refine PyProof.Rows.rshift_int (WH _) ?_;haveI e:(m:Int).fdiv (2^(n:Int).toNat)=((Nat.shiftRight m n):Int):=by
   show _=((m >>> n):Int)
   rw[Xo,Xp _<|WB<|Xq<|by decide];rfl
  exact e▸H
 |band=>refine du (cQ h) λm n q b c=>?_;subst q b c;exact PyProof.Rows.and_int ‹_›
 |bor=>refine du (cQ h) λm n q b c=>?_;subst q b c;exact PyProof.Rows.or_int (by simp only [ud];exact H)
 |bxor=>refine du (cQ h) λm n q b c=>?_;subst q b c;exact PyProof.Rows.xor_int (by rw[vS];exact H)
theorem Ic (h:js o i j=some r) (p:PySem.PylongRoom (model prog w) A s) (H:Q (.int r s.toks) {s with toks:=s.toks+1}):
  wpAny (model prog w) A (inplaceOp (rt o) (.int i t)<|.int j u) Q E s:=by
 induction o with
 |add=>cases h;exact PySem.P.iadd_int H
 |sub=>cases h;exact PySem.P.isub_int H
 |mul=>obtain⟨d,rfl⟩:=pn h;exact PySem.P.imul_int H<|IntMulOk.of_left<|intBits_le_64 (C9 d)<|Et d
 |fdiv=>obtain⟨d,rfl⟩:=iV h;exact PyProof.Rows.ifloordiv_int d H<|.inr p
 |mod=>obtain⟨d,rfl⟩:=iV h;exact PyProof.Rows.imod_int d H
 |pow=>refine uj (pt h) λn f q N c=>?_;subst f q c;exact PyProof.Rows.ipow_int_small (WH _) (zQ N) (by decide) (by simpa using H)
 |shl=>refine On (pJ h) λm n q b N M f=>?_;subst q b f;refine PyProof.Rows.ilshift_int_small (WH _) (zQ N) M ?_;rw[Xn] at H;simpa using H
 |shr=>
  refine du (cQ h) λm n q b c=>?_;subst q b c;refine PyProof.Rows.irshift_int (WH _) ?_;haveI e:(m:Int).fdiv (2^(n:Int).toNat)=((Nat.shiftRight m n):Int):=by
   show _=((m >>> n):Int)
   rw[Xo,Xp _<|WB<|Xq<|by decide];rfl
  exact e▸H
 |band=>refine du (cQ h) λm n q b c=>?_;subst q b c;exact PyProof.Rows.iand_int ‹_›
 |bor=>refine du (cQ h) λm n q b c=>?_;subst q b c;exact PyProof.Rows.ior_int (by simp only [ud];exact H)
 |bxor=>refine du (cQ h) λm n q b c=>?_;subst q b c;exact PyProof.Rows.ixor_int (by simp only [vS];exact H)
end
theorem fj:∀(l m:List Nat),seq l m=decide (l=m)
 |[],[]=>rfl
 |[],_::_=>rfl
 |_::_,[]=>rfl
 |a::l,b::m=>by show cond _ (seq l m) false=_;simp only [qY,fj l m];by_cases h:a=b<;>simp[h]
theorem dU (h:cv s=cv t):s=t:=Wh (λx:Str=>x.cps.toList) h
theorem sk (s t:List Nat):(cv s==cv t)=seq s t:=by
 simp only [fj];by_cases h:s=t;.subst h;simp
 .simp only [Xa h]
  exact beq_eq_false_iff_ne.mpr λe=>h<|dU e
theorem aX.get:∀(l:List V) {q:List Value},aX B h p l q->∀j (J:j<q.length),∃v,Internal.nth l j=some v/\VR B h p v q[j]:=by
 intro r;induction r with
 |nil=>intro _ x j J;cases x;exact((W4 j) J).elim
 |cons x l u=>
  intro _ y j J;obtain⟨v,A,rfl,y,z⟩:=y;induction j with
  |zero=>exact bK x rfl y
  |succ j=>exact u z j _
theorem xk (e:Ol f l m=some r) (X:aX B h b l vs) (Y:aX B h b m w):
  ∃e:Nat->Bool,(List.range<|min vs.length w.length).all e=r/\∀j (H:j<vs.length) (d:j<w.length),∃v c,f v c=some (e j)/\VR B h b v vs[j]/\VR B h b c w[j]:=by
 haveI H:=(kz e).1;haveI d:=(kz e).2;rw[<-X.length,<-Y.length] at H d;refine⟨_,H,λj p q=>aI (X.get l j p) λv n x=>aI (Y.get m j q) λc N g=>vK v c (Eq.trans ?_<|d j<|Nat.lt_min.mpr ⟨p,q⟩) x g⟩;simp only [n,N];rfl
theorem IP (h:some (dH vs k)=some (dH w j)):vs=w:=by cases h;rfl
theorem Ee:∀(n:Nat) (a b:V) (r:Bool),Cf n a b=some r->∀v,VR B h c a v->VR B h c b v->r:=by
 intro d;induction d with
 |zero=>exactλU U U h=>dj rfl h
 |succ n o=>
  intro a b r h;apply yL h<;>intro i h
  .refine bB h λj e q=>?_
   rw[bF e,<-q,eI];rintro _ ⟨t,rfl⟩ ⟨u,e⟩;cases e;exact Xh rfl
  .refine bB h λj e q=>?_
   rw[lj e,<-q,fj];rintro _ ⟨t,rfl⟩ ⟨u,e⟩;exact Xh<|dU (Value.str.inj e).1
  .refine ao h λm e h=>bB h λz q y=>?_
   refine qL (jM e)<|qR y ?_;rintro _ ⟨a,vs,k,rfl,g,_,X⟩ ⟨_,k,_,e,G,_,Y⟩;cases e;simp only [<-IP (g.symm.trans G)] at Y;simp only [qY,Xh<|X.length.symm.trans Y.length,W6];refine aI (xk q X Y) λe f l=>?_;refine qR f ?_;rw[Xr];intro j J;have H:j<vs.length:=by rw[Xs] at J;exact List.mem_range.mp J
   exact du (l j H H) λp s e x w=>o p s _ e _ x w
  .exact dJ h
noncomputable def Vt (A:Around) (s:Shared) (v b:Value) (r:Bool):Prop:=EqAt A s v b r/\RcAt A s v b r/\RcNeAt A s v b (!r)
theorem j7:∀(n:Nat) (A:Around) (a b:V) (r:Bool),Cf n a b=some r->∀d f,A.units+n<cLine->VR B s.heap c a d->VR B s.heap c b f->Vt A s d f r:=by
 intro w;induction w with
 |zero=>exactλU U U U h=>dj rfl h
 |succ n ih=>
  intro A a b r h;haveI o:=h;revert o;apply yL h<;>intro i h o
  .refine bB h λj e q=>?_
   refine qL (bF e)<|qR q ?_;rintro _ _ _ ⟨t,rfl⟩ ⟨u,rfl⟩;refine qL (eI i j) ?_;exact⟨EqAt.int_int i t j u,RcAt.int_int i t j u,RcNeAt.int_int i t j u⟩
  .refine bB h λj e q=>?_
   refine qL (lj e)<|qR q ?_;rintro _ _ _ ⟨t,rfl⟩ ⟨u,rfl⟩;simp only [<-sk];exact⟨EqAt.str_str _ t _ u,RcAt.str_str _ t _ u,RcNeAt.str_str _ t _ u⟩
  .refine ao h λm e h=>bB h λz q y=>λd f Q x' p=>?_
   haveI sm:d=f->r=true:=λz=>Ee (n+1) _ _ _ o _ x'<|z▸p;rw[jM e] at p;obtain⟨a,vs,k,rfl,g,_,X⟩:=x';obtain⟨D,v,k',rfl,g',_,Y⟩:=p;refine aI (xk q X Y) λe G J=>?_;have O:s.heap.IsTuple a vs.toArray:=⟨_,g,rfl,k,rfl⟩
   have M:s.heap.IsTuple D v.toArray:=⟨_,g',rfl,k',rfl⟩
   have N:∀j (G:j<vs.toArray.size) (J:j<v.toArray.size),EqAt A.in1 s vs.toArray[j] v.toArray[j] (e j):=λj p1 p2=>du (J j p1 p2) λv1 v2 e x1 x2=>(ih A.in1 v1 v2 _ e _ _ (by show A.units+1+n<_;simp only [Wl,Wm 1 n];exact Q) x1 x2).1;have H:=VW (Wp _ _) Q;have es:r=((List.range<|min vs.toArray.size v.toArray.size).all e&&vs.toArray.size==v.toArray.size):=by simp only [<-y,<-G,qY,<-X.length,<-Y.length];rfl
   haveI l:=RcAt.tuples O M H N;haveI x:=RcNeAt.tuples O M H N;rw[<-es] at l x;refine mP ?_ l x;by_cases L:a=D
   .subst L
    refine qL (sm rfl) ?_;exact EqAt.same _
   .exact EqAt.of_refs L l
  .exact dJ h
theorem wi {B:Heap} {c:cJ} {s:Shared} {b:Addr} {v w:List Value} (u:A.units+10<cLine) (h:ot l m=some r)
  (G:s.heap.get? a=some (bL v n)) (t:s.heap.get? b=some (bL w k)) (X:aX B s.heap c l v) (Y:aX B s.heap c m w):
  RcAt A s (.ref a) (.ref b) r/\RcNeAt A s (.ref a) (.ref b) (!r):=by
 haveI L:s.heap.IsList a v.toArray:=⟨_,G,rfl,n,rfl⟩
 haveI f:s.heap.IsList b w.toArray:=⟨_,t,rfl,k,rfl⟩
 haveI H:=VW (Wp _ _) u;delta ot at h;simp only [qY,<-X.length,<-Y.length] at h;by_cases q:v.length=w.length
 .rw[Xh q] at h
  refine aI (xk h X Y) λe d o=>?_;have p:∀j (d:j<v.toArray.size) (o:j<w.toArray.size),EqAt A.in1 s v.toArray[j] w.toArray[j] (e j):=λj x y=>du (o j x y) λz D e J M=>(j7 Bj A.in1 z D _ e _ _ (by exact VW (Wo (by decide:5<=10) _)<|by assumption) J M).1;haveI g:=RcAt.lists L f q H p;have i:=RcNeAt.lists L f q H p;rw[<-q,Xs] at d;rw[show(List.range v.toArray.size).all e=r from d] at g i;exact⟨g,i⟩
 .replace h:=(Xa q)▸h
  cases h;haveI d:=bne_iff_ne.mpr q;exact⟨.lists_lengths L f d H,.lists_lengths L f d H⟩
theorem aG.lst (R:aG F H j s) (h:ac H n=some (.lst l)) (x:VR F.B s.heap j (.ref n) A):
  ∃a p k,A=.ref a/\j n=some a/\s.heap.get? a=some (bL p k)/\p.length<=100000/\aX F.B s.heap j l p:=
 aI x λa q e=>du (R.cellAt h e) λp k g z y=>VG a p k q e g z y
theorem sW (R:aG F H c s) (w:A.units+10<cLine) (h:PG H a b=some r) (x:VR F.B s.heap c a v) (y:VR F.B s.heap c b d):
  RcAt A s v d r/\RcNeAt A s v d (!r):=by
 dsimp only [PG] at h;cases q:a.ref? with
 |none=>rw[q] at h;exact(j7 Bj A _ b r h v d (by exact VW (Wo (by decide:4<=10) _)<|by assumption) x y).2
 |some n=>simp only [q] at h;refine ao h λl q t=>ao t λm z u=>rQ q λn e g=>rQ z λk f G=>?_;subst e f;refine rq (R.lst g x) λa D i Q U o U X=>?_;subst Q;refine rq (R.lst G y) λb J j Q U p U Y=>?_;subst Q;exact wi w u o p X Y
def nY (x:V) (y:Value):Bool:=x.sel false (λk=>match y with|.int j _=>j==k|_=>false) (λk=>match y with|.str j _=>j==cv k|_=>false) (λU=>false) λU=>false
theorem sC {c:cJ} {nY:Value->Bool} {P:Value->Prop} (H:∀a r,f a=some r->∀y,VR B h c a y->P y/\nY y=r):∀{l:List V} {b:Bool} {s:List Value},TI f l=some b->aX B h c l s->(∀y,y∈s->P y)/\s.any nY=b:=@λd=>by
 induction d with
 |nil=>intro b s e Y;cases Y;exact⟨λy h=>(Xu h).elim,W2 e⟩
 |cons a l n=>intro b s e Y;refine Dk e λx y g i z=>du Y λv w q y Z=>?_;obtain⟨p,o⟩:=H a x g v y;obtain⟨k,m⟩:=n i Z;refine qL q<|qL Xv<|qL o<|qL m ?_;exact⟨λy j=>(VO j).elim (λe=>e▸p)<|k y,z⟩
theorem iT (e:xO x l=some b) (X:VR B h c x v) (Y:aX B h c l vs):
  (∀y,y∈vs->EqAt A s y v (nY x y))/\vs.any (nY x)=b:=by
 revert X;apply yL e<;>intro k e
 .rintro ⟨t,rfl⟩
  refine sC (λa r q y z=>bB q λj q e=>?_) e Y;rw[bF q] at z;obtain⟨u,rfl⟩:=z;exact⟨EqAt.int_int j u k t,(eI j k).symm.trans e⟩
 .rintro ⟨t,rfl⟩
  refine sC (λa r q y z=>bB q λj q e=>?_) e Y;rw[lj q] at z;obtain⟨u,rfl⟩:=z;exact⟨EqAt.str_str _ u _ t,(sk j k).trans e⟩
 .exact dJ e
 .exact dJ e
theorem vF:∀(l m:List Int),u8 l m=decide (l=m)
 |[],[]=>rfl
 |[],_::_=>rfl
 |_::_,[]=>rfl
 |a::l,b::m=>by show cond _ (u8 l m) false=_;simp only [eI,vF l m];by_cases h:a=b<;>simp[h]
theorem w8:∀(l:List Int),cG (l.map V.int)=some l:=by
 intro z;induction z with
 |nil=>exact rfl
 |cons i l h=>exact Wh (Option.map _)  h
theorem jP:∀(l:List V) (k:List Int),cG l=some k->l=k.map V.int:=by
 intro b;induction b with
 |nil=>exactλk h=>Lg (P:=λk=>[]=k.map V.int) h rfl
 |cons x l H=>exactλk h=>ao h λi e h=>bB h λr q z=>by simp only [bF e,H r q,<-z];rfl
structure mV (κ:Type) [DecidableEq κ] where
 enc:κ->V
 same:∀a b,FJ (enc a) (enc b)=some (decide<|a=b)
noncomputable def xS:mV Int:=⟨.int,λa b=>Wh some<|eI a b⟩
noncomputable def IJ:mV Str:=⟨λx=>.str x.cps.toList,λa b=>Wh some<|(fj _ _).trans<|decide_eq_decide.mpr ⟨λh=>Wh cv h,λh=>Wh (λx:Str=>x.cps.toList) h⟩⟩
def mB:mV (List Int):=⟨Kr,λa b=>by show(cG _).bind (λx=>(cG _).map _)=_;simp only [w8];exact Wh some<|vF a b⟩
section
variable [DecidableEq b] (e:mV b)
theorem uV {p:b×Value} {k:b} {v:List<|b×Value} (q:p.1=k):valueAt (p::v) k=some p.2:=by simp[valueAt,q]
theorem to {p:b×Value} {k:b} {v:List<|b×Value} (q:p.1≠k):valueAt (p::v) k=valueAt v k:=by simp[valueAt,q]
theorem dY.get {k:b}:∀(r:List<|b×Value) {l:List<|V×V} {o:Option V},dY F e.enc h j r l->jZ (e.enc k) l=some o->
  match o with|none=>valueAt r k=none|some v=>∃A,valueAt r k=some A/\VR F.B h j v A:=by
 intro u;induction u with
 |nil=>intro l o x g;cases x;cases g;rfl
 |cons p r D=>
  intro l o x g;refine du x λv m Q y z=>?_;subst Q;replace g:(FJ _ _).bind _=some o:=g;simp only [e.same] at g;by_cases q:p.1=k
  .replace g:=(Xh q)▸g
   obtain rfl:=W2 g;exact bK p.2 (uV q) y
  .rw[Xa q] at g
   refine qL (to q) ?_;exact D z g
theorem dY.has {k:b} {p:List<|b×Value} {l:List<|V×V} {o:Option V} (x:dY F e.enc h j p l) (g:jZ (e.enc k) l=some o):(valueAt p k).isSome=o.isSome:=by
 haveI:=dY.get e p x g;induction o with
 |none=>simp only [this];rfl
 |some v=>exact aI this λA e U=>by simp only [e];rfl
theorem dY.length:∀(p:List<|b×Value) {l:List<|V×V},dY F e.enc h j p l->p.length=l.length:=by
 intro r;induction r with
 |nil=>intro _ x;cases x;rfl
 |cons _ p u=>exactλx=>du x λv m q U z=>q▸Wh Nat.succ (u z)
noncomputable def Pq (d:List<|b×Value) (k:b) (v:Value):List (b×Value):=d.map λc=>if c.1=k then(c.1,v) else c
theorem BB {k:b} {v:Value}:∀(c:List<|b×Value),(∀p∈c,p.1≠k)->Pq c k v=c:=by
 intro z;induction z with
 |nil=>exactλU=>rfl
 |cons p c i=>intro q;haveI h:c.map (λd=>if d.1=k then(d.1,v) else d)=c:=i λp H=>q p<|Xw _ H;delta Pq;exact qL Xy<|qL h<|qL (Xd<|q p Xz) rfl
theorem xz {p:b×Value} {k:b} {c:List<|b×Value} {v:Value} (q:p.1=k) (h:∀r∈c,r.1≠k):stored (p::c) k v=(p.1,v)::c:=by delta stored;refine qL (Xb<|by simp[q])<|qL Xy<|qL (Xb q) ?_;exact Wh _<|BB c h
theorem u3 {p:b×Value} {k:b} {c:List<|b×Value} {v:Value} (q:p.1≠k):stored (p::c) k v=p::stored c k v:=by delta stored;refine qL Xv<|qL (Xa q)<|qL Xy<|qL (Xd q) ?_;exact(apply_ite _ _ _ _).symm
theorem dY.set {k:b} {v:V} {D:Value} (J:VR F.B h j v D):∀(A:List<|b×Value) {l m:List<|V×V},(A.map (·.1)).Nodup->dY F e.enc h j A l->n9 (e.enc k) v l=some m->
  dY F e.enc h j (stored A k D) m/\m.length<=l.length+1:=by
 intro G;induction G with
 |nil=>intro l m _ x g;cases x;cases g;exact⟨⟨v,[],rfl,J,rfl⟩,XA _⟩
 |cons p A L=>
  intro l m N x g;refine du x λu l' Q y z=>?_;subst Q;rw[Xy,XB] at N;replace g:(FJ _ _).bind _=some m:=g;rw[e.same] at g;by_cases q:p.1=k
  .replace g:=(Xh q)▸g
   obtain rfl:=W2 g;refine qL (xz q λr O e=>N.1<|by simp only [q,<-e];exact XC O) ?_;exact⟨⟨v,l',rfl,J,z⟩,XD _⟩
  .replace g:=(Xa q)▸g
   refine bB g λm' r g=>?_;haveI O:=(L N.2 z r).1;haveI Y:=(L N.2 z r).2;refine qL (u3 q)<|qR g ?_;exact⟨⟨u,m',rfl,y,O⟩,XE Y⟩
end
theorem gz {prog:Program} {w:World} {b:Type} [DecidableEq b] {k:KeyKind prog w b} {h:Heap} {a:Addr} {o:Obj} {s:Array DictEntry} {p} (g:h.get? a=some o) (x:o.ExactDict) (d:o.data=.dict s p) (H:s.toList=[]):h.DictOf k a []:=by
 refine⟨o,s,p,g,x,d,λe m=>?_,?_,XG⟩;.rw[<-Array.mem_toList_iff,H] at m;simp at m
 .exact H▸Pairs.nil
theorem uQ {prog:Program} {w:World} {b:Type} [DecidableEq b] {k:HeapKind prog w b} {h:Heap} {a:Addr} {o:Obj} {e:Array DictEntry} {p} (g:h.get? a=some o) (d:o.ExactDict) (H:o.data=.dict e p) (c:e.toList=[]):h.DictOfH k a []:=
 ⟨o,e,p,g,d,H,by rw[c];rfl,λx m=>by simp at m,XG⟩
theorem DR.exact {h:Heap} {j:cJ} {a:Addr} {l:List<|V×V} (x:DR F h j a l):∃o,h.get? a=some o/\o.ExactDict:=by obtain⟨_,⟨p,d,_⟩|⟨p,d,_⟩|⟨r,d,_⟩⟩:=x<;>exact rq d λo U U g q U U U=>⟨o,g,q⟩
theorem dY.nil {j:Type} {N:j->V} {h:Heap} {p:cJ} {u:List<|j×Value} (x:dY F N h p u []):u=[]:=by
 induction u with
 |nil=>rfl
 |cons q r=>exact oi x λU U e U=>nomatch e
theorem DR.empty {h:Heap} {j:cJ} {a:Addr} (x:DR F h j a []):∃o q r,h.get? a=some o/\o.ExactDict/\o.data=.dict q r/\q.toList=[]:=by
 obtain⟨_,⟨A,d,y⟩|⟨A,d,y⟩|⟨G,d,y⟩⟩:=x
 .simp only [y.nil] at d
  exact MW d λo q r g u D U p U=>Do o q r g u D (by cases h:q.toList with|nil=>rfl|cons a b=>rw[h] at p;cases p)
 .simp only [y.nil] at d
  exact MW d λo q r g u D U p U=>Do o q r g u D (by cases h:q.toList with|nil=>rfl|cons a b=>rw[h] at p;cases p)
 .simp only [List.map_eq_nil_iff.mp y.nil] at d
  exact MW d λo q r g u D p U U=>Do o q r g u D p
theorem dY.head {j:Type} {N:j->V} {h:Heap} {u:cJ} {y:List<|j×Value} {p:V×V} {l:List<|V×V} (x:dY F N h u y<|p::l):∃k,p.1=N k:=by
 induction y with
 |nil=>cases x
 |cons q r=>exact oi x λv m e U=>⟨q.1,(Prod.mk.inj (List.cons.inj e).1).1⟩
noncomputable def lc (x:V) (l:List<|V×V):Prop:=∀p m,l=p::m->FJ p.1 x≠none
theorem dY.kind {C:Prop} {j:Type} {N:j->V} {h:Heap} {q:cJ} {r:List<|j×Value} {p:V×V} {l:List<|V×V} {x:V} (y:dY F N h q r<|p::l) (u:lc x<|p::l) (n:∀k,FJ (N k) x=none):C:=by obtain⟨k,e⟩:=y.head;exact((u p l rfl)<|e▸n k).elim
section
variable (x:DR F h b a l)
include x
theorem DR.int {k:Int} (q:lc (.int k) l):∃j:List (Int×Value),h.DictOf (intKind F.prog F.w) a j/\dY F xS.enc h b j l:=by
 induction l with
 |nil=>exact mQ x.empty λo y u g r D p=>bK [] (gz g r D p) rfl
 |cons p m=>exact x.2.elim id λx=>x.elim (λ⟨_,_,y⟩=>y.kind q λU=>rfl) λ⟨_,_,y⟩=>y.kind q λU=>rfl
theorem DR.str {k:List Nat} (q:lc (.str k) l):∃j:List (Str×Value),h.DictOf (strKind F.prog F.w) a j/\dY F IJ.enc h b j l:=by
 induction l with
 |nil=>exact mQ x.empty λo y u g r D p=>bK [] (gz g r D p) rfl
 |cons p m=>exact x.2.elim (λ⟨_,_,y⟩=>y.kind q λU=>rfl) λx=>x.elim id λ⟨_,_,y⟩=>y.kind q λU=>rfl
theorem DR.tup {k:List V} (j:lc (.tup k) l):∃q:List (List Int×Addr×Value),h.DictOfH (mX F) a q/\dY F mB.enc h b (q.map λx=>(x.1,x.2.2)) l:=by
 induction l with
 |nil=>exact mQ x.empty λo y u g r D p=>bK [] (uQ g r D p) rfl
 |cons p m=>exact x.2.elim (λ⟨_,_,y⟩=>y.kind j λU=>rfl) λx=>x.elim (λ⟨_,_,y⟩=>y.kind j λU=>rfl) id
end
theorem iD {x:V} {l:List<|V×V} {o:Option V} (h:wx x l=some o):vZ x=true/\jZ x l=some o:=cg h .intro
theorem jd {x:V} {l:List<|V×V} {o:Option V} (h:jZ x l=some o):lc x l:=λp m e q=>by subst e;exact ao h λU e U=>dj q e
theorem qP {x v:V} {l r:List<|V×V} (h:n9 x v l=some r):lc x l:=λp m e q=>by subst e;exact ao h λU e U=>dj q e
theorem fq {b:Type} [DecidableEq b] (s:List<|b×Addr×Value) (k:b):valueAt (s.map λx=>(x.1,x.2.2)) k=(atKey s k).map (·.2):=by delta valueAt atKey;simp only [List.find?_map,Option.map_map];rfl
theorem wj {b:Type} [DecidableEq b] (s:List<|b×Addr×Value) (k:b) (a:Addr) (v:Value):(storedH s k a v).map (λx=>(x.1,x.2.2))=stored (s.map λx=>(x.1,x.2.2)) k v:=kvsOf_storedH s k a v
theorem rG {B:Heap} {b:cJ} {h:Heap} {prog:Program} {w:World}:∀(s:List Int) {d:List Value},aX B h b (s.map V.int) d->ItemsAre (intKind prog w) s d:=by
 intro c;induction c with
 |nil=>intro _ x;cases x;exact .nil
 |cons k s i=>intro _ x;obtain⟨v,e,rfl,⟨t,rfl⟩,z⟩:=x;exact .cons (intKind_is prog w k t)<|i z
theorem By {B h:Heap} {b:cJ} {k:List Int} {v:Value} (x:VR B h b (.tup<|k.map V.int) v):∃a,v=.ref a/\(mX F).is h k a:=by refine mQ x λa s n q g U y=>?_;subst q;exact⟨a,rfl,_,s.toArray,n,g,rfl,rfl,rG k y⟩
theorem aG.not_sys {H:Hp} {j:cJ} {s:Shared} (R:aG F H j s) {n:Nat} {a:Addr} (e:j n=some a):(a==sysModules)=false:=by have h:=(R.owned e).1;obtain⟨o,g⟩:=F.sys;exact beq_eq_false_iff_ne.mpr λq=>by rw[q,g] at h;cases h
section
variable {A:Around} {E:Value->Shared->Prop} {s:Shared}
theorem vO (h:A.units+10<cLine):(mX F).room A.in1:=by exact VW (Wo (by decide:1<=10) _) h
theorem vV {C:Prop} (D:DR F s.heap f a l) (p:vZ x=true) (H:lc x l) (X:VR F.B s.heap f x u)
  (r:∀(c:Type) (_:DecidableEq c) (e:mV c) (n:KeyKind F.prog F.w c) (k:c) (g:List<|c×Value),x=e.enc k->n.is k u=true->s.heap.DictOf n a g->dY F e.enc s.heap f g l->
   (∀h v L,L.length<=100000->h.DictOf n a v->dY F e.enc h f v L->DR F h f a L)->C)
  (z:∀i b j,x=Kr i->u=.ref b->(mX F).is s.heap i b->s.heap.DictOfH (mX F) a j->dY F mB.enc s.heap f (j.map λx=>(x.1,x.2.2)) l->C):C:=by
 cases x with
 |int k=>obtain⟨t,rfl⟩:=X;exact aI (D.int H) λg d y=>r _ _ xS _ k g rfl (intKind_is ..) d y λh v L o d y=>⟨o,.inl ⟨v,d,y⟩⟩
 |str k=>obtain⟨t,rfl⟩:=X;exact aI (D.str H) λg d y=>r _ _ IJ _ _ g rfl (strKind_is ..) d y λh v L o d y=>⟨o,.inr<|.inl ⟨v,d,y⟩⟩
 |tup k=>
  cases q:cG k with
  |none=>exact NS p<|Wh Option.isSome q
  |some i=>haveI m:=jP k i q;subst m;exact aI (D.tup H) λj d y=>aI (By X) λb e w=>z i b j rfl e w d y
 |_=>exact NS p rfl
theorem Hv (u:A.units+10<cLine) {o:Option V} {Q:Value->Shared->Prop} (D:DR F s.heap f a l) (i:(a==sysModules)=false) (h:wx x l=some o) (X:VR F.B s.heap f x r) (q:∀t,Q (.bool o.isSome) {s with toks:=t}):
  wpAny (model F.prog F.w) A (compareOp .In r<|.ref a) Q E s:=by
 obtain⟨H,h⟩:=iD h;refine vV D H (jd h) X (λc U e n k p g m d y U=>?_) λw b z g v j d y=>?_
 .rw[g] at h
  exact wpAny_in_of m i d.mapOf<|y.has e h▸q _
 .rw[g] at h
  haveI e:=y.has mB h;simp only [fq,XH] at e;exact v▸(wpAny_in_heap<|vO u) j i d (e▸q _)
theorem yi (u:A.units+10<cLine) {o:Option V} {Q:Value->Shared->Prop} (D:DR F s.heap f a l) (i:(a==sysModules)=false) (h:wx x l=some o) (X:VR F.B s.heap f x r) (q:∀t,Q (.bool (!o.isSome)) {s with toks:=t}):
  wpAny (model F.prog F.w) A (compareOp .NotIn r<|.ref a) Q E s:=by
 obtain⟨H,h⟩:=iD h;refine vV D H (jd h) X (λc U e n k p g m d y U=>?_) λw b z g v j d y=>?_
 .rw[g] at h
  exact wpAny_notIn_of m i d.mapOf<|y.has e h▸q _
 .rw[g] at h
  haveI e:=y.has mB h;simp only [fq,XH] at e;exact v▸(wpAny_notIn_heap<|vO u) j i d (e▸q _)
theorem AU (u:A.units+10<cLine) {v:V} {Q:Value->Shared->Prop} (D:DR F s.heap f a l) (h:wx x l=some (some v)) (X:VR F.B s.heap f x w) (q:∀g t,VR F.B s.heap f v g->Q g {s with toks:=t}):
  wpAny (model F.prog F.w) A (PySem.getItem (.ref a) w) Q E s:=by
 obtain⟨H,h⟩:=iD h;refine vV D H (jd h) X (λc U e N k j i o d y U=>?_) λG b J i m n d y=>?_
 .rw[i] at h
  exact aI (y.get e j h) λg e z=>wpAny_getItem_of o d.mapOf e<|q _ _ z
 .rw[i] at h
  refine aI (dY.get mB _ y h) λg e z=>?_;rw[fq] at e;exact bB e λp r e=>m▸(wpAny_getItem_heap<|vO u) n d r (q _ _<|e▸z)
theorem dI {b:Type} {l:List b} (h:jE l=true):l.length<100000:=iA h
theorem DW (hu:A.units+10<cLine) {v:V} {i:Value} {m:List<|V×V} {Q:Unit->Shared->Prop} (D:DR F s.heap f a l) (h:ry x v l=some m) (X:VR F.B s.heap f x vx) (Y:VR F.B s.heap f v i)
  (j:∀g,Heap.SameBut a s.heap g->∀b o,s.heap.get? b=some o->bv o->g.get? b=some o)
  (w:∀g t,DR F g f a m->Heap.SameBut a s.heap g->Q () {s with heap:=g,toks:=t}):wpAny (model F.prog F.w) A (PySem.setItem (.ref a) vx i) Q E s:=by
 refine cg h λM h=>cg h λO h=>?_;haveI L:=dI O;refine vV D M (qP h) X (λc U e knd k n r is d y mk=>?_) λks b xs r G J d y=>?_
 .rw[r] at h
  obtain⟨z,u⟩:=dY.set e Y n (MW d λU U U U U U U U N=>N) y h;haveI H:=dY.length e n y;exact wpAny_setItem_pairs is d (λg q p=>w g _ (mk _ _ _ (Wk u L) q<|dY.mono F (j g p) (λU U e=>e) _ z) p) (by simp only [XI,H];exact WO<|Xk ‹_›<|by decide)
 .rw[r] at h
  haveI z:=(dY.set mB Y _ (MW d λU U U U U U U U N=>by simp only [XJ];exact N) y h).1;haveI u:=(dY.set mB Y _ (MW d λU U U U U U U U N=>by simp only [XJ];exact N) y h).2;haveI H:=dY.length mB _ y;rw[XK] at H;rw[<-wj xs ks b i] at z;refine qL G ?_;exact wpAny_setItem_heap (vO hu) J d (λg q p=>w g _ ⟨Wk u L,.inr<|.inr ⟨_,q,dY.mono F (j g p) (λU U e=>e) _ z⟩⟩ p) (by simp only [XI,H];exact WO<|Xk ‹_›<|by decide)
end
section
variable {F:Fx}
noncomputable def eR:Addr->Prop:=λU=>False
def jt (F:Fx):i9 V Value:=λv A h b=>VR F.B h b v A
noncomputable def RD:i9 Bool Bool:=λb c U U=>b=c
noncomputable def PB:i9 Unit Unit:=λU U U U=>True
section
theorem am.ro (h:∀x,o=some x->am F p X T (f x) r s j):am F p X T (Internal.ro w o f) r s j:=by
 induction o with
 |none=>exact am.no
 |some x=>exact h x rfl
theorem am.cnd (h:b=true->am F x X T r p s j):am F x X T (cond b r<|.no w) p s j:=by
 induction b with
 |false=>exact am.no
 |true=>exact h rfl
theorem am.ite (h:b=true->am F x X T r p s j) (q:b=false->am F x X T u p s j):am F x X T (cond b r u) p s j:=by
 induction b with
 |false=>exact q rfl
 |true=>exact h rfl
theorem am.sel (y:∀i,v=.int i->am F x X T (j i) r s h) (D:∀i,v=.str i->am F x X T (q i) r s h)
  (G:∀i,v=.tup i->am F x X T (u i) r s h) (A:∀i,v=.ref i->am F x X T (p i) r s h):am F x X T (V.sel (.no w) j q u p v) r s h:=by
 cases v<;>first|exact y _ rfl|exact D _ rfl|exact G _ rfl|exact A _ rfl|exact am.no
end
theorem bh (h:Heap):h.get? h.objs.size=none:=by
 cases q:h.get? h.objs.size with
 |none=>rfl
 |some o=>exact((XM _)<|XN q).elim
theorem am.tok {j p:Type} {T:r6 j} {u:i9 p j} {v:p} {a:j} (R:aG F H r s) (x:u v a s.heap r) (h:∀Q E,(∀t,Q a {s with toks:=t})->T Q E s):am F y X T (.ok v H) u s r:=
 λQ E q=>h Q E λt=>q a _ r (R.toks t) ((bc.refl X s r).toks t) x
theorem am.tokv {j:Type} {r:i9 j Value} {v:j} (R:aG F H p s) (h:∀Q E,(∀a t,r v a s.heap p->Q a {s with toks:=t})->T Q E s):am F x X T (.ok v H) r s p:=
 λQ E q=>h Q E λa t u=>q a _ p (R.toks t) ((bc.refl X s p).toks t) u
theorem am.obj (R:aG F H j s) (h:∀Q E,(∀a p t,(∀b o,s.heap.get? b=some o->p.get? b=some o)->VR F.B p j v a->Q a {s with heap:=p,toks:=t})->T Q E s):am F x X T (.ok v H) (jt F) s j:=
 λQ E q=>h Q E λa p t r u=>q a _ j (R.grow r) (bc.grow X j r rfl rfl rfl) u
theorem am.cell (R:aG F H j s) (h:∀Q E,(∀a p t,(∀b o,s.heap.get? b=some o->p.get? b=some o)->s.heap.get? a=none->CR F p (j.put (ak H) a) a c->Q (.ref a) {s with heap:=p,toks:=t})->T Q E s):
  am F x X T (sS c H) (jt F) s j:=
 λQ E q=>h Q E λa p t r A u=>q _ _ _ (R.new A r u) (bc.new X R A r rfl rfl rfl) ⟨a,rfl,by unfold cJ.put;rw[Xb rfl]⟩
theorem am.turn {j p:Type} {T:r6 j} {y:i9 p j} {v:p} (R:aG F H u s) (e:u n=some a)
  (h:∀Q E,(∀r x t,(∀b o,b≠a->s.heap.get? b=some o->x.get? b=some o)->CR F x u a c->y v r x u->Q r {s with heap:=x,toks:=t})->T Q E s):am F J X T (.ok v<|bj H n c) y s u:=by
 refineλQ E q=>h Q E λr x t D A G=>?_
 exact uj A.obj2 λO g U N U=>q r _ u (R.upd e D A) (bc.upd X R e D g N rfl rfl rfl) G
theorem am.pure {j p:Type} {T:r6 j} {r:i9 p j} {v:p} {a:j} (R:aG F H q s) (u:r v a s.heap q) (h:∀Q E,Q a s->T Q E s):am F x X T (.ok v H) r s q:=am.ok R a u h
theorem aG.still_turn (R:aG F H h s) (e:h n=some a) {h':Heap} (j:∀b o,b≠a->s.heap.get? b=some o->h'.get? b=some o):∀b o,s.heap.get? b=some o->bv o->h'.get? b=some o:=
 λb o g st=>j b o (λq=>by subst q;obtain⟨_,O,G,N⟩:=R.owned e;obtain rfl:=W2<|g.symm.trans G;exact N st) g
theorem am.lst (R:aG F H j s) (u:aX F.B s.heap j l vs)
  (h:jE l->∀Q E,(∀a p t n,(∀b o,s.heap.get? b=some o->p.get? b=some o)->s.heap.get? a=none->p.get? a=some (bL vs n)->Q (.ref a) {s with heap:=p,toks:=t})->T Q E s):
  am F x X T (fU l H) (jt F) s j:=
 am.cnd λq=>am.cell R λQ E z=>h q Q E λa p t n r A g=>z a p t r A ⟨vs,n,g,u.length▸WO (dI q),aX.mono (λb o g U=>r b o g) (R.fresh_le a) _ u⟩
theorem am.tup (R:aG F H j s) (u:aX F.B s.heap j l vs)
  (h:jE l->∀Q E,(∀a p t n,(∀b o,s.heap.get? b=some o->p.get? b=some o)->p.get? a=some (dH vs n)->Q (.ref a) {s with heap:=p,toks:=t})->T Q E s):
  am F x X T (ow l H) (jt F) s j:=
 am.cnd λq=>am.obj R λQ E z=>h q Q E λa p t n r g=>z _ p t r ⟨a,vs,n,rfl,g,u.length▸WO (dI q),aX.mono (λb o g U=>r b o g) (λU U e=>e) _ u⟩
noncomputable def vq:Cm->CmpOp
 |.eq=>.Eq|.ne=>.NotEq|.lt=>.Lt|.gt=>.Gt|.le=>.LtE|.ge=>.GtE|.isn=>.Is|.isnn=>.IsNot|.inn=>.In|.nin=>.NotIn
theorem VR.non_iff (x:VR B h j v A):(A==Value.none)=rZ v:=by
 cases v with
 |non=>rw[x];rfl
 |bool b=>exact x▸rfl
 |int i=>exact x.elim λt e=>e▸rfl
 |str i=>exact x.elim λt e=>e▸rfl
 |tup l=>exact BQ x λa p n e U=>e▸rfl
 |ref n=>exact aI x λa e U=>e▸rfl
 |rng a b c=>exact Ut x λr t u v e U=>e▸rfl
 |arr l=>exact BQ x λa p n e U=>e▸rfl
theorem pX (h:neg o=some b):o=some (!b):=bB h λc q z=>by simp only [q,<-z,XP]
theorem oh (h:xo a b=some r):b=.non/\r=rZ a:=cg h λq h=>⟨EI q,(W2 h).symm⟩
theorem VR.int_p {P:Value->Prop} (x:VR B h j (.int i) A) (k:∀t,P<|.int i t):P A:=x.elim λt e=>e▸k t
theorem zn {P:Value->Value->Bool->Prop} (e:Oz f a b=some r) (x:VR B h c a v) (y:VR B h c b d) (k:∀i j t u,P (.int i t) (.int j u)<|f i j):P v d r:=
 ao e λi g e=>bB e λj l z=>by rw[bF g] at x;rw[bF l] at y;exact z▸x.int_p (P:=λv=>P v _ _) λt=>y.int_p (P:=λd=>P _ d _) λu=>k i j t u
theorem wV {E:Value->Shared->Prop} (g:s.heap.get? a=some (bL vs n)) (e:xO x l=some b) (d:VR B s.heap c x v) (Y:aX B s.heap c l vs) (q:Q (.bool b) s):
  wpAny (model F.prog F.w) A (compareOp .In v<|.ref a) Q E s:=by
 obtain⟨h,H⟩:=iT e d Y;refine in_listAt (nY x) ⟨_,g,rfl,n,rfl⟩ (λy f=>h y<|List.mem_toArray.mp f) ?_;rw[<-XQ,H];exact q
theorem rF {E:Value->Shared->Prop} (g:s.heap.get? a=some (bL vs n)) (e:xO x l=some b) (d:VR B s.heap c x v) (Y:aX B s.heap c l vs) (q:Q (.bool (!b)) s):
  wpAny (model F.prog F.w) A (compareOp .NotIn v<|.ref a) Q E s:=by
 obtain⟨h,H⟩:=iT e d Y;refine notIn_listAt (nY x) ⟨_,g,rfl,n,rfl⟩ (λy f=>h y<|List.mem_toArray.mp f) ?_;simp only [<-XQ,H];exact q
theorem wA {E:Value->Shared->Prop} (g:s.heap.get? a=some (dH vs n)) (e:xO x l=some b) (d:VR B s.heap c x v) (Y:aX B s.heap c l vs) (q:Q (.bool b) s):
  wpAny (model F.prog F.w) A (compareOp .In v<|.ref a) Q E s:=by
 obtain⟨h,H⟩:=iT e d Y;refine in_tupleAt (nY x) ⟨_,g,rfl,n,rfl⟩ (λy f=>h y<|List.mem_toArray.mp f) ?_;rw[<-XQ,H];exact q
theorem rE {E:Value->Shared->Prop} (g:s.heap.get? a=some (dH vs n)) (e:xO x l=some b) (d:VR B s.heap c x v) (Y:aX B s.heap c l vs) (q:Q (.bool (!b)) s):
  wpAny (model F.prog F.w) A (compareOp .NotIn v<|.ref a) Q E s:=by
 obtain⟨h,H⟩:=iT e d Y;refine notIn_tupleAt (nY x) ⟨_,g,rfl,n,rfl⟩ (λy f=>h y<|List.mem_toArray.mp f) ?_;rw[<-XQ,H];exact q
theorem aG.at' (R:aG F H h s) (g:ac H n=some c) (x:VR F.B s.heap h (.ref n) A):∃a,A=.ref a/\h n=some a/\CR F s.heap h a c:=aI x λa q e=>jy a q e<|R.cellAt g e
theorem q9 (R:aG F H d s) (u:A.units+10<cLine) (h:Ja H a b=some r) (x:VR F.B s.heap d a v) (y:VR F.B s.heap d b j) {E:Value->Shared->Prop}:
  ((∀t,Q (.bool r) {s with toks:=t})->wpAny (model F.prog F.w) A (compareOp .In v j) Q E s)/\((∀t,Q (.bool (!r)) {s with toks:=t})->wpAny (model F.prog F.w) A (compareOp .NotIn v j) Q E s):=by
 refine jU h (λU U=>dJ) (λU U=>dJ) (λl f h=>?_)  λn f h=>ao h λc g h=>?_
 .rw[f] at y
  refine mQ y λc m n e g U Y=>?_;subst e;exact⟨λq=>wA g h x Y<|q s.toks,λq=>rE g h x Y<|q s.toks⟩
 .rw[f] at y
  revert g;apply mT h<;>intro l h g
  .refine rq (R.lst g y) λc m k e U G U Y=>?_
   refine e▸?_;exact⟨λq=>wV G h x Y<|q s.toks,λq=>rF G h x Y<|q s.toks⟩
  .refine bB h λo h z=>e7 (R.at' g y) λc e i D=>?_
   refine qL e<|qR z ?_;exact⟨λq=>Hv u D (R.not_sys i) h x q,λq=>yi u D (R.not_sys i) h x q⟩
theorem wm (i j:Int):decide (i<=j)=!iH j i:=by rw[il,<-decide_not];exact decide_eq_decide.mpr Int.not_lt.symm
theorem sQ (R:aG F H c s) (d:A.units+10<cLine) (x:VR F.B s.heap c a g) (y:VR F.B s.heap c b f):
  am F k X (λQ E s=>wpAny (model F.prog F.w) A (compareOp (vq o) g f) Q E s) (rI o a b H) (λr v U U=>v=Value.bool r) s c:=by
 refine am.lift λr h=>am.tok R rfl λQ E q=>?_;induction o with
 |eq=>exact(sW R d h x y).1 F.prog F.w E Q<|q s.toks
 |ne=>haveI:=(sW R d (pX h) x y).2 F.prog F.w E Q;rw[XP] at this;exact this<|q s.toks
 |lt=>revert q;apply zn h x y;intro i j t u q;exact PySem.P.lt_int<|il i j▸q s.toks
 |gt=>revert q;apply zn h x y;intro i j t u q;exact PySem.P.gt_int<|il j i▸q s.toks
 |le=>revert q;apply zn h x y;intro i j t u q;exact PySem.P.le_int<|(wm i j).symm▸q s.toks
 |ge=>revert q;apply zn h x y;intro i j t u q;exact PySem.P.ge_int<|(wm j i).symm▸q s.toks
 |isn=>obtain⟨e,z⟩:=oh h;rw[e] at y;simp only [show f=.none from y];exact is_none (by simp only [x.non_iff,<-z];exact q s.toks)
 |isnn=>obtain⟨e,z⟩:=oh<|pX h;rw[e] at y;simp only [show f=.none from y];exact isNot_none (by simp only [x.non_iff,<-z,XP];exact q s.toks)
 |inn=>exact(q9 R d h x y).1 q
 |nin=>refine(q9 R d (pX h) x y).2 λt=>?_;simp only [XP];exact q t
end
section
variable {F:Fx}
theorem lO (h:idx i n=some k):k<n/\(i=(k:Int)\/i=(k:Int)-n):=by
 induction i with
 |ofNat j=>exact cg h λq e=>by cases e;exact⟨iA q,.inl rfl⟩
 |negSucc j=>exact cg h λq e=>by cases e;haveI:=iA q;exact⟨Si this,.inr<|Oi this⟩
theorem n5 {k:Nat} (h:k<n/\(i=(k:Int)\/i=(k:Int)-n)):seqIndex? i n=some k:=by
 have e:(if i<0 then i+n else i)=(k:Int):=by obtain⟨h,rfl|rfl⟩:=h;exact Xd<|Int.not_lt.mpr<|WH k;exact(Xb<|II h).trans<|Wz _ _
 delta seqIndex?;refine qL e ?_;refine .trans (Xb<|by simp only [XR,decide_eq_true_eq];exact⟨WH k,Int.ofNat_lt.mpr h.1⟩) ?_;rfl
theorem v5 (h:MZ l i=some v):∃j k,i=.int j/\idx j l.length=some k/\nth l k=some v:=ao h λj e h=>ao h λk q z=>vK j k (bF e) q z
theorem aX.idx (x:aX B h j l vs) (e:Internal.nth l k=some v):∃A,vs.toArray[k]?=some A/\VR B h j v A:=
 aI (aX.nth l x e) λA p q=>bK A (YM.trans p) q
theorem DZ (g:s.heap.get? a=some (bL vs n)) (Y:aX B s.heap b l vs) (L:vs.length<=100000) (x:VR B s.heap b i p) (h:MZ l i=some v)
  {E:Value->Shared->Prop} (f:∀c,VR B s.heap b v c->Q c s):wpAny (model F.prog F.w) A (PySem.getItem (.ref a) p) Q E s:=by
 refine du (v5 h) λj k q e o=>?_;subst q;obtain⟨t,rfl⟩:=x;refine aI (Y.idx o) λc H d=>?_;replace e:=Y.length▸e;obtain⟨m,rfl|rfl⟩:=lO e;.exact wpAny_getItem_list ⟨_,g,rfl,n,rfl⟩ (WH k) (Mx L m) H<|f c d
 .refine wpAny_getItem_list_neg ⟨_,g,rfl,n,rfl⟩ (II m) (by rw[XS];exact Mk k _) (ME L) ?_ (f c d)
  rw[XS,Wz];exact H
theorem Ef (g:s.heap.get? a=some (dH vs n)) (Y:aX B s.heap b l vs) (L:vs.length<=100000) (x:VR B s.heap b i p) (h:MZ l i=some v)
  {E:Value->Shared->Prop} (o:∀c,VR B s.heap b v c->Q c s):wpAny (model F.prog F.w) A (PySem.getItem (.ref a) p) Q E s:=by
 refine du (v5 h) λj k q e d=>?_;subst q;obtain⟨t,rfl⟩:=x;refine aI (Y.idx d) λc f m=>?_;replace e:=Y.length▸e;have H:=lO e;exact PyProof.Rows.getItem_tuple ⟨_,g,rfl,n,rfl⟩ (Ie L H).1 (Ie L H).2 (n5 H) f<|o c m
theorem s9 {b:Type}:∀(l:List b) (k:Nat),Internal.nth l k=l[k]?
 |[],_=>rfl
 |_::_,0=>rfl
 |_::l,k+1=>s9 l k
theorem EO (x:VR B s.heap b (.str l) g) (y:VR B s.heap b i m) (h:TY l i=some v) {E:Value->Shared->Prop} (f:∀d,VR B s.heap b v d->Q d {s with toks:=s.toks+1}):
  wpAny (model F.prog F.w) A (PySem.getItem g m) Q E s:=by
 refine ao h λj e h=>cg h λo h=>ao h λk q h=>bB h λc r z=>?_;rw[bF e] at y;obtain⟨t,rfl⟩:=x;obtain⟨u,rfl⟩:=y;haveI H:=lO q;haveI L:=dI o;refine PySem.P.getItem_str (c:=c) ?_ ?_<|f _<|z▸⟨s.toks,rfl⟩;.rw[Xa<|Int.not_lt.mpr (Ie (WO L) H).1,Xa<|Int.not_le.mpr (Ie (WO L) H).2];rfl
 .simp only [show(cv l).length=l.length from XS ..,n5 H]
  exact YM.trans<|(s9 l k).symm.trans r
theorem r5 (R:aG F H b s) (u:A.units+10<cLine) (x:VR F.B s.heap b a j) (y:VR F.B s.heap b i m):
  am F Xc X (λQ E s=>wpAny (model F.prog F.w) A (PySem.getItem j m) Q E s) (Internal.getItem a i H) (jt F) s b:=by
 refine am.lift λv h=>am.tokv R λQ E q=>jU h (λU U=>dJ) (λl e h=>?_) (λl e h=>?_) λn e h=>ao h λc g h=>?_<;>rw[e] at x;.exact EO x y h λd f=>q d _ f
 .exact mQ x λc p n e g L Y=>e▸(Ef g Y L y h λd f=>q d s.toks f)
 .revert g
  apply mT h<;>intro l h g;.exact rq (R.lst g x) λc p k e U G L Y=>e▸(DZ G Y L y h λd f=>q d s.toks f)
  .exact ao h λo h z=>e7 (R.at' g x) λc e k D=>e▸(AU u D<|h.trans<|Wh some z) y q
theorem iX {h:Heap} (g:h.get? a=some (bL vs n)) (f:Array Value->Array Value) (e:f vs.toArray=w.toArray):∃k,(h.update a<|Obj.mapSeq f).get? a=some (bL w k):=⟨_,e▸PySem.IsL.update g f⟩
theorem dR {h:Heap}:∀b o,b≠a->h.get? b=some o->(h.update a f).get? b=some o:=λb o n g=>((XT ..).2 b n).trans g
theorem Gl (R:aG F H b s) (d:b m=some a) (g:s.heap.get? a=some (bL vs n)) (L:vs.length<=100000) (Y:aX F.B s.heap b l vs)
  (e:idx j l.length=some k) (z:VR F.B s.heap b v c):am F x X (λQ E s=>wpAny (model F.prog F.w) A (PySem.setItem (.ref a) (.int j t) c) Q E s) (.ok ()<|bj H m<|.lst<|Internal.setNth l k v) PB s b:=by
 refine am.turn R d λQ E f=>?_;replace e:=Y.length▸e;obtain⟨N,G⟩:=iX g (·.setIfInBounds k c)<|List.setIfInBounds_toArray ..;haveI q:=f () _ s.toks dR ⟨_,N,G,by rw[XU];exact L,aX.mono (R.still_turn d dR) (λU U e=>e) _<|aX.setNth z l k Y⟩ trivial;obtain⟨h,rfl|rfl⟩:=lO e;.exact ki_setAt g (WH k) (Mx L h) (qL XS<|Int.ofNat_lt.mpr h) q
 .refine ki_setBack g (II h) (by rw[XS];exact Mk k _) (ME L) ?_
  rw[XS,Wz];exact q
theorem sf (R:aG F H f s) (G:A.units+10<cLine) (x:VR F.B s.heap f a M) (y:VR F.B s.heap f i O) (z:VR F.B s.heap f v o):
  am F Xc X (λQ E s=>wpAny (model F.prog F.w) A (PySem.setItem M O o) Q E s) (Internal.setItem a i v H) PB s f:=by
 refine am.ro λn e=>am.ro λc q=>am.ro λd r=>?_;rw[nz e] at x;revert q;apply mT r<;>intro l r q
 .refine rq (R.lst q x) λa b k e h g L Y=>ao r λj J r=>bB r λk w r=>?_
  rw[bF J] at y;obtain⟨t,rfl⟩:=y;refine qL e<|qR r ?_;exact Gl R h g L Y w z
 .refine e7 (R.at' q x) λa e h D=>bB r λm w r=>?_
  refine qL e<|qR r ?_;exact am.turn R h λQ E u=>DW G D w y z (λk j=>R.still_turn h λb U N g=>(j.2 b N).trans g) λk t p j=>u () k t (λb U N g=>(j.2 b N).trans g) p trivial
end
theorem aG.nolimit (R:aG F H h s):s.heap.NoLimit:=F.lim.keeps R.keep
theorem aG.pylong (R:aG F H h s) (j:kJ A D):PySem.PylongRoom (model F.prog F.w) A s:=by refine On j.frames λN l p q r u x=>?_;haveI y:=j.depth;exact PySem.PylongRoom.of R.nolimit (by show A.depth+100<1000;exact fQ (WZ (Wk (Wp _ _)<|by assumption) 100)<|by decide)<|PySem.SeerAt.of (F.seer.keeps R.keep) F.tree p q r u x
noncomputable def Bd (h:Heap):Heap:={h with objs:=#[]}
theorem vH (h:Heap) (a:Addr):(Bd h).get? a=none:=by unfold Bd Heap.get?;rfl
theorem IB (R:aG F H f s) (x:VR F.B s.heap f (.tup l) u) (y:VR F.B s.heap f (.tup m) D):
  am F M X (λQ E s=>wpAny (model F.prog F.w) A (binaryOp .Add u D) Q E s) (ow (l++m) H) (jt F) s f:=by
 haveI J:=x;haveI L:=y;refine mQ x λc j n i g N Y=>?_;subst i;refine mQ y λd w k i G hm Z=>?_;subst i;cases l with
 |nil=>
  haveI r:=Y;exact am.cnd λq=>am.pure R L λQ E p=>XV ⟨_,g,rfl⟩ ⟨_,G,rfl⟩ XW XX XY XZ (X9 _ _)
    (tuple_addW0 c d j.toArray w.toArray n k none none #[] #[]<|by rw[r];rfl) ⟨g,G,p⟩
 |cons a l=>
  have r:¬j.toArray.isEmpty=true:=du Y λv j e U U=>e▸nofun;cases m with
  |nil=>have t:=Z;refine am.cnd λq=>?_;rw[Ya];exact am.pure R J λQ E p=>XV ⟨_,g,rfl⟩ ⟨_,G,rfl⟩ XW XX XY XZ (X9 _ _) (tuple_addW1 c d j.toArray w.toArray n k none none #[] #[] r<|by rw[t];rfl) ⟨g,G,p⟩
  |cons b m=>
   haveI t:¬w.toArray.isEmpty=true:=du Z λv j e U U=>e▸nofun;refine am.tup R (aX.append _ Y Z) λO Q E p=>?_;haveI h:=dI O;simp only [Yb,<-Y.length,<-Z.length] at h;refine XV ⟨_,g,rfl⟩ ⟨_,G,rfl⟩ XW XX XY XZ (X9 _ _)
    (tuple_addW2 c d j.toArray w.toArray n k none none #[] #[] r t<|by rw[XS];exact WO<|WR h<|by decide) ⟨g,G,?_⟩
   rw[Yc];exact p _ _ _ _ (λb o z=>Yd _ z)<|Ye _ rfl
theorem Ih (R:aG F H c s) (e:ac H i=some (.lst l)) (J:ac H j=some (.lst m)) (x:VR F.B s.heap c (.ref i) v) (y:VR F.B s.heap c (.ref j) f):
  am F p X (λQ E s=>wpAny (model F.prog F.w) A (binaryOp .Add v f) Q E s) (fU (l++m) H) (jt F) s c:=by
 refine rq (R.lst e x) λa r n q U g L Y=>?_;subst q;refine rq (R.lst J y) λb w k q U G M Z=>?_;subst q;refine am.lst R (aX.append _ Y Z) λO Q E d=>?_;haveI h:=dI O;rw[Yb] at h;simp only [<-Y.length,<-Z.length] at h;refine PySem.P.add_list g G ?_ (WO<|WR h<|by decide);rw[Yc];exact d _ _ s.toks _ (λb o z=>Yd _ z) (bh _)<|Ye _ rfl
theorem Da {b:Type} (a:b):∀(k:Nat) (A:List b),List.foldl (λx c=>x++c) A.toArray (List.replicate k #[a])=(A++List.replicate k a).toArray:=by
 intro z;induction z with
 |zero=>exactλA=>Wh List.toArray (Ya A).symm
 |succ k i=>intro A;rw[List.replicate_succ,Yf,Yc _ _,i _,Yg];rfl
theorem yh (h:iH i j):i<j:=Xm<|(il i j).symm.trans h
theorem HY (R:aG F H c s) (w:ac H i=some (.lst l)) (x:VR F.B s.heap c (.ref i) G) (y:VR F.B s.heap c b J):
  am F L X (λQ E s=>wpAny (model F.prog F.w) A (binaryOp .Mult G J) Q E s) (Dl l b H) (jt F) s c:=by
 refine rq (R.lst w x) λa N n k U g M Y=>?_;subst k;refine am.ro λz r=>am.ro λv p=>am.cnd λq=>?_;rw[bF r] at y;obtain⟨t,rfl⟩:=y;replace Y:=(ml p id)▸Y;refine du Y λf ws e D m=>?_;rw[e,m] at g;obtain⟨d,j⟩:=VP q;haveI d:=yh d;haveI j:=yh j;refine am.lst R (aX.replicate D z.toNat) λO Q E u=>?_;have h:(#[f]).size*z.toNat<=2^24:=by exact Wk (WX<|Nat.one_mul _) (Int.toNat_le.mpr<|Wy (WB d)<|by decide)
 refine wpAny_binaryOp_repeat_ref rfl ⟨_,g,rfl⟩ (λo=>typeIs_int o z t) noFill_list_mul PySem.F.fills_int_mul Yh repeat_list PySem.F.slot_int_index.lookup
  (Yi Yh (typeIs_int s z t) PySem.F.entry_int_rmul (PySem.F.args_int_rmul_2 _ _) (int___rmul___int_list z t a _ n)
   ⟨g,rfl,⟨_,g,rfl⟩,Yi PySem.F.slot_list_mul ⟨_,g,rfl⟩ PySem.F.entry_list_mul (PySem.F.args_list_mul_2 _ _)
    (AutoListH.list___mul___list_int_3 a _ n z t (by simp[Builtin.List.listFitsIndex];exact⟨Wy (by decide)<|WB j,WW d<|by decide⟩) (Nat.not_lt.mpr<|Wk h<|by decide)<|by simp[Builtin.List.listTooLong,sizeLine];exact Wy (WB d)<|by decide)
    ⟨g,u _ _ s.toks 0 (λb o z=>Yd _ z) (bh _)<|(Ye _ rfl).trans<|Wh (λv=>some (⟨.type "list",none,.seq v 0,#[]⟩:Obj))<|Da f z.toNat []⟩⟩)
theorem Bq (R:aG F H c s) (p:kJ A D) (x:VR F.B s.heap c a w) (y:VR F.B s.heap c b G):
  am F L X (λQ E s=>wpAny (model F.prog F.w) A (binaryOp (rt o) w G) Q E s) (ym o a b H) (jt F) s c:=by
 refine am.sel (λi e=>?_) (λi e=>?_) (λl e=>?_) λn e=>?_<;>rw[e] at x
 .refine am.lift λv h=>ao h λj J h=>bB h λr q z=>?_
  rw[bF J] at y;obtain⟨t,rfl⟩:=x;obtain⟨u,rfl⟩:=y;exact z▸am.tokv R λQ E d=>KK q (R.pylong p)<|d _ _ ⟨_,rfl⟩
 .refine am.ro λj J=>am.cnd λq=>?_
  haveI O:=(VP q).1;haveI q:=(VP q).2;haveI h:=dI q;rw[Yb] at h;replace y:=(lj J)▸y;obtain⟨t,rfl⟩:=x;obtain⟨u,rfl⟩:=y;refine(xG O)▸?_;refine am.tokv R λQ E d=>PyProof.Rows.add_str (λf k=>d _ _ ⟨f,?_⟩) (WO<|WR h<|by decide);exact Wh (λa=>Value.str ⟨a⟩ f)<|Yc _ _
 .exact am.ro λm M=>am.cnd λq=>by exact(xG q)▸(IB R x<|jM M▸y)
 .refine am.ro λl q=>am.ite (λO=>?_) λU=>am.cnd λO=>?_
  .refine(xG O)▸?_
   exact am.ro λm f=>rQ f λk e g=>Ih R (Ff q) g x<|e▸y
  .exact(Ku O)▸(HY R<|Ff q) x y
section
open Builtin Builtin.ObjectAttr
theorem cw (p:Nat×V) (l:Sg) (x:Nat):look (p::l) x=if p.1=x then some p.2 else look l x:=by show(match Nat.beq p.1 x with|true=>some p.2|false=>look l x)=_;rw[qY];by_cases h:p.1=x<;>simp[h]
theorem vy (p:Nat×V) (l:Sg) (x:Nat) (v:V):put (p::l) x v=if p.1=x then(x,v)::l else p::put l x v:=by show(match Nat.beq p.1 x with|true=>(x,v)::l|false=>p::put l x v)=_;rw[qY];by_cases h:p.1=x<;>simp[h]
theorem dw (v:V):∀(l:Sg) (x y:Nat),look (put l x v) y=if x=y then some v else look l y:=by
 intro z;induction z with
 |nil=>intro x y;rw[show put [] x v=[(x,v)] from rfl,cw]
 |cons p l i=>
  intro x y;rw[vy];by_cases h:p.1=x
  .rw[Xb h]
   simp only [cw];by_cases q:x=y;.simp[q]
   .exact qL (Xd q)<|qL (Xd q)<|qL (Xd<|h▸q) rfl
  .rw[Xd h]
   simp only [cw,i x y];by_cases q:x=y;.exact qL (Xb q)<|qL (Xd<|q▸h)<|qL (Xb q) rfl
   .rw[Xd q,Xd q]
noncomputable def JR (e:Env) (h:Heap) (m:Str->Option Value) (n:Str) (v:Value):Prop:=
 (e.kindOf n=some .local/\m n=some v)\/((e.kindOf n=some .cell\/e.kindOf n=some .free)/\(n==("__classdict__"))=false/\∃c,e.cells.lookup n=some c/\h.IsCell c (some v))
noncomputable def FA (e:Env):Addr->Prop:=λa=>a=e.locals\/∃x,e.cells.lookup x=some a
noncomputable def kC (F:Fx) (A:Around) (b:cJ) (s:Shared):Prop:=
 ∃l,A.frames=some l/\∀e∈l,e.scope.kind≠.module/\∃L o,e.frame=some L/\F.B.get? L=none/\(∀n,b n≠some L)/\s.heap.get? L=some o/\n6 o
theorem kC.ext (k:kC F A h s) (x:bc X s h s' j):kC F A j s':=by
 refine aI k λl r u=>bK l r  λN Q=>?_;obtain⟨y,L,o,D,G,J,p,O⟩:=u N Q;refine e7 (x.there L o p) λo' g U Y=>⟨y,L,o',D,G,λn e=>?_,g,Y O⟩
 rcases x.fresh n L e with q|q;.exact J n q
 .rw[p] at q;cases q
structure cz (F:Fx) (A:Around) (env:Env) (σ:Sg) (ρ:cJ) (s:Shared):Prop where
 kind:env.scope.kind=.function
 globals:env.globals=mainGlobals
 builtins:env.builtins=builtinsNs
 code:env.scope.names=F.lamSc->env.code=.ref F.lamCode/\env.qual++("<lambda>":Str)=F.lamQual
 vars:∃m,s.heap.Ns env.locals m/\∀x v,look σ x=some v->∃val,VR F.B s.heap ρ v val/\JR env s.heap m (F.nm x) val
 own:∀a,FA env a->F.B.get? a=none/\(∀n,ρ n≠some a)/\∃o,s.heap.get? a=some o/\¬bv o/\cx o
 bound:∀x,env.kindOf x=some .cell->∃c,env.cells.lookup x=some c
 cells:∀x c,env.cells.lookup x=some c->c≠env.locals/\∃v,s.heap.IsCell c v
 apart:∀x y c,env.cells.lookup x=some c->env.cells.lookup y=some c->x=y
 stk:kC F A ρ s
theorem xC (x:jQ o O) (h:¬bv o):¬bv O:=by
 rcases x with rfl|⟨⟨_,s,e,H⟩,l,rfl⟩;.exact h
 .exact aU H
theorem nU (x:jQ o O) (h:cx o):cx O:=by
 rcases x with rfl|⟨_,s,rfl⟩;.exact h
 .exact h
theorem sH (x:jQ o O) (h:o.data=.cell v):O.data=.cell v:=by
 rcases x with rfl|⟨_,s,rfl⟩;.exact h
 .exact h
theorem sK {s e} (x:jQ o O) (h:o.data=.dict s e):O.data=.dict s e:=by
 rcases x with rfl|⟨_,l,rfl⟩;.exact h
 .exact h
theorem cz.ext (f:cz F A env p j s) (x:bc X s j s' Q) (hX:∀a,FA env a->¬X a):cz F A env p Q s':=by
 have J:∀a o,FA env a->s.heap.get? a=some o->∃O,s'.heap.get? a=some O/\jQ o O:=λa o u g=>by exact(x.keep a o g (f.own a u).2.1).elim (λh=>((hX a u) h).elim) λh=>h
 refine aI f.vars λm ns hv=>⟨f.kind,f.globals,f.builtins,f.code,⟨m,?_,λy v e=>?_⟩,λa u=>?_,f.bound,λy c e=>?_,f.apart,f.stk.ext x⟩
 .refine IT ns λo Y N g hd r=>?_
  exact aI (J _ o (.inl rfl) g) λO G l=>T5 O Y N G (sK l hd) r
 .refine aI (hv y v e) λN D L=>bK N (x.mono D) ?_
  rcases L with h|⟨h,q,c,Y,o,g,d⟩;.exact .inl h
  .exact aI (J c o (.inr ⟨_,Y⟩) g) λO G l=>.inr ⟨h,q,c,Y,O,G,sH l d⟩
 .obtain⟨D,L,o,g,st,N⟩:=f.own a u
  refine aI (J a o u g) λO G l=>⟨D,λn e=>?_,O,G,xC l st,nU l N⟩
  exact(x.fresh n a e).elim (λq=>L n q) λq=>absurd (g.symm.trans q)<|W8 _
 .obtain⟨D,v,o,g,d⟩:=f.cells y c e
  exact aI (J c o (.inr ⟨_,e⟩) g) λO G l=>⟨D,v,O,G,sH l d⟩
theorem cz.extN (f:cz F A env p j s) (x:bc eR s j r q):cz F A env p q r:=f.ext x λU U h=>h
theorem lC {E:Value->Shared->Prop} (f:cz F A env d b s) (e:look d x=some v) (q:∀g,VR F.B s.heap b v g->Q g s):
  wpAny (model F.prog F.w) o (loadName env<|F.nm x) Q E s:=by
 refine aI f.vars λm N l=>aI (l x v e) λg H k=>?_;rcases k with⟨h,M⟩|⟨h|h,n,c,i,j⟩
 .exact Yj f.kind h N M<|q g H
 .exact wpAny_loadName_cell f.kind h i j<|q g H
 .exact wpAny_loadName_free f.kind h i j (q g H) n
noncomputable def rW (e:Env) (n:Str):Prop:=e.kindOf n=some .local\/(e.kindOf n=some .cell/\(n==("__classdict__"))=false/\∃c,e.cells.lookup n=some c)
theorem aG.frame (R:aG F H h s) (f:cz F A env j h s) (u:FA env a) (r:Heap.SameBut a s.heap x):aG F H h {s with heap:=x,toks:=t}:=by
 obtain⟨y,D,o,g,st,_⟩:=f.own a u;refine R.other (λb=>b=a) (λb O e N=>(r.2 b N).trans e) (λb e=>by subst e;exact⟨y,D⟩) λb O e p=>?_;by_cases q:b=a;.subst q;obtain rfl:=W2<|g.symm.trans e;exact(st p).elim
 .exact(r.2 b q).trans e
theorem bc.frame (f:cz F A env j h s) {a:Addr} (y:FA env a) {p:Heap} {t:Nat} (u:Heap.SameBut a s.heap p) (D:p.get? a=some O) (N:cx O) (r:∀o,s.heap.get? a=some o->n6 o->n6 O):bc (λb=>b=a) s h {s with heap:=p,toks:=t} h:=by
 obtain⟨G,J,o,g,st,L⟩:=f.own a y;refine⟨λU U e=>e,λU U e=>.inl e,λb O e U=>?_,λb O e x=>?_,λb o2 e=>?_,rfl,rfl,rfl⟩
 .by_cases q:b=a
  .exact .inl q
  .exact .inr ⟨O,(u.2 b q).trans e,.refl O⟩
 .by_cases q:b=a
  .subst q;obtain rfl:=W2<|g.symm.trans e;exact(st x).elim
  .exact(u.2 b q).trans e
 .by_cases q:b=a
  .subst q;exact jy O D (λU=>N)<|r o2 e
  .exact jy o2 ((u.2 b q).trans e) id id
theorem fC {E:Value->Shared->Prop} {m:Str->Option Value} (g:s.heap.get? a=some o) (D:o.data=.dict d u) (l:StrKeys d) (q:∀n,nsFind d n=m n)
  (r:∀j O b p,j.get? a=some O->O.cls=o.cls->O.data=.dict b p->StrKeys b->(∀n,nsFind b n=if n=N then some v else m n)->b.size<=d.size+1->(m N≠none->b.size<=d.size)->Heap.SameBut a s.heap j->Q () {s with heap:=j,toks:=s.toks+1}):
  wpAny M A (nsSet a N v) Q E s:=by
 refine Yk<|Yk<|Yl<|Ym<|Yk<|wpAny_mkText<|Yk<|Yn g ?_;refine qL D ?_;dsimp only;haveI f:d.any (·.refKey)=false:=by rw[Yo];intro e k;refine EH (l e k) λn t h=>?_;simp[DictEntry.refKey,h]
 refine qL aRefKeyMayBeTheName_eq ?_;simp only [aRefKeyMayBeTheNameByArray,f,Yp];refine Yq g ?_;obtain⟨c,w,y,L⟩:=o;subst D;cases H:d.findIdx? (·.key.isStr N) with
 |some i=>
  exact r _ _ _ u (Yr _ g<|by simp only [Ys,Obj.putNameByArray,H]<;>rfl) (by simp only [Ys,Obj.putNameByArray,H]) (by simp only [Ys,Obj.putNameByArray,H]<;>rfl) (l.modify _ _)
   (λx=>(findBy_modify (λn v=>v.isStr n) Value.isStr_inj d N x v i H).trans<|by rw[<-q]<;>rfl) (qL Yt<|XD _) (λU=>by rw[Yt];exact XA _) (XT ..)
 |none=>
  refine r _ _ _ _ (Yr _ g<|by simp only [Ys,Obj.putNameByArray,H]<;>rfl) (by simp only [Ys,Obj.putNameByArray,H]) (by simp only [Ys,Obj.putNameByArray,H]<;>rfl) (l.push _ _ _ _)
   (λx=>(findBy_push (λn v=>v.isStr n) d N x _ _ v (λy=>?_) H).trans<|by rw[<-q]<;>rfl) (by rw[Yu];exact XA _) (λc=>(c ?_).elim) (XT ..)
  .show(N==y)=decide _
   by_cases h:y=N;.rw[h,beq_self_eq_true,Xh rfl]
   .simp only [beq_false_of_ne<|Xf h,Xa h]
  .refine(q N).symm.trans ?_
   unfold nsFind findBy;replace H:=(Array.findIdx?_eq_none_iff).mp H;refine(Array.find?_eq_none.mpr<|by intro e k;simpa using H e k)▸?_;rfl
noncomputable def LA (e:Env) (n:Str):Addr->Prop:=λa=>FA e a/\(e.kindOf n=some .local->a=e.locals)
theorem iZ {i:Sg} {x:Nat} {v:V} {l:Value} {A:Around} {E:Value->Shared->Prop} {Q:Unit->Shared->Prop} (R:aG F H b s) (f:cz F A env i b s) (inj:∀y,look i y≠none->F.nm x=F.nm y->x=y) (hb:rW env<|F.nm x) (hv:VR F.B s.heap b v l)
  (hQ:∀s',aG F H b s'->bc (LA env<|F.nm x) s b s' b->cz F A env (put i x v) b s'->Q () s'):wpAny (model F.prog F.w) A (storeName env (F.nm x) l) Q E s:=by
 refine aI f.vars λm ns vars=>?_;rcases hb with hl|⟨hl,hcd,c,hc⟩
 .rw[Yv hl<|by rw[f.kind];rfl]
  refine mQ ns λoL esL epL gL dL kL mL=>fC gL dL kL mL λh' O J ep G h D hk' hm' U U p=>?_;have L:FA env env.locals:=.inl rfl;have r':StrKeys J/\∀n,nsFind J n=if n=F.nm x then some l else m n:=⟨hk',hm'⟩
  have N:cx O:=λU e=>by exact nomatch (D.symm.trans e)
  have X:=bc.frame f L (t:=s.toks+1) p G N λo g z=>by obtain rfl:=W2<|gL.symm.trans g;exact⟨h.trans z.1,J,ep,D⟩
  refine hQ _ (R.frame f L p) (X.weak λa e=>e▸⟨L,λU=>rfl⟩) ⟨f.kind,f.globals,f.builtins,f.code,⟨_,⟨O,J,ep,G,D,r'⟩,λy u e=>?_⟩,λa M=>?_,f.bound,λy d e=>?_,f.apart,f.stk.ext X⟩
  .rw[dw] at e
   by_cases q:x=y
   .subst q
    rw[Xb rfl] at e;cases e;exact bK l (X.mono hv) (.inl ⟨hl,by simp⟩)
   .rw[Xd q] at e
    refine aI (vars y u e) λw j r=>bK w (X.mono j) ?_;rcases r with⟨k,hm⟩|⟨k,q2,d,Y,o,g,z⟩
    .refine .inl ⟨k,?_⟩
     show(if F.nm y=F.nm x then some l else m _)=some w;rw[Xd λq2=>q<|inj y (by rw[e];nofun) q2.symm];exact hm
    .exact .inr ⟨k,q2,d,Y,o,(p.2 d (f.cells _ _ Y).1).trans g,z⟩
  .obtain⟨j,r,o,g,st,nf⟩:=f.own a M
   by_cases q:a=env.locals;.subst q;exact⟨j,r,O,G,aU D,N⟩
   .exact⟨j,r,o,(p.2 a q).trans g,st,nf⟩
  .obtain⟨j,w,o,g,z⟩:=f.cells y d e
   exact⟨j,w,o,(p.2 d j).trans g,z⟩
 .obtain⟨hne,h,hw0⟩:=f.cells _ _ hc
  refine Yw f.kind hl hc hw0 λh' hc' p=>?_;have L:FA env c:=.inr ⟨_,hc⟩;refine aI hc' λO G D=>?_;have N:cx O:=λU e=>by exact nomatch (D.symm.trans e)
  haveI X:bc (λa=>a=c) s b {s with heap:=h'} b:=bc.frame f L p G N λo g z=>by refine aI hw0 λo2 g2 d2=>?_;obtain rfl:=W2<|g.symm.trans g2;obtain⟨_,J,ep,Y⟩:=z;exact nomatch (Y.symm.trans d2)
  refine BQ ns λoL J ep gL rL=>hQ _ (R.frame f L p) (X.weak λa e=>e▸⟨L,λq=>by exact nomatch (hl.symm.trans q)⟩) ⟨f.kind,f.globals,f.builtins,f.code,⟨m,⟨oL,J,ep,(p.2 _ hne.symm).trans gL,rL⟩,λy u e=>?_⟩,λa M=>?_,f.bound,λy d e=>?_,f.apart,f.stk.ext X⟩
  .rw[dw] at e
   by_cases q:x=y
   .subst q
    rw[Xb rfl] at e;cases e;exact bK l (X.mono hv)<|.inr ⟨.inl hl,hcd,c,hc,O,G,D⟩
   .rw[Xd q] at e
    refine aI (vars y u e) λw j r=>bK w (X.mono j) ?_;rcases r with h|⟨k,q2,d,Y,o,g,z⟩
    .exact .inl h
    .refine .inr ⟨k,q2,d,Y,o,(p.2 d λq3=>q<|inj y (by rw[e];nofun) ?_).trans g,z⟩
     cases q3;exact f.apart _ _ _ hc Y
  .obtain⟨j,r,o,g,st,nf⟩:=f.own a M
   by_cases q:a=c;.subst q;refine⟨j,r,O,G,?_,N⟩;exact(λh=>by rcases h with⟨_,vs,n,e⟩|⟨_,vs,e⟩<;>rw[D] at e<;>cases e)
   .exact⟨j,r,o,(p.2 a q).trans g,st,nf⟩
  .obtain⟨j,w,o,g,z⟩:=f.cells y d e
   by_cases q:d=c;.subst q;exact⟨j,_,O,G,D⟩
   .exact⟨j,w,o,(p.2 d q).trans g,z⟩
theorem gZ {c:Sg} {x:Nat} {v:V} {e:Value} {A:Around} {E:Value->Shared->Prop} {Q:Unit->Shared->Prop} (R:aG F H b s) (f:cz F A env c b s) (inj:∀y,look c y≠none->F.nm x=F.nm y->x=y) (j:rW env<|F.nm x) (k:VR F.B s.heap b v e)
  (q:∀d,aG F H b d->bc (FA env) s b d b->cz F A env (put c x v) b d->Q () d):wpAny (model F.prog F.w) A (storeName env (F.nm x) e) Q E s:=
 iZ R f inj j k λd r g i=>q d r (g.weak λU h=>h.1) i
end
noncomputable abbrev MF (F:Fx):Model:=model F.prog F.w
def Ql (F:Fx):i9 (List V) (List Value):=λl v h b=>aX F.B h b l v
structure rJ (A:Around) (D:Nat):Prop where
 handled:A.handled=none
 depth:A.depth+4*D<=802
 units:A.units+40*D<=8020
 frames:∃l,A.frames=some l
theorem kJ.cl (h:kJ A D):rJ A D:=⟨h.handled,by haveI:=h.depth;exact Wk ‹_›<|by decide,by haveI:=h.units;exact Wk ‹_›<|by decide,by refine oi h.frames λe l q U=>?_;exact⟨_,q⟩⟩
noncomputable def rd (Q:Value->Shared->Prop) (E:Value->Shared->Prop):Result->Shared->Prop:=λr s=>match r with|.ok (.ret v)=>Q v s|.ok _=>False|.error e=>E e s
noncomputable def bP (F:Fx) (x:V->Value->List Addr->Shared->Prop) (c:Cl) (D:Nat):Prop:=
 ∀f r v H s b A,rJ A D->kC F A b s->aG F H b s->aX F.B s.heap b r v->
  am F x eR (λQ E s=>codeAny (MF F) A (.call (.ref<|F.fn f) ⟨v,[]⟩) (rd Q E) s) (c f r H) (jt F) s b
noncomputable abbrev aS:=List<|Str×NameKind
noncomputable def aC (F:Fx) (d:V->Value->List Addr->Shared->Prop) (D:Nat) (f:aS) (x:Expr) (e:E):Prop:=
 ∀l,bP F d l D->∀A n c H s b,kJ A D->n.scope.names=f->aG F H b s->cz F A n c b s->
  am F d eR (λQ E s=>wpAny (MF F) A (eval x n) Q E s) (e l c H) (jt F) s b
noncomputable def lr (F:Fx) (f:V->Value->List Addr->Shared->Prop) (D:Nat) (g:aS) (x:Expr) (c:C):Prop:=
 ∀l,bP F f l D->∀A e d H s b,kJ A D->e.scope.names=g->aG F H b s->cz F A e d b s->
  am F f eR (λQ E s=>wpAny (MF F) A (isTrue x e<|eval x e) Q E s) (c l d H) RD s b
noncomputable def jD (F:Fx) (x:V->Value->List Addr->Shared->Prop) (D:Nat) (d:aS) (f:List Expr) (l:List E):Prop:=
 ∀L,bP F x L D->∀A e c H s b,kJ A D->e.scope.names=d->aG F H b s->cz F A e c b s->
  am F x eR (λQ E s=>wpAny (MF F) A (spliced<|starEach f e) Q E s) (lQ l L c H) (Ql F) s b
theorem kJ.u10 (h:kJ A D):A.units+10<cLine:=by show A.units+10<9900;exact fQ (WZ (Wk (Wp _ _) h.units) 10) (by decide)
theorem ii (R:aG F H d s) (x:VR F.B s.heap d v f):am F g X (λQ E s=>wpAny (MF F) A (truthy f) Q E s) (jl v H) RD s d:=by
 refine am.lift λb h=>?_;cases v with
 |bool c=>cases h;cases x;exact am.pure R rfl λQ E e=>Yx e
 |int i=>
  obtain rfl:=W2 h;obtain⟨t,rfl⟩:=x;refine am.pure R ?_ λQ E e=>PySem.P.truthy_int e;rw[eI];by_cases q:i=0;.subst q;rfl
  .rw[Xa q]
   exact(bne_iff_ne.mpr q).symm
 |_=>cases h
theorem MD {k p}:aC F x D s (.Constant (.int i) k p) (eK<|.int i):=λU U U U U U U U U U R U=>am.tokv R λU U h=>wpAny_Constant_int (h _ _ ⟨_,rfl⟩)
theorem KS {k p}:aC F c D s (.Constant (.str x) k p) (eK<|.str x.cps.toList):=λU U U U U U U U U U R U=>am.tokv R λU U h=>Yy (h _ _ ⟨_,by rw[show cv x.cps.toList=x from by obtain⟨⟨l⟩⟩:=x;rfl]⟩)
theorem Iq {k p}:aC F x D s (.Constant .none k p) (eK .non):=λU U U U U U U U U U R U=>am.pure R rfl λU U h=>wpAny_Constant_none h
theorem Hf {b k p}:aC F x D s (.Constant (.bool b) k p) (eK<|.bool b):=λU U U U U U U U U U R U=>am.pure R rfl λU U h=>wpAny_Constant_bool h
theorem E9 {p} (N:F.nm x=n) (g:(n==("__debug__":Str))=false):aC F j D k (.Name n p) (ab x):=by intro _ _ A e c H s b _ _ R f;subst N;exact am.lift λv h=>λQ E q=>Yz (lC f h λd i=>q d s b R (.refl _ _ _) i) g
theorem am.two (hl:aC F N D sc l a) (hr:aC F N D sc r b) (hc:bP F N O D) (hA:kJ A D) (hs:env.scope.names=sc) (R:aG F H p s) (f:cz F A env q p s) {h j:Type} {K:Value->Value->r6 h} {g:V->V->Hp->Internal.R j} {RW:i9 j h}
  (y:∀{x y:V} {J L:Value} {Y:Hp} {G:Shared} {u:cJ},aG F Y u G->VR F.B G.heap u x J->VR F.B G.heap u y L->am F N eR (K J L) (g x y Y) RW G u):
  am F N eR (λQ E s=>wpAny (MF F) A (eval l env) (λJ s=>wpAny (MF F) A (eval r env) (λL s=>K J L Q E s) E s) E s) ((a O q H).bind λx H=>(b O q H).bind λy H=>g x y H) RW s p:=
 am.bind (hl O hc A env q H s p hA hs R f) λx H1 U J s1 ρ1 R1 X1 V1=>am.bind (hr O hc A env q H1 s1 ρ1 hA hs R1<|f.extN X1) λy' Y U L G u R2 X2 V2=>y R2 (X2.mono V1) V2
theorem J4 {p} (L:aC F x D s l a) (e:aC F x D s r b):aC F x D s (.BinOp l (rt o) r p) (ap o a b):=
 λU H A U U U U U h g R f Q E P=>wpAny_BinOp (am.two L e H h g R f (λc v d=>Bq c h v d) Q E P)
theorem Lc {p} (o:aC F g D u x a):aC F g D u (.UnaryOp .USub x p) (mR a):=by
 refineλl k A n c H s b j m R f=>am.imp (am.bind (o l k A n c H s b j m R f) λv y U t G w r z d=>?_) λQ E h=>wpAny_UnaryOp h
 refine am.ro λi e=>?_;rw[bF e] at d;obtain⟨t,rfl⟩:=d;exact am.tokv r λQ E q=>PySem.P.neg_int<|q _ _ ⟨_,rfl⟩
theorem KG {p} (L:aC F x D d l a) (j:aC F x D d r b) (m:behindInMarks (vq o) r=false):lr F x D d (.Compare l [vq o] [r] p) (aw o a b):=
 λU H A U U U U U h n R f Q E P=>wpAny_isTrue_Compare1 (am.two (K:=λv g Q E s=>wpAny (MF F) A _ (λc s=>wpAny (MF F) A _ Q E s) E s) L j H h n R f
  (λc g i U E P=>sQ c h.u10 g i _ E<|P.imp λv a t q e k=>by exact e▸(Yx<|k v rfl)) Q E P) m
theorem MH {p} (L:aC F x D s l a) (j:aC F x D s r b) (m:behindInMarks (vq o) r=false):aC F x D s (.Compare l [vq o] [r] p) (jI o a b):=
 λU i A U U U U U h k R f Q E P=>YA (am.two L j i h k R f (λc v d=>sQ c h.u10 v d) Q E
  (bO.bind P (λU U P=>P) λv H U P a n c d g e=>e▸P _ n c d g rfl)) m
theorem Kx {p} (m:lr F g D o x a):lr F g D o (.UnaryOp .Not x p) (pK a):=by
 refineλl j A n e H s d i k R f=>am.imp (am.bind (m l j A n e H s d i k R f) λb u U c y t r w v=>?_) λQ E h=>wpAny_isTrue_Not h
 subst v;exact am.pure r rfl λQ E q=>q
noncomputable def ix (x:Expr) (n:Nat):Bool:=Nat.beq x.ctorIdx n
def bd (x:Expr):Bool:=!ix x 22
def ia (x:Expr):Bool:=ix x 7
def fY (x:Expr):Bool:=ix x 8||(ix x 9||ix x 10)
def ku (x:Expr):Bool:=ix x 26
def zz (x:Expr):Bool:=ix x 25
def HE (x:Expr):Bool:=ix x 19
def qH (x:Expr):Bool:=!(ix x 0||(ix x 3||(ix x 5||ix x 15)))
noncomputable def J0:Value->Value->Sem Unit:=letTemporaryGo<|.BoolOp .And [] default
noncomputable def IN:Value->Value->Sem Unit:=letOwnedTupleGo<|.Tuple [] 0 default
structure LK (x:Expr):Prop where
 star:bd x=true->∀xs env,starEach (x::xs) env=(false,eval x env)::starEach xs env
 fold:ia x=false->∀env v,foldedSetIterable x env v=pure v
 swap:fY x=false->∀t n env,swapsWith x t n env=pure false
 sub:ku x=false->∀o i,subscripted x false o i=operate [o,i] (PySem.getItem o i)
 aug:ku x=false->∀ov iv new,augStore x ov iv new=(do holding [new,ov,iv] (PySem.setItem ov iv new);release [new,ov,iv] [];pure .next)
 tup:zz x=false->∀es k p env,swappedStores [.Tuple es k p] x env=pure none
 truth:qH x=true->∀env whole,isTrue x env whole=(do let v<-whole;standAt x.pos;holding [v]<|truthy v)
 temp:(∀o r,letTemporaryGo x o r=pure ())\/∀o r,letTemporaryGo x o r=J0 o r
 owned:(∀it v,letOwnedTupleGo x it v=pure ())\/∀it v,letOwnedTupleGo x it v=IN it v
theorem jp (x:Expr):LK x:=by cases x<;>constructor<;>first|exactλU U U=>rfl|exactλU U U U=>rfl|exactλU U U U U=>rfl|exactλh=>NS h rfl|exactλh=>sB h rfl|exact .inl λU U=>rfl|exact .inr λU U=>by kernel_rfl
theorem Cp (m:aC F g D n x a) (p:qH x):lr F g D n x (aW a):=by intro l j A e c H s b i k R f;exact am.imp (am.bind (m l j A e c H s b i k R f) λv t U o w q r u d=>ii r d) λQ E h=>wpAny_isTrue_value h<|(jp x).truth p _ _
noncomputable def iy (F:Fx) (x:V->Value->List Addr->Shared->Prop) (D:Nat) (f:aS) (op:BoolOp) (g:List Expr) (c:C):Prop:=
 ∀l,bP F x l D->∀A e d H s b,kJ A D->e.scope.names=f->aG F H b s->cz F A e d b s->
  am F x eR (λQ E s=>wpAny (MF F) A (allTrue op g e) Q E s) (c l d H) RD s b
theorem xT:iy F x D s .And [] (gX []):=λU U U U U U U U U U R U=>am.pure R rfl λU U h=>wpAny_allTrue_And_nil h
theorem BH:iy F x D s .Or [] (oG []):=λU U U U U U U U U U R U=>am.pure R rfl λU U h=>wpAny_allTrue_Or_nil h
theorem vw (u:lr F i D o x a) (t:iy F i D o .And y<|gX l):iy F i D o .And (x::y) (gX<|a::l):=by
 refineλL k A n e H s d j m R f=>am.imp (am.bind (u L k A n e H s d j m R f) λb p U c w g r q v=>?_) λQ E h=>wpAny_allTrue_And_cons h
 subst v;induction b with
 |true=>exact t L k A n e p w g j m r<|f.extN q
 |false=>exact am.pure r rfl λQ E c=>c
theorem xr (u:lr F i D o x a) (t:iy F i D o .Or y<|oG l):iy F i D o .Or (x::y) (oG<|a::l):=by
 refineλL k A n e H s d j m R f=>am.imp (am.bind (u L k A n e H s d j m R f) λb p U c w g r q v=>?_) λQ E h=>wpAny_allTrue_Or_cons h
 subst v;induction b with
 |false=>exact t L k A n e p w g j m r<|f.extN q
 |true=>exact am.pure r rfl λQ E c=>c
theorem MA {p} (h:iy F x D j .And k<|gX l):lr F x D j (.BoolOp .And k p) (gX l):=λL g A e c H s b d i R f=>am.imp (h L g A e c H s b d i R f) λU U h=>YB h
theorem N6 {p} (h:iy F x D j .Or k<|oG l):lr F x D j (.BoolOp .Or k p) (oG l):=λL g A e c H s b d i R f=>am.imp (h L g A e c H s b d i R f) λU U h=>YB h
theorem LQ {p} (L:aC F k D u x a) (Y:aC F k D u y b):aC F k D u (.BoolOp .And [x,y] p) (Ge [a,b]):=by
 refineλl o A n e H s d m q R f=>am.imp (am.bind (L l o A n e H s d m q R f) λv H1 U N s1 O z J i=>am.bind (ii z i) λt w U c M g r j G=>?_) λQ E h=>wpAny_And2 h
 subst G;induction t with
 |true=>exact Y l o A n e w M g m q r<|(f.extN J).extN j
 |false=>exact am.pure r (j.mono i) λQ E c=>c
theorem Pj {p} (L:aC F k D u x a) (Y:aC F k D u y b):aC F k D u (.BoolOp .Or [x,y] p) (MY [a,b]):=by
 refineλl o A n e H s d m q R f=>am.imp (am.bind (L l o A n e H s d m q R f) λv H1 U N s1 O z J i=>am.bind (ii z i) λt w U c M g r j G=>?_) λQ E h=>wpAny_Or2 h
 subst G;induction t with
 |false=>exact Y l o A n e w M g m q r<|(f.extN J).extN j
 |true=>exact am.pure r (j.mono i) λQ E c=>c
theorem MX {p} (u:aC F k D w x a):aC F k D w (.UnaryOp .Not x p) (NK a):=by
 refineλl n A e d H s b m o R f=>am.imp (am.bind (u l n A e d H s b m o R f) λv J U y O z r M i=>am.imp (am.bind (ii r i) λt L U c Y G g N j=>?_) λQ E h=>not_value h) λQ E h=>wpAny_UnaryOp h
 subst j;exact am.pure g rfl λQ E q=>q
theorem MV {p} (G:lr F i D o t c) (J:aC F i D o x a) (Y:aC F i D o y b):aC F i D o (.IfExp t x y p) (ta c a b):=by
 refineλl k A n e H s d j m R f=>am.imp (am.bind (G l k A n e H s d j m R f) λr q U c w g u v z=>?_) λQ E h=>wpAny_IfExp h
 subst z;induction r with
 |true=>exact J l k A n e q w g j m u<|f.extN v
 |false=>exact Y l k A n e q w g j m u<|f.extN v
theorem dm (h:bd x):starEach (x::s) env=(false,eval x env)::starEach s env:=(jp x).star h _ _
theorem xV:jD F x D s [] []:=λU U U U U U U U U U R U=>am.pure R rfl λU U h=>YC h
theorem oO (J:aC F j D o x a) (G:jD F j D o O l) (N:bd x):jD F j D o (x::O) (a::l):=by
 intro L m A e c H s b k n R f;refine am.imp (am.bind (K:=λv Q E s=>wpAny (MF F) A _ (λp s=>Q (v::p) s) E s) (J L m A e c H s b k n R f) λv q U g M i r y u=>am.bind (G L m A e c q M i k n r<|f.extN y) λp H2 U d s2 Y t z w=>?_) λQ E h=>?_;.exact am.pure t ⟨g,d,rfl,z.mono u,w⟩ λQ E q=>q
 .rw[dm N];exact YD h
theorem bX:∀(s:List Expr) (e:Env) (p:Pos),s.all bd->backTo p (starEach s e)=starEach s e:=by
 intro z;induction z with
 |nil=>exactλU U U=>rfl
 |cons x s i=>intro e p h;simp only [W5,XR] at h;refine qL (dm h.1) ?_;show(false,eval x e)::backTo p _=_;exact qL (i e p h.2) rfl
theorem Dt {k p} (m:jD F g D w x l) (N:x.all bd):aC F g D w (.Tuple x k p) (bq l):=by
 refineλL j A n d H s c i t R f=>am.imp (am.bind (m L j A n d H s c i t R f) λG y U b u o r z v=>?_) λQ E h=>YE<|qL (bX _ _ _ N) h
 refine am.tup r v λO Q E q=>⟨?_,q _ _ u.toks _ (λb o z=>Yd _ z)<|Ye _ rfl⟩
 haveI:=dI O;haveI e:=aX.length _ v;rw[XI];exact WO (Xk (ED ‹_›<|by assumption)<|by decide)
theorem MJ {p} (k:jD F g D u x l) (N:x.all bd):aC F g D u (.List x p) (aT l):=by
 refineλL j A n d H s c i m R f=>am.imp (am.bind (k L j A n d H s c i m R f) λz w U b t o r y v=>?_) λQ E h=>wpAny_List<|qL (bX _ _ _ N) h
 refine am.lst r v λO Q E q=>⟨?_,q _ _ t.toks _ (λb o z=>Yd _ z) (bh _)<|Ye _ rfl⟩
 haveI:=dI O;haveI e:=aX.length _ v;rw[XI];lia
section
variable {s:aS}
inductive M9 (F:Fx) (h:Heap) (ρ:cJ):Fl->Flow->Prop where
 |next:M9 F h ρ .next .next
 |brk:M9 F h ρ .brk .brk
 |cont:M9 F h ρ .cont .cont
 |ret {v:V} {val:Value} (x:VR F.B h ρ v val):M9 F h ρ (.ret v) (.ret val)
noncomputable def FR (F:Fx) (A:Around) (e:Env):i9 (Fl×Sg) Flow:=λp f h b=>M9 F h b p.1 f/\∀s:Shared,s.heap=h->cz F A e p.2 b s
theorem kC.heap (k:kC F A p j) (h:u.heap=j.heap):kC F A p u:=by refine aI k λl q r=>?_;exact bK l q<|h▸r
theorem cz.heap (f:cz F A env q p j) (h:r.heap=j.heap):cz F A env q p r:=
 ⟨f.kind,f.globals,f.builtins,f.code,by rw[h];exact f.vars,by rw[h];exact f.own,f.bound,by rw[h];exact f.cells,f.apart,f.stk.heap h⟩
noncomputable def Jt (A:Around) (e:Env):Prop:=(∃l,A.frames=some (e::l))/\e.frame=some e.locals
noncomputable def cC (F:Fx) (g:V->Value->List Addr->Shared->Prop) (D:Nat) (s:aS) (x:Stmt) (f:S):Prop:=
 ∀l,bP F g l D->∀A e d H b c,kJ A D->Jt A e->e.scope.names=s->aG F H c b->cz F A e d c b->
  am F g (FA e) (λQ E b=>wpAny (MF F) A (exec x e) Q E b) (f l d H) (FR F A e) b c
noncomputable def nE (F:Fx) (x:V->Value->List Addr->Shared->Prop) (D:Nat) (s:aS) (g:List Stmt) (f:S):Prop:=
 ∀l,bP F x l D->∀A e d H b c,kJ A D->Jt A e->e.scope.names=s->aG F H c b->cz F A e d c b->
  am F x (FA e) (λQ E b=>wpAny (MF F) A (execs g e) Q E b) (f l d H) (FR F A e) b c
theorem tN {P:Addr->Prop}:∀a,eR a->P a:=λU h=>h.elim
theorem am.bindN {j q p u:Type} {T:r6 j} {K:j->r6 q} {r:R p} {f:p->Hp->R u} {RV:i9 p j} {N:i9 u q} (x:am F Y eR T r RV h A)
  (y:∀v J,r=.ok v J->∀a G D,aG F J D G->bc eR h A G D->RV v a G.heap D->am F Y X (K a) (f v J) N G D):
  am F Y X (λQ E h=>T (λa G=>K a Q E G) E h) (r.bind f) N h A:=
 λQ E P=>x _ E (P.bind (λU U P e s' L fp R' X'=>P e s' L fp R'<|X'.weak tN) λv H e P a G D R1 O V1=>y v H e a G D R1 O V1 Q E<|P.after<|O.weak tN)
theorem am.stay (R:aG F H p j) (f:cz F A env q p j) (r:M9 F j.heap p L o) (h:∀Q E,Q o j->T Q E j):am F x X T (.ok (L,q) H) (FR F A env) j p:=
 am.pure R ⟨r,λU e=>f.heap e⟩ h
theorem IR {p}:cC F x D s (.Pass p) FB:=λU U U U U U U U U U U R f=>am.stay R f .next λU U h=>wpAny_Pass h
theorem MC {p}:cC F x D s (.Break p) CY:=λU U U U U U U U U U U R f=>am.stay R f .brk λU U h=>wpAny_Break h
theorem He {p}:cC F x D s (.Continue p) mh:=λU U U U U U U U U U U R f=>am.stay R f .cont λU U h=>wpAny_Continue h
theorem Lv {p} (t:aC F j D s x e):cC F j D s (.Return (some x) p) (ay e):=by intro l m A n d H b c k _ o R f;refine am.imp (am.bindN (t l m A n d H b c k o R f) λv y U u z w r i g=>?_) λQ E h=>YF h;exact am.stay r (f.extN i) (.ret g) λU U q=>q
theorem Nu {p} (z:lr F x D s t c) (G:nE F x D s J a) (Y:nE F x D s L b):cC F x D s (.If t J L p) (br c a b):=by
 intro l k A n g H d e j v m R f;refine am.imp (am.bindN (z l k A n g H d e j m R f) λr o U c w i q u y=>?_) λQ E h=>wpAny_If h;subst y;induction r with
 |true=>exact G l k A n g o w i j v m q<|f.extN u
 |false=>exact Y l k A n g o w i j v m q<|f.extN u
theorem Ls:nE F x D s [] (ad []):=λU U U U U U U U U U U R f=>am.stay R f .next λU U h=>YG h
theorem GQ (J:cC F p D s x a) (G:nE F p D s M<|ad l):nE F p D s (x::M) (ad<|a::l):=by
 intro L u A e d H b c t v w R f;refine am.imp (am.bind (J L u A e d H b c t v w R f) λr y U N g m i o z=>?_) λQ E h=>YH h;obtain⟨o,n⟩:=r;obtain⟨k,j⟩:=z;cases k with
 |next=>exact G L u A e n y g m t v w i<|j g rfl
 |brk=>exact am.stay i (j g rfl) .brk λU U q=>q
 |cont=>exact am.stay i (j g rfl) .cont λU U q=>q
 |ret k=>exact am.stay i (j g rfl) (.ret k) λU U q=>q
noncomputable def cY (s:aS) (n:Str):Bool:=match s.lookup n with|some .local=>true|some .cell=>!(n==("__classdict__"))|_=>false
theorem qh (f:cz F A env d c b) (H:env.scope.names=s) (h:cY s n):rW env n:=by
 subst H;delta cY at h;cases q:env.scope.names.lookup n with
 |none=>rw[q] at h;cases h
 |some k=>
  rw[q] at h;induction k with
  |«local»=>exact .inl q
  |cell=>exact .inr ⟨q,by simpa using h,f.bound n q⟩
  |_=>cases h
theorem j8 (R:aG F H c b) (f:cz F A env d c b) (k:env.scope.names=s) (j:cY s<|F.nm x) (l:VR F.B b.heap c v g):
  am F Xc (FA env) (λQ E b=>wpAny (MF F) A (storeName env (F.nm x) g) (λU=>Q Flow.next) E b) (dy (put d x v) H) (FR F A env) b c:=
 λU U q=>gZ R f (λy U e=>F.inj x y e) (qh f k j) l λm r h i=>q .next m c r h ⟨.next,λU e=>i.heap e⟩
theorem gu (h:fY x=false):swapsWith x t n env=pure false:=(jp x).swap h _ _ _
theorem KN {p o} (y:aC F m D s x e) (w:F.nm i=n) (t:cY s n) (u:fY x=false):cC F m D s (.Assign [.Name n p] x o) (ai (.loc i) e):=by subst w;intro L g A N d H b c q _ j R f;refine am.imp (am.bindN (y L g A N d H b c q j R f) λv J U z M G r l k=>j8 r (f.extN l) j t k) λQ E h=>YI h<|gu u
theorem Gz {p} (y:aC F m D s x e) (u:fY x=false):cC F m D s (.Expr x p) (aM e):=by
 intro L l A n g H c d o _ w R f;refine am.imp (am.bindN (y L l A n g H c d o w R f) λv G U b J z r k j=>?_) λQ E h=>wpAny_Expr h (by unfold interactive;rw[f.kind];rfl)<|gu u;cases v with
 |non=>cases j;exact am.stay r (f.extN k) .next λU U q=>q
 |bool b=>cases j;exact am.stay r (f.extN k) .next λU U q=>q
 |int i=>obtain⟨t,rfl⟩:=j;exact am.stay r (f.extN k) .next λU U q=>q
 |str i=>obtain⟨t,rfl⟩:=j;exact am.stay r (f.extN k) .next λU U q=>q
 |_=>exact am.no
theorem nD (R:aG F H d c) (f:kJ A D) (x:VR F.B c.heap d a k) (y:VR F.B c.heap d b l):
  am F m X (λQ E c=>wpAny (MF F) A (inplaceOp (rt o) k l) Q E c) (x5 o a b H) (jt F) c d:=by
 refine am.ro λi e=>am.lift λv h=>ao h λj J h=>bB h λr q z=>?_;rw[bF e] at x;rw[bF J] at y;obtain⟨t,rfl⟩:=x;obtain⟨u,rfl⟩:=y;exact z▸am.tokv R λQ E g=>Ic q (R.pylong f)<|g _ _ ⟨_,rfl⟩
theorem Ga {p O} (hx:aC F Xc D s x e) (hn:F.nm i=n) (hb:cY s n):cC F Xc D s (.AugAssign (.Name n p) (rt o) x O) (cE i o e):=by
 subst hn;intro cl j A N g H c d t _ u R f;refine am.imp (am.bindN (T:=λQ E c=>wpAny (MF F) A (loadName N _) Q E c) (RV:=jt F)
  (am.lift λv h=>λQ E hQ=>lC f h λk hv=>hQ k c d R (.refl _ _ _) hv) λa w U va s1 l y m J=>
  am.bindN (hx cl j A N g w s1 l t u y<|f.extN m) λb H2 U vb s2 ρ2 z q L=>
  am.bindN (nD z t (q.mono J) L) λr H3 U vr s3 ρ3 G Y M=>j8 G (((f.extN m).extN q).extN Y) u hb M) λQ E h=>wpAny_AugAssign_Name h
end
theorem bc.transH (x:bc X s p s' u) (y:bc Y s' u G A) (h:∀a,Y a->X a\/s.heap.get? a=none):bc X s p G A:=by
 refine⟨λn a e=>y.le n a<|x.le n a e,λn a e=>?_,λa o e J=>?_,λa o e h=>y.still a o (x.still a o e h) h,λa o e=>?_,y.gens.trans x.gens,y.drawn.trans x.drawn,y.os.trans x.os⟩
 .rcases y.fresh n a e with q|q
  .exact x.fresh n a q
  .exact .inr<|x.none_of q
 .rcases x.keep a o e J with q|⟨D,q,l⟩
  .exact .inl q
  .have N:∀n,u n≠some a:=λn h=>by
    exact(x.fresh n a h).elim (λz=>J n z) λz=>nomatch (z.symm.trans e)
   rcases y.keep a D q N with r|⟨O,r,L⟩
   .rcases h a r with z|z
    .exact .inl z
    .exact absurd (z.symm.trans e) nofun
   .exact .inr ⟨O,r,l.trans L⟩
 .refine e7 (x.there a o e) λD h k j=>?_
  exact e7 (y.there a D h) λO L Q N=>jy O L (λz=>Q<|k z)  λz=>N<|j z
theorem iF {h:Heap} (g:h.get? a=some o) (G:h.get? a=some O):o=O:=W2<|g.symm.trans G
inductive D9 (F:Fx) (it:Addr) (i:Nat) (s:Shared) (ρ:cJ):V->Prop where
 |tup {l:List V} {a:Addr} {vs:List Value} {n:Nat} (g:s.heap.get? a=some (dH vs n)) (Y:aX F.B s.heap ρ l vs) (I:IsTupIter s.heap it a i):D9 F it i s ρ (.tup l)
 |ref {m:Nat} {a:Addr} (e:ρ m=some a) (I:s.heap.IsListIter it a i):D9 F it i s ρ (.ref m)
 |rng {a b c:Int} (k:yw a b c) (I:IsRangeIter s.heap it (a+c*i) (gA a b c-i) c):D9 F it i s ρ (.rng a b c)
noncomputable abbrev jC (F:Fx) (v:V) (t:Addr) (i:Nat) (s:Shared) (b:cJ):Prop:=D9 F t i s b v
theorem D9.fields (x:jC F v j i s h):∃o p,s.heap.get? j=some o/\o.data=.fields p:=by
 induction x with
 |tup _ _ I=>obtain⟨o,g,_,d⟩:=I;exact yu o _ g d
 |ref _ I=>obtain⟨o,g,_,d⟩:=I;exact yu o _ g d
 |rng _ I=>exact yu _ _ I rfl
theorem D9.ext (x:jC F v p i s j) (e:bc X s j A y) (N:¬X p) (J:∀n,j n≠some p):jC F v p i A y:=by
 have u:∀{o},s.heap.get? p=some o->A.heap.get? p=some o:=λ{o} g=>by
  rcases e.keep p o g J with q|⟨O,q,l⟩;.contradiction
  .rcases l with rfl|⟨⟨_,L,G,D⟩,_⟩
   .exact q
   .exact oi x.fields λo2 L G d=>by rw[iF g G,d] at D;cases D
 induction x with
 |tup G Y I=>exact .tup (e.still _ _ G<|m9 _ _) (e.monos Y)<|I.imp λU h=>⟨u h.1,h.2⟩
 |ref D I=>exact .ref (e.le _ _ D)<|I.imp λU h=>⟨u h.1,h.2⟩
 |rng k r=>exact .rng k<|u r
theorem CN {C:Prop} (h:bT H v i=some o) (t:∀l,v=.tup l->nth l i=o->C) (r:∀n l,v=.ref n->ac H n=some (.lst l)->nth l i=o->C)
  (k:∀a b c,v=.rng a b c->cond (Nat.blt i<|gA a b c) (some<|.int<|a+c*.ofNat i) none=o->C):C:=by
 cases v with
 |tup l=>exact t l rfl<|W2 h
 |ref n=>exact ao h λc g h=>bB h λl e z=>r n l rfl (qZ e▸g) z
 |rng a b c=>exact k a b c rfl<|W2 h
 |_=>exact dj rfl h
set_option tactic.hygienic true in
theorem my (h:yw a b c):Builtin.Range.rangeSize a b c=gA a b c:=by
 obtain⟨H|H,_⟩:=h
 .subst H
  delta Builtin.Range.rangeSize;refine .trans (Xb<|by decide) ?_;split;.rename_i q;simp only [YJ];exact Em q
  .rename_i q;exact(EV<|Int.not_lt.mp q).symm
 .subst H
  delta Builtin.Range.rangeSize;refine .trans (Xd<|by decide) ?_;split;.rename_i q;simp only [show(-(-1))=1 from rfl,YJ];exact Em q
  .rename_i q;exact(EV<|Int.not_lt.mp q).symm
theorem m6 (h:yw a b c):Builtin.Range.small a b c:=by
 have l:gA a b c<=200000:=by
  obtain⟨e|e,d,H⟩:=h<;>subst e;.exact I7 d.1 H.2
  .exact I7 H.1 d.2
 refine kh h λe d H=>?_;delta Builtin.Range.small;refine qL (my h) ?_;delta Builtin.Range.rangeFitsLong;rcases e with rfl|rfl<;>simp<;>exact⟨⟨⟨⟨xA d.1,CV d.2⟩,xA H.1,CV H.2⟩,Wf (Int.ofNat_le.mpr l)<|by decide⟩,.inr ⟨xA H.1,CV H.2⟩⟩
theorem lI (R:aG F H d s) {E:Value->Shared->Prop} (x:VR F.B s.heap d v m) (h:bT H v 0=some o)
  (i:∀j f,(∀b o,s.heap.get? b=some o->f.get? b=some o)->s.heap.get? j=none->jC F v j 0 {s with heap:=f} d->Q (.ref j) {s with heap:=f}):wpAny (MF F) A (pyIter m) Q E s:=by
 refine CN h (λl e U=>?_) (λn l e q U=>?_) λa b c e U=>?_<;>subst e
 .refine mQ x λa y n e g U Y=>?_
  refine e▸?_;exact PyProof.Rows.iter_tuple ⟨_,g,rfl,n,rfl⟩<|i _ _ (λb o z=>Yd _ z) (bh _)<|.tup (Yd _ g) (aX.mono (λb o z U=>Yd _ z) (λU U e=>e) _ Y) ⟨_,Ye _ rfl,rfl,rfl⟩
 .refine rq (R.lst q x) λa y k e p g U Y=>?_
  refine e▸?_;exact wpAny_pyIter_list ⟨_,g,rfl,k,rfl⟩<|i _ _ (λb o z=>Yd _ z) (bh _)<|.ref p ⟨_,Ye _ rfl,rfl,rfl⟩
 .refine O2 x λr t u w e g k=>?_
  refine e▸?_;refine wpAny_pyIter_range g (m6 k)<|i _ _ (λb o z=>Yd _ z) (bh _)<|.rng k ?_;refine qL (my k) ?_;rw[YK,Int.mul_zero,YL];exact Ye _ rfl
theorem uJ (Y:aX B h b l vs) (q:nth l i=none):vs.toArray[i]?=none:=by rw[s9,List.getElem?_eq_none_iff,<-Y.length] at q;rw[YM];exact List.getElem?_eq_none_iff.mpr q
theorem pB (R:aG F H d s) (G:A.handled=none) {i:Nat} {E:Value->Shared->Prop} (I:jC F v r i s d) (h:bT H v i=some o)
  (y:∀x,o=some x->∀j f t,Heap.SameBut r s.heap f->VR F.B s.heap d x j->jC F v r (i+1) {s with heap:=f,toks:=t} d->Q (some j) {s with heap:=f,toks:=t})
  (D:o=none->∀f,Heap.ExtBut r s.heap f->Q none {s with heap:=f}):wpAny (MF F) A (pyNext<|.ref r) Q E s:=by
 induction I with
 |tup g Y n=>
  obtain rfl:=W2 h;cases q:nth _ i with
  |none=>exact PyProof.Rows.next_tuple_end G n ⟨_,g,rfl,_,rfl⟩ (uJ Y q) λf e=>D q f e
  |some x=>
   refine aI (Y.idx q) λj u w=>PyProof.Rows.next_tuple_item n ⟨_,g,rfl,_,rfl⟩ u λf m p=>?_;haveI st:∀b o,s.heap.get? b=some o->bv o->f.get? b=some o:=λb o z st=>(p.2 b λe=>by
    cases e;refine e7 n λo2 M J L=>?_;rw[iF z M] at st;rcases st with⟨_,N,k,e⟩|⟨l|l,_⟩
    .cases L.symm.trans e
    .exact absurd (J.symm.trans l) (by decide)
    .exact absurd (J.symm.trans l)<|by decide).trans z
   exact y x q j f s.toks p w<|.tup (st _ _ g<|m9 _ _) (aX.mono st (λU U e=>e) _ Y) m
 |ref z n=>
  refine ao h λc q h=>bB h λl e h=>?_;replace q:=(qZ e)▸q;refine du (R.cellAt q z) λJ k g U Y=>?_;induction o with
  |none=>exact wpAny_pyNext_list_end G n ⟨_,g,rfl,k,rfl⟩ (uJ Y h) λf e=>D rfl f e
  |some x=>exact aI (Y.idx h) λj u w=>wpAny_pyNext_list_item n ⟨_,g,rfl,k,rfl⟩ u λf m p=>y x rfl j f s.toks p w<|.ref z m
 |@rng a b c k n=>
  haveI h:=W2 h;rw[vm] at h;by_cases q:i<gA a b c
  .rw[Xh q] at h
   refine wpAny_pyNext_range_item n (Int.sub_pos_of_lt<|Int.ofNat_lt.mpr<|by assumption) λf m p=>y _ h.symm _ f _ p ⟨s.toks,rfl⟩<|.rng k ?_;simp only [WK,Int.mul_add,<-YN,<-Wr];exact(Int.mul_one c).symm▸m
  .rw[Xa q] at h
   exact wpAny_pyNext_range_end G n (WD<|Int.ofNat_le.mpr<|Nat.not_lt.mp<|by assumption) λf e=>D h.symm f e
inductive ee (F:Fx) (ok:Str->Bool):List Expr->List Nat->Prop where
 |nil:ee F ok [] []
 |cons {x:Nat} {p:Pos} {es:List Expr} {xs:List Nat} (h:ok (F.nm x)=true) (t:ee F ok es xs):ee F ok (.Name (F.nm x) p::es) (x::xs)
inductive eG (F:Fx) (ok:Str->Bool):Expr->PT->Prop where
 |loc {x:Nat} {p:Pos} (h:ok (F.nm x)=true):eG F ok (.Name (F.nm x) p) (.loc x)
 |tup {es:List Expr} {k p} {xs:List Nat} (t:ee F ok es xs):eG F ok (.Tuple es k p) (.tup xs)
theorem Ko (h:ee F o e s):(assignEach e env).length=s.length/\(assignEach e env).findIdx? (·.1)=none:=by
 induction h with
 |nil=>exact⟨rfl,rfl⟩
 |@cons x p e s _ _ i=>show(assignEach e env).length+1=_/\List.findIdx? _ ((false,assign (.Name _ p) env)::assignEach e env)=none;refine qL  List.findIdx?_cons <|qL i.1<|qL i.2 ?_;exact⟨rfl,rfl⟩
theorem rN {E:Value->Shared->Prop} (o:∀n,O n->(∀c s,cz F A env c b s->rW env n)/\∀a,LA env n a->X a) (h:ee F O m t):
  ∀(l:List V) (k:List Value) (c d:Sg) (s:Shared),IK c t l=some d->aG F H b s->cz F A env c b s->aX F.B s.heap b l k->
  (∀j,aG F H b j->bc X s b j b->cz F A env d b j->Q () j)->wpAny (MF F) A (assignInOrder ((assignEach m env).map (·.2)) k) Q E s:=by
 induction h with
 |nil=>
  intro l k c d s g R f Y q;induction l with
  |nil=>cases g;cases Y;exact YO<|q s R (.refl _ _ _) f
  |cons=>exact dj rfl g
 |@cons x p m t r _ G=>
  intro l k c d s g R f Y q;induction l with
  |nil=>exact dj rfl g
  |cons v l=>refine du Y λM N e D Z=>?_;refine qL e ?_;refine YQ<|YR<|iZ R f (λy U e=>F.inj x y e) ((o _ r).1 c s f) D λJ u i f1=>?_;have i:=i.weak (o _ r).2;exact G l N _ d J g u f1 (i.monos Z) λL w z f2=>q L w (i.trans z) f2
theorem u4:∀(s:List Nat) (l:List V) (b c:Sg),IK b s l=some c->s.length=l.length
 |[],[],b,c,h=>rfl
 |[],_::_,b,c,h=>dj rfl h
 |_::_,[],b,c,h=>dj rfl h
 |x::s,v::l,b,c,h=>Wh Nat.succ<|u4 s l _ _ h
theorem kO (M:A.handled=none) {E:Value->Shared->Prop} (O:∀n,N n->(∀d s,cz F A env d c s->rW env n)/\∀a,LA env n a->X a) (G:eG F N e t) (i:cU d t v=some j) (R:aG F H c s) (f:cz F A env d c s) (q:VR F.B s.heap c v r)
  (w:∀m,aG F H c m->bc X s c m c->cz F A env j c m->Q () m):wpAny (MF F) A (assign e env r) Q E s:=by
 induction G with
 |@loc x _ h=>exact YR<|iZ R f (λy U e=>F.inj x y e) ((O _ h).1 d s f) q λg b k f1=>w g b (k.weak (O _ h).2)<|W2 i▸f1
 |tup G=>refine ao i λl e i=>?_;rw[jM e] at q;refine mQ q λa vs n e g U Y=>?_;refine qL e ?_;obtain⟨D,J⟩:=Ko G;refine wpAny_assign_Tuple M ⟨_,g,rfl,n,rfl⟩ (by simp only [D,u4 _ _ _ _ i,XS,Y.length]) J λu L=>?_;have p:∀b o,s.heap.get? b=some o->u.get? b=some o:=λb o z=>L b o (Xe<|XN z) z;haveI k:bc X s c {s with heap:=u} c:=bc.grow _ c p rfl rfl rfl;exact rN O G l vs d j _ i (R.grow p) (f.ext (bc.grow _ c p rfl rfl rfl) λU U h=>h) (k.monos Y) λs2 x y f2=>w s2 x (k.trans y) f2
theorem l5 (k:A.handled=none) {E:Value->Shared->Prop} (l:env.scope.names=n) (G:eG F (cY n) e t) (g:cU c t v=some j) (R:aG F H b s) (f:cz F A env c b s) (m:VR F.B s.heap b v i)
  (q:∀d,aG F H b d->bc (FA env) s b d b->cz F A env j b d->Q () d):wpAny (MF F) A (assign e env i) Q E s:=
 kO k (λU g=>⟨λU U f=>qh f l g,λU h=>h.1⟩) G g R f m q
structure xm (F:Fx) (Xc:V->Value->List Addr->Shared->Prop):Prop where
 loop:∀{A:Around} {D:Nat} {env:Env} {l:List Env} {x:V} {e:Value} {fp:List Addr} {H:Hp} {ρ ρ0:cJ} {s s0:Shared} {X:Addr->Prop} {E:Value->Shared->Prop},kJ A D->A.frames=some (env::l)->kC F A ρ s->aG F H ρ s->bc X s0 ρ0 s ρ->
  (∀a∈fp,s0.heap.get? a=none)->Xc x e fp s->
  (∀s' fp',aG F H ρ s'->bc X s0 ρ0 s' ρ->(∀a∈fp',s0.heap.get? a=none)->Xc x e fp' s'->E e s')->notedBy (MF F) A env (cameBackBy (MF F) A env E) e s
 leave:∀{A:Around} {D:Nat} {env:Env} {l:List Env} {x:V} {e:Value} {fp:List Addr} {H:Hp} {ρ ρ0:cJ} {s s0:Shared} {X:Addr->Prop} {E:Value->Shared->Prop},kJ A D->A.frames=some (env::l)->kC F A ρ s->aG F H ρ s->bc X s0 ρ0 s ρ->
  (∀a∈fp,s0.heap.get? a=none)->Xc x e fp s->
  (∀s' fp',aG F H ρ s'->bc X s0 ρ0 s' ρ->(∀a∈fp',s0.heap.get? a=none)->Xc x e fp' s'->E e s')->wpAny (MF F) A (leaving env e) (λU s''=>E e s'') (λe' s''=>E e' s'') s
theorem xm.ends {h j q r:Type} {RV:i9 j h} {RW:i9 r q} {Q:h->Shared->Prop} {Q':q->Shared->Prop} {E:Value->Shared->Prop} (XO:xm F N) (hA:kJ A D) (hl:A.frames=some (env::l)) (k:kC F A p s) (J:bc X s0 y s p) (hw:∀a,Y a->X a)
  (P:bO F N X RV s0 y Q E (.ex x H:R j)):bO F N Y RW s p Q' (λe s=>notedBy (MF F) A env (cameBackBy (MF F) A env E) e s) (.ex x H:R r):=
 λe s2 G fp R2 L O V2=>XO.loop hA hl (k.ext L) R2 (J.trans<|L.weak hw) (λa ha=>J.none_of<|O a ha) V2 λs3 u R3 X3 N3 V3=>P e s3 G u R3 X3 N3 V3
inductive TE (F:Fx) (Xc:V->Value->List Addr->Shared->Prop) (A:Around) (env:Env) (c:C) (b:S) (cl:Cl) (s:Shared) (ρ:cJ) (Q:Flow->Shared->Prop) (E:Value->Shared->Prop) (n:Nat) (s1:Shared):Prop where
 |mk {σ1:Sg} {H1:Hp} {ρ1:cJ} (R1:aG F H1 ρ1 s1) (f1:cz F A env σ1 ρ1 s1) (X1:bc (FA env) s ρ s1 ρ1) (P:bO F Xc (FA env) (FR F A env) s ρ Q E<|Nw c b cl n σ1 H1)
theorem Fc {O} (XO:xm F v) (ht:lr F v D sc t c) (hx:nE F v D sc xs b):cC F v D sc (.While t xs [] O) (xv c b):=by
 intro L hc A N g H s d w hf hs R f;intro Q E P;obtain⟨⟨l,J⟩,G⟩:=hf;refine wpAny_While (codeAny_whileLoop
  (TE F v A N c b L s d Q E) (λn s1 h=>?_) cS (.mk R f (.refl _ _ _) P))
 obtain@⟨q,H1,Y,R1,f1,X1,P⟩:=h;induction n with
 |zero=>exact P.elim
 |succ n=>
  refine ht L hc A N q H1 s1 Y w hs R1 f1 _ _<|bO.bind P (λx y P=>XO.ends w J f1.stk X1 tN P) λr y U P i s2 k R2 X2 V2=>?_;subst V2;have f2:=f1.extN X2;have j:=X1.trans<|X2.weak tN;induction r with
  |false=>exact YG<|P .next s2 k R2 j ⟨.next,λU e=>f2.heap e⟩
  |true=>
   refine hx L hc A N q y s2 k w ⟨⟨l,J⟩,G⟩ hs R2 f2 _ _<|bO.bind P (λx y P=>XO.ends w J f2.stk j (λU h=>h) P) λp o U P fl M m u X3 V3=>?_;obtain⟨o,σ3⟩:=p;obtain⟨z,h2⟩:=V3;haveI f3:=h2 M rfl;haveI i:=j.trans X3;cases z with
   |next=>exact⟨n,W1 n,.mk u f3 i P⟩
   |brk=>exact P .next M m u i ⟨.next,λU e=>f3.heap e⟩
   |cont=>exact⟨n,W1 n,.mk u f3 i P⟩
   |ret z=>exact P _ M m u i ⟨.ret z,λU e=>f3.heap e⟩
theorem D9.cls (x:jC F v j i s h):∃o n p,s.heap.get? j=some o/\o.cls=.type n/\o.data=.fields p/\(n="tuple_iterator"\/n="list_iterator"\/n="range_iterator"):=by
 induction x with
 |tup _ _ I=>exact e7 I λo g c d=>Do o _ _ g c d<|.inl rfl
 |ref _ I=>exact e7 I λo g c d=>Do o _ _ g c d<|.inr<|.inl rfl
 |rng _ I=>exact Do _ _ _ I rfl rfl<|.inr<|.inr rfl
theorem D9.notStill (x:jC F v p i s h):∀o,s.heap.get? p=some o->¬bv o:=by
 refine mQ x.cls λo n r g c d N q G st=>?_;rw[<-iF g G] at st;haveI O:∀m,(m="tuple_iterator"\/m="list_iterator"\/m="range_iterator")->m≠"range"/\m≠"code":=by rintro _ (rfl|rfl|rfl)<;>decide
 rcases st with⟨_,u,k,e⟩|⟨j|j,_⟩;.cases d.symm.trans e
 .exact(O n N).1<|Value.type.inj<|c.symm.trans j
 .exact(O n N).2<|Value.type.inj<|c.symm.trans j
theorem D9.notNone (x:jC F v j i s h) (g:s.heap.get? j=some o):o.cls≠.none:=by refine IT x.cls λO n p G c U=>?_;obtain rfl:=W2<|g.symm.trans G;rw[c];nofun
theorem D9.notFA (x:jC F v p i s h) (f:cz F A env j h s):¬FA env p:=by intro q;obtain⟨_,_,o,g,_,N⟩:=f.own p q;refine oi x.fields λO r G d=>?_;obtain rfl:=W2<|g.symm.trans G;exact x.notNone g<|N r d
theorem let_go (x:jC F v t i s b) {target:Expr} {E:Value->Shared->Prop} (q:Q () s):wpAny (MF F) A (letOwnedTupleGo target (.ref t) e) Q E s:=by
 refine mQ x.cls λo n f g c d N=>?_;haveI H:(["enumerate","zip","dict_itemiterator","dict_reverseitemiterator","odict_iterator","itertools.zip_longest","itertools.pairwise"].contains n)=false:=by rcases N with h|h|h<;>subst h<;>decide
 rcases(jp target).owned with h|h;.simp only [h];exact Ym q
 .simp only [h]
  induction e with
  |ref a=>refine Yk<|wpAny_load g ?_;refine qL c<|qL d ?_;dsimp only;refine qL (Xd<|by simp only [H];simp) ?_;exact Ym q
  |_=>exact Ym q
theorem yT (R:aG F H c s) (I:jC F v f i s c) (k:F.B.get? f=none) (r:∀n,c n≠some f) (h:Heap.ExtBut f s.heap j) (hex:∃o,j.get? f=some o):
  aG F H c {s with heap:=j,toks:=t}/\bc (λa=>a=f) s c {s with heap:=j,toks:=t} c:=by
 refine oi I.fields λo l g d=>?_;obtain⟨O,G⟩:=hex;refine⟨R.other (λa=>a=f) (λb ob e N=>h b ob N e) (λa e=>by subst e;exact⟨k,r⟩) λb ob e st=>h b ob (λq=>by subst q;exact I.notStill ob e st) e,?_⟩;refine⟨λU U e=>e,λU U e=>.inl e,λb ob e U=>?_,λb ob e st=>h b ob (λq=>by subst q;exact I.notStill ob e st) e,λb ob e=>?_,rfl,rfl,rfl⟩
 .by_cases q:b=f
  .exact .inl q
  .exact .inr ⟨ob,h b ob q e,.refl ob⟩
 .by_cases q:b=f
  .subst q
   obtain rfl:=W2<|g.symm.trans e;exact jy O G (λN=>((I.notNone g)<|N l d).elim) (λz=>by obtain⟨_,m,p,D⟩:=z;exact nomatch (D.symm.trans d))
  .exact jy ob (h b ob q e) id id
theorem cz.but (f:cz F A env p j s) (g:s.heap.get? Q=some o) (O:¬bv o) (N:o.cls≠.none) (d:o.data=.fields vs) (D:Heap.ExtBut Q s.heap Y):cz F A env p j {s with heap:=Y}:=by
 have nf:∀a ob,s.heap.get? a=some ob->cx ob->a≠Q:=λa ob e n q=>by subst q;obtain rfl:=W2<|g.symm.trans e;exact N<|n vs d
 haveI hs:∀a ob,s.heap.get? a=some ob->bv ob->Y.get? a=some ob:=λa ob e st=>D a ob (λq=>by subst q;obtain rfl:=W2<|g.symm.trans e;exact O st) e;have u:∀a,FA env a->a≠Q:=λa J=>by obtain⟨_,_,ob,e,_,n⟩:=f.own a J;exact nf a ob e n
 refine aI f.vars λm ns hv=>⟨f.kind,f.globals,f.builtins,f.code,⟨m,?_,λy v e=>?_⟩,λa J=>?_,f.bound,λy c e=>?_,f.apart,?_⟩
 .exact BQ ns λob L h e r=>Rx ob L h (D _ _ (u _<|.inl rfl) e) r
 .refine aI (hv y v e) λL x G=>bK L (VR.mono hs (λU U e=>e) _ x) ?_
  rcases G with h|⟨h,q,c,hc,ob,e,r⟩;.exact .inl h
  .exact .inr ⟨h,q,c,hc,ob,D _ _ (u _<|.inr ⟨_,hc⟩) e,r⟩
 .obtain⟨x,G,ob,e,st,n⟩:=f.own a J
  exact⟨x,G,ob,D _ _ (u a J) e,st,n⟩
 .obtain⟨x,v,ob,h,r⟩:=f.cells y c e
  exact⟨x,v,ob,D _ _ (u _<|.inr ⟨_,e⟩) h,r⟩
 .refine aI f.stk λl x G=>bK l x (λev he=>?_)
  obtain⟨h3,L,ob,h4,h5,h6,h,h8⟩:=G ev he;exact⟨h3,L,ob,h4,h5,h6,D _ _ (nf L ob h h8.nf) h,h8⟩
theorem bc.but (x:bc X r u s h) (h0:r.heap.get? p=none) (G:s.heap.get? p=some o) (j:Heap.ExtBut p s.heap y):bc X r u {s with heap:=y} h:=by
 have N:∀a ob,r.heap.get? a=some ob->a≠p:=λa ob e q=>by subst q;exact nomatch (h0.symm.trans e)
 refine⟨x.le,x.fresh,λa ob e A=>?_,λa ob e st=>j _ _ (N a ob e)<|x.still a ob e st,λa ob e=>?_,x.gens,x.drawn,x.os⟩
 .rcases x.keep a ob e A with q|⟨O,q,l⟩
  .exact .inl q
  .exact .inr ⟨O,j _ _ (N a ob e) q,l⟩
 .exact aI (x.there a ob e) λO q k=>bK O (j _ _ (N a ob e) q) k
theorem aG.but (R:aG F H h s) (I:jC F v j i s h) (u:F.B.get? j=none) (x:∀n,h n≠some j) (p:Heap.ExtBut j s.heap r):aG F H h {s with heap:=r}:=
 R.other (λa=>a=j) (λb ob e N=>p b ob N e) (λa e=>by subst e;exact⟨u,x⟩) λb ob e st=>p b ob (λq=>by subst q;exact I.notStill ob e st) e
theorem j5 (h:ia x=false):∀v,foldedSetIterable x env v=pure v:=(jp x).fold h _
inductive To (F:Fx) (Xc:V->Value->List Addr->Shared->Prop) (A:Around) (env:Env) (t:PT) (b:S) (v:V) (cl:Cl) (it:Addr) (s:Shared) (ρ:cJ) (Q:Flow->Shared->Prop) (E:Value->Shared->Prop) (n:Nat) (s1:Shared):Prop where
 |mk {σ1:Sg} {H1:Hp} {ρ1:cJ} {i:Nat} (R1:aG F H1 ρ1 s1) (f1:cz F A env σ1 ρ1 s1) (X1:bc (FA env) s ρ s1 ρ1) (I:jC F v it i s1 ρ1) (hr:∀n,ρ1 n≠some it) (P:bO F Xc (FA env) (FR F A env) s ρ Q E<|jB t b v cl n i σ1 H1)
theorem K5 {pos} (XO:xm F w) (htg:eG F (cY sc) tg t) (he:aC F w D sc x e) (bj:ia x=false) (hx:nE F w D sc xs b):cC F w D sc (.For tg x xs [] pos) (aP t e b):=by
 refineλL hc A N d H s c Y hf hs R f=>am.imp
  (am.bindN (he L hc A N d H s c Y hs R f) λv H0 U j s0 k y X0 V0=>?_) λQ E h=>wpAny_For h (j5 bj)
 haveI f0:=f.extN X0;intro Q E P;obtain⟨⟨l,hl⟩,hfl⟩:=hf;cases M:bT H0 v 0 with
 |none=>haveI p:bO F w _ _ s0 k Q E (Internal.ro 112 _ _):=P;rw[M] at p;exact p.elim
 |some o=>
 refine lI y V0 M λit h' hk nY I0=>?_;have hB:=y.none_of nY;haveI hr0:∀n,k n≠some it:=λn e=>aI (y.owned e).2 λU g U=>dj nY g;refine codeAny_forLoop_any
  (To F w A N t b v L it s0 k Q E) (λn j h=>?_) cS
  (.mk (y.grow hk) (f0.ext (bc.grow _ _ hk rfl rfl rfl)  λU U h=>h) (bc.grow _ _ hk rfl rfl rfl) I0 hr0 P)
 clear P f0 R f X0 I0 hr0 V0 y;obtain@⟨σ1,H1,ρ1,i,R1,f1,X1,m,r,P⟩:=h;cases n with
 |zero=>exact P.elim
 |succ n=>
  replace P:bO F w _ _ s0 k Q E (Internal.ro 112 (bT H1 v i) λo=>o.casesOn (dy σ1 H1) λx=>Internal.ro 113 (cU σ1 t x) λd=>(b L d H1).bind<|again<|jB t b v L n<|i+1):=P;refine P.ro λo q P=>pB R1 Y.handled m q (λx ho j O t1 sb hv I2=>?_) λho O eb=>?_
  .simp only [ho] at P
   refine bO.ro P λσ2 q3 P=>oi I2.fields λof vs G df=>?_;obtain⟨R2,X2⟩:=yT R1 m hB r (t:=t1) sb.extBut ⟨of,G⟩;have f2:=f1.ext X2 λa fa e=>by subst e;exact m.notFA f1 fa
   have J:=X1.transH X2 λa e=>.inr (by subst e;exact nY);refine let_go I2<|l5 Y.handled hs htg q3 R2 f2 (X2.mono hv) λs3 R3 X3 f3=>?_;haveI I3:=I2.ext X3 (I2.notFA f2) r;refine hx L hc A N σ2 H1 s3 ρ1 Y ⟨⟨l,hl⟩,hfl⟩ hs R3 f3 _ _<|bO.bind P (λx H2 P=>XO.ends Y hl f3.stk (J.trans X3) (λU h=>h) P) λp H3 U P fl s4 u R4 X4 V4=>?_;obtain⟨o,σ4⟩:=p;obtain⟨O,h2⟩:=V4;haveI f4:=h2 s4 rfl;haveI I4:=I3.ext X4 (I3.notFA f3) r;haveI j:=(J.trans X3).trans X4;haveI hr4:∀n,u n≠some it:=λn e=>(X4.fresh n it e).elim (r n) λz=>oi I3.fields λob vs g U=>dj z g;cases O with
   |next=>exact⟨n,W1 n,.mk R4 f4 j I4 hr4 P⟩
   |brk=>exact P .next s4 u R4 j ⟨.next,λU e=>f4.heap e⟩
   |cont=>exact⟨n,W1 n,.mk R4 f4 j I4 hr4 P⟩
   |ret O=>exact P _ s4 u R4 j ⟨.ret O,λU e=>f4.heap e⟩
  .rw[ho] at P
   refine oi m.fields λof vs G df=>?_;exact YG<|P .next _ ρ1 (R1.but m hB r eb) (X1.but nY G eb) ⟨.next,λU e=>(f1.but G (m.notStill of G) (m.notNone G) df eb).heap e⟩
theorem mu {E:Value->Shared->Prop} (H:Q () s):wpAny (MF F) A (letTemporaryGo base o r) Q E s:=by
 haveI k:wpAny (MF F) A (do let _<-holding [r] (runValue<|.builtin "proto.let_go" {})) Q E s:=by refine Yk<|YS<|wpAny_runValue<|YT PySem.entry_let_go ?_;exact Ym<|Ym H
 rcases(jp base).temp with h|h;.simp only [h];exact Ym H
 .simp only [h]
  induction o with
  |ref a=>exact k
  |_=>exact Ym H
theorem qK (h:ku slice=false):subscripted slice false o i=operate [o,i] (PySem.getItem o i):=(jp slice).sub h _ _
theorem Eh (R:aG F H b s) (x:VR F.B s.heap b a A) (h:gW H a i=some v):∃T id,s.TypeIs A T/\typeLookup (.type T) "__getitem__"=pure (some<|.builtin id):=by
 refine jU h (λU U=>dJ) (λl e h=>?_) (λl e h=>?_) λn e h=>ao h λc g h=>?_<;>rw[e] at x
 .obtain⟨t,rfl⟩:=x
  exact yu _ _ (typeIs_str s _ t) PySem.F.slot_str_getitem.lookup
 .refine IT x λc f n e g U=>?_
  refine qL e ?_;exact yu _ _ ⟨_,g,rfl⟩ slot_tuple_getitem.lookup
 .revert g
  apply mT h<;>intro l h g
  .refine rq (R.lst g x) λc f k e U G L Y=>?_
   refine qL e ?_;exact yu _ _ ⟨_,G,rfl⟩ slot_list_getitem.lookup
  .refine e7 (R.at' g x) λc e j D=>?_
   obtain⟨o,g,d⟩:=D.exact;exact qL e<|yu _ _ ⟨o,g,d.1⟩ slot_dict_getitem.lookup
theorem JW {p} (hx:aC F j D w x a) (hy:aC F j D w y b) (hn:ku y=false):aC F j D w (.Subscript x y p) (aq a b):=by
 intro L t A n d H s c l u R f;refine am.imp (am.bind (hx L t A n d H s c l u R f) λva z U a s1 i G N J=>am.bind (hy L t A n d z s1 i l u G<|f.extN N) λvb m U b s2 ρ2 o O M=>?_) λQ E h=>Subscript_ h;have g:=O.mono J;haveI k:=r5 (Xc:=j) (X:=eR) o l.u10 g M;refine am.ro λv q=>?_;haveI e:Internal.getItem va vb m=.ok v m:=by delta Internal.getItem Internal.lift;rw[q];rfl
 simp only [e] at k;refine oi (Eh o g q) λT id hT hl=>λQ E Y=>?_;delta subscriptTail;refine Yk ?_;refine Yk<|YU hT hl ?_;have fin:wpAny (MF F) A (subscripted y false a b) (λr i=>wpAny (MF F) A (letTemporaryGo x a r>>=λU=>pure r) Q E i) E s2:=by refine qL (qK hn) ?_;exact YV<|k _ E λr s3 i z N G=>Yk<|mu<|Ym<|Y r s3 i z N G
 first
  |exact Ym<|Yk fin
  |exact Yk<|Ym _
  |exact Yk fin
theorem am.nothing (p:cz F A env j h s) (x:am F y eR T r PB s h):am F y (FA env) (λQ E s=>T (λU=>Q Flow.next) E s) (r.bind λU H=>dy j H) (FR F A env) s h:=
 am.bindN x λU U U U U U q u U=>am.stay q (p.extN u) .next λU U D=>D
theorem GJ {p O} (ho:aC F q D t o a) (hi:aC F q D t i b) (hx:aC F q D t x e) (hc:fY x=false):cC F q D t (.Assign [.Subscript o i p] x O) (bN a b e):=by
 intro L g A n d H s c j _ r R f;refine am.imp (am.bindN (hx L g A n d H s c j r R f) λv y U val s1 u G k N=>
  am.bindN (ho L g A n d y s1 u j r G<|f.extN k) λvo z U ov s2 w J l Y=>
  am.bindN (hi L g A n d z s2 w j r J<|(f.extN k).extN l) λvi H3 U iv s3 ρ3 M m V3=>
  am.nothing (((f.extN k).extN l).extN m) (sf M j.u10 (m.mono Y) V3<|m.mono<|l.mono N)) λQ E h=>wpAny_Assign_Subscript h (gu hc)
abbrev tB {b c:Type} (F:Fx) (A:Around) (m:Sem b) (k:b->r6 c):r6 c:=λQ E s=>wpAny (MF F) A m (λa s=>k a Q E s) E s
abbrev Rp (F:Fx) (A:Around) (o i:Value):Value->r6 Flow:=λn Q E s=>wpAny (MF F) A (PySem.setItem o i n) (λU=>Q Flow.next) E s
abbrev J6 (F:Fx) (A:Around) (o:Op) (O:Value) (k:Value->r6 Flow):Value->r6 Flow:=λv=>tB F A (inplaceOp (rt o) O v) k
theorem IV {k y} (ho:aC F u D z o a) (hi:aC F u D z i b) (hx:aC F u D z x e) (hn:ku i=false):cC F u D z (.AugAssign (.Subscript o i k) (rt p) x y) (uz a b p e):=by
 intro L g A n d H s c j _ w R f;refine am.imp (am.bindN
   (ho L g A n d H s c j w R f) λvo H1 U ov s1 G R1 r M=>
  am.bindN (K:=λY=>tB F A _ λO=>tB F A _<|J6 F A p O _) (hi L g A n d H1 s1 G j w R1<|f.extN r) λvi H2 U Y s2 ρ2 R2 l N=>
  am.bindN (K:=λO=>tB F A _<|J6 F A p O _) (r5 R2 j.u10 (l.mono M) N) λvold H3 U O s3 J R3 m V3=>
  am.bindN (K:=J6 F A p O _) (hx L g A n d H3 s3 J j w R3<|((f.extN r).extN l).extN m) λv H4 U val s4 ρ4 R4 q V4=>
  am.bindN (K:=Rp F A ov Y) (nD R4 j (q.mono V3) V4) λvn H5 U new s5 ρ5 R5 t V5=>
  am.nothing (((((f.extN r).extN l).extN m).extN q).extN t) (sf R5 j.u10 (t.mono<|q.mono<|m.mono<|l.mono M) (t.mono<|q.mono<|m.mono N) V5)) λQ E h=>wpAny_AugAssign_SubscriptAny h ((jp i).aug hn)
theorem zY (h:zz x=false):swappedStores [.Tuple e k p] x env=pure none:=(jp x).tup h _ _ _ _
theorem HJ {m p} (t:ee F (cY o) i xs) (O:aC F G D o x e) (M:fY x=false) (N:zz x=false):cC F G D o (.Assign [.Tuple i k m] x p) (ai (.tup xs) e):=by intro L d A n c H s b j _ l R f;refine am.imp (am.bindN (O L d A n c H s b j l R f) λv H1 U val s1 g r y w=>?_) λQ E h=>Assign_Tuple h (show swapsWith x (some<|.Tuple i k m) p.line n=pure false from gu M)<|zY N;exact am.ro λσ' q Q E J=>l5 j.handled l (.tup t) q r (f.extN y) w λY u z f2=>J .next Y g u z ⟨.next,λU e=>f2.heap e⟩
section
open Builtin Builtin.ObjectAttr
noncomputable def fP (K:Frag) (C:Addr) (n:Str):Bool:=match clsIn K C with
 |some c=>c.hasDict&&findIn K (.ref C) n==some none&&findIn K (.ref C) "__getattribute__"==some (some<|.builtin "object.__getattribute__")&&
   findIn K (.ref C) "__setattr__"==some (some<|.builtin "object.__setattr__")&&plainOver K C
 |none=>false
theorem uq {C:Prop} {K:Frag} (h:fP K c n) (k:∀d,clsIn K c=some d->d.hasDict->findIn K (.ref c) n=some none->
  findIn K (.ref c) "__getattribute__"=some (some<|.builtin "object.__getattribute__")->findIn K (.ref c) "__setattr__"=some (some<|.builtin "object.__setattr__")->plainOver K c->C):C:=by
 delta fP at h;cases H:clsIn K c with
 |none=>rw[H] at h;cases h
 |some d=>rw[H] at h;simp only [XR,beq_iff_eq] at h;exact k d H h.1.1.1.1 h.1.1.1.2 h.1.1.2 h.1.2 h.2
theorem Ao (h:Bp H v=some (d,s)):∃n c,v=.ref n/\ac H n=some (.ins c d)/\ac H d=some (.ns s):=
 ao h λx q h=>ao h λp e h=>ao h λy r h=>bB h λi f z=>by cases z;exact xd q λn b g=>vK n p.1 b (LX e▸g)<|r.trans<|Wh some<|Ju f
theorem VR.handed (x:VR B h j v A):handedIn A:=by
 cases v with
 |non=>exact x▸rfl
 |bool b=>exact x▸rfl
 |int i=>exact x.elim λt e=>e▸rfl
 |str i=>exact x.elim λt e=>e▸rfl
 |tup l=>exact BQ x λa p n e U=>e▸rfl
 |ref n=>exact aI x λa e U=>e▸rfl
 |rng a b c=>exact Ut x λr t u v e U=>e▸rfl
 |arr l=>exact BQ x λa p n e U=>e▸rfl
theorem yI (h:nsFind s n=some v):∃e,s.toList.find? (·.key.isStr n)=some e/\e.val=v:=by delta nsFind findBy at h;rw[<-YW] at h;exact bB h λe q z=>bK e q z
inductive Jf (F:Fx) (s:Shared) (ρ:cJ) (d:Nat) (fs:List<|Nat×V):Value->Prop where
 |mk {a:Addr} {c:Nat} {dx:Addr} {m:Str->Option Value} {o:Obj} {es:Array DictEntry} {ep:Nat} (hins:F.ins c=true) (hd:ρ d=some dx) (I:InstAt s.heap a (instObj (F.cls c) dx) (F.cls c)<|some o) (go:s.heap.get? dx=some o)
   (hcl:o.cls≠.type "frame") (ho:o.data=.dict es ep) (hk:StrKeys es) (hm:∀n,nsFind es n=m n) (hz:es.size<=fs.length) (hf:∀f v,look fs f=some v->∃val,m (F.nm f)=some val/\VR F.B s.heap ρ v val) (hfn:∀f,look fs f=none->m (F.nm f)=none):Jf F s ρ d fs (.ref a)
theorem aG.inst (R:aG F H j s) (h:Bp H v=some (d,u)) (x:VR F.B s.heap j v A):Jf F s j d u A:=by refine du (Ao h) λn c e y J=>?_;rw[e] at x;refine e7 (R.at' y x) λa e U h=>e7 h λdx D L p=>?_;obtain⟨m,⟨o,es,ep,G,q,Y,O,Q,hz⟩,N,r⟩:=R.cellAt J D;refine qL e ?_;exact .mk p D ⟨L,rfl,rfl,G⟩ G q Y O Q hz N r
theorem q8 (R:aG F H d s) (O:∀c,F.ins c->fP F.K (F.cls c) (F.nm f)) (x:VR F.B s.heap d a G):
  am F L X (λQ E s=>wpAny (MF F) A (PySem.getAttr G (F.nm f) ex) Q E s) (Internal.getAttr a f H) (jt F) s d:=by
 refine am.lift λv h=>ao h λp q h=>?_;cases R.inst q x with
 |mk i hd I go t y hk M hz u w=>refine aI (u f v h) λJ j g=>uq (O _ i) λN r k l m U U=>aI (yI<|(M _).trans j) λY z D=>?_;refine am.tok R g λQ E n=>get_value (λb o e=>R.keep b o<|F.KB b o e) I m ?_ g.handed<|n _;delta findObj W.ownOf lookIn;rw[r,YX,l,Xb k];dsimp only;refine qL y ?_;dsimp only;refine qL z ?_;dsimp only [YX];exact qL D rfl
theorem yN (v:V):∀(l:Sg) (x:Nat),(look l x=none->(put l x v).length=l.length+1)/\(look l x≠none->(put l x v).length=l.length):=by
 intro z;induction z with
 |nil=>exactλx=>⟨λU=>rfl,λh=>(h rfl).elim⟩
 |cons p l i=>
  intro x;haveI H:=(i x).1;haveI b:=(i x).2;rw[cw,vy];by_cases q:p.1=x
  .rw[Xb q,Xb q]
   exact⟨λh=>(by cases h),λU=>rfl⟩
  .rw[Xd q,Xd q]
   exact⟨λh=>by simp[H h],λh=>by simp[b h]⟩
theorem kN (R:aG F H h s) (O:∀c,F.ins c->fP F.K (F.cls c) (F.nm f)) (x:VR F.B s.heap h a va) (y:VR F.B s.heap h v n):
  am F Xc X (λQ E s=>wpAny (MF F) A (PySem.setAttr va (F.nm f) n) Q E s) (Internal.setAttr a f v H) PB s h:=by
 refine am.ro λp q=>am.cnd λl=>?_;haveI l:=iA l;obtain⟨d,r⟩:=p;cases R.inst q x with
 |@mk b c dx m o es ep j hd I go G ho hk hm hz hf J=>
  refine uq (O _ j) λcd hc h1 h2 h3 h4 h5=>am.turn R hd λQ E hQ=>?_;haveI t:F.K.In s.heap:=λb o e=>R.keep b o<|F.KB b o e;refine set_plain t I h4 ?_;haveI hx:=I.at_;refine osa_open t I h5 (by delta takerIn;rw[h2];rfl) λbb=>?_;refine Yk<|Ym<|Yk<|Yk<|Yn hx<|Yk<|looks_clsIn t hc _ _ _ _ (λU U e=>e) ?_;refine qL h1 ?_;refine Ym<|Yk<|Ym<|Yk<|fC go ho hk hm λh' o' d D g' i d' k' m' z1 z2 sb=>?_;refine Yk (YY g' (qL d'<|YZ<|by rw[XI];exact Wk z1<|XE<|Wk ‹_›<|WO<|Xk ‹_›<|by decide) ?_);refine Ym ?_;have st:=R.still_turn hd λb U N g=>(sb.2 b N).trans g;have M:d.size<=(put r f v).length:=by
   cases L:look r f with
   |none=>rw[(yN v r f).1 L];exact Wk z1 (XE<|by assumption)
   |some w=>refine aI (hf f w L) λu Y U=>?_;refine qL ((yN v r f).2<|by rw[L];nofun) ?_;haveI:=z2 (by rw[Y];nofun);exact Wk ‹_› ‹_›
  refine hQ () h' _ (λb U N g=>(sb.2 b N).trans g) ⟨_,⟨o',d,D,g',i▸G,d',k',m',M⟩,λg w e=>?_,λg e=>?_⟩ trivial
  .rw[dw] at e
   by_cases k:f=g
   .subst k
    rw[Xb rfl] at e;cases e;exact bK n (by simp)<|VR.mono st (λU U e=>e) _ y
   .rw[Xd k] at e
    refine aI (hf g w e) λu Y u2=>bK u ?_<|VR.mono st (λU U e=>e) _ u2;rw[Xd λz=>k<|F.inj f g z.symm];exact Y
  .rw[dw] at e
   by_cases k:f=g;.rw[Xb k] at e;cases e
   .rw[Xd k] at e
    rw[Xd λz=>k<|F.inj f g z.symm];exact J g e
end
section
variable {s:aS}
noncomputable def xB {M:Expr->Type} (e:Expr) (k:∀A b,Option<|M<|.Name A b) (f:∀A b c,Option<|M<|.Attribute A b c) (g:∀A b c,Option<|M<|.Subscript A b c) (h:∀A b c d,Option<|M<|.Call A b c d):Option (M e):=e.casesOn (λU U U=>none) (λU U U=>none) (λU U U U=>none) (λU U U=>none) (λU U U U=>none) (λU U U U=>none) (λU U U=>none) (λU U U=>none) (λU U U U=>none) (λU U U U=>none) (λU U U U U=>none) (λU U U U=>none) (λU U=>none) (λU U=>none) (λU U=>none) (λU U U U=>none) h (λU U U U=>none) (λU U=>none) (λU U U=>none) f g (λU U=>none) k (λU U=>none) (λU U U=>none)  λU U U U=>none
noncomputable abbrev B2 (o:Expr):Prop:=∀(A:Str) (e:Env) (w:Sem Value),attributeBase o A e w=w
def JH (o:Expr):Option (PLift<|B2 o):=xB (M:=λo=>PLift _) o (λU U=>some ⟨λU U U=>rfl⟩) (λU U U=>some ⟨λU U U=>rfl⟩) (λU U U=>some ⟨λU U U=>rfl⟩) λf x k p=>xB (M:=λf=>PLift<|B2<|.Call f x k p) f (λU U=>x.casesOn (motive:=λx=>Option<|PLift<|B2<|.Call _ x k p) none λU U=>some ⟨λU U U=>rfl⟩) (λU U U=>none) (λU U U=>none) λU U U U=>none
def qM (o:Expr):Bool:=(JH o).isSome
theorem zt (h:qM o):attributeBase o A env w=w:=((JH o).get h).down A env w
theorem GU {p} (y:aC F j D s x a) (u:F.nm f=n) (O:∀c,F.ins c->fP F.K (F.cls c) n) (q:qM x):aC F j D s (.Attribute x n p) (al a f):=by subst u;intro l t A N e H b d m w R k;refine am.imp (am.bind (K:=λo Q E b=>wpAny (MF F) A (PySem.getAttr o _ true) Q E b) (y l t A N e H b d m w R k) λv L U z G J g M i=>q8 g O i) λQ E h=>?_;rw[arm_eval_Attribute,zt q];exact Yk<|Y0 h (λo G g=>Yk<|Y1<|Yk<|YS<|Y0 g (λr v i=>Yk<|mu<|Ym i) λU U z=>z) λU U z=>z
theorem IU {p j} (ho:aC F q D s o a) (hx:aC F q D s x e) (Y:F.nm f=n) (O:∀c,F.ins c->fP F.K (F.cls c) n) (M:fY x=false):cC F q D s (.Assign [.Attribute o n p] x j) (cD a f e):=by
 subst Y;intro L i A N g H b d t _ u R r;refine am.imp (am.bindN (hx L i A N g H b d t u R r) λv w U val s1 k y l G=>
  am.bindN (ho L i A N g w s1 k t u y<|r.extN l) λvo H2 U ov s2 ρ2 z m J=>
  am.nothing ((r.extN l).extN m) (kN z O J<|m.mono G)) λQ E h=>Y2 h (gu M)
theorem Hu {j q} (ho:aC F z D s o a) (hx:aC F z D s x e) (hn:F.nm f=n) (O:∀c,F.ins c->fP F.K (F.cls c) n):cC F z D s (.AugAssign (.Attribute o n j) (rt p) x q) (zf a f p e):=by
 subst hn;intro L i A N g H b d m _ G R r;refine am.imp (am.bindN
   (ho L i A N g H b d m G R r) λvo H1 U ov s1 ρ1 Y w u=>
  am.bindN
   (q8 Y O u) λJ M U old s2 t R2 k V2=>
  am.bindN
   (hx L i A N g M s2 t m G R2<|(r.extN w).extN k) λv H3 U val s3 ρ3 R3 l V3=>
  am.bindN
   (nD R3 m (l.mono V2) V3) λvn H4 U new s4 ρ4 R4 y V4=>
  am.nothing ((((r.extN w).extN k).extN l).extN y) (kN R4 O (y.mono<|l.mono<|k.mono u) V4)) λQ E h=>wpAny_AugAssign_AttributeAny h
noncomputable def aZ (s:aS) (n:Str):Bool:=(s.lookup n==some .globalImplicit)&&!(n==("__debug__"))
theorem fx {p} {E:Value->Shared->Prop} (f:cz F A env d c b) (e:env.scope.names=s) (h:aZ s n) (R:aG F H c b)
  (m:F.B.Ns mainGlobals M) (g:M n=some v) (q:Q v b):wpAny (MF F) A (eval (.Name n p) env) Q E b:=by
 delta aZ at h;simp only [XR,beq_iff_eq,Y3] at h;haveI k:env.kindOf n=some .globalImplicit:=by unfold Env.kindOf;exact e▸h.1
 exact Y4 f.kind k (Calls.loadGlobal_global (f.globals▸(m.keeps R.keep)) g q) h.2
theorem fW {E:Value->Shared->Prop} (H:c.all bd) (h:wpAny (MF F) A (spliced<|starEach c env) (λv b=>Q ⟨v,[]⟩ b) E b):
  wpAny (MF F) A (evalArgs f true (starEach c env) []) Q E b:=by
 induction c with
 |nil=>refine Yk<|Y0 h (λv s d=>?_) λU U z=>z;refine Yk<|Ym ?_;exact YS<|Yk<|Ym<|Yk<|Ym<|Ym d
 |cons x c=>simp only [W5,XR] at H;rw[dm H.1] at h⊢;exact Calls.evalArgs_plain h
end
theorem e8:∀(s:List Expr) (e:Env),s.all bd->(starEach s e).any (·.1)=false:=by
 intro z;induction z with
 |nil=>exactλU U=>rfl
 |cons x s i=>intro e h;simp only [W5,XR] at h;refine qL (dm h.1) ?_;simp[i e h.2]
theorem CS {p O} (hl:jD F J D u x l) (N:x.all bd) (Y:aZ u n)
  (hm:F.B.Ns mainGlobals mg) (hv:mg n=some (.ref<|F.fn f)) (ho:F.B.get? (F.fn f)=some o) (M:o.data=.func fd):aC F J D u (.Call (.Name n p) x [] O) (ag f l):=by
 refineλL m A e c H s b k q R r=>am.imp (am.bind (K:=λd Q E s=>s.heap.get? (F.fn f)=some o/\wpAny (MF F) A (call (.ref<|F.fn f) d) Q E s) (hl L m A e c H s b k q R r) λd w U v t g i G y=>?_) λQ E h=>?_
 .exact am.imp (m f d v w t g A k.cl (r.extN G).stk i y) λQ E h=>⟨i.keep _ _ ho,Y5 h⟩
 .simp only [Y6]
  refine Yk<|fx r q Y R hm hv ?_;refine qL (bX _ _ _ N) ?_;exact Calls.callWith_function<|fW N<|Y0 h (λd t j=>⟨⟨j.1,M⟩,j.2⟩) λU U z=>z
theorem qA {E:Value->Shared->Prop} (g:∀a,v≠.ref a) (H:b.any (·.1)=false)
  (h:wpAny (MF F) A (evalArgs v true b []) (λa c=>wpAny (MF F) A (call v a.pos a.kw) Q E c) E s):wpAny (MF F) A (callWith p v [] b []) Q E s:=by
 refine Yk<|YS<|Y0 h (λa c d=>Yk<|Y1 ?_) λU U x=>x;refine H▸?_;have k:keeperOf v=pure .machine:=by cases v<;>first|rfl|exact((g _) rfl).elim
 refine qL k ?_;refine Yk<|Ym ?_;exact Yk<|Y0 d (λr e f=>Yk<|YS<|Y7<|Ym f) λU U x=>x
def yO:Bi->Value
 |.len=>.builtin "len"|.range=>.type "range"|.tuple=>.type "tuple"|.list=>.type "list"|.sorted=>.builtin "sorted"|.max=>.builtin "max"|.min=>.builtin "min"|.set=>.type "set"
noncomputable def rA (F:Fx) (x:V->Value->List Addr->Shared->Prop) (D:Nat) (b:Bi):Prop:=
 ∀r v H s c A,kJ A D->aG F H c s->aX F.B s.heap c r v->am F x eR (λQ E s=>wpAny (MF F) A (call (yO b) v) Q E s) (cM b r H) (jt F) s c
theorem wr {p o} (z:rA F k D b) (M:jD F k D t x l) (N:x.all bd) (g:aZ t n)
  (O:F.B.Ns mainGlobals mg) (Y:mg n=none) (m:F.B.Ns builtinsNs mb) (i:mb n=some (yO b)):aC F k D t (.Call (.Name n p) x [] o) (ah b l):=by
 intro L G A e d H s c q r R f;refine am.imp (am.bind (M L G A e d H s c q r R f) λvs u U v s1 j w X1 y=>z vs v u s1 j A q w y) λQ E h=>?_;delta aZ at g;simp only [XR,beq_iff_eq,Y3] at g;haveI J:e.kindOf n=some .globalImplicit:=by unfold Env.kindOf;exact r▸g.1
 refine Yk<|Y4 f.kind J (Y8 (f.globals▸(O.keeps R.keep)) Y (f.builtins▸(m.keeps R.keep)) i ?_) g.2;refine qL (bX _ _ _ N) ?_;exact qA (by intro a;cases b<;>nofun) (e8 x e N)<|fW N h
theorem cI (x:aX B h b [a] A):∃v,A=[v]/\VR B h b a v:=du x λv w e y z=>bK v (e.trans<|Wh _ z) y
theorem Es (h:Kw a):-100000<=a/\a<=100000:=by
 induction a with
 |ofNat n=>haveI:=iA h;exact⟨Wy (by decide)<|WH n,Int.ofNat_le.mpr<|WO this⟩
 |negSucc n=>haveI:=iA h;exact⟨Q3 this,Wy (WB<|Xj n)<|by decide⟩
section
theorem Dq (x:aX B h b [.int i] A):∃t,A=[.int i t]:=aI (cI x) λv e x=>x.elim λt q=>⟨t,q▸e⟩
theorem Fh (x:aX B h b [.int i,.int j] A):∃t u,A=[.int i t,.int j u]:=du x λv w e x z=>x.elim λt q=>(Dq z).elim λu z=>⟨t,u,by simp only [e,q,z]⟩
theorem Mq (x:aX B h b [.int i,.int j,.int k] A):∃t u w,A=[.int i t,.int j u,.int k w]:=du x λv s e x z=>x.elim λt q=>(Fh z).elim λu h=>h.elim λw z=>⟨t,u,w,by simp only [e,q,z]⟩
end
theorem tj (R:aG F H d s) (h:(Kw a&&Kw b)) (f:c=1\/c=-1) (k:∀Q E,(∀r e t,(∀b o,s.heap.get? b=some o->e.get? b=some o)->(∃t u v,e.get? r=some ⟨.type "range",none,.fields #[.int a t,.int b u,.int c v],#[]⟩)->Q (.ref r) {s with heap:=e,toks:=t})->T Q E s):
  am F x eR T (.ok (.rng a b c) H) (jt F) s d:=
 am.obj R λQ E q=>k Q E λr e t i g=>M4 g λj u v g=>q _ e t i ⟨r,j,u,v,rfl,g,f,Es (VP h).1,Es (VP h).2⟩
theorem FG:rA F x D .range:=by
 refineλr v H s c A f R Y=>am.ro λp h=>ao h λg e h=>am.cnd λq=>?_
 rw[jP _ _ e] at Y;clear e;cases g with
 |nil=>exact dj rfl h
 |cons i l=>cases l with
  |nil=>rw[<-W2 h] at q⊢;exact(Dq Y).elim λt e=>e▸tj R q (.inl rfl) λQ E d=>call_range_1<|d _ _ _ (λb o z=>Yd _ z) ⟨_,_,_,Ye _ rfl⟩
  |cons j l=>cases l with
   |nil=>rw[<-W2 h] at q⊢;exact(Fh Y).elim λt h=>h.elim λu e=>e▸tj R q (.inl rfl) λQ E d=>call_range_2<|d _ _ _ (λb o z=>Yd _ z) ⟨_,_,_,Ye _ rfl⟩
   |cons k l=>cases l with
    |nil=>refine cg h λz h=>?_;rw[<-W2 h] at q⊢;rw[Xm<|(eI k (-1)).symm.trans z] at Y;exact(Mq Y).elim λt h=>h.elim λu h=>h.elim λw e=>e▸tj R q (.inr rfl) λQ E d=>call_range_3 (by decide) (d _ _ _ (λb o z=>Yd _ z) ⟨_,_,_,Ye _ rfl⟩)<|.inr<|R.pylong f
    |cons=>exact dj rfl h
theorem fh {c:Type}:∀{l:List<|Str×c} {a:Str} {b:c},l.lookup a=some b->(a,b)∈l:=@λz=>by
 induction z with
 |nil=>intro a b h;cases h
 |cons Q l i=>
  obtain⟨k,v⟩:=Q;intro a b h;rw[Y9] at h;by_cases q:a=k;.subst q;simp at h;subst h;exact .head _
  .rw[beq_eq_false_iff_ne.mpr q] at h
   exact .tail _<|i h
theorem vW:∀{l:List<|Str×Addr},(l.Pairwise λx y=>x.2≠y.2)->∀{x y:Str} {c:Addr},(x,c)∈l->(y,c)∈l->x=y:=@λz=>by
 induction z with
 |nil=>intro _ _ _ _ h _;cases h
 |cons p l i=>
  intro h x y c H d;rw[List.pairwise_cons] at h;rcases VO H with e|m<;>rcases VO d with b|M;.exact Wh Prod.fst<|e.trans b.symm
  .subst e;exact(h.1 (y,c) M rfl).elim
  .subst b;exact(h.1 (x,c) m rfl).elim
  .exact i h.2 m M
set_option tactic.hygienic true in
theorem jG:∀(N:aS) (n:Nat) (A:List<|Str×Addr),((x,NameKind.cell)∈N\/(A.lookup x).isSome)->((cellsFrom n N A).lookup x).isSome:=by
 intro z;induction z with
 |nil=>
  intro n A h;rcases h with h|h;.cases h
  .exact h
 |cons q N i=>
  intro n A h;dsimp only [cellsFrom];split
  .rename_i H
   refine i _ _ ?_;rcases h with h|h
   .rcases VO h with e|h
    .cases e;right;simp
    .exact .inl h
   .right
    simp only [Y9];split;.rfl
    .exact h
  .rename_i H
   refine i _ _ ?_;rcases h with h|h
   .rcases VO h with e|h
    .cases e;exact(H rfl).elim
    .exact .inl h
   .exact .inr h
theorem qj {kindOf:Str->Option NameKind}:∀(b:List<|Str×Value) (m:Str->Option Value),(∀p∈b,p.1≠n)->bindL kindOf b m n=m n
 |[],_,_=>rfl
 |(k,v)::r,m,h=>by
  refine .trans (qj r _ λp H=>h p<|.tail _ H) ?_;split
  .show(if n=k then some v else m n)=m n
   exact qL (Xd (h (k,v)<|.head _).symm) rfl
  .rfl
theorem xK {kindOf:Str->Option NameKind}:∀(b:List<|Str×Value) (m:Str->Option Value),(∀p∈b,p.1≠n)->bindC kindOf b m n=m n:=by
 intro z;induction z with
 |nil=>exactλU U=>rfl
 |cons q r i=>
  obtain⟨k,v⟩:=q;intro m h;refine .trans (i _ λp H=>h p<|.tail _ H) ?_;split;.rfl
  .show(if n=k then some v else m n)=m n
   exact qL (Xd (h (k,v)<|.head _).symm) rfl
theorem iL {kindOf:Str->Option NameKind} (H:kindOf n=some .local):∀(b:List<|Str×Value) (m:Str->Option Value),(b.map (·.1)).Nodup->(n,v)∈b->bindL kindOf b m n=some v:=by
 intro z;induction z with
 |nil=>intro _ _ h;cases h
 |cons q r i=>
  intro m N h;rw[Xy,XB] at N;rcases VO h with e|h
  .cases e
   refine qL (qj r _ λp c e=>N.1<|by rw[<-e];exact XC (f:=(·.1)) c)<|qL (Xb H) ?_;simp
  .exact i _ N.2 h
theorem AD {kindOf:Str->Option NameKind} {v:Value} (H:kindOf n=some .cell):∀(b:List<|Str×Value) (m:Str->Option Value),(b.map (·.1)).Nodup->(n,v)∈b->bindC kindOf b m n=some v:=by
 intro z;induction z with
 |nil=>intro _ _ h;cases h
 |cons q r i=>
  intro m N h;rw[Xy,XB] at N;rcases VO h with e|h
  .cases e
   refine qL (xK r _ λp c e=>N.1<|by rw[<-e];exact XC (f:=(·.1)) c) (qL (Xd<|by rw[H];decide) ?_);simp
  .exact i _ N.2 h
section
variable {E:Value->Shared->Prop}
noncomputable def fz (h:Heap) (L:Addr):Prop:=∃o,h.get? L=some o/\n6 o
theorem NY (x:InCallC i env.locals m env.cells w s) (D:fz s.heap env.locals) (Y:env.scope.kind=.function) (hl:env.kindOf n=some .local)
  (h:∀t,InCallC i env.locals (λy=>if y=n then some v else m y) env.cells w t->fz t.heap env.locals->Q () t):wpAny M A (storeName env n v) Q E s:=by
 rw[Yv hl<|by rw[Y];rfl];refine mQ x.toInCall.ns λo es ep g N kk km=>aI D λo2 J z=>?_;obtain rfl:=W2<|g.symm.trans J;refine fC g N kk km λL O d p G j H l q U U f=>h _ ⟨⟨?_,⟨O,d,p,G,H,l,q⟩,λb o e=>?_,x.toInCall.fresh⟩,λk c j=>?_,x.apart,x.above⟩ ⟨O,G,j.trans z.1,d,p,H⟩
 .refine EH x.toInCall.same λu tk r=>?_;subst r
  exact PK L _ rfl
 .exact f.extBut b o (Xe<|WR (XN e) x.toInCall.fresh)<|x.toInCall.keep b o e
 .exact(x.cell k c j).sameBut f<|Za<|x.above k c<|mem_of_lookup j
theorem NJ (x:InCallC i env.locals m env.cells r s) (t:fz s.heap env.locals) (w:env.scope.kind=.function) (z:env.kindOf n=some .cell)
  (g:env.cells.lookup n=some c) (h:∀l,InCallC i env.locals m env.cells (λy=>if y=n then some v else r y) l->fz l.heap env.locals->Q () l):wpAny M A (storeName env n v) Q E s:=by
 have L:=x.above n c<|mem_of_lookup g;refine Yw w z g (x.cell n c g) λu j f=>h _ ⟨⟨?_,x.toInCall.ns.sameBut f<|Xe L,λb o e=>?_,x.toInCall.fresh⟩,λk p H=>?_,x.apart,x.above⟩<|t.imp λo q=>⟨(f.2 _<|Xe L).trans q.1,q.2⟩
 .refine EH x.toInCall.same λd D e=>?_
  rw[e];exact⟨u,_,rfl⟩
 .exact f.extBut b o (Xe<|Xk (WR (XN e) x.toInCall.fresh) L)<|x.toInCall.keep b o e
 .by_cases d:k=n
  .rw[Xb d]
   rw[d] at H;rw[<-W2 (g.symm.trans H)];exact j
  .rw[Xd d]
   exact(x.cell k p H).sameBut f λe=>d<|name_of_addr x.apart (mem_of_lookup H)<|e▸mem_of_lookup g
theorem wc (f:Str×Value->PUnit->Sem (ForInStep PUnit)) (G:∀n v u,f (n,v) u=(do storeName env n v;pure<|.yield ⟨⟩)) (t:env.scope.kind=.function):
  ∀(b:List<|Str×Value) (m k:Str->Option Value) (s:Shared) (Q:PUnit->Shared->Prop),InCallC s₀ env.locals m env.cells k s->fz s.heap env.locals->
   (∀x∈b,env.kindOf x.1=some .local\/(env.kindOf x.1=some .cell/\(env.cells.lookup x.1).isSome))->
   (∀g,InCallC s₀ env.locals (bindL env.kindOf b m) env.cells (bindC env.kindOf b k) g->fz g.heap env.locals->Q ⟨⟩ g)->wpAny M A (forIn b ⟨⟩ f) Q E s:=by
 intro z;induction z with
 |nil=>intro m k s Q x o _ h;rw[Zb];exact Ym<|h s x o
 |cons J r D=>
  obtain⟨n,v⟩:=J;intro m k s Q x o H h;rw[Zc,G];haveI w:∀y∈r,env.kindOf y.1=some .local\/(env.kindOf y.1=some .cell/\(env.cells.lookup y.1).isSome=true):=λy Y=>H y<|Xw _ Y;rcases H (n,v) Xz with l|⟨l,p⟩
  .refine Yk (Yk<|NY x o t l λg q e=>Ym<|D _ _ g Q q e w λi j d=>h i ?_ d)
   unfold bindL bindC;rw[Xb l,Xb l];exact j
  .obtain⟨c,p⟩:=VQ p
   haveI N:¬env.kindOf n=some .local:=by rw[l];decide
   refine Yk<|Yk<|NJ x o t l p λg q e=>Ym<|D _ _ g Q q e w λi j d=>h i ?_ d;unfold bindL bindC;rw[Xd N,Xd N];exact j
end
theorem yF {E:Value->Shared->Prop} {code:Value}
  (k:d.kind=.function)
  (h:∀x∈i,d.names.lookup x.1=some .local\/(d.names.lookup x.1=some .cell/\((cellsFrom (s.heap.objs.size+1) d.names []).lookup x.1).isSome))
  (g:∀N,N=newEnv d s.heap.objs.size globals (cellsFrom (s.heap.objs.size+1) d.names []) q func code none builtins->
   ∀f,InCallC s N.locals (bindL N.kindOf i λU=>none) N.cells (bindC N.kindOf i λU=>none) f->fz f.heap N.locals->Q N f):
  wpAny M A (newFunctionEnv d globals [] i q func code none builtins) Q E s:=by
 refine Yk<|wpAny_alloc ?_;refine Yk (wpAny_layCells _ (λn kind c=>by cases H:kind==NameKind.cell<;>simp[H]) _ _ _ _ ?_);have O:=cellsFrom_ok d.names (s.heap.push {cls:=.type "frame",data:=.dict #[]}) _ [] ⟨λU U m=>(nomatch m),List.Pairwise.nil⟩ (by rw[Zd];exact XA _);rw[Zd] at O;rw[Zd ..];refine Yk (wc (s₀:=s) (env:=newEnv d s.heap.objs.size globals _ q func code none builtins)
  _ (λU U U=>rfl) k i (λU=>none) (λU=>none) _ _
  ⟨⟨⟨_,_,rfl⟩,(Heap.Ns.new s.heap _).keeps<|Ze _ _,λb o e=>Ze _ _ b o<|Yd _ e,XA _⟩,
   λn c H=>(O.empty n c<|mem_of_lookup H).1,O.apart,λn c m=>(O.empty n c m).2⟩
  ⟨_,Ze _ _ _ _<|Ye _ rfl,rfl,_,_,rfl⟩
  h λf x r=>Ym<|g _ rfl f x r)
theorem nF (R:aG F H d s) (k:kC F A d s) (t:fd.scope.kind=.function) (hg:fd.globals=mainGlobals) (J:fd.builtins=builtinsNs) (L:fd.scope.names=F.lamSc->fd.code=.ref F.lamCode/\fd.qualname++".<locals>."++("<lambda>":Str)=F.lamQual)
  (nd:(i.map (·.1)).Nodup) (r:∀x∈i,fd.scope.names.lookup x.1=some .local\/(fd.scope.names.lookup x.1=some .cell/\(x.1==("__classdict__":Str))=false))
  (N:∀x v,look σ x=some v->∃j,(F.nm x,j)∈i/\VR F.B s.heap d v j)
  (x:InCallC s (callEnvC fd s.heap.objs.size a).locals (bindL (callEnvC fd s.heap.objs.size a).kindOf i λU=>none) (callEnvC fd s.heap.objs.size a).cells (bindC (callEnvC fd s.heap.objs.size a).kindOf i λU=>none) u) (fr:fz u.heap (callEnvC fd s.heap.objs.size a).locals):
  aG F H d u/\bc eR s d u d/\cz F (A.deeper<|callEnvC fd s.heap.objs.size a) (callEnvC fd s.heap.objs.size a) σ d u/\(∀b,FA (callEnvC fd s.heap.objs.size a) b->s.heap.get? b=none):=by
 obtain⟨⟨⟨h',tk,rfl⟩,ns,m,fresh⟩,cell,apart,above⟩:=x;have w:bc eR s d {s with heap:=h',toks:=tk} d:=bc.grow _ d m rfl rfl rfl;have p:∀b,FA (callEnvC fd s.heap.objs.size a) b->s.heap.get? b=none:=by
  intro b J;haveI M:s.heap.objs.size<=b:=by
   rcases J with rfl|⟨n,e⟩;.exact XA _
   .exact WO<|VW (XA _)<|above n b<|fh e
  cases q:s.heap.get? b with
  |none=>rfl
  |some o=>exact((Nat.not_lt.mpr M)<|XN q).elim
 haveI O:∀b,s.heap.get? b=none->F.B.get? b=none:=λb h=>R.none_of h;have Y:∀b,s.heap.get? b=none->∀n,d n≠some b:=λb h n e=>by obtain⟨_,o,g,_⟩:=R.owned e;rw[h] at g;cases g
 have f:∀n,(callEnvC fd s.heap.objs.size a).kindOf n=some .cell->∃c,(callEnvC fd s.heap.objs.size a).cells.lookup n=some c:=λn e=>by haveI:=jG fd.scope.names (s.heap.objs.size+1) []<|.inl<|fh ‹_›;exact VQ this
 refine G0 (R.grow m) w ⟨t,hg,J,L,⟨_,ns,λy v e=>?_⟩,λb G=>?_,f,λy c e=>?_,λy z c l D=>vW apart (fh l)<|fh D,?_⟩ p
 .refine aI (N y v e) λj D hv=>bK j (w.mono hv) ?_
  rcases r _ D with l|⟨l,z⟩;.exact .inl ⟨l,iL l i _ nd D⟩
  .obtain⟨c,Q⟩:=f _  l
   refine .inr ⟨.inl l,z,c,Q,?_⟩;haveI:=cell _ c Q;rwa [AD l i _ nd D] at this
 .refine mP (O b<|p b G) (Y b<|p b G) ?_
  rcases G with rfl|⟨n,e⟩;.exact IT ns λo z l g D U=>jy o g (aU D) (λU e=>by rw[D] at e;cases e)
  .refine aI (cell n b e) λo g D=>jy o g ?_ (λU e=>by rw[D] at e;cases e)
   intro st;rcases st with⟨_,vs,k,e⟩|⟨_,vs,e⟩<;>rw[D] at e<;>cases e
 .exact⟨Za<|above _ c<|fh e,_,cell y c e⟩
 .refine aI (k.ext w) λl h1 h2=>bK _ (by show A.frames.map _=_;rw[h1];rfl) (λQ z=>?_)
  rcases VO z with rfl|z;.refine aI fr λo g D=>⟨by rw[show(callEnvC fd s.heap.objs.size a).scope.kind=fd.scope.kind from rfl,t];decide,s.heap.objs.size,o,rfl,O _<|bh _,Y _<|bh _,g,D⟩
  .exact h2 Q z
theorem rJ.deeper (h:rJ A<|D+1) (r:env.scope.isGenerator=false) (u:env.scope.isCoroutine=false) (x:env.builtins=builtinsNs) (y:env.globals=mainGlobals):kJ (A.deeper env) D:=by
 obtain⟨j,p,q,l,G⟩:=h;refine⟨j,?_,?_,env,l,?_,r,u,x,y⟩;.exact Wk (WX<|WY _ _ _) (Jd (a:=4) p<|by decide)
 .exact Wk (WX<|WY _ _ _) (Jd (a:=40) q<|by decide)
 .show A.frames.map _=_;rw[G];rfl
structure E4 (F:Fx) (f:Nat) (fn:Fn) (fd:FuncData) (body:List Stmt):Prop where
 obj:∃o,F.B.get? (F.fn f)=some o/\o.data=.func fd
 body:fd.body=.stmts body
 clo:fd.closure=[]
 kind:fd.scope.kind=.function
 globals:fd.globals=mainGlobals
 builtins:fd.builtins=builtinsNs
 lam:fd.scope.names=F.lamSc->fd.code=.ref F.lamCode/\fd.qualname++".<locals>."++("<lambda>":Str)=F.lamQual
 co:fd.scope.isCoroutine=false
 gen:fd.scope.isGenerator=false
 code:F.B.CodeRec fd.code fd.qualname
 binds:∀{args:List V} {vals:List Value} {σ:Sg} {ρ:cJ} {s:Shared},F.K.In s.heap->Internal.bindArgs fn.dflts fn.params args=some σ->aX F.B s.heap ρ args vals->
  ∃bs:List (Str×Value),(∀A E Q,Q bs s->wpAny (MF F) A (PySem.bindArgs fd ⟨vals,[]⟩) Q E s)/\(bs.map (·.1)).Nodup/\
   (∀x∈bs,fd.scope.names.lookup x.1=some .local\/(fd.scope.names.lookup x.1=some .cell/\(x.1==("__classdict__":Str))=false))/\
   ∀x v,look σ x=some v->∃val,(F.nm x,val)∈bs/\VR F.B s.heap ρ v val
theorem xe (XO:xm F y) (T:E4 F f fn fd O) (hB:nE F y D fd.scope.names O fn.body) (hc:bP F y cl D)
  (G:rJ A<|D+1) (k:kC F A c s) (R:aG F H c s) (Y:aX F.B s.heap c r v):
  am F y eR (λQ E s=>codeAny (MF F) A (.call (.ref<|F.fn f) ⟨v,[]⟩) (rd Q E) s) (je fn cl r H) (jt F) s c:=by
 refine aI T.obj λo ho hd=>?_;haveI KH:F.K.In s.heap:=λb o e=>R.keep b o<|F.KB b o e;refine am.ro λd q Q E P=>uj (T.binds KH q Y) λbs b1 b2 N b4=>?_;have j:=G.deeper (env:=callEnvC fd s.heap.objs.size<|F.fn f) T.gen T.co T.builtins T.globals;obtain⟨l0,J⟩:=G.frames;have m:(A.deeper<|callEnvC fd s.heap.objs.size<|F.fn f).frames=some (callEnvC fd s.heap.objs.size (F.fn f)::l0):=by show A.frames.map _=_;rw[J];rfl
 refine Zf (Fr G.depth) (R.keep _ _ ho) hd T.co T.gen T.body (T.code.keeps R.keep) ?_;refine T.clo▸?_;refine b1 _ _ _<|yF T.kind (λx hx=>(N x hx).imp id λh=>⟨h.1,jG fd.scope.names _ []<|.inl<|fh h.1⟩) λenv he s1 x fr=>?_;subst he;refine Mu (nF R k T.kind T.globals T.builtins T.lam b2 N b4 x fr) λM w f1 l=>⟨M.nolimit,codeAny_func ?_⟩
 refine hB cl hc _ _ d H s1 c j ⟨⟨_,m⟩,rfl⟩ rfl M f1 _ _ (bO.bind P (λx H' P e L g fp n t N2 u=>XO.leave j m (f1.stk.ext t) n (w.transH t λa z=>.inr<|l a z) (λa ha=>w.none_of<|N2 a ha) u λs3 h R3 X3 N3 V3=>P e s3 g h R3 X3 N3 V3) λp H' U P o L g n t u=>?_);have i:=w.transH t λa z=>.inr<|l a z;obtain⟨fl,h⟩:=p;cases u.1 with
 |ret x=>exact P _ L g n i x
 |_=>exact P .none L g n i rfl
theorem Bt (d:xm F x) (p:∀f N,P.get f=some N->∃fd o,E4 F f N fd o/\∀D,m<=D->nE F x D fd.scope.names o N.body)
  (g:∀D f c v H s b A r,m<=D->O f c H=some r->rJ A (D+1)->kC F A b s->aG F H b s->aX F.B s.heap b c v->am F x eR (λQ E s=>codeAny (MF F) A (.call (.ref<|F.fn f) ⟨v,[]⟩) (rd Q E) s) r (jt F) s b):
  ∀n,bP F x (run P O n) (n+m):=by
 intro z;induction z with
 |zero=>exactλU U U U U U U U U U U=>am.no
 |succ n i=>
  intro f c v H s b A h k R Y;simp only [WY] at h;show am F x eR _ ((O f c H).casesOn _ id) _ s b;cases q:O f c H with
  |some r=>exact g (n+m) f c v H s b A r (WL m n) q h k R Y
  |none=>exact am.ro λN r=>oi (p f N r) λfd o T e=>xe d T (e (n+m)<|WL m n)  i  h k R Y
theorem aG.frag (R:aG F H h s):F.K.In s.heap:=λb o e=>R.keep b o<|F.KB b o e
theorem kJ.under_new (h:kJ A D) (r:Args):rJ (A.under<|.builtin "type.__call__" r) D:=by
 obtain⟨u,J,L,env,l,x,N⟩:=h;haveI j:(Code.builtin "type.__call__" r).frames=0:=by rfl
 haveI G:(Code.builtin "type.__call__" r).weight<=2:=by
  delta Code.weight;haveI p:(Code.builtin "type.__call__" r).isGuard=false:=by show guardIds.contains "type.__call__"=false;decide
  haveI q:(Code.builtin "type.__call__" r).isCaller=false:=by rfl
  refine qL j<|qL p<|qL q ?_;split<;>simp
 haveI y:(Code.builtin "type.__call__" r).cUnits<=20:=by show 1+3*(Code.builtin "type.__call__" r).frames<=20;rw[j];decide
 refine⟨u,?_,?_,env::l,?_⟩;.exact Wk (WX<|WY _ _ _) (CH ‹_› G<|by decide)
 .exact Wk (WX<|WY _ _ _) (CH ‹_› y<|by decide)
 .show pushEnvs (Code.builtin "type.__call__" r).envs A.frames=_
  haveI:(Code.builtin "type.__call__" r).envs=[]:=by rfl
  exact this▸x
theorem AP (hc:bP F Xc cl D) (hA:kJ A D) (k:kC F A i s) (R:aG F H i s) (Y:aX F.B s.heap i vs m)
  (u:F.ins c) (hm:makesIn F.K<|F.cls c) (hi:findIn F.K (.ref<|F.cls c) "__init__"=some (some<|.ref<|F.fn f)) (hf:typeIn F.K (.ref<|F.fn f)=some (.type "function")):
  am F Xc eR (λQ E s=>wpAny (MF F) A (call (.ref<|F.cls c) m) Q E s) (wb c f cl vs H) (jt F) s i:=by
 obtain⟨j,g,d,t,os⟩:=s;haveI y:=R.frag;haveI n0:=bh j;have O:∀b o,j.get? b=some o->(j.push emptyDict).get? b=some o:=λb o e=>Yd _ e;have G:aG F ((ak H,.ns [])::H) (i.put _ j.objs.size) ⟨j.push emptyDict,g,d,t,os⟩:=
  R.new (s':=⟨j.push emptyDict,g,d,t,os⟩) n0 O ⟨λU=>none,⟨emptyDict,#[],0,Ye _ rfl,by decide,rfl,λe h=>by simp at h,λn=>by simp[nsFind,findBy],by simp⟩,⟨λf v e=>absurd e<|by simp[look],λU U=>rfl⟩⟩
 haveI X1:bc eR ⟨j,g,d,t,os⟩ i ⟨j.push emptyDict,g,d,t,os⟩ (i.put _ j.objs.size):=bc.new _ R n0 O rfl rfl rfl;have n1:(j.push emptyDict).get? (j.objs.size+1)=none:=by haveI:=bh<|j.push emptyDict;rwa [Zd] at this
 haveI g1:((j.push emptyDict).push<|instObj _ j.objs.size).get? (j.objs.size+1)=some (instObj _ j.objs.size):=by haveI:=Ye (h:=j.push emptyDict) (o:=instObj (F.cls c) j.objs.size) rfl;rwa [Zd] at this
 have k2:∀b o,(j.push emptyDict).get? b=some o->((j.push emptyDict).push<|instObj (F.cls c) j.objs.size).get? b=some o:=λb o e=>Yd _ e;haveI hd:i.put (ak H) j.objs.size _=some j.objs.size:=by unfold cJ.put;rw[Xb rfl]
 haveI R2:aG F ((ak H+1,.ins c _)::(ak H,.ns [])::H) ((i.put _ j.objs.size).put (ak H+1) _) ⟨(j.push emptyDict).push<|instObj _ j.objs.size,g,d,t,os⟩:=
  G.new (s':=⟨(j.push emptyDict).push<|instObj _ j.objs.size,g,d,t,os⟩) n1 k2 ⟨j.objs.size,G.fresh_le _ _ _ hd,g1,u⟩
 haveI X2:bc eR ⟨j.push emptyDict,g,d,t,os⟩ (i.put _ j.objs.size) ⟨(j.push emptyDict).push<|instObj _ j.objs.size,g,d,t,os⟩ ((i.put _ j.objs.size).put (ak H+1) _):=bc.new _ G n1 k2 rfl rfl rfl;have p:=X1.trans X2;have N:((i.put (ak H) j.objs.size).put (ak H+1)<|j.objs.size+1) (ak H+1)=some (j.objs.size+1):=by unfold cJ.put;rw[Xb rfl]
 haveI L:=hc f (.ref _::vs) (.ref _::m) _ _ _ (A.under<|.builtin "type.__call__" ⟨.ref (F.cls c)::m,[]⟩) (hA.under_new _) (by
   refine aI (k.ext p) λl n x=>bK l ?_ x;show pushEnvs (Code.builtin "type.__call__" ⟨.ref (F.cls c)::m,[]⟩).envs A.frames=_;haveI:(Code.builtin "type.__call__" ⟨.ref (F.cls c)::m,[]⟩).envs=[]:=by rfl
   exact this▸n) R2 ⟨_,_,rfl,⟨_,rfl,N⟩,p.monos Y⟩
 have made:∀(Q:Value->Shared->Prop) (E:Value->Shared->Prop),codeAny (MF F) (A.under<|.builtin "type.__call__" ⟨.ref _::m,[]⟩) (.call (.ref _) ⟨.ref _::m,[]⟩)
   (InitBack _<|rd Q E) ⟨(j.push emptyDict).push<|instObj _ j.objs.size,g,d,t,os⟩->wpAny (MF F) A (call (.ref _) m) Q E ⟨j,g,d,t,os⟩:=λQ E h=>
  Y5 (make_core (makes_of y hm) (Zg y hi) (λl=>bind_fn y l hf) (.inl rfl) h)
 refineλQ E P=>made Q E (Zh (L (λv s'=>v=Value.none/\Q (.ref<|j.objs.size+1) s') E (bO.bind P (λx H' P e M l fp J n N3 w=>P e M l fp J (p.trans n) (λa ha=>p.none_of<|N3 a ha) w) λv H' U P v' M l J n w=>bO.cnd P λq P=>⟨?_,P _ M l J (p.trans n) ⟨_,rfl,n.le _ _ N⟩⟩)) λr s' z=>?_)
 .rw[EI q] at w;exact w
 .rcases r with e|(v|_|_|_)<;>first|exact z|exact z.elim
theorem LR {p o} (Y:jD F z D t x l) (N:x.all bd) (J:aZ t n)
  (m:F.B.Ns mainGlobals mg) (hv:mg n=some (.ref<|F.cls c)) (O:keepIn F.K<|.ref<|F.cls c)
  (i:F.ins c) (hm:makesIn F.K<|F.cls c) (M:findIn F.K (.ref<|F.cls c) "__init__"=some (some<|.ref<|F.fn f)) (G:typeIn F.K (.ref<|F.fn f)=some (.type "function")):aC F z D t (.Call (.Name n p) x [] o) (mF c f l):=by
 refineλL k A e d H s b j q R r=>am.imp (am.bind (K:=λu Q E s=>F.K.In s.heap/\wpAny (MF F) A (call (.ref<|F.cls c) u) Q E s) (Y L k A e d H s b j q R r) λu H1 U v s1 ρ1 g y w=>?_) λQ E h=>?_
 .exact am.imp (AP k j (r.extN y).stk g w i hm M G) λQ E h=>⟨g.frag,h⟩
 .simp only [Y6]
  refine Yk<|fx r q J R m hv ?_;refine qL (bX _ _ _ N) ?_;exact Zi (by rw[e8 x e N];rfl) (keeps_K O)<|fW N h
theorem v7 {E:Value->Shared->Prop} (m:qM o) (N:e.all bd) (L:e.length<30) (l:(b.endLine==O.line))
  (h:wpAny (MF F) A (eval o env) (λv c=>∀r,wpAny (MF F) A (getMethod v n r) (λp d=>wpAny (MF F) A (callWith O p.1 p.2 (starEach e env) []) Q E d) E c) E s):
  wpAny (MF F) A (eval (.Call (.Attribute o n b) e [] O) env) Q E s:=by
 rw[arm_eval_Call,zt m];refine Yk<|Y0 h (λv c i=>Yk<|Y1 ?_) λU U z=>z;refine qL (bX _ _ _ N) ?_;haveI H:methodCallForm (e.length+([]:List Keyword).length) _ (backToKw O<|keywordEach [] env)=true:=by
  delta methodCallForm;haveI k:(starEach e env).all (!·.1)=true:=by haveI:=e8 e env N;rw[Xr];rw[Zj] at this;intro x q;haveI:=this x q;simpa using this
  refine qL k ?_;show(true&&([]:List _).all _&&decide (e.length+0+0<30))=true;simp[L]
 haveI g:methodCallPos true o env b O=pure O:=by unfold methodCallPos;simp[l]
 dsimp only [methodCall];refine H▸?_;refine Yk<|YS<|Y0 (i _) (λp d j=>?_) λU U z=>z;haveI f:=p.1;haveI first:=p.2;exact Yk<|Zk g j
noncomputable def sY (K:Frag) (C:Addr) (n:Str) (f:Addr):Bool:=
 findIn K (.ref C) "__getattribute__"==some (some<|.builtin "object.__getattribute__")&&findIn K (.ref C) "__getattr__"==some none&&findIn K (.ref C) n==some (some<|.ref f)&&
  typeIn K (.ref f)==some (.type "function")&&keepIn K (.ref f)
noncomputable def Ll (F:Fx) (mt:MT):Prop:=∀c m f,pQ mt c m=some f->sY F.K (F.cls c) (F.nm m) (F.fn f)=true
theorem we (d:o.data=.dict s p) (k:StrKeys s) (h:nsFind s N=none):lookIn N o=some none:=by
 delta lookIn;refine qL d ?_;dsimp only;haveI H:s.toList.find? (λe=>e.key.isStr N)=none:=by delta nsFind findBy at h;rw[<-YW] at h;exact Option.map_eq_none_iff.mp h
 refine H▸?_;have b:s.toList.any (·.refKey)=false:=by
  rw[Zj]
  refineλe c=>EH (k e<|Array.mem_toList_iff.mp c) λn t h=>?_
  simp[DictEntry.refKey,h]
 refine b▸?_;rfl
theorem tc {mt:MT} (u:Ll F mt) {x:Expr} {a:E} {apos:Pos} (hc:bP F Xc L D) (hA:kJ A D) (hs:env.scope.names=sc) (R:aG F H g s) (fr:cz F A env i g s)
  (hl:jD F Xc D sc G l) (hn:G.all bd) (N:F.nm m=n) (q:VR F.B s.heap g v y) (ht:target mt v m H=some (.fn f)):
  am F Xc eR (λQ E s=>∀pl,wpAny (MF F) A (getMethod y n pl) (λp j=>wpAny (MF F) A (callWith pos p.1 p.2 (starEach G env) []) Q E j) E s)
   ((lQ l L i H).bind λr H=>ug L (.fn f) v r H) (jt F) s g:=by
 subst N;refine qF ht (λk c d fs f' e g1 q2 q3 q4 z=>?_) (λU U U U U U U z=>nomatch z)  λU U U U U U U z=>nomatch z;cases z;replace q:=e▸q;refine e7 (R.at' g1 q) λb eb U h=>e7 h λdx hd ga U=>?_;obtain⟨mm,⟨o,k,d,go,_,ho,hk,hm,hz⟩,hf,t⟩:=R.cellAt q2 hd;haveI M:=u c m f q4;unfold sY at M;simp only [XR,beq_iff_eq] at M;haveI I:InstAt s.heap b (instObj _ dx) _ (some o):=⟨ga,rfl,rfl,go⟩
 haveI w:shadowIn (some o) _=some false:=Wh (Option.map _)<|we ho hk<|(hm _).trans<|t m q3;refine qL e<|qL eb ?_;refine am.imp (am.bind (K:=λr Q E s=>F.K.In s.heap/\wpAny (MF F) A (call (.ref<|F.fn f)<|.ref b::r) Q E s) (hl L hc A env i H s g hA hs R fr) λr H1 U d s1 J O Y V2=>?_) λQ E h pl=>?_;.exact am.imp (hc f _ _ H1 s1 J A hA.cl (fr.extN Y).stk O ⟨_,_,rfl,Y.mono<|eb▸q,V2⟩) λQ E h=>⟨O.frag,Y5 h⟩
 .refine method_fn R.frag I M.1.1.1.1 M.1.1.1.2 M.1.1.2 M.1.2 w ?_
  exact Zi (by rw[e8 G env hn];rfl) (keeps_K M.2)<|fW hn h
def Nn:Me->String|.append=>"list.append"|.extend=>"list.extend"|.pop=>"list.pop"|.get=>"dict.get"
theorem lM (R:aG F H b s) (c:b m=some a) (g:s.heap.get? a=some (bL vs n)) (f:Array Value->Array Value) (e:f vs.toArray=w.toArray)
  (l:w.length<=100000) (Y:aX F.B s.heap b L w) (d:VR F.B s.heap b v A) (h:∀Q E,Q A {s with heap:=s.heap.update a<|Obj.mapSeq f}->T Q E s):
  am F x X T (.ok v<|bj H m<|.lst L) (jt F) s b:=by
 refine am.turn R c λQ E q=>h Q E ?_;obtain⟨N,G⟩:=iX g f e;haveI st:=R.still_turn c (h':=s.heap.update a<|Obj.mapSeq f) dR;exact q A _ s.toks dR ⟨w,N,G,l,aX.mono st (λU U e=>e) _ Y⟩<|VR.mono st (λU U e=>e) _ d
section
variable {A:Around} {n:Nat} {l r:List V} {p:V×List V} {v:Value} {b:List Value} (R:aG F H c s) (g:ac H n=some (.lst l)) (x:VR F.B s.heap c (.ref n) v) (Y:aX F.B s.heap c r b)
include R g x Y
theorem tq (h:((one r).bind λx=>Gm .non<|l++[x])=some p):
  am F u X (λQ E s=>wpAny (MF F) A (call (.builtin "list.append")<|v::b) Q E s) (.ok p.1<|bj H n<|.lst p.2) (jt F) s c:=by
 refine rq (R.lst g x) λa t k j i G o Z=>ao h λd e h=>cg h λO h=>?_;rw[ml e id] at Y;refine qR (W2 h)<|qL j ?_;refine aI (cI Y) λw m f=>?_;haveI L:=dI O;rw[(aX.append _ Z<|aX.one f).length.symm] at L;refine m▸?_;refine lM R i G (·.push w) (List.push_toArray _ _) (WO L) (aX.append _ Z<|aX.one f) rfl λQ E q=>?_;exact Yi Zl ⟨_,G,rfl⟩ Zm (Zn _ _) (AutoListH.list_append_list_val_0 a t.toArray k w<|XS▸(Wk o<|by decide)) ⟨G,q⟩
theorem AZ (h:OF l r=some p):
  am F Xc X (λQ E s=>wpAny (MF F) A (call (.builtin "list.pop")<|v::b) Q E s) (.ok p.1<|bj H n<|.lst p.2) (jt F) s c:=by
 refine rq (R.lst g x) λa f k ev M G L Z=>?_;refine ev▸?_;have O:f.toArray.size<=sizeLine:=by rw[XS];exact Wk L (by decide)
 cases r with
 |nil=>
  subst Y;replace h:Kf l=some p:=h;delta Kf at h;cases N:l.length with
  |zero=>rw[N] at h;exact dj rfl h
  |succ j=>
   replace h:=N▸h;refine bB h λe q z=>aI (Z.idx q) λw y D=>?_;have d:f.toArray.size-1=j:=by rw[XS,Z.length,N];rfl
   refine z▸?_;refine lM R M G (λJ=>J.eraseIdxIfInBounds<|f.toArray.size-1) ?_ (qL Zo<|Wk (Zp _ _) L) (aX.take _ j Z) D λQ E o=>?_;.simp only [d,Zq,List.eraseIdx_eq_take_drop_succ,Zr<|WX<|Z.length.trans N,Ya]
   .exact Yi Zs ⟨_,G,rfl⟩ Zt (PySem.F.args_list_pop_1 _) (MeetsSeq.list_pop_last a f.toArray k w (d.symm▸y) O) ⟨G,o⟩
 |cons i d=>cases d with
  |cons=>exact dj rfl h
  |nil=>
   refine ao h λz ez h=>cg h λu h=>aI (cI Y) λvi j N=>?_;rw[bF ez] at N;refine j▸?_;obtain⟨t,rfl⟩:=N;refine qL (Xm<|(eI z 0).symm.trans u) ?_;cases l with
   |nil=>exact dj rfl h
   |cons e l=>refine qR (W2 h) ?_;refine du Z λw ws m y D=>?_;subst m;refine lM R M G (λJ=>J.eraseIdxIfInBounds 0) (by rw[Zq];rfl) (Nat.le_of_succ_le L) D y λQ E o=>?_;exact Yi Zs ⟨_,G,rfl⟩ Zt (PySem.F.args_list_pop_2 _ _) (MeetsSeq.list_pop_at a (w::ws).toArray k 0 t 0 w rfl (by simp[seqIndex?]) rfl O) ⟨G,o⟩
theorem tF (h:((one r).bind λf=>(eO H f).bind λN=>Gm .non<|l++N)=some p):
  am F O X (λQ E s=>wpAny (MF F) A (call (.builtin "list.extend")<|v::b) Q E s) (.ok p.1<|bj H n<|.lst p.2) (jt F) s c:=by
 refine rq (R.lst g x) λa M k ev ea G hl Z=>ao h λf e h=>ao h λN q2 h=>cg h λho h=>?_;rw[ml e id] at Y;refine qR (W2 h)<|qL ev ?_;refine aI (cI Y) λw u D=>?_;refine u▸?_;haveI L:=dI ho;have fin:∀(o:List Value),aX F.B s.heap c N o->(∀Q E,(M.toArray.size+o.toArray.size<=sizeLine)->Q Value.none {s with heap:=s.heap.update a<|Obj.mapSeq λz=>z++o.toArray}->wpAny (MF F) A (call (.builtin "list.extend") [.ref a,w]) Q E s)->
   am F O X (λQ E s=>wpAny (MF F) A (call _ [.ref a,w]) Q E s) (.ok .non<|bj H n<|.lst _) (jt F) s c:=λo W h=>by
  rw[(aX.append _ Z W).length.symm] at L;refine lM R ea G (λz=>z++o.toArray) (Yc _ _) (WO L) (aX.append _ Z W) rfl λQ E y=>h Q E ?_ y;rw[XS,XS,<-Yb];exact Wk (WO L) (by decide)
 haveI hz:=Wk hl (show 100000<=sizeLine by decide);refine jU q2 (λU U=>dJ) (λU U=>dJ) (λm em q=>?_) λi ei q=>?_
 .rw[em,W2 q] at D
  exact mQ D λd o j u J U W=>fin o W λQ E t y=>u▸Yi Zu ⟨_,G,rfl⟩ Zv (Zw _ _) (AutoSeq1.list_extend_list_tuple_0 a M.toArray k d o.toArray j (extend_door t) ‹_›<|WM ‹_›) ⟨G,J,y⟩
 .rw[ei] at D
  exact rq (R.lst (Ff q) D) λd o j u U J U W=>fin o W λQ E t y=>u▸Yi Zu ⟨_,G,rfl⟩ Zv (Zw _ _) (AutoSeq1.list_extend_list_list_0 a M.toArray k d o.toArray j (extend_door t) ‹_›<|WM ‹_›) ⟨G,J,y⟩
end
theorem qV (R:aG F H f s) (hu:A.units+10<cLine) (g:ac H n=some (.dct l)) (x:VR F.B s.heap f (.ref n) m) (Y:aX F.B s.heap f r u) (h:JI l r=some v):
  am F Xc X (λQ E s=>wpAny (MF F) A (call (.builtin "dict.get")<|m::u) Q E s) (.ok v H) (jt F) s f:=by
 refine e7 (R.at' g x) λa L ea D=>ao h λp e h=>bB h λo q z=>?_;rw[Jo e id] at Y;refine qL L<|qR z ?_;refine du Y λvk ws G hk Y=>aI (cI Y) λvd J hd=>?_;refine qL G<|qL J ?_;haveI j:=(iD q).1;haveI ac:=(iD q).2;refine am.tokv R λQ E hQ=>?_;have fin:∀{c:Type} [DecidableEq c] (e:mV c) (i:List _) (N:c),dY F e.enc s.heap f i l->p.1=e.enc N->∀t,Q ((valueAt i N).getD vd) {s with toks:=t}:=by
  intro c _ e i N y hg t;haveI:=dY.get e i y<|hg▸ac;induction o with
  |none=>exact this▸(hQ _ t hd)
  |some w=>exact aI this λm G J=>by exact G▸(hQ _ t J)
 refine vV D j (jd ac) hk (λc U e O k i M is d y U=>?_) λks b xs M eb hb d y=>?_;.exact call_meetsIn Zx d.mapOf.typeIs Zy (Zz _ _ _) (meets_dict_get_default O a is (R.not_sys ea) vd) ⟨_,d.mapOf,fin e i k y M _⟩
 .refine eb▸?_
  refine call_meetsIn Zx d.typeIs Zy (Zz _ _ _) (meetsH_dict_get_default _ a b (R.not_sys ea) vd) ⟨vO hu,ks,xs,hb,d,?_⟩;rw[<-fq];exact fin mB _ ks y M _
theorem DC (R:aG F H b s) (u:A.units+10<cLine) (x:VR F.B s.heap b v f) (Y:aX F.B s.heap b r d):
  am F g X (λQ E s=>wpAny (MF F) A (call (.builtin<|Nn k)<|f::d) Q E s) (pk k v r H) (jt F) s b:=by
 refine am.ro λn e=>am.ro λc q=>?_;rw[nz e] at x;induction c with
 |lst l=>
  refine am.ro λp h=>?_;induction k with
  |append=>exact tq R q x Y h
  |extend=>exact tF R q x Y h
  |pop=>exact AZ R q x Y h
  |get=>exact dj rfl h
 |dct l=>exact am.cnd λz=>by exact(DF z)▸(am.lift λw h=>qV R u q x Y h)
 |_=>exact am.no
def ye:Me->Str|.append=>Str.ofString "append"|.extend=>Str.ofString "extend"|.pop=>Str.ofString "pop"|.get=>Str.ofString "get"
theorem tT (R:aG F H c s) {mt:MT} {E:Value->Shared->Prop} (h:target mt v m H=some (.me k)) (x:VR F.B s.heap c v d) (q:Q (.builtin<|Nn k,[d]) s):
  wpAny (MF F) A (getMethod d (ye k) L) Q E s:=by
 refine qF h (λU U U U U U U U U U z=>nomatch z) (λn l r e g U i z=>?_) (λn l r e g U U z=>?_)<;>rw[e] at x
 .rw[<-tD z] at i
  refine rq (R.lst g x) λa u j f p G U U=>?_;rw[f] at q⊢;haveI t:s.TypeIs (.ref a) "list":=⟨_,G,rfl⟩
  have D:∀b,Value.ref a=.ref b->∃o,s.heap.get? b=some o/\o.dict=none:=λb e=>by cases e;exact bK _ G rfl
  induction k with
  |append=>exact ZA t ZB Zl PySem.F.type_list_append D q
  |extend=>exact ZA t ZB Zu PySem.F.type_list_extend D q
  |pop=>exact ZA t ZB Zs PySem.F.type_list_pop D q
  |get=>exact NS rfl i
 .rw[tD z] at q⊢
  refine e7 (R.at' g x) λa f p D=>?_;rw[f] at q⊢;exact aI D.exact λo G j=>ZA ⟨o,G,j.1⟩ PySem.F.plainAttrs_dict Zx PySem.F.type_dict_get (λb e=>by cases e;exact bK o G j.2.1) q
theorem Ek {mt:MT} (y:Ll F mt) (hx:aC F Xc D sc x a) (hl:jD F Xc D sc j l) (i:j.all bd) (G:F.nm m=n) (M:∀k,yf m=some k->n=ye k)
  (hb:qM x) (d:j.length<30) (L:(p.endLine==O.line)):aC F Xc D sc (.Call (.Attribute x n p) j [] O) (aj mt a m l):=by
 intro cl w A N c H s b g J R u;refine am.imp (am.bind (hx cl w A N c H s b g J R u) λv H1 U f s1 Y r X1 o=>?_) λQ E h=>v7 hb i d L h;refine am.ro λt q=>?_;induction t with
 |fn f=>exact tc y (apos:=p) (x:=x) (a:=a) w g J r (u.extN X1) hl i G o q
 |me k=>haveI f:=qF q (λU U U U U U U U U U z=>nomatch z) (λn l k' U U e U z=>tD z▸e) (λn l k' U U e f z=>by rw[DF f] at e;exact tD z▸e);refine(M k f)▸?_;refine am.imp (am.bind (hl cl w A N c H1 s1 Y g J r<|u.extN X1) λvs H2 U v s2 ρ2 R2 X2 V2=>DC R2 g.u10 (X2.mono o) V2) λQ E h pl=>?_;exact tT r q o<|Calls.callWith_builtin (e8 j N i)<|fW i h
theorem Eg:rA F t D .len:=by
 refineλf j H s b A J R Y=>am.lift λr h=>ao h λv e h=>?_
 rw[ml e id] at Y;refine aI (cI Y) λw m x=>?_;refine m▸?_;refine am.tokv R λQ E q=>jU h (λU U=>dJ) (λU U=>dJ) (λl e h=>?_) λn e h=>ao h λc g h=>?_<;>rw[e] at x
 .refine mQ x λa p n d g L Z=>?_
  refine d▸?_;exact ZC ⟨_,g,rfl,n,rfl⟩ (by rw[XS];exact Lf L)<|q _ _<|qR (W2 h)<|qR Z.length<|⟨s.toks+1,rfl⟩
 .induction c with
  |lst l=>refine rq (R.lst g x) λa p k d U G L Z=>?_;refine d▸?_;exact Calls.call_len_list ⟨_,G,rfl,k,rfl⟩ (by rw[XS];exact Lf L)<|q _ _<|qR (W2 h)<|qR Z.length<|⟨s.toks+1,rfl⟩
  |set l=>refine e7 (R.at' g x) λa d U z=>mQ z λy u M G i k o=>?_;refine d▸?_;exact call_len_set G ⟨rfl,rfl,rfl⟩ rfl o (Lf<|Wk (WX i) k)<|q _ _<|qR (W2 h)<|qL i<|⟨s.toks+1,rfl⟩
  |_=>exact dj rfl h
theorem xD (g:A.handled=none) (R:aG F H c s) (x:VR F.B s.heap c a v) (y:VR F.B s.heap c b m) (h:wd iH [a,b]=some r):
  am F n X (λQ E s=>wpAny (MF F) A (call (.builtin "max") [v,m]) Q E s) (.ok r H) (jt F) s c:=by
 refine ao h λi e h=>ao h λj J h=>?_;rw[bF e] at x;rw[bF J] at y;obtain⟨t,rfl⟩:=x;obtain⟨u,rfl⟩:=y;refine am.obj R λQ E f=>max_two_ints g λd l k=>f _ d l k ?_;refine qR (W2 h) ?_;rw[il];by_cases q:i<j;.rw[Xh q,Xb  q];exact⟨u,rfl⟩
 .rw[Xa q,Xd  q];exact⟨t,rfl⟩
theorem zV (R:aG F H b s) (h:eO H v=some l) (x:VR F.B s.heap b v d):
  ∃a o c n,d=.ref a/\s.heap.get? a=some o/\o.data=.seq c.toArray n/\c.length<=100000/\aX F.B s.heap b l c/\((o=dH c n/\v=.tup l)\/o=bL c n):=by
 refine jU h (λU U=>dJ) (λU U=>dJ) (λm e h=>?_) λi e h=>?_
 .rw[e,W2 h] at x
  exact mQ x λa c n A g L Y=>Us a _ c n A g rfl L Y<|.inl ⟨rfl,e.trans<|Wh V.tup<|W2 h⟩
 .rw[e] at x
  exact rq (R.lst (Ff h) x) λa c n A U g L Y=>Us a _ c n A g rfl L Y<|.inr rfl
theorem Cz (R:aG F H b s) (h:eO H v=some l) (x:VR F.B s.heap b v d):
  am F j X (λQ E s=>wpAny (MF F) A (call (.type "list") [d]) Q E s) (fU l H) (jt F) s b:=by
 refine Ue (zV R h x) λa o m n q g D L Y O=>?_;subst q;have c:∃T,(T="list"\/T="tuple")/\o.cls=.type T:=by
  rcases O with⟨rfl,_⟩|rfl;.exact bK _ (.inr rfl) rfl
  .exact bK _ (.inl rfl) rfl
 refine aI c λT t c=>am.lst R Y λU Q E i=>?_;exact call_list_seq a t g c D (λf e k G=>i _ f s.toks e k (bh _) G) (qL XS<|Wk ‹_›<|by decide)
theorem Au (R:aG F H c s) (h:eO H v=some l) (x:VR F.B s.heap c v e):
  am F i X (λQ E s=>wpAny (MF F) A (call (.type "tuple") [e]) Q E s) (ow l H) (jt F) s c:=by
 haveI f:=x;refine Ue (zV R h x) λa o j n d g D L Y O=>?_;subst d;rcases O with⟨rfl,rfl⟩|rfl
 .exact am.cnd λU=>am.pure R f λQ E q=>call_tuple_same ⟨_,g,rfl,n,rfl⟩ q
 .refine am.tup R Y λU Q E q=>?_
  refine call_tuple_list ⟨_,g,rfl,n,rfl⟩ (λb k=>?_) (qL XS<|Wk ‹_›<|by decide);exact q _ _ s.toks 0 (λb o z=>Yd _<|k b o z)<|Ye _ rfl
theorem zk (n:Nat) (i:Int):N0 n i=clipAt n i:=by
 haveI h:=clipAt_cast n i;induction i with
 |ofNat k=>
  show cond _ n k=_;rw[vm];by_cases q:n<k;.exact(Xh q)▸(Xg<|h.trans<|HK<|WO q).symm
  .exact(Xa q)▸(Xg<|h.trans<|zK<|Nat.not_lt.mp q).symm
 |negSucc k=>rw[Xb<|Xj k] at h;exact(Xg<|h.trans<|HS n k).symm
theorem It (v:List Value) (lo h:Option Int):slicePick v.toArray lo h none=((v.take<|ip v.length v.length h).drop<|ip v.length 0 lo).toArray:=by
 rw[slicePick_plain];haveI e:lo.elim 0 (clipAt v.toArray.size)=ip v.length 0 lo:=by induction lo with|none=>rfl|some i=>exact(zk _ i).symm
 haveI b:h.elim v.toArray.size (clipAt v.toArray.size)=ip v.length v.length h:=by induction h with|none=>rfl|some i=>exact(zk _ i).symm
 exact qL e<|qL b<|qL List.drop_take rfl
noncomputable def Ui:i9 (Option Int) Value:=λo v U U=>match o with|none=>v=.none|some i=>∃t,v=.int i t
theorem yC (x:Ui o v h b):IsPart v o:=by
 induction o with
 |none=>cases x;exact .none
 |some i=>obtain⟨t,rfl⟩:=x;exact .int i t
inductive Bx (F:Fx) (Xc:V->Value->List Addr->Shared->Prop) (D:Nat) (sc:aS):Option Expr->Option E->Prop where
 |none:Bx F Xc D sc none none
 |some {x:Expr} {e:E} (h:aC F Xc D sc x e):Bx F Xc D sc (some x) (some e)
theorem qe (d:Bx F j D o x e) (m:bP F j l D) (k:kJ A D) (n:env.scope.names=o) (R:aG F H b s) (f:cz F A env c b s):
  am F j eR (λQ E s=>wpAny (MF F) A (evalPart x env) Q E s) (F8 e l c H) Ui s b:=by
 induction d with
 |none=>exact am.pure R rfl λQ E q=>Ym q
 |some d=>refine am.imp (am.bind (d l m A env c H s b k n R f) λv w U p z u r y g=>am.ro λi e=>?_) λQ E h=>h;rw[bF e] at g;obtain⟨t,rfl⟩:=g;exact am.pure r ⟨t,rfl⟩ λU U q=>q
theorem Hw (R:aG F H b s) (h:yD H v=some l) (x:VR F.B s.heap b v A):∃a c n,A=.ref a/\s.heap.get? a=some (bL c n)/\c.length<=100000/\aX F.B s.heap b l c:=by
 cases v with
 |arr m=>replace x:=(W2 h)▸x;exact mQ x λa c n e g L Y=>Do a c n e (R.keep _ _ g) L Y
 |ref i=>exact rq (R.lst (Ff h) x) λa c n e U g L Y=>Do a c n e g L Y
 |_=>exact dj rfl h
theorem z6 (Y:aX B h b l vs) (lo H:Option Int):aX B h b (jY l lo H) ((vs.take<|ip vs.length vs.length H).drop<|ip vs.length 0 lo):=by exact Y.length▸(aX.drop _ _<|aX.take _ _ Y)
theorem Ks {lo:Option Expr} {p O} (hx:aC F m D M x a) (hl:Bx F m D M lo el) (hh:Bx F m D M y eh):aC F m D M (.Subscript x (.Slice lo y none p) O) (rz a el eh):=by
 intro cl w A N e H s d t G R f;refine am.imp
  (am.bind
   (hx cl w A N e H s d t G R f) λv H1 U b s1 J g c V1=>
  am.bind
   (qe hl w t G g<|f.extN c) λvl H2 U L s2 Y n X2 V2=>
  am.bind (K:=λu Q E i=>wpAny (MF F) A (subscriptTail x (.Slice lo y none p) b<|.ref i.heap.objs.size) Q E {i with heap:=i.heap.push {cls:=.type "slice",data:=.fields #[L,u,.none]}})
   (qe hh w t G n<|(f.extN c).extN X2) λvh H3 U k j ρ3 R3 X3 V3=>?_) λQ E h=>?_
 .have v:=X3.mono (X2.mono V1)
  refine am.ro λl q=>mQ (Hw R3 q v) λb vs n J g hlen Y=>?_;subst J;refine am.lst R3 (z6 Y vl vh) λU Q E hQ=>?_;haveI gp:(j.heap.push {cls:=.type "slice",data:=.fields #[L,k,.none]}).get? b=some _:=Yd _ g;haveI hT:Shared.TypeIs {j with heap:=j.heap.push {cls:=.type "slice",data:=.fields #[L,k,.none]}} (.ref b) "list":=⟨_,gp,rfl⟩
  refine Yk ?_;refine Yk<|YU hT slot_list_getitem.lookup ?_;have k1:∀c o,j.heap.get? c=some o->((j.heap.push {cls:=.type "slice",data:=.fields #[L,k,.none]}).push {cls:=.type "list",data:=.seq<|slicePick vs.toArray vl vh none}).get? c=some o:=
   λc o z=>Yd _ (Yd _ z)
  have n1:j.heap.get? (j.heap.objs.size+1)=none:=by
   cases z:j.heap.get? (j.heap.objs.size+1) with
   |none=>rfl
   |some o=>exact((Nat.not_lt.mpr<|XD _)<|XN z).elim
  haveI fin:wpAny (MF F) A (subscripted (.Slice lo y none p) false _ _) (λr i=>wpAny (MF F) A (letTemporaryGo x (.ref b) r>>=λU=>pure r) Q E i) E {j with heap:=j.heap.push {cls:=.type "slice",data:=.fields #[L,k,.none]}}:=by refine YV (wpAny_getItem_list_slice ⟨_,gp,rfl,n,rfl⟩ (Heap.IsSliceOf.new ..) (yC V2) (yC V3) .none (by decide) ?_<|qL XS<|Wk ‹_›<|by decide);refine Yk<|mu<|Ym ?_;haveI:=hQ _ _ j.toks 0 k1 n1 (by haveI z:=Ye (h:=j.heap.push {cls:=.type "slice",data:=.fields #[L,k,.none]}) (o:={cls:=.type "list",data:=.seq<|slicePick vs.toArray vl vh none}) rfl;rw[Zd] at z;rw[z,It]);exact qL (Zd ..) this
  first
   |exact Ym<|Yk fin
   |exact Yk<|Ym _
   |exact Yk fin
 .refine Subscript_ (Y0 h (λo s1 b=>wpAny_Slice<|Y0 b (λl s2 c=>Y0 c (λu j g=>?_) λU U z=>z) λU U z=>z) λU U z=>z)
  exact Ym g
theorem cz.look (f:cz F A env p j s) (h:∀x,Internal.look q x=Internal.look p x):cz F A env q j s:=by exact aI f.vars λm N r=>⟨f.kind,f.globals,f.builtins,f.code,⟨m,N,λx v e=>r x v<|by rw[<-h];exact e⟩,f.own,f.bound,f.cells,f.apart,f.stk⟩
theorem VB {c d:Type} {f:c->Option d} {x y:c} {a b:d} (h:f x=some a) (H:f y=some b):[x,y].filterMap f=[a,b]:=by simp only [ZD,h,H];rfl
theorem uB (m:env.scope.kind=.function) (j:env.kindOf a=some .local) (l:env.kindOf b=some .local) (L:(f.line==A.line)) (n:a≠b) (e:(c==("__debug__":Str))=false):
  swappedStores [.Tuple [.Name a A,.Name b f] k p] (.Tuple [.Name c r,.Name d t] o q) env=pure (some [a,b]):=by
 haveI H:(env.blockKind !=.function)=false:=by unfold Env.blockKind;rw[m];rfl
 haveI g:(env.kindOf a==some .local&&A.line==(Expr.Name a A).pos.line)=true:=by rw[j];exact beq_self_eq_true A.line
 haveI i:(env.kindOf b==some .local&&f.line==(Expr.Name a A).pos.line)=true:=by rw[l];exact L
 haveI D:([a,b]).eraseDups=[a,b]:=by rw[List.eraseDups_cons,ZE,beq_eq_false_iff_ne.mpr n.symm];rfl
 delta swappedStores;dsimp only [ZF];refine qL (Xd<|by rw[H];exact nofun)<|qL (Xd nofun) ?_;generalize N:List.filterMap _ [Expr.Name a A,Expr.Name b f]=s;obtain rfl:=N.symm.trans<|VB (Xb g)<|Xb i;refine qL (Xd<|by rw[D];exact nofun) ?_;exact Xd λh=>sB e (VP h).1
theorem Ij {c d:Str} (hx:aC F Xc D sc (.Tuple [.Name c pc,.Name d pd] k2 p2) e) (hi:F.nm i=a) (hj:F.nm j=b) (w:i≠j) (ha:sc.lookup a=some .local) (hb:sc.lookup b=some .local)
  (hl:(pb.line==pa.line)) (hcd:(c==("__debug__":Str))=false):cC F Xc D sc (.Assign [.Tuple [.Name a pa,.Name b pb] k p] (.Tuple [.Name c pc,.Name d pd] k2 p2) pos) (ai (.tup [i,j]) e):=by
 subst hi hj;intro cl hcl A N r H s m hA _ hs R f;have ka:N.kindOf (F.nm i)=some .local:=by unfold Env.kindOf;exact hs▸ha
 have kb:N.kindOf (F.nm j)=some .local:=by unfold Env.kindOf;exact hs▸hb
 haveI G:F.nm i≠F.nm j:=λh=>w<|F.inj _ _ h;refine am.imp (am.bindN (hx cl hcl A N r H s m hA hs R f) λv H1 U o J u R1 X1 L=>?_) λQ E h=>Assign_Tuple_swapped h rfl (uB f.kind ka kb hl G hcd);refine am.ro λσ' q=>ao q λl el q=>?_;replace L:=(jM el)▸L;refine mQ L λt vs n et g U Y=>?_;refine et▸?_;cases l with
 |nil=>exact dj rfl q
 |cons v1 l=>cases l with
  |nil=>exact dj rfl q
  |cons v2 l=>cases l with
   |cons=>exact dj rfl q
   |nil=>
    refine du Y λw1 ws e1 y1 Y=>aI (cI Y) λw2 e2 y2=>?_;rw[e1,e2] at g;haveI f1:=f.extN X1
    refineλQ E hQ=>unpackItems_tuple (items:=[w1,w2].toArray) hA.handled ⟨_,g,rfl,n,rfl⟩ λM he=>?_
    have hk:∀b o,J.heap.get? b=some o->M.get? b=some o:=λb o z=>he b o (Xe<|XN z) z;have v:bc eR J u {J with heap:=M} u:=bc.grow _ u hk rfl rfl rfl;haveI R2:aG F H1 u {J with heap:=M}:=R1.grow hk;haveI f2:=f1.extN v;refine YQ<|ZG<|gZ R2 f2 (λy U e=>F.inj j y e) (.inl kb) (v.mono y2) λs3 R3 X3 f3=>?_;refine YQ<|ZG<|gZ R3 f3 (λy U e=>F.inj i y e) (.inl ka) (X3.mono<|v.mono y1) λs4 R4 X4 f4=>?_;refine YO<|hQ .next s4 u R4 (((v.weak tN).trans X3).trans X4) ⟨.next,λU e=>(f4.look λx=>?_).heap e⟩;refine qR (W2 q) ?_;rw[dw,dw,dw,dw];by_cases O:j=x;.subst O;rw[Xb rfl,Xd w,Xb rfl]
    .exact qL (Xd O)<|qL (Xd O) rfl
theorem jw (c:Int):∀(n:Nat) (a:Int),(mM a c n).length=n:=by
 intro z;induction z with
 |zero=>exactλU=>rfl
 |succ n i=>exactλa=>Wh Nat.succ<|i<|a+c
theorem mY (c:Int):∀(n:Nat) (a:Int) (s:List Value),s.length=n->(∀(j:Nat) (v:Value),s[j]?=some v->∃t,v=Value.int (a+j*c) t)->aX B h b (mM a c n) s
 |0,a,s,H,_=>ZH H
 |n+1,a,v::s,H,p=>by obtain⟨t,e⟩:=p 0 v rfl;refine vK v s rfl ⟨t,by rw[e,YK,Int.zero_mul,YL]⟩<|mY c n (a+c) s (Nat.succ.inj H) λj w J=>?_;obtain⟨f,d⟩:=p (j+1) w J;exact⟨f,by rw[d,WK,Int.add_mul,Int.natCast_one,WQ,Ws<|j*c,<-YN]⟩
theorem Hg:rA F Xc D .list:=by
 refineλn o H s d A N R Y=>am.ro λv e=>am.ro λl h=>?_
 rw[ml e id] at Y;refine aI (cI Y) λw G x=>?_;refine G▸?_;refine Jg h (λh=>Cz R h x) λa b c y L=>?_;rw[y] at x;refine qL L ?_;refine O2 x λr t u z q g k=>?_;refine q▸?_;refine am.cnd λho=>?_;have m:=dI ho;rw[jw] at m;refine am.cell R λQ E O=>call_list_range N.handled g (m6 k) (my k) (Wk (WO m)<|by decide) λM tk f p hk J i=>O _ M tk hk (bh _) ⟨f.toList,p,J,by rw[ZI,i.1];exact WO m,?_⟩;exact mY c _ a _ (qL ZI<|qL i.1 rfl) λj v hj=>i.2 j v<|qR  ZJ  hj
theorem Gr {p}:aC F x D k (.Dict [] [] p) (iU []):=by intro l i A e d H s c g j R f;refine am.cell R λQ E h=>wpAny_Dict_empty ?_;refine h _ _ s.toks (λb o z=>Yd _ z) (bh _) ⟨by simp,.inl ⟨[],?_,rfl⟩⟩;exact gz (Ye _ rfl) ⟨rfl,rfl,rfl⟩ rfl rfl
theorem Ci:∀(l:List V) (a:Int) (r:V),yQ (λi j=>iH j i) a l=some r->∃(n:List Int) (m:Int),l=n.map V.int/\r=.int m/\m∈a::n/\∀x∈a::n,m<=x:=by
 intro z;induction z with
 |nil=>exactλa r h=>PP [] a rfl (W2 h).symm (.head _) λx c=>ZK (VS c).symm
 |cons x l k=>
  intro a r h;refine ao h λb e h=>Nd (k _ r h) λn m L g d f=>?_;have H:=f _<|.head _;dsimp only at d H;rw[il] at d H;refine qL (bF e)<|qL L ?_;refine PP (b::n) m rfl g ?_ λx c=>?_
  .by_cases q:b<a
   .rw[Xh q] at d;exact .tail _ d
   .rw[Xa q] at d;exact(VO d).elim (λe=>e▸.head _) λh=>.tail _<|.tail _ h
  .have:m<=a/\m<=b:=by
    by_cases q:b<a;.rw[Xh q] at H;exact⟨Wy H<|WB q,H⟩
    .rw[Xa q] at H;exact⟨H,Wy H<|Int.not_lt.mp q⟩
   rcases VO c with rfl|c;.exact this.1
   .rcases VO c with rfl|c
    .exact this.2
    .exact f x<|.tail _ c
theorem uX:∀(N:List Int) {s:List Value},aX B h b (N.map V.int) s->IntsAre s N:=by
 intro c;induction c with
 |nil=>intro _ x;cases x;exact .nil
 |cons n N i=>exactλx=>du x λv w e y z=>y.elim λt q=>by simp only [e,q];exact .cons n t<|i z
theorem C4 (R:aG F H b s) (hh:A.handled=none) (g:ac H n=some (.lst l)) (x:VR F.B s.heap b (.ref n) f) (h:wd (λi j=>iH j i) l=some r):
  am F Xc X (λQ E s=>wpAny (MF F) A (call (.builtin "min") [f]) Q E s) (.ok r H) (jt F) s b:=by
 refine rq (R.lst g x) λa vs k w U M U Z=>?_;refine w▸?_;induction l with
 |nil=>exact dj rfl h
 |cons y l=>
  refine ao h λi e h=>Nd (Ci l i r h) λu m L D p Y=>?_;simp only [bF e,L] at Z;refine D▸?_;have I:=uX (i::u) Z;obtain⟨d,o⟩:=I.allInts.items;have N:i::u=d.toList.map (·.1):=by rw[<-I.numsOf,<-nums_intItems,<-o]
  have c:0<d.size:=by rw[<-ZI,<-XK,<-N];exact Wu _
  refine am.obj R λQ E hQ=>min_intList hh (o▸(⟨_,M,rfl,k,rfl⟩)) c λv O tk hv hk=>?_;obtain⟨t,G⟩:=intItems_at hv;haveI q:=argBest_lt (numAt d)<|d.size-1;refine hQ v O tk hk ⟨t,G.trans<|Wh (Value.int · t)<|ZL ?_<|Y _ ?_⟩
  .rw[N] at p
   refine aI (mem_getD p) λj J z=>?_;rw[XK] at J;rw[<-z,<-numAt_eq];exact q.2 j<|WP J
  .rw[N,numAt_eq];exact getD_mem (by rw[XK];exact VW q.1<|VX c VZ)
theorem kC.fun (k:kC F A h s):∃l,A.frames=some l/\s.heap.FunFrames (Bd s.heap) l/\(∀L∈l.filterMap (·.frame),F.B.get? L=none/\(∀n,h n≠some L)/\∃o,s.heap.get? L=some o/\n6 o):=by
 refine aI k λl x j=>jy l x ?_ ?_
 .clear x
  induction l with
  |nil=>trivial
  |cons N l J=>obtain⟨y,L,o,p,D,G,q,r⟩:=j N<|.head _;exact mP y ⟨L,o,p,vH ..,q,r.noFields⟩<|J λe u=>j e<|.tail _ u
 .refineλL J=>aI (List.mem_filterMap.mp J) λN u e=>?_
  obtain⟨y,O,o,p,D,G,q,r⟩:=j N u;obtain rfl:=W2<|p.symm.trans e;exact⟨D,G,o,q,r⟩
structure vA (fr:List Addr) (ea:Addr) (oe:Obj) (vs:Array Value) (old:List Addr) (h h':Heap):Prop where
 trace:∃oe' vs' T oT ts,h'.get? ea=some oe'/\oe'.cls=oe.cls/\oe'.dict=oe.dict/\oe'.data=.fields vs'/\vs'[0]?=vs[0]?/\vs'[1]?=some (.ref T)/\T≠ea/\(T∈old\/h.get? T=none)/\
  h'.get? T=some oT/\oT.cls=.type "traceback"/\oT.data=.fields ts/\3<ts.size
 other:∀b o,h.get? b=some o->b=ea\/b∈old\/∃o',h'.get? b=some o'/\(o'=o\/b∈fr/\∃sl,o'={o with slots:=sl})
section
variable {E:Value->Shared->Prop}
theorem kK (o:Obj) (f:Array Value->Array Value):(o.mapFields f).cls=o.cls:=Obj.cls_mapFields ..
theorem qf (o:Obj) (f:Array Value->Array Value):(o.mapFields f).dict=o.dict:=by obtain⟨c,d,D,s⟩:=o;cases D<;>rfl
theorem nG
  (J:A.frames=some (env::O)) (hl:s.heap.FunFrames (Bd s.heap)<|env::O) (hf:env.frame=some L)
  (he:s.heap.get? k=some oe) (G:oe.data=.fields vs) (p:1<vs.size) (D:vs[0]?=vs0[0]?)
  (hk:∀b o,h0.get? b=some o->b=k\/b∈u\/s.heap.get? b=some o)
  (h:∀h',vA ((env::O).filterMap (·.frame)) k oe vs0 u h0 h'->Q () {s with heap:=h'}):
  wpAny M A (do let a<-frameOf env;let x<-entryPlaceOf L m;let b<-EntryCells.newEntry head a .none (rawInt L) .none x;setField (.ref k) 1 b) Q E s:=by
 haveI n:k∉(env::O).filterMap _:=λhm=>by obtain⟨_,o,w,N⟩:=hl.mem hm;rw[he] at w;injection w with w;subst w;exact N vs G
 refine Yk<|wpAny_frameOf_fun J hl hf λH c=>?_;refine Yk<|wpAny_entryPlaceOf λx Y=>?_;refine Yk<|ZM ?_<|Y.sizeOk5 _ _ _ _ _;have f:=(c.2.1 k n).trans he;generalize ht:({cls:=.type "traceback",dict:=none,data:=.fields ([head,.ref L,.none,rawInt L,.none]++(if x.isEmpty then List.replicate 6 Value.none else x)).toArray}:Obj)=y;haveI g:=Yd y f;refine ZN g G p<|h _ ?_;haveI l:=Za<|XN f;haveI d:=ZO G (·.setIfInBounds 1 (Value.ref H.objs.size));haveI j:=Yr (Obj.mapFields _) g<|ZP d;haveI t:(H.push y).get? H.objs.size=some y:=Ye H (by subst ht;rfl);haveI i:=(ZQ _ (Obj.mapFields (·.setIfInBounds 1 (Value.ref H.objs.size)))<|Xf l).trans t;refine⟨⟨_,_,H.objs.size,y,_,j,kK ..,qf ..,d,?_,by simp[p],l,?_,i,by subst ht;rfl,by subst ht;rfl,?_⟩,λb o hb=>?_⟩;.rw[Array.getElem?_setIfInBounds_ne<|by decide];exact D
 .by_cases q:H.objs.size∈u
  .exact .inl q
  .right
   cases z:h0.get? H.objs.size with
   |none=>rfl
   |some o=>
    rcases hk _ _ z with e|e|e;.contradiction
    .contradiction
    .obtain⟨sl,v⟩:=c.2.2 _ _ e
     exact((XM _)<|XN v).elim
 .simp
 .rcases hk b o hb with e|e|e
  .exact .inl e
  .exact .inr<|.inl e
  .by_cases q:b=k
   .exact .inl q
   .refine .inr (.inr ?_)
    obtain⟨sl,v⟩:=c.2.2 _ _ e;refine bK ({o with slots:=sl}) ?_ ?_;.rw[ZQ _ _<|Xf q];exact Yd _ v
    .by_cases r:b∈(env::O).filterMap (·.frame)
     .exact .inr ⟨r,sl,rfl⟩
     .left
      haveI:=c.2.1 b r;simp only [v,e] at this;exact W2 this
theorem pM
  (j:A.frames=some (env::u)) (hl:s.heap.FunFrames (Bd s.heap)<|env::u) (w:env.frame=some L)
  (i:s.heap.get? k=some Y) (D:Y.data=.fields v)
  (G:v[1]?=some .none\/∃T oT t,v[1]?=some (.ref T)/\T∈old/\T≠k/\s.heap.get? T=some oT/\oT.cls=.type "traceback"/\oT.data=.fields t/\3<t.size)
  (h:∀h',vA ((env::u).filterMap (·.frame)) k Y v old s.heap h'->Q () {s with heap:=h'}):wpAny M A (noteFrame (.ref k) env) Q E s:=by
 dsimp only [noteFrame];refine qL w ?_;rcases G with c|⟨T,oT,t,c,g,f,m,r,d,J⟩
 .refine Yk (ZR i D c ?_)
  exact nG j hl w i D (Array.getElem?_eq_some_iff.mp c).1 rfl (λb o z=>.inr<|.inr z) h
 .refine Yk (ZR i D c ?_)
  obtain⟨x,hx⟩:∃x,t[3]?=some x:=⟨_,Array.getElem?_eq_some_iff.mpr ⟨J,rfl⟩⟩
  refine Yk<|ZR m d hx ?_;cases H:x==rawInt L with
  |true=>refine Ym ?_;haveI:=h s.heap ⟨⟨Y,v,T,oT,t,i,rfl,rfl,D,rfl,c,f,.inl g,m,r,d,J⟩,λb o z=>.inr<|.inr ⟨o,z,.inl rfl⟩⟩;exact this
  |false=>
   refine Yk<|ZN m d J ?_;have O:∀b,b≠T->(s.heap.update T<|Obj.mapFields (·.setIfInBounds 3 Value.none)).get? b=s.heap.get? b:=λb H=>ZQ _ _<|Xf H;have noRecord:∀b o,s.heap.get? b=some o->(∀v,o.data≠.fields v)->b≠T:=λb o H n q=>by rw[q,m] at H;injection H with H;subst H;exact n t d
   have y:(s.heap.update T<|Obj.mapFields (·.setIfInBounds 3 Value.none)).FunFrames (Bd<|s.heap.update T<|Obj.mapFields (·.setIfInBounds 3 Value.none)) (env::u):=by
    haveI N:∀(b1 p h:Heap) (l:List Env),(∀a,p.get? a=none)->h.FunFrames b1 l->h.FunFrames p l:=λb1 p h l H=>by
     induction l with
     |nil=>exactλx=>x
     |cons e l ih=>exactλ⟨x1,⟨L,o,y1,y2,y3⟩,x3⟩=>⟨x1,⟨L,o,y1,H L,y3⟩,ih x3⟩
    exact N _ _ _ _ (λa=>vH _ a)<|hl.of_keeps λb o H n=>⟨o,(O b<|noRecord b o H n).trans H,rfl⟩
   refine nG j y w ((O k<|Xf f).trans i) D (Array.getElem?_eq_some_iff.mp c).1 rfl (λb o z=>?_) h;by_cases q:b=T;.subst q;exact .inr<|.inl g
   .exact .inr<|.inr<|(O b q).trans z
theorem tx (l:s.heap.get? e=some O) (D:O.data=.fields vs) (i:vs[1]?=some (.ref T)) (j:T≠e) (g:s.heap.get? T=some oT)
  (d:oT.cls=.type "traceback") (H:oT.data=.fields m) (z:3<m.size)
  (h:∀c o t,(∀b,b≠T->c.get? b=s.heap.get? b)->c.get? T=some o->o.cls=.type "traceback"->o.data=.fields t->3<t.size->Q () {s with heap:=c}):wpAny M A (setFlight (.ref e) f) Q E s:=by
 refine Yk<|ZR l D i ?_;refine ZN g H z (h _ _ _ (λb k=>ZQ _ _<|Xf k) (Yr _ g<|ZP<|ZO H _) (by rw[kK];exact d) (ZO H _)<|by simp[z])
end
structure U3 (F:Fx) (x:V) (e:Value) (fp:List Addr) (h:Heap) where
 c:Nat
 k:List Nat
 d:List Nat
 at_:Int
 ea:Addr
 dx:Addr
 oe:Obj
 od:Obj
 vs:Array Value
 es:Array DictEntry
 ep:Nat
 tk:Tok
 td:Tok
 hx:x=.tup [.int<|.ofNat c,.str k,.int at_,.str d]
 he:e=.ref ea
 ge:h.get? ea=some oe
 hcls:oe.cls=.ref (F.cls c)
 hdict:oe.dict=some dx
 hd:oe.data=.fields vs
 m1:ea∈fp
 m2:dx∈fp
 htr:vs[1]?=some .none\/∃T oT ts,vs[1]?=some (.ref T)/\T∈fp/\T≠ea/\h.get? T=some oT/\oT.cls=.type "traceback"/\oT.data=.fields ts/\3<ts.size
 gd:h.get? dx=some od
 hcd:od.cls=.type "dict"
 hdd:od.data=.dict es ep
 hsk:StrKeys es
 hkind:nsFind es (Str.ofString "kind")=some (.str (cv k) tk)
 hdet:nsFind es (Str.ofString "detail")=some (.str (cv d) td)
structure eT (F:Fx) (x:V) (e:Value) (fp:List Addr) (s:Shared):Prop where
 ex:Nonempty (U3 F x e fp s.heap)
 own:∀a∈fp,F.B.get? a=none
theorem bc.but2 {fp:List Addr} (x:bc X u y s h) (Q:∀a∈fp,u.heap.get? a=none) (r:∀b o,s.heap.get? b=some o->b∈fp\/∃j,p.heap.get? b=some j/\jQ o j)
  (A:p.gens=s.gens) (D:p.drawn=s.drawn) (G:p.os=s.os):bc X u y p h:=by
 have N:∀a o,u.heap.get? a=some o->a∉fp:=λa o e q=>by exact nomatch ((Q a q).symm.trans e)
 refine⟨x.le,x.fresh,λa o e Y=>?_,λa o e st=>?_,λa o e=>?_,A.trans x.gens,D.trans x.drawn,G.trans x.os⟩
 .rcases x.keep a o e Y with q|⟨j,q,l⟩
  .exact .inl q
  .rcases r a j q with z|⟨O,z,L⟩
   .exact((N a o e) z).elim
   .exact .inr ⟨O,z,l.trans L⟩
 .rcases r a o (x.still a o e st) with z|⟨O,z,L⟩
  .exact((N a o e) z).elim
  .rcases L with rfl|⟨⟨_,es,ep,J⟩,_⟩
   .exact z
   .exact((aU J) st).elim
 .refine e7 (x.there a o e) λj q J j2=>?_
  rcases r a j q with z|⟨O,z,L⟩;.exact((N a o e) z).elim
  .exact jy O z (λw=>nU L<|J w)  λw=>L.fra<|j2 w
theorem aG.but2 {fp:List Addr} (R:aG F H j s) (r:∀a∈fp,F.B.get? a=none/\(∀n,j n≠some a)/\∀o,s.heap.get? a=some o->¬bv o) {fr:List Addr} (p:∀L∈fr,F.B.get? L=none/\(∀n,j n≠some L)/\∀o,s.heap.get? L=some o->¬bv o)
  (u:∀b o,s.heap.get? b=some o->b∈fp\/b∈fr\/x.heap.get? b=some o):aG F H j x:=by
 refine R.other (λb=>b∈fp\/b∈fr) (λa o e N=>?_) (λa h=>?_) λa o e st=>?_
 .rcases u a o e with q|q|q
  .exact(N<|.inl q).elim
  .exact(N<|.inr q).elim
  .exact q
 .rcases h with h|h
  .exact⟨(r a h).1,(r a h).2.1⟩
  .exact⟨(p a h).1,(p a h).2.1⟩
 .rcases u a o e with q|q|q
  .exact(((r a q).2.2 o e) st).elim
  .exact(((p a q).2.2 o e) st).elim
  .exact q
theorem oH (R:aG F H b s) (g:s.heap.get? a=some o) (d:o.data=.fields vs) (h:o.cls≠.none):∀n,b n≠some a:=λn e=>by obtain⟨c,i⟩:=R.dom n a e;refine e7 (R.cell n c i) λA f j x=>?_;obtain rfl:=W2<|e.symm.trans f;refine uj x.obj2 λO G U N U=>?_;obtain rfl:=W2<|g.symm.trans G;exact h<|N vs d
theorem kU (h:n6 o):¬bv o:=by obtain⟨_,s,e,H⟩:=h;exact aU H
theorem vA.k {R:Prop} (N:vA u A q vs L h p)
  (k:∀O j T oT r,p.get? A=some O->O.cls=q.cls->O.dict=q.dict->O.data=.fields j->j[1]?=some (.ref T)->T≠A->(T∈L\/h.get? T=none)->p.get? T=some oT->oT.cls=.type "traceback"->oT.data=.fields r->3<r.size->R):R:=
 N.trace.elim λU x=>x.elim λU x=>x.elim λU x=>x.elim λU x=>x.elim λU x=>k _ _ _ _ _ x.1 x.2.1 x.2.2.1 x.2.2.2.1 x.2.2.2.2.2.1 x.2.2.2.2.2.2.1 x.2.2.2.2.2.2.2.1 x.2.2.2.2.2.2.2.2.1 x.2.2.2.2.2.2.2.2.2.1 x.2.2.2.2.2.2.2.2.2.2.1 x.2.2.2.2.2.2.2.2.2.2.2
theorem wD (R:aG F H b s) (g:s.heap.get? a=some o) (d:o.data=.fields vs) (i:F.B.get? a=none) (j:o.cls=.type "traceback"\/∃c,o.cls=.ref c):F.B.get? a=none/\(∀n,b n≠some a)/\∀o,s.heap.get? a=some o->¬bv o:=by have n:∀{c:Value},c≠.type "traceback"->(∀a,c≠.ref a)->o.cls≠c:=λh f e=>j.elim (λq=>h<|e.symm.trans q) λq=>q.elim λa q=>f a<|e.symm.trans q;exact⟨i,oH R g d<|n nofun nofun,λO G=>W2 (g.symm.trans G)▸bZ (n (by decide) nofun) (n (by decide) nofun) (n (by decide) nofun)⟩
theorem eT.noted {ρ0:cJ} {Q:Unit->Shared->Prop} {E:Value->Shared->Prop} (hf:A.frames=some (env::l)) (k:kC F A j s) (R:aG F H j s) (x0:bc X s0 ρ0 s j)
  (hfp:∀a∈fp,s0.heap.get? a=none) (xc:eT F x e fp s)
  (h:∀s' fp' (D:Addr) (oe oT:Obj) (vs ts:Array Value) (T:Addr),e=.ref D->s'.heap.get? D=some oe->oe.data=.fields vs->vs[1]?=some (.ref T)->T≠D->s'.heap.get? T=some oT->oT.cls=.type "traceback"->oT.data=.fields ts->3<ts.size->T∈fp'->(∀a∈fp',a=T\/a∈fp)->
   aG F H j s'->bc X s0 ρ0 s' j->(∀a∈fp',s0.heap.get? a=none)->eT F x e fp' s'->kC F A j s'->Q () s'):wpAny (MF F) A (noteFrame e env) Q E s:=by
 refine e7 k.fun λl' hl hff hfr=>?_;obtain rfl:=W2<|hf.symm.trans hl;obtain⟨⟨⟨c,kk,dd,at_,D,dx,oe,od,vs,es,ep,tk,td,hx,rfl,ge,hcls,hdict,hd,m1,m2,htr,gd,hcd,hdd,hsk,hkind,hdet⟩⟩,y⟩:=xc;haveI hff0:=hff;obtain⟨_,⟨L,_,hL,_⟩,_⟩:=hff0;have key:∀r:List Addr,(∀T∈r,T∈fp/\∃oT ts,s.heap.get? T=some oT/\oT.cls=.type "traceback"/\oT.data=.fields ts)->
   (∀h',vA ((env::l).filterMap (·.frame)) D oe vs r s.heap h'->Q () {s with heap:=h'}):=by
  refineλr O h' N=>N.k λoe' vs' T oT ts g' hc' hdi' hd' h1' hTe hTo gT G J hz=>?_
  haveI u:=N.other;haveI hT0:s0.heap.get? T=none/\F.B.get? T=none:=hTo.elim (λq=>⟨hfp T (O T q).1,y T (O T q).1⟩) λq=>⟨x0.none_of q,R.none_of q⟩
  have hdx:dx≠D:=λq=>by subst q;cases ge.symm.trans gd;cases hd.symm.trans hdd
  haveI hdxo:dx∉r:=λq=>by refine du ((O dx q).2) λoT' ts' g2 U d2=>?_;obtain rfl:=W2<|gd.symm.trans g2;exact nomatch (hdd.symm.trans d2)
  have hst:∀a∈D::r,F.B.get? a=none/\(∀n,j n≠some a)/\∀o,s.heap.get? a=some o->¬bv o:=by
   intro a p;rcases VO p with rfl|p;.exact wD R ge hd (y _ m1)<|.inr ⟨_,hcls⟩
   .exact du (O a p).2 λoT' ts' g2 c2 d2=>wD R g2 d2 (y _ (O a p).1)<|.inl c2
  haveI hfr':∀L∈(env::l).filterMap _,F.B.get? L=none/\(∀n,j n≠some L)/\∀o,s.heap.get? L=some o->¬bv o:=λL hL=>by obtain⟨a1,a2,o,g,fo⟩:=hfr L hL;exact mP a1 a2 (λY g'=>by obtain rfl:=W2<|g.symm.trans g';exact kU fo)
  haveI R':aG F H j {s with heap:=h'}:=R.but2 hst hfr' λb o g=>by
   rcases u b o g with q|q|⟨Y,q,w|⟨w,_⟩⟩;.exact .inl<|q▸.head _
   .exact .inl<|.tail _ q
   .subst w;exact .inr<|.inr q
   .exact .inr<|.inl w
  have like:∀b o,s.heap.get? b=some o->b∈D::r\/∃Y,h'.get? b=some Y/\jQ o Y:=λb o g=>by
   rcases u b o g with q|q|⟨Y,q,w|⟨w,sl,w2⟩⟩;.exact .inl<|q▸.head _
   .exact .inl<|.tail _ q
   .exact .inr ⟨Y,q,.inl w⟩
   .refine .inr ⟨Y,q,.inr ⟨?_,sl,w2⟩⟩
    obtain⟨_,_,oL,gL,fL⟩:=hfr b w;obtain rfl:=W2<|g.symm.trans gL;exact fL
  haveI hfp2:∀a∈D::r,s0.heap.get? a=none:=λa p=>by
   rcases VO p with rfl|p;.exact hfp _ m1
   .exact hfp a (O a p).1
  haveI X':bc X s0 ρ0 {s with heap:=h'} j:=x0.but2 hfp2 like rfl rfl rfl;have hdx':h'.get? dx=some od:=by
   rcases u dx od gd with q|q|⟨Y,q,w|⟨w,_⟩⟩;.contradiction
   .contradiction
   .exact qL q<|qL w rfl
   .obtain⟨_,_,o,g,fo⟩:=hfr dx w
    obtain rfl:=W2<|gd.symm.trans g;have:=hcd.symm.trans fo.1;contradiction
  refine h _ _ D oe' oT vs' ts T rfl g' hd' h1' hTe gT G J hz (.head _) (λa p=>(VO p).imp id id) R' X' (λa p=>?_) ⟨⟨⟨c,kk,dd,at_,D,dx,oe',od,vs',es,ep,tk,td,hx,rfl,g',hc'.trans hcls,hdi'.trans hdict,hd',.tail _ m1,.tail _ m2,?_,hdx',hcd,hdd,hsk,hkind,hdet⟩⟩,λa p=>?_⟩ ?_
  .rcases VO p with rfl|p
   .exact hT0.1
   .exact hfp a p
  .exact .inr ⟨T,oT,ts,h1',.head _,hTe,gT,G,J,hz⟩
  .rcases VO p with rfl|p
   .exact hT0.2
   .exact y a p
  .refine aI k λl2 e2 z2=>bK l2 e2 (λev hev=>?_)
   obtain⟨w1,L2,o2,w2,w3,w4,w5,w6⟩:=z2 ev hev;rcases like L2 o2 w5 with q|⟨Y,q,li⟩
   .rcases VO q with q|q
    .rw[q,ge] at w5;cases w5;exact((w6.noFields _) hd).elim
    .refine du ((O L2 q).2) λoT' ts' g2 U d2=>?_
     obtain rfl:=W2<|w5.symm.trans g2;exact((w6.noFields _) d2).elim
   .exact⟨w1,L2,Y,w2,w3,w4,q,li.fra w6⟩
 rcases htr with h1|⟨T,oT,ts,h1,hTo,hTe,hT,G,J,hz⟩;.exact pM hf hff hL ge hd (.inl h1) (key [] λT hT=>by cases hT)
 .refine pM hf hff hL ge hd (.inr ⟨T,oT,ts,h1,.head _,hTe,hT,G,J,hz⟩) (key [T] λT' hT'=>?_)
  rcases VO hT' with rfl|hT';.exact⟨hTo,oT,ts,hT,G,J⟩
  .cases hT'
theorem eT.flight {ρ0:cJ} {Q:Unit->Shared->Prop} {E:Value->Shared->Prop} (R:aG F H j s) (x0:bc X s0 ρ0 s j)
  (hfp:∀a∈fp,s0.heap.get? a=none) (xc:eT F x e fp s) {T:Addr} {oe oT:Obj} {ts:Array Value} (he:e=.ref ea) (g1:s.heap.get? ea=some oe) (d1:oe.data=.fields vs) (v1:vs[1]?=some (.ref T)) (p:T≠ea) (gT:s.heap.get? T=some oT) (G:oT.cls=.type "traceback") (dT:oT.data=.fields ts) (hz:3<ts.size) (r:T∈fp)
  (h:∀s',aG F H j s'->bc X s0 ρ0 s' j->eT F x e fp s'->(∀b,b≠T->s'.heap.get? b=s.heap.get? b)->Q () s'):wpAny (MF F) A (setFlight e f) Q E s:=by
 subst he;refine tx g1 d1 v1 p gT G dT hz λh' oT' ts' hk gT' J dT' hz'=>?_;obtain⟨⟨⟨c,kk,dd,at_,L,dx,oe',od,vs',es,ep,tk,td,hx,he,ge,N,D,hd,m1,m2,htr,gd,hcd,Y,hsk,y,hdet⟩⟩,O⟩:=xc;cases he;obtain rfl:=W2<|g1.symm.trans ge;cases d1.symm.trans hd;have hdx:dx≠T:=λq=>by subst q;cases gT.symm.trans gd;cases dT.symm.trans Y
 refine h _ (R.but2 (fp:=[T]) (λa u=>?_) (fr:=[]) (λL hL=>by cases hL) λb o g=>?_) (x0.but2 (fp:=[T]) (λa u=>?_) (λb o g=>?_) rfl rfl rfl) ⟨⟨⟨c,kk,dd,at_,ea,dx,oe,od,vs,es,ep,tk,td,hx,rfl,(hk ea<|Xf p).trans g1,N,D,d1,m1,m2,.inr ⟨T,oT',ts',v1,r,p,gT',J,dT',hz'⟩,(hk dx hdx).trans gd,hcd,Y,hsk,y,hdet⟩⟩,O⟩ hk
 .rcases VO u with rfl|u
  .exact wD R gT dT (O _ r)<|.inl G
  .cases u
 .by_cases q:b=T
  .exact .inl<|q▸.head _
  .exact .inr<|.inr<|(hk b q).trans g
 .rcases VO u with rfl|u
  .exact hfp _ r
  .cases u
 .by_cases q:b=T
  .exact .inl<|q▸.head _
  .exact .inr ⟨o,(hk b q).trans g,.refl o⟩
theorem Kb:xm F (eT F) where
 loop:=by
  intro A D N l x e fp H b Q s s0 X E hA J k R M j O h;refine eT.noted J k R M j O λs' p Y oe oT vs ts T z G o v t y i w L g U q u f n k'=>?_;subst z;refine Yk<|ZR G o v ?_
  first
   |exact(eT.flight q u f n rfl G o v t y i w L g λm r d c U=>h m p r d f c)
   |exact Yk _
 leave:=by intro A D N l x e fp H b Q s s0 X E hA J k R M j O h;refine Yk<|eT.noted J k R M j O λs' p Y oe oT vs ts T z G o v t y i w L g U q u f n k'=>?_;exact eT.flight q u f n z G o v t y i w L g λm r d c U=>h m p r d f c
section
open Builtin Builtin.ObjectAttr
noncomputable def jK (h:Heap) (C:Addr):Prop:=∃(c:ClassData) (d:Option Addr) (k e f g i:Option Value) (b:List Value),h.get? C=some (excClassObj c.name c.qualname C c.ns c.bases b true c.slotNames c.subclasses false c.collection d k e f g i "Exception.__new__")/\
  b.contains (.type "Exception")=true/\b.contains (.type "BaseException")=true/\(Value.ref C::b).contains (.type "AttributeError")=false/\(Value.ref C::b).contains (.type "NameError")=false
theorem O4 {d:ClassData} (e:d.mro=m) (f:d.hasDict=a) (g:d.abstract=b) (h:d.hasDel=c):
  d={name:=d.name,bases:=d.bases,mro:=m,ns:=d.ns,qualname:=d.qualname,hasDict:=a,slotNames:=d.slotNames,subclasses:=d.subclasses,abstract:=b,collection:=d.collection,hasDel:=c}:=by
 subst e f g h;rfl
noncomputable def Ri {P:Array (Option Value)->Type} (s:Array<|Option Value) (k:∀a b c d e f,Option<|P #[a,b,c,d,e,f]):Option (P s):=s.casesOn λl=>l.casesOn none λa l=>l.casesOn none λb l=>l.casesOn none λc l=>l.casesOn none λd l=>l.casesOn none λe l=>l.casesOn none λf l=>l.casesOn (k a b c d e f) λU U=>none
def Ta (K:Frag) (C:Addr):Pf (∀(h:Heap),K.In h->jK h C):=op _ λo H=>Obj.casesOn (motive:=λo=>K.lookup C=some o->Pf _) o (λb O d s=>Data.casesOn (motive:=λd=>K.lookup C=some ⟨b,O,d,s⟩->Pf _) d (λU=>none) (λU U=>none) (λU U U=>none) (λU U U=>none) (λU U U U=>none) (λU U U=>none) (λU U=>none) (λU U=>none)
 (λD H=>gd (b==.type "type") λq=>gd _ λr=>gd D.hasDict λt=>gd _ λu=>gd _ λv=>gd (D.mro.tail.contains _) λj=>gd (D.mro.tail.contains _) λl=>gd (!(Value.ref C::D.mro.tail).contains _) λm=>gd (!(Value.ref C::D.mro.tail).contains _) λn=>(Ri (P:=λs=>PLift (K.lookup C=some ⟨b,O,.cls D,s⟩->∀(h:Heap),K.In h->jK h C)) s λk e f g x i=>gd (x==some _) λw=>some ⟨λH U X=>⟨D,O,k,e,f,g,i,D.mro.tail,X _ _<|H.trans<|by rw[eq_of_beq q,eq_of_beq w];exact Wh (λc=>some (⟨.type "type",O,.cls c,#[k,e,f,g,some _,i]⟩:Obj))<|O4 (eq_of_beq r) t (aA u)<|aA v,j,l,aA m,aA n⟩⟩).map λp=>⟨p.down H⟩) (λU U=>none) λU=>none) H
def EK (K:Frag) (C:Addr):Bool:=(Ta K C).isSome
theorem ou {K:Frag} (X:K.In h) {C:Addr} (e:EK K C):jK h C:=zG _ e h X
section
variable {A:Around} {C:Addr} {h:Heap} {g:Array GenState} {d:Drawn} {t:Nat} {os:OsState} {E:Value->Shared->Prop} {r:List Value}
section
variable {c:ClassData} (H:h.get? C=some (excClassObj c.name c.qualname C c.ns c.bases b true c.slotNames c.subclasses false c.collection D k e f i j "Exception.__new__"))
include H
theorem Eo {R:Result->Shared->Prop} (n:(Value.ref C::b).contains<|.type "Exception") (m:(Value.ref C::b).contains (.type "AttributeError")=false) (q:(Value.ref C::b).contains (.type "NameError")=false) (u:r.length<=sizeLine)
  (Q:∀s l,Heap.MadeExcOf h s l (.ref C) r->R (.ok<|.ret<|.ref l) ⟨s,g,d,t,os⟩):codeAny (model prog w) A (.builtin "Exception.__new__" ⟨.ref C::r,[]⟩) R ⟨h,g,d,t,os⟩:=by
 haveI Fn:=ZS;haveI e:=Fn.ends;refine codeAny_builtinAt Fn.entry ?_;refine ZT ?_;refine ZT<|PySem.wpAt_stack λp below=>ZU ?_;wp_walk;refine ZU ?_;refine Fn.owner▸?_;repeat (first|with_reducible refine wpAny_madeHere_exc Fn.canon H ?_|with_reducible refine ZV H ?_|(with_reducible refine ZW H ?_;first|rw[n]|rw[m]|rw[q])|wp_step)
 show R _ _;rw[Zd];haveI G:((h.push {cls:=.type "tuple",data:=.seq r.toArray}).push {cls:=.ref C,data:=.fields #[.ref h.objs.size,.none,.none,.none,.bool false,.none]}).get? (h.objs.size+1)=some {cls:=.ref C,data:=.fields #[.ref h.objs.size,.none,.none,.none,.bool false,.none]}:=by heap_get
 exact Q _ _ ⟨λc o l=>Yd _<|Yd _ l,ZX<|XD _,h.objs.size,G,ZX<|XA _,Yd _<|ZY rfl rfl⟩
theorem Dj (p:b.contains<|.type "Exception") (o:(Value.ref C::b).contains (.type "AttributeError")=false) (q:(Value.ref C::b).contains (.type "NameError")=false)
  (G:Looks (model prog w) h (typeLookup (.ref C) "__init__")<|some<|.ref m) (z:h.get? m=some O) (y:O.cls=.type "function") (s:r.length<=sizeLine)
  (J:∀u l,Heap.MadeExcOf h u l (.ref C) r->wpAny (model prog w) A (call (.ref m)<|.ref l::r) (λn v=>n=.none/\Q (.done<|.ret<|.ref l) v) E ⟨u,g,d,t,os⟩):
  wpAny (model prog w) A (Builtin.«type.__call__» ⟨.ref C::r,[]⟩) Q E ⟨h,g,d,t,os⟩:=by
 repeat (first|with_reducible refine ZV H ?_|with_reducible refine wpAny_madeBy_exc H ?_|wp_step)
 refine codeAny_call_builtin_code (Code.quiet_builtin _ ZS.quiet)<|wpAny_check_new_subU ZS p .base H ?_;refine Eo H ‹_› o q s λD l M=>?_;haveI c:=M.keeps _ _ H;haveI i:=G.keeps M.keeps;haveI f:=M.keeps _ _ z;obtain⟨x,k,_,_⟩:=M.there;haveI e:(Value.ref C::b).contains _=true:=by rw[ZZ,beq_self_eq_true,Z0]
 repeat (first|with_reducible refine ZV k ?_|(with_reducible refine ZW c ?_;rw[e])|with_reducible refine Looks.at i ?_|wp_step)
 refine Yk<|wpAny_typeOf ⟨_,f,y⟩ ?_;refine Ym<|Yk<|Y0 (J _ _ M) (λn v s=>?_) λU U x=>x;obtain⟨rfl,j⟩:=s;wp_walk;exact j
theorem Bh (p:b.contains<|.type "Exception") (o:(Value.ref C::b).contains (.type "AttributeError")=false) (q:(Value.ref C::b).contains (.type "NameError")=false)
  (x:Looks (model prog w) h (typeLookup (.ref C) "__init__")<|some<|.ref m) (v:h.get? m=some O) (u:O.cls=.type "function") (z:r.length<=sizeLine)
  (y:∀s l,Heap.MadeExcOf h s l (.ref C) r->wpAny (model prog w) (A.under<|.builtin "type.__call__" ⟨.ref C::r,[]⟩) (call (.ref m)<|.ref l::r) (λn G=>n=.none/\Q (.ref l) G) E ⟨s,g,d,t,os⟩):
  wpAny (model prog w) A (call (.ref C) r) Q E ⟨h,g,d,t,os⟩:=by
 haveI f1:=tc_lookup;haveI f2:=tc_bind<|.ref C;refine Y5<|Z1 ?_;repeat (any_goals (first|assumption|with_reducible refine ZV H ?_|wp_step))
 exact⟨rfl,codeAny_call_builtin_at (Code.quiet_builtin _<|by decide+kernel) entry_typeCall<|wpAny_check_type_call_sub H<|Dj H p o q x v u z y⟩
end
theorem Cg (Y:jK h C) (j:Looks (model prog w) h (typeLookup (.ref C) "__init__")<|some<|.ref f) (i:h.get? f=some o) (c:o.cls=.type "function") (k:r.length<=sizeLine)
  (q:∀H e,Heap.MadeExcOf h H e (.ref C) r->wpAny (model prog w) (A.under<|.builtin "type.__call__" ⟨.ref C::r,[]⟩) (call (.ref f)<|.ref e::r) (λb s=>b=.none/\Q (.ref e) s) E ⟨H,g,d,t,os⟩):
  wpAny (model prog w) A (call (.ref C) r) Q E ⟨h,g,d,t,os⟩:=
 Y.elim λU x=>x.elim λU x=>x.elim λU x=>x.elim λU x=>x.elim λU x=>x.elim λU x=>x.elim λU x=>x.elim λU x=>Bh x.1 x.2.1 x.2.2.2.1 x.2.2.2.2 j i c k q
theorem uF (Y:jK h C) (b:h.get? e=some o) (H:o.cls=.ref C) (q:Q true ⟨h,g,d,t,os⟩):wpAny M A (excMatches (.ref e)<|.ref C) Q E ⟨h,g,d,t,os⟩:=
 Y.elim λU x=>x.elim λU x=>x.elim λU x=>x.elim λU x=>x.elim λU x=>x.elim λU x=>x.elim λU x=>x.elim λU x=>wpAny_excMatches_sub_self x.1 b H x.2.2.1 q
end
end
section
open Builtin Builtin.ObjectAttr
noncomputable def eJ (l:List Value):Bool:=l.rec false λv r i=>v.casesOn false false false (λU=>false) (λU U=>false) (λU U=>false) (λU U=>false) (λU U=>false) (λa=>a=="Exception"&&r==[.type "BaseException",.type "object"]) (λU=>false) λU=>i
theorem sU {R:Prop} (h:eJ<|v::r) (k:v=.type "Exception"->r=[.type "BaseException",.type "object"]->R) (b:∀c,v=.ref c->eJ r->R):R:=by
 induction v with
 |type a=>exact k (Wh Value.type<|eq_of_beq (VP h).1)<|eq_of_beq (VP h).2
 |ref c=>exact b c rfl h
 |_=>exact sB rfl h
theorem qQ (s:Value):∀{l:List Value},eJ l->refuseLoop s "__setattr__" l=pure ()
 |[],e=>sB rfl e
 |_::_,e=>sU e (λh H=>by simp only [h,H];exact PySem.F.store_Exception.passes s) λc h H=>by simp only [h,refuseLoop_ref];exact qQ s H
theorem gO:∀{l:List Value},eJ l->l.contains (.type "object")/\l.contains (.type "BaseException")
 |[],e=>sB rfl e
 |_::_,e=>sU e (λH h=>by simp only [H,h];exact⟨by decide,by decide⟩) λc H h=>by haveI q:=(gO h).1;haveI Q:=(gO h).2;exact⟨by simp only [ZZ,q,Z2],by simp only [ZZ,Q,Z2]⟩
section
variable {K:Frag} {C x:Addr} {R:Result->Shared->Prop}
theorem yx (X:K.In s.heap) (I:InstAt s.heap x O C o) (j:clsIn K C=some d) (H:eJ d.mro) (k:findIn K (.ref C) n=some none)
  (h:∀b,wpAny (model prog w) A.in1 (storeInOwnDict (.ref x) (.ref C) (.str n t) n v b)
   (λfin g=>match fin with|.done f=>R (.ok f) g|.again i=>i.quiet/\codeAny (model prog w) A i R g) (λe g=>R (.error e) g) s):
  codeAny (model prog w) A (.call (.builtin "object.__setattr__") ⟨[.ref x,.str n t,v],[]⟩) R s:=by
 haveI c:=PySem.F.store_object;haveI N:d.mro.isEmpty=false:=by cases q:d.mro with|nil=>rw[q] at H;cases H|cons _ _=>rfl
 refine Z3 c.slot.plain c.entry (@check_slot _ _ _ s "object.__setattr__" "object" "__setattr__" (.ref x) [.str n t,v] [] _ c.kind c.split (I.type.andThen<|Z4 X<|by unfold mroIn;rw[j,YX,Xd<|by simp only [N];decide,(gO H).1]) (c.args _ _ v) ?_);haveI m:Looks (model prog w) s.heap (mroOf<|.ref C) d.mro:=(looks_clsIn X j).andThen .now;simp only [osa_eq,refuse_eq];refine Yk<|Yk<|I.type.here<|Yk<|m.here ?_;simp only [qQ _ H];refine Ym<|Yk<|I.type.here<|Yk<|(Zg X k).here<|Yk<|Ym ?_;exact h _
end
noncomputable def lS (h:Heap) (A C:Addr) (v:Array Value) (m:Str->Option Value) (k:Nat) (f:List Addr):Prop:=∃o,h.get? A=some o/\o.cls=.ref C/\o.data=.fields v/\A∈f/\
  ((o.dict=none/\∀n,m n=none)\/∃d O e p,o.dict=some d/\h.get? d=some O/\O.cls=.type "dict"/\O.data=.dict e p/\StrKeys e/\(∀n,nsFind e n=m n)/\e.size<=k/\d∈f)
theorem lS.k {R:Prop} {C:Addr} {k:Nat} (x:lS h A C vs m k r) (u:m n=some v)
  (K:∀O D p j q,h.get? A=some O->O.cls=.ref C->O.data=.fields vs->A∈r->O.dict=some D->h.get? D=some p->p.cls=.type "dict"->p.data=.dict j q->StrKeys j->(∀n,nsFind j n=m n)->D∈r->R):R:=by
 obtain⟨O,h1,h2,h3,h4,⟨_,h6⟩|⟨D,p,j,q,y,G,J,L,N,Q,_,Y⟩⟩:=x;.rw[h6 n] at u;cases u
 .exact K O D p j q h1 h2 h3 h4 y G J L N Q Y
noncomputable def fO (f:List Addr) (h H:Heap):Prop:=∀b o,h.get? b=some o->b∈f\/H.get? b=some o
theorem t8 {E:Value->Shared->Prop} {C:Addr} {m:Str->Option Value} (L:F.K.In s.heap) (x:lS s.heap i C vs m k fp) (hk:k<=100)
  (hc:clsIn F.K C=some cd) (hp:eJ cd.mro) (hd:cd.hasDict) (hs:findIn F.K (.ref C) "__setattr__"=some (some<|.builtin "object.__setattr__")) (ht:findIn F.K (.ref C) N=some none)
  (hQ:∀H t u,(∀a∈u,a∈fp\/s.heap.get? a=none)->(∀a∈fp,a∈u)->lS H i C vs (λn=>if n=N then some v else m n) (k+1) u->fO fp s.heap H->Q () {s with heap:=H,toks:=t}):
  wpAny (MF F) A (PySem.setAttr (.ref i) N v) Q E s:=by
 obtain⟨oe,G,h,D,M,f⟩:=x;haveI hn:notCls oe=true:=by unfold notCls;rw[D]
 obtain⟨oc,odi,oda,z⟩:=oe;dsimp only at h D f;subst h D;have store:∀(s1:Shared) (d:Addr) (y:Obj) (r:Array DictEntry) (ep:Nat) (tk:Tok) (Q':PySem.Fin->Shared->Prop) (E':Value->Shared->Prop),s1.heap.get? d=some y->y.data=.dict r ep->StrKeys r->r.size<=100->
   (∀H O c p,H.get? d=some O->O.cls=y.cls->O.data=.dict c p->StrKeys c->(∀n,nsFind c n=if n=N then some v else nsFind r n)->c.size<=r.size+1->Heap.SameBut d s1.heap H->Q' (.done<|.ret .none) {s1 with heap:=H,toks:=s1.toks+1})->
   wpAny (MF F) A.in1 (storeInDict d (.str N tk) N v) Q' E' s1:=by
  refineλs1 d y r ep tk Q' E' g hd' w hz hq=>Yk<|Ym<|Yk<|fC g hd' w (λU=>rfl) λH O c p g' h Y k' m' z1 z2 J=>?_
  refine Yk (YY g' (qL Y<|YZ<|by rw[XI];exact Wk z1<|XE<|Wk hz<|by decide) ?_);exact Ym<|hq H O c p g' h Y k' m' z1 J
 rcases f with⟨rfl,hm⟩|⟨d,y,r,ep,rfl,gd,hcd,hdd,w,hmm,hz,mdx⟩
 .have I:InstAt s.heap i ⟨.ref C,none,.fields vs,z⟩ C none:=⟨G,rfl,hn,trivial⟩
  refine set_plain L I hs ?_;haveI I2:=I;refine yx L I2 hc hp ht λbb=>Yk<|Ym<|Yk ?_;refine Yk<|Yn G<|Yk<|looks_clsIn L hc _ _ _ _ (λU U e=>e) ?_;refine qL hd ?_;haveI l:=Xe<|XN G;refine Yk<|wpAny_alloc ?_;haveI g1:(s.heap.push {cls:=.type "dict",data:=.dict #[]}).get? i=some ⟨.ref C,none,.fields vs,z⟩:=Yd _ G;refine Yk<|wpAny_update' g1 ?_;refine Ym ?_;haveI gd:((s.heap.push {cls:=.type "dict",data:=.dict #[]}).update i λo=>{cls:=o.cls,dict:=some s.heap.objs.size,data:=o.data,slots:=o.slots}).get? s.heap.objs.size=some {cls:=.type "dict",data:=.dict #[]}:=
   (Z5 _ _ _ _ l.symm).trans (ZY rfl rfl)
  refine store _ s.heap.objs.size _ #[] _ _ _ _ gd rfl (λe he=>absurd he<|by simp) (VY _) λH O c p g' h Y k' m' z1 J=>?_;haveI g2:=(J.2 i l).trans<|Yr _ g1 rfl;refine hQ H _ _ (λa j=>?_) (λa j=>.tail _ j) ⟨_,g2,rfl,rfl,.tail _ M,.inr ⟨s.heap.objs.size,O,c,p,rfl,g',h,Y,k',λn=>?_,Wk z1<|XE<|VY _,.head _⟩⟩ λb o hb=>?_
  .rcases VO j with rfl|j
   .exact .inr<|bh _
   .exact .inl j
  .show _=if n=N then _ else _
   rw[m'];by_cases q:n=N;.exact qL (Xb q)<|qL (Xb q) rfl
   .rw[Xd q,Xd q,hm];simp[nsFind,findBy]
  .by_cases q:b=i
   .exact .inl<|q▸M
   .exact .inr<|(J.2 b<|Xe<|XN hb).trans<|(Z5 _ _ _ _ q).trans<|Yd _ hb
 .haveI I:InstAt s.heap i ⟨.ref C,some d,.fields vs,z⟩ C (some y):=⟨G,rfl,hn,gd⟩
  refine set_plain L I hs ?_;refine yx L I hc hp ht λbb=>?_;refine Yk<|Ym<|Yk ?_;refine Yk<|Yn G<|Yk<|looks_clsIn L hc _ _ _ _ (λU U e=>e) ?_;refine qL hd ?_;refine Ym ?_;refine store {s with toks:=s.toks+1} d y r ep _ _ _ gd hdd w (Wk ‹_› ‹_›) λH O c p g' h Y k' m' z1 J=>?_;haveI l:i≠d:=λq=>by subst q;obtain rfl:=W2<|G.symm.trans gd;cases hdd
  refine hQ H _ fp (λa j=>.inl j) (λa j=>j) ⟨_,(J.2 i l).trans G,rfl,rfl,M,.inr ⟨d,O,c,p,rfl,g',h.trans hcd,Y,k',λn=>?_,Wk z1<|XE<|by assumption,mdx⟩⟩ λb o hb=>?_
  .show _=if n=N then _ else _
   rw[m'];by_cases q:n=N;.exact qL (Xb q)<|qL (Xb q) rfl
   .rw[Xd q,Xd q,hmm]
  .by_cases q:b=d
   .exact .inl<|q▸mdx
   .exact .inr<|(J.2 b q).trans hb
end
section
open Builtin Builtin.ObjectAttr
theorem GP {E:Value->Shared->Prop} {C:Addr} (k:F.K.In s.heap) (I:InstAt s.heap e u C<|some O)
  (j:clsIn F.K C=some c) (p:eJ c.mro) (H:findIn F.K (.ref C) "__getattribute__"=some (some<|.builtin "BaseException.__getattribute__")) (G:findIn F.K (.ref C) "__getattr__"=some none)
  (m:findObj F.K C (some O) n=some (.value v)) (o:handedIn v) (h:Q v {s with toks:=s.toks+1}):wpAny (MF F) A (PySem.getAttr (.ref e) n f) Q E s:=by
 obtain⟨b,g,d,t,os⟩:=s;haveI N:c.mro.isEmpty=false:=by cases q:c.mro with|nil=>rw[q] at p;cases p|cons _ _=>rfl
 haveI L:=I.type (M:=MF F);haveI l:=Zg (M:=MF F) k H;haveI i:=Zg (M:=MF F) k G;haveI r:=looks_find (M:=MF F) k I m;haveI sub:Looks (MF F) b (isInstance _ _) true:=I.type.andThen (Z4 k<|by unfold mroIn;rw[j,YX,Xd<|by rw[N];decide,(gO p).2]);haveI x:(f&&onTheHeap (Value.builtin "BaseException.__getattribute__"))=false:=by cases f<;>rfl
 refine Yk<|wpAny_mkText<|YS<|Yk<|L.at<|Yk<|l.at ?_;dsimp only;unfold getAttrByItsOwn hookBefore callGetattribute boundAndCalled;refine Yk<|i.at ?_;refine qL (Xd<|by rw[x];decide) ?_;refine Yk<|wpAny_attempt<|YS<|Yk<|Ym<|Y5 ?_;refine Z3 PySem.F.attr_Exception.ga.plain PySem.F.entry_bexc_ga<|@check_slot (MF F) _ _ _ "BaseException.__getattribute__" "BaseException" "__getattribute__" (.ref e) [.str n t] [] _ rfl rfl sub (PySem.F.args_bexc_ga _ _) ?_;repeat lk
 show wpAny _ _ (handedOut v) _ _ _;rw[handedOut_of o];exact Ym h
end
section
open Builtin Builtin.ObjectAttr
noncomputable def dp:Str:=Str.ofString "self"
noncomputable def bM:Str:=Str.ofString "kind"
noncomputable def rj:Str:=Str.ofString "at"
noncomputable def aY:Str:=Str.ofString "detail"
structure qd (F:Fx) (f:Nat) (fd:FuncData):Prop where
 obj:∃o,F.B.get? (F.fn f)=some o/\o.data=.func fd
 body:∃p1 p2 p3 p4 q1 q2 q3 q4 r1 r2 r3 r4,fd.body=.stmts [.Assign [.Attribute (.Name dp p1) bM p2] (.Name bM p3) p4,.Assign [.Attribute (.Name dp q1) rj q2] (.Name rj q3) q4,.Assign [.Attribute (.Name dp r1) aY r2] (.Name aY r3) r4]
 clo:fd.closure=[]
 kind:fd.scope.kind=.function
 names:fd.scope.names.lookup dp=some .local/\fd.scope.names.lookup bM=some .local/\fd.scope.names.lookup rj=some .local/\fd.scope.names.lookup aY=some .local
 co:fd.scope.isCoroutine=false
 gen:fd.scope.isGenerator=false
 code:F.B.CodeRec fd.code fd.qualname
 binds2:∃a d td,d=Value.str (cv []) td/\∀(e k:Value) (s:Shared),F.K.In s.heap->∀A E Q,Q [(dp,e),(bM,k),(rj,a),(aY,d)] s->wpAny (MF F) A (PySem.bindArgs fd ⟨[e,k],[]⟩) Q E s
 binds4:∀(e k a d:Value) (s:Shared),F.K.In s.heap->∀A E Q,Q [(dp,e),(bM,k),(rj,a),(aY,d)] s->wpAny (MF F) A (PySem.bindArgs fd ⟨[e,k,a,d],[]⟩) Q E s
structure eX (F:Fx) (C:Addr):Prop where
 made:EK F.K C=true
 cd:∃cd,clsIn F.K C=some cd/\eJ cd.mro=true/\cd.hasDict=true
 seta:findIn F.K (.ref C) "__setattr__"=some (some<|.builtin "object.__setattr__")
 geta:findIn F.K (.ref C) "__getattribute__"=some (some<|.builtin "BaseException.__getattribute__")
 gett:findIn F.K (.ref C) "__getattr__"=some none
 k:findIn F.K (.ref C) bM=some none
 a:findIn F.K (.ref C) rj=some none
 d:findIn F.K (.ref C) aY=some none
theorem fO.trans (x:fO r h u) (y:fO p u j) (A:∀a∈p,a∈r\/h.get? a=none):fO r h j:=λb o e=>by
 rcases x b o e with q|q;.exact .inl q
 .rcases y b o q with z|z
  .rcases A b z with w|w
   .exact .inl w
   .exact nomatch (w.symm.trans e)
  .exact .inr z
theorem An {E:Value->Shared->Prop} {C:Addr} (T:eX F C)
  (hk:env.scope.kind=.function) (n1:env.kindOf dp=some .local) (n2:env.kindOf bM=some .local) (n3:env.kindOf rj=some .local) (n4:env.kindOf aY=some .local) (y:s.heap.Ns env.locals m)
  (m1:m dp=some (.ref ea)) (m2:m bM=some k) (m3:m rj=some a) (m4:m aY=some d) (KH:F.K.In s.heap) (hL:env.locals∉p) (J:∀a∈p,F.B.get? a=none) (H:∀b o,F.B.get? b=some o->s.heap.get? b=some o) (x:lS s.heap ea C vs (λU=>none) 0 p)
  (hQ:∀h t f,(∀a∈f,a∈p\/s.heap.get? a=none)->(∀a∈p,a∈f)->lS h ea C vs (λn=>if n=aY then some d else if n=rj then some a else if n=bM then some k else none) 3 f->fO p s.heap h->Q .next {s with heap:=h,toks:=t}):
  wpAny (MF F) A (execs [.Assign [.Attribute (.Name dp p1) bM p2] (.Name bM p3) p4,.Assign [.Attribute (.Name dp q1) rj q2] (.Name rj q3) q4,.Assign [.Attribute (.Name dp r1) aY r2] (.Name aY r3) r4] env) Q E s:=by
 refine e7 T.cd λcd L hp M=>?_;have nsk:∀{f:List Addr} {h:Heap},env.locals∉f->∀{h0:Heap},h0.Ns env.locals m->fO f h0 h->h.Ns env.locals m:=by
  intro f h hl h0 ⟨o,G,D,g,r⟩ ho;rcases ho _ _ g with q|q;.contradiction
  .exact Rx o G D q r
 have Kk:∀{f:List Addr} {h0 h:Heap},(∀a∈f,F.B.get? a=none)->F.K.In h0->fO f h0 h->F.K.In h:=by
  intro f h0 h hb KI ho b o e;rcases ho _ _ (KI b o e) with q|q
  .have:=F.KB b o e
   exact nomatch ((hb b q).symm.trans this)
  .exact q
 have ldN:∀{s1:Shared} {n:Str} {v:Value} {pos:Pos} {Q1:Value->Shared->Prop},env.kindOf n=some .local->(n==("__debug__"))=false->s1.heap.Ns env.locals m->m n=some v->Q1 v s1->wpAny (MF F) A (eval (.Name n pos) env) Q1 E s1:=
  λhn' Y hns hm q=>Yz (Yj hk hn' hns hm q) Y
 refine YH<|Y2 (ldN n2 rfl y m2<|ldN n1 rfl y m1<|t8 KH x (VY _) L hp M T.seta T.k λh1 t1 c f1 g1 x1 u=>?_) rfl;haveI L1:env.locals∉c:=λq=>by
  rcases f1 _ q with z|z;.exact hL z
  .exact BQ y λo G D g U=>nomatch (z.symm.trans g)
 haveI B1:∀a∈c,F.B.get? a=none:=λb q=>by
  rcases f1 _ q with z|z;.exact J b z
  .cases w:F.B.get? b with
   |none=>rfl
   |some o=>exact absurd ((H b o w).symm.trans z)<|W8 _
 haveI N:=nsk hL y u;haveI K1:=Kk J KH u;haveI hBk1:∀b o,F.B.get? b=some o->h1.get? b=some o:=λb o e=>by exact(u b o<|H b o e).elim (λq=>nomatch ((J b q).symm.trans e)) λq=>q
 refine YH<|Y2 (ldN n3 rfl N m3<|ldN n1 rfl N m1<|t8 K1 x1 (Wu _) L hp M T.seta T.a λh2 t2 i f2 g2 x2 o2=>?_) rfl;haveI L2:env.locals∉i:=λq=>by
  rcases f2 _ q with z|z;.exact L1 z
  .exact BQ N λo G D g U=>nomatch (z.symm.trans g)
 haveI l:=nsk L1 N o2;refine YH<|Y2 (ldN n4 rfl l m4<|ldN n1 rfl l m1<|t8 (s:={s with heap:=h2,toks:=t2}) (Kk B1 K1 o2) x2 (WL _ _) L hp M T.seta T.d λh3 t3 j f3 g3 x3 o3=>?_) rfl;have F1:∀a∈i,a∈p\/s.heap.get? a=none:=λb q=>by
  rcases f2 b q with z|z;.exact f1 b z
  .cases w:s.heap.get? b with
   |none=>exact .inr rfl
   |some o=>
    rcases u b o w with v|v;.exact .inl v
    .haveI z':=z
     exact absurd (z'.symm.trans v) nofun
 haveI O:=u.trans o2 f1;haveI F2:∀a∈j,a∈p\/s.heap.get? a=none:=λb q=>by
  rcases f3 b q with z|z;.exact F1 b z
  .cases w:s.heap.get? b with
   |none=>exact .inr rfl
   |some o=>
    rcases O b o w with v|v;.exact .inl v
    .haveI z':h2.get? b=none:=z
     exact absurd (z'.symm.trans v) nofun
 exact YG<|hQ h3 t3 j F2 (λa ha=>g3 a<|g2 a<|g1 a ha) x3<|O.trans o3 F1
theorem AF {E:Value->Shared->Prop} {C:Addr} (T:eX F C) (I:qd F f fd) (r:A.depth<recursionLimit)
  (KH:F.K.In s.heap) (hB:∀a∈p,F.B.get? a=none) (h:∀b o,F.B.get? b=some o->s.heap.get? b=some o) (hfp:∀a∈p,∃o,s.heap.get? a=some o) (x:lS s.heap G C vs (λU=>none) 0 p)
  (Y:∀A E Q,Q [(dp,.ref G),(bM,k),(rj,a),(aY,d)] s->wpAny (MF F) A (PySem.bindArgs fd ⟨D,[]⟩) Q E s)
  (hQ:∀j t i,(∀a∈i,a∈p\/s.heap.get? a=none)->(∀a∈p,a∈i)->lS j G C vs (λn=>if n=aY then some d else if n=rj then some a else if n=bM then some k else none) 3 i->fO p s.heap j->Q .none {s with heap:=j,toks:=t}):
  codeAny (MF F) A (.call (.ref<|F.fn f) ⟨D,[]⟩) (rd Q E) s:=by
 refine aI I.obj λo ho hd=>?_;obtain⟨c,g,w,y,J,L,M,O,r1,r2,r3,r4,H⟩:=I.body;refine Mu I.names λl m u v=>Zf r (h _ _ ho) hd I.co I.gen H (I.code.keeps h) ?_;refine qL I.clo ?_;refine Y _ _ _<|wpAny_newFunctionEnv_cells I.kind (λz hz=>?_) λN he c z=>?_
 .simp only [Z6,Xu,or_false] at hz
  rcases hz with rfl|rfl|rfl|rfl;.exact .inl l
  .exact .inl m
  .exact .inl u
  .exact .inl v
 .have J:∀n,N.kindOf n=fd.scope.names.lookup n:=λU=>by rw[he];rfl
  haveI kS:N.scope.kind=.function:=by rw[he];exact I.kind
  haveI kL:N.locals=s.heap.objs.size:=by rw[he];rfl
  refine EH z.toInCall.same λj tk q=>?_;haveI ns:=z.toInCall.ns;haveI c:=z.toInCall.keep;subst q;refine⟨F.lim.keeps λb o e=>c b o<|h b o e,codeAny_func ?_⟩;haveI O:N.locals∉p:=λq=>by obtain⟨o,g⟩:=hfp _ q;rw[kL] at g;exact((XM _)<|XN g).elim
  haveI hx:lS j G C vs (λU=>none) 0 p:=x.elim λoe y=>⟨oe,c _ _ y.1,y.2.1,y.2.2.1,y.2.2.2.1,y.2.2.2.2.imp id λw=>w.elim λdx w=>w.elim λod w=>w.elim λes w=>w.elim λep w=>⟨dx,od,es,ep,w.1,c _ _ w.2.1,w.2.2⟩⟩
  haveI L:([(dp,Value.ref G),(bM,k),(rj,a),(aY,d)].map (·.1)).Nodup:=by show[dp,bM,rj,aY].Nodup;decide
  haveI l:=(J dp).trans l;haveI m:=(J bM).trans m;haveI u:=(J rj).trans u;haveI v:=(J aY).trans v;refine An T kS l m u v ns (iL l _ _ L<|.head _) (iL m _ _ L<|.tail _<|.head _) (iL u _ _ L<|.tail _<|.tail _<|.head _) (iL v _ _ L<|.tail _<|.tail _<|.tail _<|.head _)
   (λb o e=>c b o<|KH b o e) O hB (λb o e=>c b o<|h b o e) hx λh2 t2 M f2 g2 x2 o2=>?_
  refine hQ h2 t2 M (λb Y=>(f2 b Y).imp id λz=>?_) g2 x2 λb o e=>o2 b o<|c b o e;cases w:s.heap.get? b with
  |none=>rfl
  |some o=>exact absurd ((c b o w).symm.trans z)<|W8 _
end
section
open Builtin Builtin.ObjectAttr
theorem wI {E:Value->Shared->Prop} {C:Addr} (hh:A.handled=none) (O:clsIn F.K C=some D) (p:eJ D.mro) (ht:typeIn F.K (.ref C)=some (.type "type"))
  (h:wpAny (MF F) A x (λv b=>∃e o r,v=.ref e/\F.K.In b.heap/\b.heap.get? e=some o/\o.cls=.ref C/\o.data=.fields r/\r[1]?=some .none/\E (.ref e) b) E s):wpAny (MF F) A (raiseStmt env (some x) none) Q E s:=by
 refine Yk<|Y0 h (λv b i=>?_) λU U x=>x;obtain⟨H,g,d,y,os⟩:=b;refine i.elim λe z=>z.elim λo z=>z.elim λr z=>?_;obtain rfl:=z.1;haveI t:=z.2.1;haveI Y:=z.2.2.1;haveI m:=z.2.2.2.1;haveI w:=z.2.2.2.2.1;haveI M:=z.2.2.2.2.2.1;haveI N:=z.2.2.2.2.2.2;haveI ne:D.mro.isEmpty=false:=by cases q:D.mro with|nil=>rw[q] at p;cases p|cons _ _=>rfl
 haveI f:=Y;haveI u:Looks (MF F) H (typeOf<|.ref e) (.ref C):=m▸(Looks.ld f).andThen .now;haveI G:Looks (MF F) H _ _:=looks_typeIn t ht;haveI sub:Looks (MF F) H (isInstance _ _) true:=u.andThen (Z4 t<|by unfold mroIn;rw[O,YX,Xd<|ne_true_of_eq_false ne,(gO p).2]);have j:Looks (MF F) H (isType<|.ref e) false:=by
  refineλA Q E s k q=>Yk<|Yn (k _ _ f) ?_
  exact w▸(Ym q)
 have L:∀(l:Unit->Shared->Prop),l () ⟨H,g,d,y,os⟩->wpAny (MF F) A (setFlight (.ref e) none) l E ⟨H,g,d,y,os⟩:=by
  refineλl hq=>Yk<|ZR f w M ?_
  exact Ym hq
 have n:Looks (MF F) H (isExcClass<|.ref e) false:=by unfold isExcClass;exact j.andThen .now
 have J:∀c,Looks (MF F) H (excFromValue _ c) _:=λc=>by unfold excFromValue;exact n.andThen<|sub.andThen .now
 haveI ri:Looks (MF F) H (raisedInstance _) _:=by unfold raisedInstance;exact u.andThen<|G.andThen .now
 refine Yk<|Ym<|Yk<|YS<|Looks.at (J _)<|Yk<|Looks.at j<|Yk<|Looks.at ri<|Yk<|L _ ?_;exact wpAny_raiseNew_none hh N
theorem Fs {E:Value->Shared->Prop} (hA:kJ A D) (R:aG F H i s) (T:eX F<|F.cls c) (I:qd F f fd)
  (hi:findIn F.K (.ref<|F.cls c) "__init__"=some (some<|.ref<|F.fn f)) (hf:typeIn F.K (.ref<|F.fn f)=some (.type "function")) (L:v.length<=10)
  (hk:∃t,kv=.str (cv k) t) (hd:∃t,dv=.str (cv d) t)
  (m:∀(e:Value) (j:Shared),F.K.In j.heap->∀A E Q,Q [(dp,e),(bM,kv),(rj,av),(aY,dv)] j->wpAny (MF F) A (PySem.bindArgs fd ⟨e::v,[]⟩) Q E j)
  (h:∀y O vs j fp,j.heap.get? y=some O->O.cls=.ref (F.cls c)->O.data=.fields vs->vs[1]?=some .none->aG F H i j->bc X s i j i->(∀a∈fp,s.heap.get? a=none)->eT F (.tup [.int<|.ofNat c,.str k,.int a,.str d]) (.ref y) fp j->Q (.ref y) j):
  wpAny (MF F) A (call (.ref<|F.cls c) v) Q E s:=by
 obtain⟨x,g,dr,t,os⟩:=s;haveI n:=R.frag;obtain⟨u,J,N⟩:∃u,x.get? (F.fn f)=some u/\u.cls=.type "function":=bB hf λu ho hc=>⟨u,n _ _ ho,hc⟩
 refine Cg (ou n T.made) (Zg n hi) J N (Wk L<|by rw[XI];decide) λh' e M=>?_;obtain⟨g,he,_,_⟩:=M.there;haveI G:(A.under<|.builtin "type.__call__" ⟨.ref (F.cls c)::v,[]⟩).depth<recursionLimit:=by haveI:=(hA.under_new ⟨.ref (F.cls c)::v,[]⟩).depth;show _<1000;exact Fr this
 haveI one:∀{P:Addr->Prop},P e->∀b∈[e],P b:=λp b m=>VS m▸p;refine Y5<|AF T I G (λb o e=>M.keeps b o<|n b o e) (one<|R.none_of M.new) (λb o e=>M.keeps b o<|R.keep b o e) (one ⟨_,he⟩) ⟨_,he,rfl,rfl,.head _,.inl ⟨rfl,λU=>rfl⟩⟩ (m _ _  λb o e=>M.keeps b o<|n b o e) λw t2 r f1 g x1 o1=>⟨rfl,?_⟩
 have l:∀b o,x.get? b=some o->w.get? b=some o:=λb o z=>(o1 b o<|M.keeps b o z).elim (λq=>by rw[VS q,M.new] at z;cases z) id;have fr:∀a∈r,x.get? a=none:=λb m=>(f1 b m).elim (λq=>VS q▸M.new) λq=>by
  cases z:x.get? b with
  |none=>rfl
  |some o=>exact absurd ((M.keeps b o z).symm.trans q)<|W8 _
 exact x1.k (Xb rfl) λO dx od es ep h1 w h3 h4 a1 a2 a3 a4 a5 Y a8=>hk.elim λtk ek=>hd.elim λtd ed=>h e O _ _ r h1 w h3 rfl (R.grow l) (bc.grow X i l rfl rfl rfl) fr ⟨⟨⟨c,k,d,a,e,dx,O,od,_,es,ep,tk,td,rfl,rfl,h1,w,a1,h3,h4,a8,.inl rfl,a2,a3,a4,a5,(Y bM).trans<|Wh some ek,(Y aY).trans<|Wh some ed⟩⟩,λb m=>R.none_of<|fr b m⟩
theorem Ht {C:Prop} (h:zF c vs=some x) (f:∀k,vs=[.str k]->x=.tup [.int<|.ofNat c,.str k,.int (-1),.str []]->C)
  (g:∀k a d,vs=[.str k,.int a,.str d]->x=.tup [.int<|.ofNat c,.str k,.int a,.str d]->C):C:=by
 induction vs with
 |nil=>exact dj rfl h
 |cons k r=>
  refine ao h λb l h=>?_;rw[lj l] at f g;induction r with
  |nil=>exact f b rfl (W2 h).symm
  |cons a r=>exact ao h λA i h=>ao h λd j h=>bB h λD e z=>g b A D (qL (ml j id)<|qL (bF i)<|qL (lj e) rfl) z.symm
noncomputable def Og (F:Fx) (c:Nat) (E:Value->Shared->Prop) (v:Value) (s:Shared):Prop:=∃e o b,v=.ref e/\F.K.In s.heap/\s.heap.get? e=some o/\o.cls=.ref (F.cls c)/\o.data=.fields b/\b[1]?=some .none/\E (.ref e) s
theorem Eu {p O pos} (hl:jD F (eT F) D sc xs l) (hn:xs.all bd) (hg:aZ sc n)
  (hmg:F.B.Ns mainGlobals mg) (hv:mg n=some (.ref<|F.cls c)) (hk:keepIn F.K<|.ref<|F.cls c) (T:eX F<|F.cls c) (I:qd F f fd) (hi:findIn F.K (.ref<|F.cls c) "__init__"=some (some<|.ref<|F.fn f)) (hf:typeIn F.K (.ref<|F.fn f)=some (.type "function"))
  (ht:typeIn F.K (.ref<|F.cls c)=some (.type "type")):cC F (eT F) D sc (.Raise (some<|.Call (.Name n p) xs [] O) none pos) (jg c l):=by
 refine e7 T.cd λcd hc hp U=>λcl Y A N g H s b G U hs R fr=>am.imp (am.bindN (K:=λw Q E s=>F.K.In s.heap/\wpAny (MF F) A (call (.ref<|F.cls c) w) (Og F c E) E s) (hl cl Y A N g H s b G hs R fr) λw H1 U j s1 r R1 d m=>am.ro λx hx=>?_) λQ E h=>?_
 .have two:∀(k d:List Nat) (a:Int) (kv u o:Value),j.length<=10->(∃t,kv=.str _ t)->(∃t,o=.str _ t)->x=.tup [.int _,.str k,.int a,.str d]->
    (∀(e:Value) (i:Shared),F.K.In i.heap->∀A E Q,Q [(dp,e),(bM,kv),(rj,u),(aY,o)] i->wpAny (MF F) A _ Q E i)->
    am F (eT F) (FA N) (λQ E s=>F.K.In s.heap/\wpAny (MF F) A (call _ j) (Og F c E) E s) (.ex x H1) (FR F A N) s1 r:=λk d a kv u o L hk1 hd1 q M Q E hE=>
   ⟨R1.frag,Fs G R1 T I hi hf L hk1 hd1 M λea oe w i fp g1 g2 g3 g4 R' X' N' xc=>⟨ea,oe,w,rfl,R'.frag,g1,g2,g3,g4,hE _ i r fp R' X' N'<|q▸xc⟩⟩
  refine Ht hx (λk e q=>?_) λk a d e q=>?_<;>rw[e] at m
  .refine aI (cI m) λv z x=>?_
   rw[z] at two⊢;exact BQ I.binds2 λu o td hdv M=>two k [] (-1) _ u o (by decide:1<=10) x ⟨td,hdv⟩ q λe i y A E Q J=>M e _ i y A E Q J
  .refine du m λv ws z x m=>du m λv2 ws2 e2 x2 m=>aI (cI m) λv3 e3 x3=>?_
   rw[z,e2,e3] at two⊢;exact two k d a _ v2 _ (by decide:3<=10) x x3 q λe i y A E Q J=>I.binds4 e _ _ _ i y A E Q J
 .simp only [arm_exec_Raise]
  refine Yk<|Y1<|wI G.handled hc hp ht<|Yk<|Y0 ?_ (λv d z=>Yk<|Y1<|Ym z) λU U z=>z;refine Yk<|fx fr hs hg R hmg hv ?_;refine qL (bX _ _ _ hn) ?_;exact Zi (by simp only [e8 xs N hn];rfl) (keeps_K hk)<|fW hn h
end
section
open Builtin Builtin.ObjectAttr
variable {s:aS}
theorem z0 {E:Value->Shared->Prop} (hn:c.heap.Ns a m) (Y:fz c.heap a)
  (D:∀r v,r.Ns a (λx=>if x=N then v else m x)->Heap.SameBut a c.heap r->fz r a->Q (m N).isSome {c with heap:=r}):wpAny M A (nsDel a N) Q E c:=by
 refine mQ hn λo s p f G u w=>aI Y λo2 g2 J=>?_;obtain rfl:=W2<|f.symm.trans g2;haveI j:s.any (·.refKey)=false:=by rw[Yo];intro e he;refine EH (u e he) λn t h=>?_;simp[DictEntry.refKey,h]
 haveI H:s.any _=(m N).isSome:=by rw[<-w N];unfold nsFind findBy;rw[XH,Array.isSome_find?]
 have k:nsHas N o=pure (s.any (·.key.isStr N)):=by rw[nsHas_eq];unfold nsHasByArray;rw[G];show(if(s.any λx=>x.key.isStr N)=true then _ else _)=_;generalize (s.any λx=>x.key.isStr N)=b;cases b<;>simp[j]
 have O:∀x,m x=if x=N then m N else m x:=λx=>by
  by_cases h:x=N;.rw[Xb h,h]
  .rw[Xd h]
 refine Yk<|Yn f ?_;refine k▸?_;refine Yk<|Ym ?_;refine H▸?_;cases q:(m N).isSome;.exact Ym<|q▸D c.heap _ ⟨o,s,p,f,G,u,λx=>(w x).trans<|O x⟩ (.refl ..) Y
 .refine Yk (Yq f<|Ym ?_)
  obtain⟨L,d,y,z⟩:=o;subst G;refine q▸?_;cases l:s.findIdx? (·.key.isStr N) with
  |some i=>
   haveI g:=Yr (Obj.dropName N) f (by simp only [Z7,Obj.dropNameByArray,l]<;>rfl);haveI e:Obj.dropName N ⟨L,d,.dict s p,z⟩=⟨L,d,.dict _ _,z⟩:=by simp only [Z7,Obj.dropNameByArray,l]<;>rfl
   rw[e] at g;refine D _ (nsFind (s.eraseIdxIfInBounds i) N) ⟨_,_,_,g,rfl,u.erase i,λx=>?_⟩ (XT ..) ⟨_,g,J.1,_,_,rfl⟩;show _=if x=N then nsFind _ N else m x;by_cases y:x=N;.rw[Xb y,y]
   .rw[Xd y,nsFind_erase_other l y,w]
  |none=>
   have g:=Yr (Obj.dropName N) f (by simp only [Z7,Obj.dropNameByArray,l]<;>rfl);haveI e:Obj.dropName N ⟨L,d,.dict s p,z⟩=⟨L,d,.dict s p,z⟩:=by simp only [Z7,Obj.dropNameByArray,l]<;>rfl
   rw[e] at g;exact D _ _ ⟨_,_,_,g,rfl,u,λx=>(w x).trans<|O x⟩ (XT ..) ⟨_,g,J.1,_,_,rfl⟩
theorem kT {E:Value->Shared->Prop} (l:env.scope.kind=.function) (L:env.kindOf n=some .local) (N:b.heap.Ns env.locals m) (r:fz b.heap env.locals)
  (q:∀h,h.Ns env.locals (λy=>if y=n then some v else m y)->Heap.SameBut env.locals b.heap h->fz h env.locals->Q () {b with heap:=h,toks:=b.toks+1}):wpAny M A (storeName env n v) Q E b:=by
 rw[Yv L<|by rw[l];rfl];refine mQ N λo w u g D p t=>aI r λo2 i f=>?_;obtain rfl:=W2<|g.symm.trans i;exact fC g D p t λh O s e G j H k c U U d=>q h ⟨O,s,e,G,H,k,c⟩ d ⟨O,G,j.trans f.1,s,e,H⟩
theorem th {A:Around} {E:Value->Shared->Prop} {e:Env} {n:Str} {p:Pos} (k:e.scope.kind=.function) (l:e.kindOf n=some .local) (N:b.heap.Ns e.locals m) (u:fz b.heap e.locals)
  (w:∀i v,i.Ns e.locals (λx=>if x=n then v else m x)->Heap.SameBut e.locals b.heap i->fz i e.locals->Q () {b with heap:=i,toks:=b.toks+1}):
  wpAny M A (do bindName e n .none;unbindBehindTheSuite e n p) Q E b:=by
 haveI z:(e.scope.kind==.class||(e.scope.kind==.module&&e.locals != e.globals))=false:=by rw[k];rfl
 refine Yk<|ZG<|kT k l N u λj h s f=>?_;refine wpAny_onRaise<|Yk<|Y7<|Yk ?_;dsimp only [deleteName];refine qL l<|qL z ?_;refine Yk<|z0 h f λg v H c r=>?_;refine(Xb rfl)▸?_;refine Ym<|Y7<|w g v ?_ (s.trans c) r;refine mQ H λo t q O D k y=>⟨o,t,q,O,D,k,λx=>(y x).trans ?_⟩
 show(if x=n then v else if x=n then some Value.none else m x)=if x=n then v else m x;by_cases d:x=n;.exact qL (Xb d)<|qL (Xb d) rfl
 .exact qL (Xd d)<|qL (Xd d)<|qL (Xd d) rfl
theorem cz.turn (f:cz F A env p j h) (R:aG F H j h) (hn:∀y,F.nm y≠n) (ns:h.heap.Ns env.locals m) (hm:∀x v,Internal.look p x=some v->∃J,VR F.B h.heap j v J/\JR env h.heap m (F.nm x) J)
  (ns':D.Ns env.locals  λx=>if x=n then v else m x) (G:Heap.SameBut env.locals h.heap D) (fr:fz D env.locals):
  aG F H j {h with heap:=D,toks:=t}/\bc (FA env) h j {h with heap:=D,toks:=t} j/\cz F A env p j {h with heap:=D,toks:=t}:=by
 have N:FA env env.locals:=.inl rfl;refine aI fr λo' g' O=>?_;have X:=(bc.frame f N (t:=t) G g' O.nf λU U U=>O).weak λU e=>e▸N;refine mP (R.frame f N G) X ⟨f.kind,f.globals,f.builtins,f.code,⟨_,ns',λy u e=>?_⟩,λa Q=>?_,f.bound,λy d e=>?_,f.apart,f.stk.ext X⟩
 .refine aI (hm y u e) λw r L=>bK w (X.mono r) ?_
  rcases L with⟨k,Y⟩|⟨k,q2,d,hd,o,g,z⟩
  .refine .inl ⟨k,?_⟩
   show(if F.nm y=n then v else m _)=some w;exact(Xd<|hn y)▸Y
  .exact .inr ⟨k,q2,d,hd,o,(G.2 d (f.cells _ _ hd).1).trans g,z⟩
 .obtain⟨r,L,o,g,st,Y⟩:=f.own a Q
  by_cases q:a=env.locals;.subst q;exact⟨r,L,o',g',kU O,O.nf⟩
  .exact⟨r,L,o,(G.2 a q).trans g,st,Y⟩
 .obtain⟨r,w,o,g,z⟩:=f.cells y d e
  exact⟨r,w,o,(G.2 d r).trans g,z⟩
theorem cz.fra (f:cz F A env p j h) (x:∃l,A.frames=some (env::l)) (y:env.frame=some env.locals):fz h.heap env.locals:=by obtain⟨l,q⟩:=x;refine aI f.stk λD r u=>?_;obtain rfl:=W2<|q.symm.trans r;obtain⟨_,L,o,e,_,_,g,O⟩:=u env<|.head _;obtain rfl:=W2<|y.symm.trans e;exact bK o g O
theorem cz.mark (f:cz F A env p j h):cz F (A.mark e) env p j h:=
 ⟨f.kind,f.globals,f.builtins,f.code,f.vars,f.own,f.bound,f.cells,f.apart,f.stk⟩
theorem eT.same (u:eT F x e y j) (A:fz j.heap L) (h:∀b,b≠L->O.heap.get? b=j.heap.get? b):eT F x e y O:=by
 refine aI A λQ G p=>u.ex.elim λD=>?_;have N:D.ea≠L:=λq=>p.noFields D.vs<|(W2<|(Wh j.heap.get? q).symm.trans D.ge |>.symm.trans G)▸D.hd;haveI J:D.dx≠L:=λq=>by exact absurd ((Wh Obj.cls<|W2<|G.symm.trans<|(Wh j.heap.get? q).symm.trans D.gd).symm.trans p.1 |>.symm.trans D.hcd) (by decide)
 refine⟨⟨⟨D.c,D.k,D.d,D.at_,D.ea,D.dx,D.oe,D.od,D.vs,D.es,D.ep,D.tk,D.td,D.hx,D.he,(h _ N).trans D.ge,D.hcls,D.hdict,D.hd,D.m1,D.m2,D.htr.imp id ?_,(h _ J).trans D.gd,D.hcd,D.hdd,D.hsk,D.hkind,D.hdet⟩⟩,u.own⟩
 refineλz=>z.elim λT z=>z.elim λoT z=>z.elim λr z=>⟨T,oT,r,z.1,z.2.1,z.2.2.1,(h _ λq=>?_).trans z.2.2.2.1,z.2.2.2.2⟩
 exact p.noFields r<|(W2<|G.symm.trans<|(Wh j.heap.get? q).symm.trans z.2.2.2.1)▸z.2.2.2.2.2.1
noncomputable def wK (F:Fx) (N:Env) (n:Str) (g:Expr) (c:Sg) (H:Hp) (x:V) (r:Bool):Prop:=
 ∀(A:Around) (s:Shared) (b:cJ) (e:Value) (f:List Addr) (m:Str->Option Value),A.units+10<cLine->aG F H b s->cz F A N c b s->s.heap.Ns N.locals m->m n=some e->eT F x e f s->
  ∀Q E,(∀d,aG F H b d->bc eR s b d b->Q (.bool r) d)->wpAny (MF F) A (eval g N) Q E s
theorem FF {E:Value->Shared->Prop} (hA:kJ A D) (hf:∃l,A.frames=some (env::l)) (hs:env.scope.names=s)
  (R:aG F H i g) (f:cz F A env j ρ0 s0) (X0:bc eR s0 ρ0 g i) (hfp:∀a∈fp,s0.heap.get? a=none) (xc:eT F y e fp g) (Y:∃k a d,y=.tup [.int<|.ofNat c,k,a,d])
  (hg:aZ s cn) (hmg:F.B.Ns mainGlobals mg) (hv:mg cn=some (.ref<|F.cls c)) (T:eX F<|F.cls c)
  (hn:∀y,F.nm y≠n) (hl:s.lookup n=some .local) (hfr:env.frame=some env.locals) (hR:wK F env n rx j H y r)
  (hQ:∀s',aG F H i s'->bc (FA env) s0 ρ0 s' i->cz F A env j i s'->Q (.ret<|.bool r) s'):
  wpAny (MF F) A (noteFrame e env) (λU s₂=>wpAny (MF F) A (setFlight e none) (λU s₃=>wpAny (MF F) A (handleBy e env [.ExceptHandler (some<|.Name cn cp) (some n) [.Return (some rx) rp] hp]) Q E s₃) E s₂) E g:=by
 obtain⟨l,v⟩:=hf;refine e7 T.cd λcd hc hpx U=>?_;have hl':env.kindOf n=some .local:=by unfold Env.kindOf;exact hs▸hl
 refine eT.noted v (f.stk.ext X0) R X0 hfp xc λs1 L ea oe oT vs ts TT he g1 d1 J u gT hcT dT hz N hfs R1 X1 p xc1 k1=>eT.flight R1 X1 p xc1 he g1 d1 J u gT hcT dT hz N λs2 R2 X2 x hk2=>?_;haveI f2:=f.extN X2;subst he;have g2:=(hk2 ea<|Xf u).trans g1;haveI hcl:oe.cls=.ref (F.cls c):=x.ex.elim λD=>Y.elim λk h=>h.elim λa h=>h.elim λd hy=>by exact qL ((mK<|hy.symm.trans D.hx).1)<|qR D.hcls<|qL (W2<|g2.symm.trans<|(Wh s2.heap.get?<|Value.ref.inj D.he).trans D.ge) rfl
 refine wpAny_handleBy_cons (codeAny_handlers_test<|fx f2.mark hs hg R2 hmg hv<|uF (ou R2.frag T.made) g2 hcl<|codeAny_handlers_suite_as ?_) (by intro q;cases q);refine Kh λQa Ea ga U=>?_;haveI G:∃o w,s2.heap.get? TT=some o/\o.cls=.type "traceback"/\o.data=.fields w/\3<w.size:=x.ex.elim λD=>by
  haveI ev:=Data.fields.inj<|d1.symm.trans<|(Wh Obj.data<|W2<|g2.symm.trans<|(Wh s2.heap.get?<|Value.ref.inj D.he).trans D.ge).trans D.hd;replace J:=ev▸J;refine D.htr.elim (λq=>absurd (J.symm.trans q) nofun) λz=>z.elim λT' z=>z.elim λoT' z=>z.elim λts' z=>⟨oT',ts',?_,z.2.2.2.2⟩
  exact(Value.ref.inj<|W2<|J.symm.trans z.1)▸z.2.2.2.1
 refine Nd G λo w G O dT2 hz2=>eT.flight R2 X2 p x rfl g2 d1 J u G O dT2 hz2 N λs3 R3 X3 xc3 hk3=>?_;have f3:=f.extN X3;refine ga _ _<|UY λQb gb=>?_;refine aI f3.vars λm ns hm=>?_;haveI M:=f3.fra ⟨l,v⟩ hfr;refine kT f.kind hl' ns M λh4 ns4 sb4 fr4=>kh (cz.turn (t:=s3.toks+1) f3 R3 hn ns hm ns4 sb4 fr4) λR4 X4 f4=>?_;haveI xc4:eT F y _ L {s3 with heap:=h4,toks:=s3.toks+1}:=xc3.same M λb hb=>sb4.2 b hb;refine gb _ _ (YH<|YF<|hR (A.mark _) _ i _ L _  hA.u10  R4 f4.mark ns4 (by simp) xc4 _ _ λs5 R5 X5=>?_);have f5:=f4.extN X5;refine aI f5.vars λm5 ns5 hm5=>th f.kind hl' ns5 (f5.fra ⟨l,v⟩ hfr) λh6 v6 ns6 sb6 fr6=>?_;exact kh (cz.turn f5 R5 hn ns5 hm5 ns6 sb6 fr6) λR6 X6 f6=>hQ _ R6 ((((X3.weak tN).trans X4).trans<|X5.weak tN).trans X6) f6
theorem qw {E:Value->Shared->Prop} (o:∀c,eX F (F.cls c)\/(∀k a d,x≠.tup [.int<|.ofNat c,k,a,d])) (R:aG F H g b) (f:cz F A env i g b) (ns:b.heap.Ns env.locals m) (hm:m n=some e)
  (hl:env.kindOf n=some .local) (u:(n==("__debug__":Str))=false) (xc:eT F x e fp b)
  (J:Y=bM\/Y=aY) (hQ:∀c k d a,x=.tup [.int<|.ofNat c,.str k,.int a,.str d]->∀t tk,Q (.str (cv<|if Y=bM then k else d) tk) {b with toks:=t}):
  wpAny (MF F) A (eval (.Attribute (.Name n p1) Y p2) env) Q E b:=by
 obtain⟨⟨⟨c,kk,dd,l,ea,dx,oe,od,vs,es,ep,tk,td,O,rfl,ge,q,D,hd,m1,m2,htr,gd,hcd,w,hsk,j,p⟩⟩,s⟩:=xc;have T:=(o c).resolve_right λh=>h _ _ _ O;refine e7 T.cd λcd hc hp G=>?_;haveI KH:=R.frag;haveI I:InstAt b.heap ea oe _ (some od):=⟨ge,q,by unfold notCls;rw[hd],by rw[D];exact gd⟩
 refine Yk<|Yz (Yj f.kind hl ns hm<|Yk<|Y1<|Yk<|YS ?_) u;haveI go:∀(N:Str) (v:Value),findIn F.K (.ref _) N=some none->nsFind es N=some v->handedIn v=true->(∀t,Q v {b with toks:=t})->
   wpAny (MF F) A (PySem.getAttr _ N true) (λr s=>wpAny (MF F) A (letTemporaryGo (.Name n p1) (.ref ea) r>>=λU=>pure r) Q E s) E b:=by
  refineλN v y M hh hq=>aI (yI M) λen k1 k2=>?_
  haveI L:lookIn N od=some (some v):=by delta lookIn;refine qL w ?_;dsimp only;refine qL k1 ?_;dsimp only;exact qL k2 rfl
  haveI z:findObj F.K _ _ N=some _:=by
   haveI ho:W.ownOf cd (some od) N=some _:=by unfold W.ownOf;rw[Xb G];exact L
   show(clsIn F.K _).bind _=_;rw[hc];show(findIn F.K (.ref _) N).bind _=_;rw[y];show(W.ownOf cd _ N).bind _=_;rw[ho];rfl
  exact GP KH I hc hp T.geta T.gett z hh<|Yk<|mu<|Ym<|hq _
 rcases J with rfl|rfl
 .refine go bM _ T.k j rfl λt=>?_
  haveI:=hQ c kk dd l O t tk;rwa [Xb rfl] at this
 .refine go aY _ T.d p rfl λt=>?_
  haveI:=hQ c kk dd l O t td;rwa [Xd<|by decide] at this
theorem x7 {x:V} (T:eX F<|F.cls c) (f:x=.tup [.int<|.ofNat c,k,a,d]) (b:Nat):eX F (F.cls b)\/∀k a d,x≠.tup [.int<|.ofNat b,k,a,d]:=by
 by_cases e:b=c;.exact .inl<|e▸T
 .exact .inr λk a d q=>e (mK<|q.symm.trans f).1
theorem F6 {ix:Nat} (T:eX F<|F.cls c) (J:env.scope.names=s) (G:s.lookup n=some .local) (D:(n==("__debug__":Str))=false)
  (l:F.nm ix=N) (j:(N==("__debug__":Str))=false) (Y:look i ix=some v) (h:pZ c x (some v) H=some r):wK F env n (.Compare (.Attribute (.Name n p1) bM p2) [.In] [.Name N p3] p4) i H x r:=by
 subst l;intro A b g e fp m O R f ns M xc Q E z;haveI L:env.kindOf n=some .local:=by unfold Env.kindOf;rw[J];exact G
 refine ao h λp q h=>ji q λa0 u=>ao h λv' y h=>?_;rw[<-W2 y] at h;refine YA (qw (λo=>?_) R f ns M L D xc (.inl rfl) λo k d a hx t tk=>?_) rfl;.exact x7 T u o
 .refine(Xb rfl)▸?_
  rw[(mK<|u.symm.trans hx).2.1] at h;haveI k:=R.toks t;haveI f1:=f.extN<|(bc.refl eR b g).toks t;refine Yz (lC f1 Y λval d=>?_) j;exact(q9 k O h ⟨tk,rfl⟩ d).1 λw=>z _ (k.toks w)<|((bc.refl eR b g).toks t).toks w
theorem Cq {ix:Nat} {q3:Pos} (hx:aC F (eT F) D s ex e) (hi:F.nm i=n1) (hb:cY s n1) (J:fY ex=false)
  (hg:aZ s cn) (hmg:F.B.Ns mainGlobals mg) (hv:mg cn=some (.ref<|F.cls c)) (T:eX F<|F.cls c)
  (hn:∀y,F.nm y≠n) (hl:s.lookup n=some .local) (M:(n==("__debug__":Str))=false) (Y:F.nm ix=nx) (O:(nx==("__debug__":Str))=false):
  cC F (eT F) D s (.Try [.Assign [.Name n1 q1] ex q2] [.ExceptHandler (some<|.Name cn cp) (some n) [.Return (some<|.Compare (.Attribute (.Name n p1) bM p2) [.In] [.Name nx p3] p4) rp] hp] [] [] pos) (ny (ai (.loc i) e) c ix):=by
 subst hi;intro L G A N g H b d hA hf m R f;haveI k:=hx L G A N g H b d hA m R f
 refineλQ E P=>Z8<|YH<|YI (Kh λl h gQ gE=>?_)<|gu J
 replace P:bO F (eT F) _ _ b d Q E (((e L g H).bind λv H=>ue _ g v H).casesOn .ok (λe H=>tr g (pZ c e _ H) H) .no):=P;cases q:e L g H with
 |no=>rw[q] at P;exact P.elim
 |ok v H1=>rw[q] at k P;refine k _ _ λval s1 j o x V1=>gQ _ _<|Y0 (j8 (Xc:=eT F) o (f.extN x) m hb V1 (λw l=>∃h,aG F H1 h l/\bc _ s1 j l h/\FR F A N _ w l.heap h) _ λw l h p u t=>⟨h,p,u,t⟩) (λU l z=>?_) λU U z=>z;exact e7 z λh p u t=>YG<|YG<|P .next l h p ((x.weak tN).trans u) t
 |ex y H1=>rw[q] at k P;refine bO.ro P λr w P=>ao w λp h w=>ao w λv z w=>ji h λa0 ex=>?_;refine k _ _ λe1 s1 j fp o x l xc=>gE _ _ (FF hA hf.1 m o f x l xc ⟨_,_,_,ex⟩ hg hmg hv T hn hl hf.2 (F6 T m hl M Y O z<|by delta pZ;rw[h];exact w) λs' t u f'=>P _ s' j t u ⟨.ret rfl,λU e=>f'.heap e⟩)
theorem Gh (T:eX F<|F.cls c) (hs:env.scope.names=s) (hl:s.lookup n=some .local) (D:(n==("__debug__":Str))=false)
  (h:Mw c w.cps.toList y.cps.toList x=some r):wK F env n (.Compare (.Tuple [.Attribute (.Name n p1) bM p2,.Attribute (.Name n p3) aY p4] k1 p5) [.Eq] [.Tuple [.Constant (.str w) k2 p6,.Constant (.str y) k3 p7] k4 p8] p9) i H x r:=by
 intro A d g e fp m hu R f ns hm Y Q E hQ;have L:env.kindOf n=some .local:=by unfold Env.kindOf;rw[hs];exact hl
 haveI eS:∀z:Str,cv z.cps.toList=z:=λz=>by obtain⟨⟨l⟩⟩:=z;rfl
 refine ao h λp q h=>ji q λa0 v=>YA ?_ rfl;refine YE ?_;refine qL (bX _ _ _ rfl) ?_;refine YD<|qw (x7 T v) R f ns hm L D Y (.inl rfl) λc' kk dd l hx t tk=>?_;haveI R1:=R.toks t;haveI f1:=f.extN<|(bc.refl eR d g).toks t;haveI xc1:eT F x e fp {d with toks:=t}:=⟨Y.ex,Y.own⟩
 refine YD ?_;refine qw (x7 T v) R1 f1 ns hm L D xc1 (.inr rfl) λc'' kk' G aa' N j u=>?_;haveI j1:=mK<|v.symm.trans hx;haveI j2:=mK<|v.symm.trans N;rw[j1.2.1,j2.2.2] at h;refine qL (Xb rfl) (qL (Xd<|by decide) ?_);refine YC ⟨by rw[XI];simp,?_⟩;refine YE ?_;refine qL (bX _ _ _ rfl) ?_;refine YD<|Yy ?_;refine YD<|Yy ?_;refine YC ⟨by rw[XI];simp,?_⟩;generalize J:({cls:=.type "tuple",data:=.seq [Value.str _ tk,Value.str _ u].toArray}:Obj)=lo;generalize M:({cls:=.type "tuple",data:=.seq [Value.str w j,Value.str y<|j+1].toArray}:Obj)=ro;haveI k:∀b o,d.heap.get? b=some o->((d.heap.push lo).push ro).get? b=some o:=λb o z=>Yd _<|Yd _ z;haveI gl:((d.heap.push lo).push ro).get? d.heap.objs.size=some _:=Yd _ (by subst J;exact Ye _ rfl);haveI gr:((d.heap.push lo).push ro).get? (d.heap.push lo).objs.size=some (dH [Value.str w j,Value.str y<|j+1] 0):=by subst M;exact Ye _ rfl
 haveI vl:VR F.B _ g (.tup [.str kk,.str G]) _:=⟨_,_,0,rfl,gl,by simp,_,_,rfl,⟨tk,rfl⟩,_,_,rfl,⟨u,rfl⟩,rfl⟩
 haveI vr:VR F.B _ g (.tup [.str w.cps.toList,.str y.cps.toList]) _:=⟨_,_,0,rfl,gr,by simp,_,_,rfl,⟨j,by rw[eS]⟩,_,_,rfl,⟨j+1,by rw[eS]⟩,rfl⟩
 haveI O:=(j7 (s:={d with heap:=(d.heap.push lo).push ro,toks:=j+1+1}) Bj A _ _ r h _ _ (by show A.units+4<cLine;lia) vl vr).2.1;exact O F.prog F.w E Q<|hQ _ (R.grow (s':={d with heap:=(d.heap.push lo).push ro,toks:=j+1+1}) k)<|bc.grow eR g k rfl rfl rfl
theorem BY (hx:aC F (eT F) D s ex e) (u:fY ex=false)
  (hg:aZ s cn) (M:F.B.Ns mainGlobals mg) (hv:mg cn=some (.ref<|F.cls c)) (T:eX F<|F.cls c)
  (hn:∀y,F.nm y≠n) (hl:s.lookup n=some .local) (z:(n==("__debug__":Str))=false):
  cC F (eT F) D s (.Try [.Expr ex q2] [.ExceptHandler (some<|.Name cn cp) (some n) [.Return (some<|.Compare (.Tuple [.Attribute (.Name n p1) bM p2,.Attribute (.Name n p3) aY p4] k1 p5) [.Eq] [.Tuple [.Constant (.str u1) k2 p6,.Constant (.str u2) k3 p7] k4 p8] p9) rp] hp] [] [] pos)
   (nj (aM e) c u1.cps.toList u2.cps.toList):=by
 intro L o A N h H d g hA hf O R f;have k:=hx L o A N h H d g hA O R f;haveI J:interactive N=false:=by unfold interactive;rw[f.kind];rfl
 refineλQ E P=>Z8<|YH<|wpAny_Expr (Kh λb E1 gQ gE=>?_) J<|gu u
 replace P:bO F (eT F) _ _ d g Q E ((aM e L h H).casesOn .ok (λe H=>tr h _ H) .no):=P;delta aM at P;cases q:e L h H with
 |no=>rw[q] at P;exact P.elim
 |ok v H1=>
  rw[q] at k P;refine k _ _ λp Y j m x l=>gQ _ _ ?_;have G:bO F (eT F) (FA N) (FR F A N) d g Q E (.ok (Fl.next,h) H1)->∀{E1},wpAny (MF F) A (execs [] N) (λf b=>match f with|.next=>wpAny (MF F) A (execs [] N) Q E b|f=>Q f b) E1 Y:=λP {_}=>YG (YG<|P .next Y j m (x.weak tN) ⟨.next,λU e=>(f.extN x).heap e⟩);cases v with
  |non=>rw[l];exact G P
  |bool b=>rw[l];exact G P
  |int i=>exact l.elim λt e=>by rw[e];exact G P
  |str i=>exact l.elim λt e=>by rw[e];exact G P
  |_=>exact P.elim
 |ex y H1=>rw[q] at k P;refine bO.ro P λr w P=>ao w λp G U=>ji G λa0 ex=>k _ _ λe1 Y j fp m x b xc=>gE _ _<|FF hA hf.1 O m f x b xc ⟨_,_,_,ex⟩ hg M hv T hn hl hf.2 (Gh T O hl z w) λs' l t v=>P _ s' j l t ⟨.ret rfl,λU e=>v.heap e⟩
end
theorem uZ {E:Value->Shared->Prop} {n:Nat} (G:A.handled=none) (q:IsRange s.heap r a b c t u v) (x:Builtin.Range.small a b c)
  (N:Builtin.Range.rangeSize a b c=n) (L:n<=2^24)
  (z:∀H k d,(∀b O,s.heap.get? b=some O->H.get? b=some O)->ItemsOf (λi v=>∃t,v=.int (a+i*c) t) d n->Q d.toList {s with heap:=H,toks:=k}):
  wpAny (model prog w) A (collect<|.ref r) Q E s:=by
 refine Yk<|wpAny_runValue<|YT PySem.F.entry_proto_collect ?_;refine Yk<|ZM ?_;refine Ym ⟨plainId_quiet PySem.F.plain_list_iadd _,YT PySem.F.entry_list_iadd ?_⟩;haveI D:(s.heap.push {cls:=.type "list",data:=.seq ([]).toArray}).get? s.heap.objs.size=some {cls:=.type "list",data:=.seq #[] 0}:=Ye _ rfl;haveI l:∀(H:Heap) (k:Nat) (d:Array Value) (j:Nat),(∀b o,s.heap.get? b=some o->H.get? b=some o)->H.get? s.heap.objs.size=some {cls:=.type "list",dict:=none,data:=.seq d j,slots:=#[]}->ItemsOf (λi v=>∃t,v=.int _ t) d n->
   wpAny (model prog w) A (match Value.ref s.heap.objs.size with
   |Value.ref a=>do
    match(<-load a).data with
     |Data.seq f _=>pure f.toList
     |_=>unsupported "internal:collect"
   |_=>unsupported "internal:collect") Q E {s with heap:=H,toks:=k}:=by
  refineλH k d j p g m=>Yk<|wpAny_load g ?_
  exact Ym<|z H k d p m
 refine Y0 (wpAny_extend_range (R:=λr y=>r=.ok _/\∃H k d j,y={s with heap:=H,toks:=k}/\(∀b o,s.heap.get? b=some o->H.get? b=some o)/\H.get? s.heap.objs.size=some {cls:=.type "list",dict:=none,data:=.seq d j,slots:=#[]}/\ItemsOf (λi v=>∃t,v=.int (a+i*c) t) d n)
  G (Yd _ q) x N L s.heap.objs.size _ 0 D λH k d j p g m=>⟨rfl,H,k,d,j,rfl,λb o e=>p b o (Xe<|XN e)<|Yd _ e,g,m⟩) (λfin y h=>?_) (λe y h=>?_)
 .induction fin with
  |done f=>obtain⟨e,H,k,d,j,rfl,p,g,m⟩:=h;cases e;exact l H k d j p g m
  |again j=>exact⟨h.1,Zh h.2 λr f q=>by obtain⟨rfl,H,k,d,j,rfl,p,g,m⟩:=q;exact l H k d j p g m⟩
 .exact absurd h.1 (by simp)
theorem oz (r:Addr) (a b c:Int) (t u v:Tok) (n:Nat) (k:Builtin.Range.small a b c) (N:Builtin.Range.rangeSize a b c=n) (H:n<=100000):
  Meets (Builtin.«tuple.__new__» ⟨[.type "tuple",.ref r],[]⟩)
   (λA R s=>A.handled=none/\s.heap.get? r=some ⟨.type "range",none,.fields #[.int a t,.int b u,.int c v],#[]⟩/\∀(f:Heap) m e,(∀b O,s.heap.get? b=some O->f.get? b=some O)->ItemsOf (λi v=>∃t,v=.int (a+i*c) t) e n->
    R (.ok<|.ret<|.ref f.objs.size) {s with heap:=f.push {cls:=.type "tuple",data:=.seq e},toks:=m}):=
 .of_wp λprog w A R s h=>by
  obtain⟨D,g,d,m,os⟩:=s;refine kh h λy l h=>?_;haveI q:=sub_tuple_self;haveI j:=init_tuple_lookup;haveI M:=madeHere_tuple;haveI x:Shared.TypeIs ⟨D,g,d,m,os⟩ (.ref r) "range":=⟨_,l,rfl⟩
  wp_walk using PySem.AutoSeq1.wpAny_loadPart' l,wpAny_typeOf x,uZ (A:=A.in1)  y  l k N (Wk H<|by decide);intro f o e z p;show wpAny _ _ (Builtin.Tuple.tupleExact e.toList.toArray>>=λv=>ret v) _ _ _;refine Yk (ZM ?_<|by show e.size<=sizeLine;rw[p.1];exact Wk H<|by decide);refine Ym ⟨_,rfl,?_⟩;exact h f o e z p
theorem Bv {E:Value->Shared->Prop} {r:Addr} {t u:Tok} {n:Nat} (f:A.handled=none) (m:s.heap.get? r=some ⟨.type "range",none,.fields #[.int a t,.int b u,.int c v],#[]⟩) (e:Builtin.Range.small a b c) (N:Builtin.Range.rangeSize a b c=n) (l:n<=100000)
  (h:∀(H:Heap) k d,(∀b o,s.heap.get? b=some o->H.get? b=some o)->ItemsOf (λi v=>∃t,v=.int (a+i*c) t) d n->Q (.ref H.objs.size) {s with heap:=H.push {cls:=.type "tuple",data:=.seq d},toks:=k}):
  wpAny (MF F) A (call (.type "tuple") [.ref r]) Q E s:=
 callType_new PySem.F.called_tuple rfl (PySem.F.typeCall_tuple_1 _) (PySem.F.newCall_tuple_1 _) (λobj=>PySem.F.args_object_init_2 obj _) PySem.F.entry_tuple_new
  (oz r a b c t u v n e N l) ⟨f,m,λH k d j g=>⟨⟨_,Ye _ rfl,rfl⟩,h H k d j g⟩⟩
theorem Fv:rA F Xc D .tuple:=by
 refineλn p H s d A M R Y=>am.ro λv e=>am.ro λl h=>?_
 rw[ml e id] at Y;refine aI (cI Y) λw G x=>?_;refine G▸?_;refine Jg h (λh=>Au R h x) λa b c y L=>?_;rw[y] at x;refine qL L ?_;refine O2 x λr t u z q g k=>?_;refine q▸?_;refine am.cnd λho=>?_;haveI m:=dI ho;rw[jw] at m;refine am.obj R λQ E N=>Bv M.handled g (m6 k) (my k) (WO m) λJ tk f hk i=>N _ _ tk (λb o e=>Yd _<|hk b o e) ⟨_,f.toList,0,rfl,Ye J rfl,by rw[ZI,i.1];exact WO m,?_⟩;exact mY c _ a _ (qL ZI<|qL i.1 rfl) λj v O=>i.2 j v<|(ZJ)▸O
theorem tf (q:one A=some v) (Y:aX B h b A c):∃w,c=[w]/\VR B h b v w:=by rw[ml q id] at Y;exact cI Y
theorem KD:rA F i D .max:=λc v H s b A g R Y=>am.lift λr h=>ao h λp e h=>by rw[Jo e id] at Y;exact du Y λj w d x Y=>aI (cI Y) λk f y=>by rw[d,f];exact xD g.handled R x y h
theorem KX:rA F j D .min:=λc d H s b A i R Y=>am.lift λr h=>ao h λv e h=>ao h λl q h=>aI (tf e Y) λw f x=>rQ q λn N g=>by rw[N] at x;subst f;exact C4 R i.handled g x h
theorem si (x:Int):∀l:List Int,(ub x l).Perm (x::l):=by
 intro z;induction z with
 |nil=>exact .refl _
 |cons y l i=>
  show(cond _ _<|y::ub x l).Perm _;cases iH x y with
  |true=>exact .refl _
  |false=>exact((i).cons y).trans<|.swap x y l
theorem qD:∀l:List Int,(jT l).Perm l:=by
 intro z;induction z with
 |nil=>exact .refl _
 |cons x l i=>exact(si x<|jT l).trans<|(i).cons x
theorem vJ (x:Int):∀l:List Int,l.Pairwise (·<=·)->(ub x l).Pairwise (·<=·):=by
 intro b;induction b with
 |nil=>exactλU=>List.pairwise_singleton _ x
 |cons y l i=>
  intro h;show(cond _ _<|y::ub x l).Pairwise _;obtain⟨c,d⟩:=List.pairwise_cons.mp h;rw[il];by_cases q:x<y
  .rw[Xh q]
   exact List.pairwise_cons.mpr ⟨λz H=>(VO H).elim (λe=>e▸WB q) λH=>Wy (WB q)<|c z H,h⟩
  .rw[Xa q]
   exact List.pairwise_cons.mpr ⟨λz H=>(VO<|(si x l).mem_iff.mp H).elim (λe=>e▸Int.not_lt.mp q)<|c z,i d⟩
theorem tK:∀l:List Int,(jT l).Pairwise (·<=·):=by
 intro z;induction z with
 |nil=>exact .nil
 |cons x l i=>exact vJ x _  i
theorem tZ (p:n.Perm N) (s:n.Pairwise (·<=·)):n=jT N:=
 List.Perm.eq_of_pairwise (λU U U U h H=>ZL h H) s (tK N) (p.trans (qD N).symm)
theorem uw (q:IntsAre vs N):aX B h b (N.map V.int) vs:=by
 induction q with
 |nil=>rfl
 |cons n t x i=>exact vK _ _ rfl ⟨t,rfl⟩ i
theorem uC (q:cG l=some n) (x:aX B h b l vs):IntsAre vs n:=uX n<|jP _ _ q▸x
theorem uG
  (d:∀(A:Around) (R:List Value->Shared->Prop) (E:Value->Shared->Prop),A.handled=none->(∀h t v,(∀b o,s.heap.get? b=some o->h.get? b=some o)->IntsAre v n->R v {s with heap:=h,toks:=t})->wpAny (MF F) A (collect<|.ref r) R E s)
  (y:A.handled=none) (f:n.length<64) {E:Value->Shared->Prop}
  (x:∀b h t v c,(∀b o,s.heap.get? b=some o->h.get? b=some o)->s.heap.get? b=none->h.get? b=some (bL v c)->IntsAre v (jT n)->Q (.ref b) {s with heap:=h,toks:=t}):
  wpAny (MF F) A (call (.builtin "sorted") [.ref r]) Q E s:=by
 refine Calls.call_function_entry kind_sorted plain_sorted entry_sorted (args_sorted1 _) ?_;refine Yk<|Ym ?_;refine Yk<|d _ _ _ y λH t v k i=>?_;haveI L:v.length<64:=by exact i.length▸f
 refine Yk (Z9 ?_<|XI▸(WO<|WR ‹_›<|by decide));haveI G:(H.push<|seqObj "list" v.toArray 0).get? H.objs.size=some _:=Ye _ rfl;haveI N:s.heap.get? H.objs.size=none:=by
  cases q:s.heap.get? H.objs.size with
  |none=>rfl
  |some o=>exact((XM _)<|XN<|k _ _ q).elim
 refine Yk<|YS<|a0a slot_list_sort ⟨_,G,rfl⟩ a0b (list_sort_tree G i L λout z m p u=>⟨_,rfl,?_⟩)<|args_list_sort _;obtain⟨c,w⟩:=sortedHeap_at (out:=out) G;haveI e:=tZ p u;subst e;refine Ym ⟨_,rfl,x H.objs.size _ t out.toList c (λb o g=>?_) N (by simpa using w) m⟩;haveI j:=k b o g;haveI l:=XN j;refine qL (sortedHeap_old (Xe l)<|by simp only [size_push'];exact W0 l) ?_;exact Yd _ j
theorem Aq:∀(k:List<|Int×Value) {l:List<|V×V},dY F xS.enc h b k l->cG (l.map (·.1))=some (k.map (·.1)):=by
 intro c;induction c with
 |nil=>intro _ x;cases x;rfl
 |cons p k i=>exact@λU x=>du x λv m e U z=>by exact e▸(Wh<|Option.map _) (i z)
theorem GM:∀(s:List Value) (N:List Int),s.length=N.length->(∀(j:Nat) (v:Value),s[j]?=some v->∃k t,v=Value.int k t/\N[j]?=some k)->IntsAre s N:=by
 intro z;induction z with
 |nil=>intro N h _;exact(List.length_eq_zero_iff.mp h.symm)▸.nil
 |cons v s i=>
  intro N h H;induction N with
  |nil=>cases h
  |cons n N=>
  refine oi (H 0 v rfl) λk t b e=>?_;refine qL b<|qR (W2 e) ?_;exact .cons _ t<|i N (Nat.succ.inj h) λj w J=>H (j+1) w J
theorem En (x:Int):∀l:List Int,xg x l=l.any (·==x):=by
 intro z;induction z with
 |nil=>exact rfl
 |cons a l i=>show cond _ true (xg x l)=_;simp only [eI,i,Xv];by_cases h:a=x<;>simp[h]
theorem pS:∀(l A:List Int),lL l A=l.foldl step_dedup A
 |[],_=>rfl
 |x::l,A=>by show cond _ (lL l A) (lL l _)=(x::l).foldl step_dedup A;simp only [En,Yf,pS];delta step_dedup;cases A.any _<;>rfl
theorem pL (n:List Int):firstMet (λi=>n.getD i 0) n.length=lL n []:=by
 simp only [pS];delta firstMet
 congr 1
 refine List.ext_getElem? λi=>?_;refine qL  a0c  ?_;by_cases h:i<n.length;.simp only [List.getElem?_range h];simp[List.getD,h]
 .rw[a0d<|by simpa using h,a0d<|by simpa using h];rfl
theorem L4:rA F Xc D .set:=by
 intro r y H s c A hA R Y;refine am.ro λns h=>ao h λv e h=>ao h λl q N=>am.cnd λm=>aI (tf e Y) λw M x=>rQ q λn J g=>?_;haveI m:=iA m;rw[J] at x;subst M;refine rq (R.lst g x) λa vs k G U O U Z=>?_;refine qL G ?_;haveI p:=uC N Z;haveI hl:=p.length;refine am.cell R λQ E hQ=>call_set_list hA.handled ⟨_,O,rfl,k,rfl⟩ p (by rw[XS];exact Xk (a0e<|ED ‹_›<|by assumption)<|by decide) λh' tk hS hk=>?_;refine hQ _ h' tk (λb o e=>hk b o (XN e) e) (bh _) ?_;obtain⟨⟨o,b,odt,os⟩,d,L,t,go,⟨f,i,j⟩,u,_,_,hb,hf,z⟩:=hS;dsimp only at f i j u;subst f i j u;haveI z:d.size=(lL ns []).length:=by rw[<-pL,<-hl];exact z
 exact Do d L t go (by rw[z,XK]) (by rw[XK,<-z];exact WO<|WR hb<|by decide) hf
noncomputable def NT (F:Fx) (s:Shared) (r:Addr) (n:List Int):Prop:=∀(A:Around) (R:List Value->Shared->Prop) (E:Value->Shared->Prop),A.handled=none->(∀h t v,(∀b o,s.heap.get? b=some o->h.get? b=some o)->IntsAre v n->R v {s with heap:=h,toks:=t})->wpAny (MF F) A (collect<|.ref r) R E s
theorem Dd (R:aG F H b s) (h:CW H v=some M) (f:M.length<64) (x:VR F.B s.heap b v w):∃r,w=.ref r/\NT F s r M:=by
 refine jU h (λU U=>dJ) (λU U=>dJ) (λl L N=>?_) λn O h=>ao h λc hg h=>ao h λl L N=>?_
 .rw[L] at x
  exact mQ x λa j n u g d Z=>⟨a,u,λA R E U h=>a0f a (.inr rfl) g rfl rfl (λy D=>h y s.toks j D<|uC N Z)<|XS▸(Wk d<|by decide)⟩
 .rw[O] at x
  refine e7 (R.at' hg x) λa u Q J=>⟨a,u,λA m E hh h=>?_⟩
  rw[Mg L] at J;refine aI (DR.int (k:=0) J λp m e q=>?_) λG Y hK=>?_
  .subst e
   exact ao (o:=p.1.int?) N λi m U=>by rw[bF m] at q;exact TF rfl q
  have e:=W2<|N.symm.trans<|Aq G hK;rw[e] at f h;obtain⟨m,z⟩:=Y.dictAt;refine kdu_collect (kdl_dict<|R.not_sys Q) hh z (by rw[XK] at f;exact WO<|WR f<|by decide) λy tk g D d=>?_;refine h y tk g.toList D (GM _ _ (by simp only [ZI,d.1,XK]) λj v hv=>?_);refine oi (d.2 j v<|(ZJ)▸hv) λk x hx hi=>?_;obtain⟨t,rfl⟩:=Value.isInt_shape hi;exact yu k t rfl (by simp only [a0c,hx];rfl)
theorem Aw:rA F G D .sorted:=by intro j l H s d A p R Y;refine am.ro λu h=>ao h λv e h=>am.cnd λf=>am.cnd λO=>aI (tf e Y) λw n x=>?_;have f:=iA f;refine aI (Dd R h f x) λr m i=>?_;refine qL n<|qL m ?_;refine am.cell R λQ E q=>uG i p.handled f λb o y z c t N g k=>?_;exact q b o y t N ⟨z,c,g,by rw[k.length,(qD u).length_eq];exact WO<|WR f<|by decide,uw k⟩
section
structure zj (F:Fx) (mk:List V->Option aB) (d:Addr) (l:List V) (s:Shared) (ρ:cJ):Prop where
 B:F.B.get? d=none
 out:∀n,ρ n≠some d
 cell:∃c,mk l=some c/\CR F s.heap ρ d c
variable {mk:List V->Option aB}
theorem zj.obj (x:zj F mk d l s j):∃o,s.heap.get? d=some o/\¬bv o/\cx o/\¬n6 o:=aI x.cell λc U h=>h.obj2
theorem zj.ext (x:zj F mk d l s j) (e:bc X s j u p) (h:¬X d):zj F mk d l u p:=by
 refine uj x.obj λo g st N y=>aI x.cell λc r C=>⟨x.B,λn q=>(e.fresh n d q).elim (x.out n) λz=>TF g z,c,r,C.keep F (λO G=>?_) e.still e.le⟩
 refine(iF g G)▸?_;rcases e.keep d o g x.out with q|⟨O,q,l⟩;.contradiction
 .rcases l with rfl|⟨f,_⟩
  .exact q
  .contradiction
theorem D9.ne_acc (x:jC F v j i s h) (a:zj F mk d l s h):j≠d:=by intro e;subst e;exact uj a.obj λo g U N U=>oi x.fields λO p G D=>x.notNone g<|N p<|iF g G▸D
noncomputable def bY (F:Fx) (i:V->Value->List Addr->Shared->Prop) (D:Nat) (j:aS) (mk:List V->Option aB) (r:Around->Env->Addr->r6 Unit) (c:Cs):Prop:=
 ∀L,bP F i L D->∀A n e H s b d l,kJ A D->n.scope.names=j->aG F H b s->cz F A n e b s->¬FA n d->zj F mk d l s b->
  ∀x h,c L e H=.ok x h->mk (l++x)≠none->∀Q E,(∀g f,aG F h f g->bc (λa=>a=n.locals\/a=d) s b g f->cz F A n e f g->zj F mk d (l++x) g f->Q () g)->r A n d Q E s
noncomputable abbrev GK (i:List Expr) (e:Env):Sem Bool:=forIn i true λc r=>if r=true then do let o<-isTrue c e (eval c e);pure (ForInStep.yield o) else pure (ForInStep.yield r)
def fJ (F:Fx) (i:List Expr) (r:Around->Env->Addr->r6 Unit):Around->Env->Addr->r6 Unit:=λA e d Q E s=>wpAny (MF F) A (GK i e) (λo s=>if o=true then r A e d Q E s else Q () s) E s
theorem Kd (h:bY F x D t mk r c):bY F x D t mk (fJ F [] r) c:=by intro L m A n g H s b d l j p R f o k u i e M Q E q;exact wpAny_tests_nil<|h L m A n g H s b d l j p R f o k u i e M Q E q
theorem RN (ht:lr F u D M x t) (h:bY F u D M mk r c):bY F u D M mk (fJ F [x] r) (l9 t c):=by
 intro L z A n i H s g d l w G R f hd y xs N e hm Q E q;refine wpAny_tests_one<|gK e λb O e1 v=>?_;haveI k:=ht L z A n i H s g w G R f;simp only [e1] at k;refine k _ _ λb' J m p j V1=>?_;subst V1;induction b with
 |true=>refine h L z A n i O J m d l w G p (f.extN j) hd (y.ext j id) xs N v hm Q E λs2 o Y X2 f2 a2=>q s2 o Y ((j.weak tN).trans X2) f2 a2
 |false=>cases v;rw[Ya] at q;exact q J m p (j.weak tN) (f.extN j)<|y.ext j id
def mG (F:Fx) (e:Expr):Around->Env->Addr->r6 Unit:=λA n d Q E s=>wpAny (MF F) A (eval e n) (λx s=>wpAny (MF F) A (call (.builtin "list.append") [.ref d,x]) (λU s=>Q () s) E s) E s
theorem gI (h:cZ l=some c):c=.lst l/\l.length<100000:=cg h λq h=>⟨(W2 h).symm,dI q⟩
theorem uT (h:l.length<100000):cZ l=some (.lst l):=by delta cZ jE;rw[vm,Xh h];rfl
theorem mN (R:aG F H c s) (i:F.B.get? d=none) (j:∀n,c n≠some d) (g:s.heap.get? d=some o) (st:¬bv o) (G:f.get? d=some O) (l:cx O) (r:n6 o->n6 O) (k:∀b ob,b≠d->s.heap.get? b=some ob->f.get? b=some ob):
  aG F H c {s with heap:=f,toks:=t}/\bc (λa=>a=d) s c {s with heap:=f,toks:=t} c:=by
 haveI h:∀b ob,s.heap.get? b=some ob->bv ob->f.get? b=some ob:=λb ob e z=>k b ob (λq=>by subst q;obtain rfl:=W2<|g.symm.trans e;exact st z) e;refine⟨R.other (λa=>a=d) (λb ob e N=>k b ob N e) (λa e=>by subst e;exact⟨i,j⟩) h,λU U e=>e,λU U e=>.inl e,λb ob e U=>?_,h,λb ob e=>?_,rfl,rfl,rfl⟩
 .by_cases q:b=d
  .exact .inl q
  .exact .inr ⟨ob,k b ob q e,.refl ob⟩
 .by_cases q:b=d
  .subst q;obtain rfl:=W2<|g.symm.trans e;exact jy O G (λU=>l) r
  .exact jy ob (k b ob q e) id id
theorem JN (he:aC F J D sc p e):bY F J D sc cZ (mG F p) (cr e):=by
 refineλM hc A N h H s b d l hA hs R f hd ha xs H' O hm Q E hQ=>gK O λv H1 Y e2=>?_
 cases e2;haveI k:=he M hc A N h H s b hA hs R f;simp only [Y] at k;refine k _ _ λi s1 t u o y=>?_;have j:=ha.ext o id;refine aI j.cell λc r C=>?_;obtain⟨rfl,z⟩:=gI r;refine du C λm n g U Z=>?_;cases q:cZ _ with
 |none=>contradiction
 |some z=>
 obtain⟨rfl,L⟩:=gI q;refine Yi Zl ⟨_,g,rfl⟩ Zm (Zn _ _) (AutoListH.list_append_list_val_0 d m.toArray n i<|by simp only [XS];exact Wk ‹_›<|by decide) ⟨g,?_⟩;obtain⟨n',G⟩:=iX g (·.push i) (show m.toArray.push i=(m++[i]).toArray by simp);obtain⟨w,x⟩:=mN u j.B j.out g (bZ (by simp) (by simp)<|by simp) G (λU e=>by cases e) (λz=>by haveI:=z.1;simp at this) dR;refine hQ _ t w ((o.weak tN).trans<|x.weak λa e=>.inr e) ((f.extN o).ext x λa z e=>by subst e;exact hd z) ⟨j.B,j.out,_,uT L,m++[i],n',G,?_,?_⟩;.simp only [Yb,Z.length];rw[Yb] at L;assumption
 .exact aX.append _ (x.monos Z)<|aX.one<|x.mono y
theorem nJ:∀{s:List Nat},pE b s->x∈s->look b x=none
 |y::s,h,H=>by
  replace h:((look b y).casesOn (pE b s) λU=>false)=true:=h;cases q:look b y with
  |some v=>rw[q] at h;exact sB rfl h
  |none=>rw[q] at h;exact(VO H).elim (λe=>e▸q)<|nJ h
theorem sG:∀(s:List Nat) (d:List V) {b c:Sg},IK b s d=some c->(∀x∈s,x≠y)->look b y=some u->look c y=some u
 |[],[],b,c,h,_,e=>W2 h▸e
 |[],_::_,_,_,h,_,_=>dj rfl h
 |_::_,[],_,_,h,_,_=>dj rfl h
 |x::s,v::d,b,c,h,H,e=>sG s d h (λz f=>H z<|.tail _ f) (by rw[dw,Xd<|H x<|.head _];exact e)
theorem CQ (f:fE b t) (h:cU b t v=some c):∀y u,look b y=some u->look c y=some u:=by
 intro y u e;have n:∀s,pE b s=true->∀x∈s,x≠y:=λs H x d q=>TF (q▸e)<|nJ H d;induction t with
 |loc x=>rw[<-W2 h,dw,Xd<|n [x] f x<|.head _];exact e
 |tup s=>exact ao h λg U h=>sG s g h (n s f) e
theorem cz.narrow (f:cz F A env q j s) (h:∀y u,Internal.look p y=some u->Internal.look q y=some u):cz F A env p j s:=by exact aI f.vars λm N r=>⟨f.kind,f.globals,f.builtins,f.code,⟨m,N,λx v e=>r x v<|h x v e⟩,f.own,f.bound,f.cells,f.apart,f.stk⟩
noncomputable def dA (F:Fx) (e:Expr) (k:Nat) (G:Expr) (g:Around->Env->Addr->r6 Unit):Prop:=
 ∀(A:Around) (R:Result->Shared->Prop) (t:Value) (d:Addr) (N:Env) (I:Nat->Shared->Prop),
  (∀n s,I n s->wpAny (MF F) A (pyNext t) (λr b=>match r with
   |none=>R (.ok .next) b
   |some v=>wpAny (MF F) A (letOwnedTupleGo G t v) (λU f=>wpAny (MF F) A (assign G N v) (λU h=>g A N d (λU i=>∃m,m<n/\I m i) (notedBy (MF F) A N λe c=>R (.error e) c) h) (notedBy (MF F) A N λe c=>R (.error e) c) f) (notedBy (MF F) A N λe c=>R (.error e) c) b) (notedBy (MF F) A N λe c=>R (.error e) c) s)->
  ∀n s,I n s->codeAny (MF F) A (.compLoop e k t (.ref d) N) R s
noncomputable def iE (s:aS) (n:Str):Bool:=match s.lookup n with|some .local=>true|_=>false
theorem Ky (H:env.scope.names=d):∀n,iE d n->(∀c s,cz F A env c b s->rW env n)/\∀a,LA env n a->a=env.locals:=by
 intro n h;have e:env.kindOf n=some .local:=by
  unfold Env.kindOf;rw[H];delta iE at h;cases q:d.lookup n with
  |none=>rw[q] at h;cases h
  |some k=>rw[q] at h;cases k<;>first|rfl|cases h
 exact⟨λU U U=>.inl e,λa h=>h.2 e⟩
theorem qz {E:Value->Shared->Prop} (x:jC F v t i s b) (h:Q (.ref t) s):wpAny (MF F) A (pyIter<|.ref t) Q E s:=by
 induction x with
 |tup _ _ I=>exact wpAny_pyIter_tupleiter I h
 |ref _ I=>exact wpAny_pyIter_listiter I h
 |rng _ I=>exact wpAny_pyIter_rangeiter I h
inductive IZ (F:Fx) (A:Around) (env:Env) (t:PT) (c:Cs) (v:V) (cl:Cl) (σ:Sg) (it d:Addr) (mk:List V->Option aB) (l xs:List V) (H':Hp) (s0:Shared) (ρ0:cJ) (n:Nat) (s1:Shared):Prop where
 |mk {H1:Hp} {ρ1:cJ} {i:Nat} {ys zs:List V} (R1:aG F H1 ρ1 s1) (f1:cz F A env σ ρ1 s1) (X1:bc (λa=>a=env.locals\/a=d) s0 ρ0 s1 ρ1) (I1:jC F v it i s1 ρ1) (hr:∀n,ρ1 n≠some it) (a1:zj F mk d (l++ys) s1 ρ1)
  (e1:dW t c v cl σ n i H1=.ok zs H') (ez:ys++zs=xs):IZ F A env t c v cl σ it d mk l xs H' s0 ρ0 n s1
theorem qg (y:dA F e k tg O) (hb:bY F Xc D sc mk O c) (htg:eG F (iE sc) tg t) (hmk:∀l Y,mk (l++Y)≠none->mk l≠none)
  (hc:bP F Xc cl D) (hA:kJ A D) (hs:env.scope.names=sc) (R:aG F H j s) (f:cz F A env m j s) (hd:¬FA env d) (ha:zj F mk d l s j)
  (I:jC F v w 0 s j) (hB:F.B.get? w=none) (hr:∀n,j n≠some w) (X0:bc (λa=>a=env.locals\/a=d) s0 ρ0 s j) (h0:s0.heap.get? w=none) (hfr:fE m t) (he:dW t c v cl m cS 0 H=.ok Y H') (hm:mk (l++Y)≠none)
  (hQ:∀Q p,aG F H' p Q->bc (λa=>a=env.locals\/a=d) s0 ρ0 Q p->cz F A env m p Q->zj F mk d (l++Y) Q p->RR (.ok .next) Q):
  codeAny (MF F) A (.compLoop e k (.ref w) (.ref d) env) RR s:=by
 refine y A RR _ d env (IZ F A env t c v cl m w d mk l Y H' s0 ρ0) (λn b h=>?_) cS s (.mk R f X0 I hr (by rw[Ya];exact ha) he rfl);clear R f X0 I hr ha he;obtain@⟨H1,ρ1,i,b,z,R1,f1,X1,u,r,L,e1,ez⟩:=h;cases n with
 |zero=>cases e1
 |succ n=>
  refine HV e1 λo q J=>?_;haveI nY:=u.ne_acc L;refine pB R1 hA.handled u q (λx ho b h1 t1 sb hv I2=>?_) λho h1 M=>?_
  .rw[ho] at J
   refine HV J λσ2 q3 J=>gK J λas H3 e3 e4=>gK e4 λbs H4 e5 e6=>?_;cases e6;refine oi I2.fields λof vs G df=>?_;obtain⟨R2,x⟩:=yT R1 u hB r (t:=t1) sb.extBut ⟨of,G⟩;have f2:=f1.ext x λa fa e=>by subst e;exact u.notFA f1 fa
   refine let_go I2<|kO hA.handled (Ky hs) htg q3 R2 f2 (x.mono hv) λs3 R3 X3 f3=>?_;have hL:d≠env.locals:=λe=>hd<|.inl e;have b:w≠env.locals:=λe=>I2.notFA f2<|.inl e;have I3:=I2.ext X3 b r;have N:=(X1.transH x λa e=>.inr<|by subst e;exact h0).trans<|X3.weak λa e=>.inl e;refine hb cl hc A env σ2 H1 s3 ρ1 d _ hA hs R3 f3 hd ((L.ext x λe=>nY e.symm).ext X3 hL) as H3 e3 (λz=>hmk _ bs (by rw[Yg,Yg,ez];exact hm) z) _ _ λs4 ρ4 R4 X4 f4 a4=>?_;haveI hr4:∀n,ρ4 n≠some w:=λn e=>(X4.fresh n w e).elim (r n) λz=>oi I3.fields λob vs g U=>dj z g;exact⟨n,W1 n,.mk R4 (f4.narrow<|CQ hfr q3) (N.trans X4) (I3.ext X4 (λz=>z.elim b nY) r) hr4 (by rw[<-Yg];exact a4) e5<|by rw[Yg];exact ez⟩
  .simp only [ho] at J
   cases J;rw[Ya] at ez;refine oi u.fields λof vs G df=>?_;have N:=u.notStill of G;replace hQ:=ez▸hQ;refine hQ _ ρ1 (R1.but u hB r M) (X1.but h0 G M) (f1.but G N (u.notNone G) df M)<|aI L.cell λc2 g x=>?_;exact⟨L.B,L.out,c2,g,x.keep F (λo' b=>M _ _ nY.symm b) (λb ob e st=>M _ _ (λz=>N<|iF (z▸e) G▸st) e) λU U e=>e⟩
end
theorem Dz:dA F (.ListComp l [⟨G,iter,i,0⟩] j q) 0 G (fJ F i<|mG F l):=by
 refineλA R p d N I t n s h=>a0g rfl I (λn s o=>?_) n h
 show wpAny _ A ((compTurn _ 0 p _ N).onRaise  λx=>do noteFrame x N;theTreesLotGoes x) _ _ s;refine a0h ?_;rw[compTurn_list];refine Yk<|Y1<|Yk<|Y0 (t n s o) (λr c b=>?_) λU U H=>H;induction r with
 |none=>exact Ym b
 |some v=>
  refine Yk<|Y0 b (λU f e=>?_) λU U H=>H;refine Yk<|Y0 e (λU g f=>Yk<|Y0 f (λO k c=>?_) λU U H=>H) λU U H=>H;induction O with
  |false=>exact Ym ⟨rfl,c⟩
  |true=>exact Yk<|Yk<|Y0 c (λx k f=>Yk<|Y0 f (λU m g=>Ym<|Ym ⟨rfl,g⟩) λU U H=>H) λU U H=>H
noncomputable def dN (F:Fx) (e:Expr) (k:Nat):Prop:=∀(A:Around) (R:Result->Shared->Prop) (i:Value) (d:Addr) (n:Env) (s:Shared),
 codeAny (MF F) A (.compLoop e k i (.ref d) n) R s->wpAny (MF F) A (pyIter i) (λt b=>codeAny (MF F) A (.compLoop e k t (.ref d) n) R b) (notedBy (MF F) A n λx b=>R (.error x) b) s->
  codeAny (MF F) A (.compStart e k i (.ref d) n) R s
theorem sy:dN F (.ListComp e (⟨t,iter,i,0⟩::r) s p) 0:=
 λU U U U U U h0 h=>codeAny_compStart_list h0 h
theorem Bf:dN F (.ListComp e [⟨k,iter,b,0⟩,⟨G,t,f,0⟩] c p) 1:=by
 refineλA R j d n s h0 h=>Z1 ?_
 refine wpAny_notedAt<|Yk<|Yl<|wpAny_ite ?_;split
 .first
   |exact Yk<|Ym<|Ym<|And.intro rfl h0
   |exact Ym _
 .first
   |exact Yk<|a0i<|Yk<|Y1<|Yk<|Y0 h (λi g H=>Ym<|And.intro rfl H) λU U x=>x
   |(refine Yk<|a0i ?_;show wpAny _ _ _ _ _ s;exact Yk<|Y1<|Yk<|Y0 h (λi g H=>Ym _) λU U x=>x)
theorem ru (l g iter t i:Expr) (b f:List Expr) (s:Scope) (p:Pos) (d A:Value) (e:Env):
  compTurn (.ListComp l [⟨g,iter,b,0⟩,⟨t,i,f,0⟩] s p) 1 d A e=(do
   standAt i.pos
   match<-pyNext d with
   |none=>pure<|.done .next
   |some v=>
    letOwnedTupleGo t d v
    assign t e v
    let mut o:=true
    for c in f do
     if o then o<-isTrue c e (eval c e)
    if o then
     (do let _<-call (.builtin "list.append") [A,<-eval l e])
    PySem.again (.compLoop (.ListComp l [⟨g,iter,b,0⟩,⟨t,i,f,0⟩] s p) 1 d A e)):=by rfl
theorem z9:dA F (.ListComp l [⟨y,iter,q,0⟩,⟨G,j,i,0⟩] k w) 1 G (fJ F i<|mG F l):=by
 refineλA R u d N I t n s h=>a0g rfl I (λn s p=>?_) n h
 show wpAny _ A ((compTurn _ 1 u _ N).onRaise  λx=>do noteFrame x N;theTreesLotGoes x) _ _ s;refine a0h ?_;rw[ru];refine Yk<|Y1<|Yk<|Y0 (t n s p) (λr c b=>?_) λU U H=>H;induction r with
 |none=>exact Ym b
 |some v=>
  refine Yk<|Y0 b (λU f e=>?_) λU U H=>H;refine Yk<|Y0 e (λU g f=>Yk<|Y0 f (λO m c=>?_) λU U H=>H) λU U H=>H;induction O with
  |false=>exact Ym ⟨rfl,c⟩
  |true=>exact Yk<|Yk<|Y0 c (λx m f=>Yk<|Y0 f (λU o g=>Ym<|Ym ⟨rfl,g⟩) λU U H=>H) λU U H=>H
theorem rK (l g iter t i:Expr) (b f:List Expr) (s:Scope) (p:Pos) (d A:Value) (e:Env):
  compTurn (.ListComp l [⟨g,iter,b,0⟩,⟨t,i,f,0⟩] s p) 0 d A e=(do
   standAt iter.pos
   match<-pyNext d with
   |none=>pure<|.done .next
   |some v=>
    letOwnedTupleGo g d v
    assign g e v
    let mut o:=true
    for c in b do
     if o then o<-isTrue c e (eval c e)
    if o then
     let x<-eval i e
     standAt i.pos
     let x<-foldedSetIterable i e x;let _<-runOwn (.compStart (.ListComp l [⟨g,iter,b,0⟩,⟨t,i,f,0⟩] s p) 1 (<-holding [x] (pyIter x)) A e) e
    PySem.again (.compLoop (.ListComp l [⟨g,iter,b,0⟩,⟨t,i,f,0⟩] s p) 0 d A e)):=by rfl
def oW (F:Fx) (e:Expr) (i:Expr):Around->Env->Addr->r6 Unit:=λA n d Q E s=>wpAny (MF F) A (eval i n) (λx s=>wpAny (MF F) A (pyIter x) (λt s=>wpAny (MF F) A (runOwn (.compStart e 1 t (.ref d) n) n) (λU s=>Q () s) E s) E s) E s
theorem AJ (bj:ia i=false):
  dA F (.ListComp L [⟨q,iter,l,0⟩,⟨G,i,m,0⟩] f p) 0 q (fJ F l<|oW F (.ListComp L [⟨q,iter,l,0⟩,⟨G,i,m,0⟩] f p) i):=by
 refineλA R w d N I t n s h=>a0g rfl I (λn s u=>?_) n h
 show wpAny _ A ((compTurn _ 0 w _ N).onRaise  λx=>do noteFrame x N;theTreesLotGoes x) _ _ s;refine a0h ?_;rw[rK];refine Yk<|Y1<|Yk<|Y0 (t n s u) (λr c b=>?_) λU U H=>H;induction r with
 |none=>exact Ym b
 |some v=>
  refine Yk<|Y0 b (λU g e=>?_) λU U H=>H;refine Yk<|Y0 e (λU j g=>Yk<|Y0 g (λO k c=>?_) λU U H=>H) λU U H=>H;induction O with
  |false=>exact Ym ⟨rfl,c⟩
  |true=>refine Yk<|Y0 c (λx k g=>?_) λU U H=>H;refine Yk<|Y1<|Yk<|Zk (j5 bj x)<|Yk<|YS<|Y0 g (λo k j=>?_) λU U H=>H;exact Yk<|Y0 j (λU o k=>Ym ⟨rfl,k⟩) λU U H=>H
theorem sJ:∀{n:Nat},dW t c v l b n 0 H=.ok x d->∃o,bT H v 0=some o
 |0,h=>by cases h
 |n+1,h=>HV h λo e U=>⟨o,e⟩
theorem OG (i:dN F e 1) (j:dA F e 1 tg2 p) (hi:aC F Xc D Y k ie) (hb:bY F Xc D Y mk p c) (J:eG F (iE Y) tg2 t) (M:∀l xs,mk (l++xs)≠none->mk l≠none):
  bY F Xc D Y mk (oW F e k) (lT t ie c):=by
 refineλcl hc A N h H s b d l hA hs R f hd ha xs H' e0 hm Q E hQ=>gK e0 λv H1 e1 u=>Kj u λz u=>?_
 haveI o:=hi cl hc A N h H s b hA hs R f;rw[e1] at o;refine o _ _ λval O m q x V1=>?_;haveI f1:=f.extN x;haveI a1:=ha.ext x id;obtain⟨o0,y⟩:=sJ u;refine lI q V1 y λit h' hk nY I0=>wpAny_runOwn ?_;haveI hB:=q.none_of nY;haveI G:∀n,m n≠some it:=λn e=>aI (q.owned e).2 λU g U=>dj nY g;haveI w:bc eR O m {O with heap:=h'} m:=bc.grow _ _ hk rfl rfl rfl;haveI f2:=f1.extN w;haveI a2:=a1.ext w id;haveI R2:=q.grow (s':={O with heap:=h'}) hk;haveI L:=qg (RR:=λr s'=>match r with|.ok _=>Q () s'|.error e=>cameBackBy (MF F) A N E e s') j hb J M hc hA hs R2 f2 hd a2 I0 hB G ((x.weak tN).trans<|w.weak tN) (x.none_of nY) z u hm λs3 ρ3 R3 X3 f3 a3=>hQ s3 ρ3 R3 X3 f3 a3;exact i _ _ _ _ _ _ L<|qz I0 L
noncomputable def eE (N s:aS):aS:=N.map λ(n,k)=>if(k==.free&&true&&s.lookup n==some .cell) then(n,.cell) else(n,k)
theorem kP (h:env.scope.kind=.function) (H:env.scope.names=s):(relabel scope env).names=eE scope.names s:=by unfold relabel eE Env.kindOf;refine qL H<|qL h ?_;rfl
theorem su {s:aS} {n:Str} (h:s.lookup n=some .cell):∀{N:aS},N.lookup n=some .free->(eE N s).lookup n=some .cell
 |[],e=>by cases e
 |(m,k)::r,e=>by
  haveI i:=@su s n h r;show List.lookup n ((if(k==NameKind.free&&true&&s.lookup m==some .cell)=true then(m,NameKind.cell) else(m,k))::eE r s)=_;cases H:n==m with
  |true=>simp only [Y9,H] at e;obtain rfl:=W2 e;haveI:=eq_of_beq H;subst this;refine qL h ?_;simp
  |false=>
   simp only [Y9,H] at e;by_cases c:(k==NameKind.free&&true&&s.lookup m==some .cell)=true;.rw[Xb c];simp only [Y9,H];exact i e
   .rw[Xd c];simp only [Y9,H];exact i e
theorem rT {s:aS} {n:Str}:∀{N:aS},(∀y∈N,y.2≠.cell)->(eE N s).lookup n=some .cell->(n,NameKind.free)∈N/\s.lookup n=some .cell
 |[],_,e=>by cases e
 |(m,k)::r,c,e=>by
  haveI i:=@rT s n r  λy Y=>c y<|.tail _ Y;haveI e:List.lookup n ((if(k==NameKind.free&&true&&s.lookup m==some .cell)=true then(m,NameKind.cell) else(m,k))::eE r s)=some .cell:=e;by_cases q:(k==NameKind.free&&true&&s.lookup m==some .cell)=true
  .rw[Xb q] at e
   cases h:n==m with
   |true=>haveI:=eq_of_beq h;subst this;simp only [W6,XR,beq_iff_eq] at q;exact⟨by rw[q.1];exact .head _,q.2⟩
   |false=>simp only [Y9,h] at e;obtain⟨H,b⟩:=i e;exact⟨.tail _ H,b⟩
  .rw[Xd q] at e
   cases h:n==m with
   |true=>simp only [Y9,h] at e;obtain rfl:=W2 e;exact((c _<|.head _) rfl).elim
   |false=>simp only [Y9,h] at e;obtain⟨H,b⟩:=i e;exact⟨.tail _ H,b⟩
theorem wF:∀(N:aS) (A:List<|Str×Addr),(∀y∈N,y.2=.free->∃c,env.cells.lookup y.1=some c)->(∀n c,A.lookup n=some c->env.cells.lookup n=some c)->
  ∃l,forIn N A (λx r=>if(x.2==NameKind.free) then do let c<-PySem.cellOf env x.1;pure (ForInStep.yield<|(x.1,c)::r) else pure (ForInStep.yield r))=(pure l:Sem<|List<|Str×Addr)/\(∀n c,l.lookup n=some c->env.cells.lookup n=some c)/\
   (∀n c,A.lookup n=some c->l.lookup n=some c)/\∀n,(n,NameKind.free)∈N->∃c,l.lookup n=some c:=by
 intro s;induction s with
 |nil=>exactλA U d=>⟨A,rfl,d,λU U e=>e,λU h=>by cases h⟩
 |cons Q r t=>
  obtain⟨m,k⟩:=Q;intro A h d;rw[Zc];dsimp only;by_cases q:k=.free
  .subst q
   obtain⟨c,o⟩:=h _ (.head _) rfl;obtain⟨l,g,i,b,j⟩:=t ((m,c)::A) (λy Y=>h y<|.tail _ Y) (λn f e=>by
    cases H:n==m with
    |true=>simp only [Y9,H] at e;cases e;exact(eq_of_beq H)▸o
    |false=>simp only [Y9,H] at e;exact d n f e)
   haveI M:(PySem.cellOf env m)=pure c:=by unfold PySem.cellOf;rw[o]
   refine y7 l ?_ i (λn f e=>?_)  λn p=>?_
   .rw[M]
    exact g
   .cases H:n==m with
    |true=>haveI u:=d n f e;haveI:=eq_of_beq H;subst this;obtain rfl:=W2<|o.symm.trans u;exact b n c (by simp)
    |false=>exact b n f (by simp only [Y9,H];exact e)
   .rcases VO p with z|z
    .cases z
     exact⟨c,b _ c<|by simp⟩
    .exact j n z
  .refine uj (t A (λy Y=>h y<|.tail _ Y) d) λl g i b j=>y7 l ?_ i b (λn p=>?_)
   .rw[Xd<|by simpa using q]
    exact g
   .rcases VO p with z|z
    .cases z;exact(q rfl).elim
    .exact j n z
theorem pT (h:∀y∈s.names,y.2=.free->∃c,env.cells.lookup y.1=some c):
  ∃l,closureFor s env=pure l/\(∀n c,l.lookup n=some c->env.cells.lookup n=some c)/\∀n,(n,NameKind.free)∈s.names->∃c,l.lookup n=some c:=by
 refine uj (wF s.names [] h λU U e=>by cases e) λl d f U g=>jy l ?_ f g;haveI e:closureFor s env=(forIn s.names [] (λx r=>if(x.2==NameKind.free)=true then do let c<-PySem.cellOf env x.1;pure (ForInStep.yield<|(x.1,c)::r) else pure _)>>=λb=>pure b):=by rfl
 refine qL e<|qL d ?_;rfl
theorem Ac:∀{f:List Nat},look (pick b f) y=some u->look b y=some u/\y∈f:=@λc=>by
 induction c with
 |nil=>exactλe=>dj rfl e
 |cons x f i=>
  intro e;replace e:look ((look b x).casesOn (pick b f) λv=>(x,v)::pick b f) y=some u:=e;cases q:look b x with
  |none=>rw[q] at e;exact⟨(i e).1,.tail _ (i e).2⟩
  |some v=>
   rw[q,cw] at e;by_cases z:x=y;.rw[Xb z] at e;exact⟨z▸q.trans e,z▸.head _⟩
   .rw[Xd z] at e;exact⟨(i e).1,.tail _ (i e).2⟩
structure gV (F:Fx) (scope:Scope) (sc:aS) (fv:List Nat):Prop where
 kind:scope.kind=.function
 cell:∀y∈scope.names,y.2≠.cell
 loc:∀y∈scope.names,y.2=.local->scope.names.lookup y.1=some .local
 free:∀y∈scope.names,y.2=.free->sc.lookup y.1=some .cell
 lam:eE scope.names sc≠F.lamSc
 fv:∀x∈fv,scope.names.lookup (F.nm x)=some .free/\(F.nm x==("__classdict__":Str))=false
theorem vg:∀{N:aS},N.lookup n=some k->(n,k)∈N:=@λz=>by
 induction z with
 |nil=>intro e;cases e
 |cons q r i=>
  obtain⟨m,j⟩:=q;intro e;cases h:n==m with
  |true=>simp only [Y9,h] at e;cases e;exact(eq_of_beq h)▸(.head _)
  |false=>simp only [Y9,h] at e;exact .tail _<|i e
theorem xN {C:Addr} (O:gV F h G N) (f:cz F A env d b s) (z:env.scope.names=G)
  (H:∀n c,L.lookup n=some c->env.cells.lookup n=some c) (j:∀n,(n,NameKind.free)∈h.names->∃c,L.lookup n=some c)
  (hB:F.B.get? C=none) (hr:∀n,b n≠some C) (hN:s.heap.Ns C m) (hC:∀c v,s.heap.IsCell c v->c≠C):cz F A (compEnvC h L C env) (pick d N) b s:=by
 have p:=kP (scope:=h) f.kind z;have i:∀n,(compEnvC h L C env).kindOf n=(eE h.names G).lookup n:=λn=>by show(relabel h env).names.lookup n=_;exact qL p rfl
 refine aI f.vars λm0 ns0 hv=>?_;haveI l:∀n c,L.lookup n=some c->c≠C/\∃v,s.heap.IsCell c v:=λn c e=>by obtain⟨_,v,r⟩:=f.cells n c<|H n c e;exact⟨hC c v r,v,r⟩
 refine⟨O.kind,f.globals,f.builtins,λe=>(O.lam<|p.symm.trans e).elim,⟨m,hN,λx v e=>?_⟩,λa J=>?_,λx e=>?_,λx c e=>l x c e,λx y c t g=>f.apart x y c (H _ _ t)<|H _ _ g,f.stk⟩
 .obtain⟨t,D⟩:=Ac e
  haveI y:=(O.fv x D).1;haveI o:=(O.fv x D).2;have M:=vg y;refine aI (hv x v t) λw Q Y=>bK w Q ?_;haveI u:env.kindOf (F.nm x)=some .cell:=by unfold Env.kindOf;exact z▸(O.free _ M rfl)
  rcases Y with⟨k,_⟩|⟨k,q,c,r,hi⟩;.exact nomatch (u.symm.trans k)
  .obtain⟨c',g⟩:=j _ M
   obtain rfl:=W2<|r.symm.trans<|H _ _ g;exact .inr ⟨.inl<|by rw[i];exact su (O.free _ M rfl) y,o,c,g,hi⟩
 .rcases J with rfl|⟨x,e⟩
  .refine IT hN λo u k g D U=>?_
   exact⟨hB,hr,o,g,aU D,λU e=>by exact nomatch (D.symm.trans e)⟩
  .exact f.own a<|.inr ⟨x,H _ _ e⟩
 .rw[i] at e
  exact j x (rT O.cell e).1
theorem aG.adopt (R:aG F H j s) (A:F.B.get? d=none) (x:∀n,j n≠some d) (D:CR F s.heap j d c):aG F ((ak H,c)::H) (j.put (ak H) d) s:=by
 refine⟨R.keep,λn e h=>?_,λn b e=>?_,λn m b p r=>?_,λn e h=>?_⟩
 .rw[aL] at h
  by_cases q:ak H=n
  .simp only [q] at h
   obtain rfl:=W2 h;exact jy d (by unfold cJ.put;rw[Xb q.symm]) A<|D.keep F (λU z=>z) (λU U z U=>z)<|R.fresh_le d
  .simp only [q,if_false] at h
   exact e7 (R.cell n e h) λb p u y=>jy b (R.fresh_le d n b p) u<|y.keep F (λU z=>z) (λU U z U=>z)<|R.fresh_le d
 .unfold cJ.put at e
  rw[aL];by_cases q:n=ak H;.exact⟨c,by simp[q]⟩
  .rw[Xd q] at e
   obtain⟨u,y⟩:=R.dom n b e;exact⟨u,by simp[Xf q,y]⟩
 .unfold cJ.put at p r
  by_cases Q:n=ak H<;>by_cases u:m=ak H;.simp only [Q,u]
  .rw[Xb Q] at p;rw[Xd u] at r;cases p
   exact((x m) r).elim
  .rw[Xd Q] at p;rw[Xb u] at r;cases r
   exact((x n) p).elim
  .rw[Xd Q] at p;rw[Xd u] at r;exact R.inj n m b p r
 .rw[aL] at h
  show n<ak H+1;by_cases q:ak H=n;.lia
  .simp only [q,if_false] at h
   haveI:=R.lt n e h;exact W0 ‹_›
theorem bc.adopt (x:bc X p j s h) (R:aG F H h s) (h0:p.heap.get? d=none):bc X p j s (h.put (ak H) d):=
 ⟨λn a e=>R.fresh_le d n a<|x.le n a e,λn b e=>by
  delta cJ.put at e;by_cases q:n=ak H;.rw[Xb q] at e;cases e;exact .inr h0
  .rw[Xd q] at e;exact x.fresh n b e,x.keep,x.still,x.there,x.gens,x.drawn,x.os⟩
noncomputable def tG (F:Fx) (mk:List V->Option aB) (n:Sem Value):Prop:=∀(A:Around) (E:Value->Shared->Prop) (Q:Value->Shared->Prop) (s:Shared) (b:cJ),
 (∀o,Q (.ref s.heap.objs.size) {s with heap:=s.heap.push o}->True)->
 ∃o:Obj,(∃c,mk []=some c/\CR F (s.heap.push o) b s.heap.objs.size c)/\(Q (.ref s.heap.objs.size) {s with heap:=s.heap.push o}->wpAny (MF F) A n Q E s)
theorem zP:tG F cZ (newList []):=λA E Q s b U=>⟨{cls:=.type "list",data:=.seq ([]).toArray},⟨.lst [],rfl,[],0,Ye _ rfl,VY _,rfl⟩,λh=>ZM h⟩
theorem sj (hacc:tG F mk newAcc) (hok:gV F j sc fv)
  (hstart:dN F e 0) (hrule:dA F e 0 tg rest) (hb:bY F Xc D (eE j.names sc) mk rest c) (htg:eG F (iE<|eE j.names sc) tg t) (hmk:∀l xs,mk (l++xs)≠none->mk l≠none)
  (hc:bP F Xc cl D) (hA:kJ A D) (hs:env.scope.names=sc) (R:aG F H h s) (f:cz F A env i h s) (hv:VR F.B s.heap h v val)
  (hfr:fE (pick i fv) t) (he:dW t c v cl (pick i fv) cS 0 H=.ok xs H') (hm:mk xs≠none) (G:(∀n c,ce.lookup n=some c->env.cells.lookup n=some c)/\∀n,(n,NameKind.free)∈j.names->∃c,ce.lookup n=some c) {E:Value->Shared->Prop} {RR:Value->Addr->Result->Shared->Prop}
  (hQ:∀d C s' ρ',aG F H' ρ' s'->bc eR s h s' ρ'->zj F mk d xs s' ρ'->s.heap.get? d=none->s.heap.get? C=none->d≠C->F.B.get? C=none->(∀n,ρ' n≠some C)->(∃m,s'.heap.Ns C m)->RR (.ref d) C (.ok .next) s'):
  wpAny (MF F) A (pyIter val) (λit s₂=>wpAny (MF F) A newAcc (λQ M=>wpAny (MF F) A (newFunctionEnv j env.globals ce [] env.qual none .none<|some env) (λr O=>codeAny (MF F) A (.compStart e 0 it Q {r with scope:=relabel j env}) (RR Q r.locals) O) E M) E s₂) E s:=by
 obtain⟨u,h00⟩:=sJ he;refine lI R hv h00 λit k hk nY I0=>?_;haveI hB:=R.none_of nY;haveI hr0:∀n,h n≠some it:=λn e=>by obtain⟨_,ob,g,_⟩:=R.owned e;exact nomatch (nY.symm.trans g)
 haveI X1:bc eR s h {s with heap:=k} h:=bc.grow _ _ hk rfl rfl rfl;haveI f1:=f.extN X1;haveI R1:aG F H h {s with heap:=k}:=R.grow hk;obtain⟨o,⟨c0,hc0,C0⟩,ak⟩:=hacc A E (λQ M=>wpAny (MF F) A (newFunctionEnv j env.globals ce [] env.qual none .none _) (λr O=>codeAny (MF F) A (.compStart e 0 _ Q {r with scope:=relabel j env}) _ O) E M) {s with heap:=k} h λU U=>trivial;refine ak ?_;haveI J:k.get? k.objs.size=none:=bh _;have hk2:∀b ob,k.get? b=some ob->(k.push o).get? b=some ob:=λb ob z=>Yd _ z;refine wpAny_newFunctionEnv hok.cell (by intro y u;simp at u) (λp N w=>?_) hok.kind;haveI hsz:(k.push o).objs.size=k.objs.size+1:=size_push' _ _;generalize hH2:k.push o=H2 at N w hk2 hsz C0;have hk3:∀b ob,H2.get? b=some ob->p.get? b=some ob:=λb ob z=>w.extBut b ob (Xe<|XN z)<|Yd _ z;haveI old:∀b ob,k.get? b=some ob->p.get? b=some ob:=λb ob z=>hk3 b ob<|hk2 b ob z;haveI X3:bc eR {s with heap:=k} h {s with heap:=p,toks:=s.toks+([]:List<|Str×Value).length} h:=bc.grow _ _ old rfl rfl rfl;haveI f3:=f1.extN X3;haveI R3:aG F H h {s with heap:=p,toks:=s.toks+([]:List<|Str×Value).length}:=R1.grow old;have Y:k.get? H2.objs.size=none:=by
  cases q:k.get? H2.objs.size with
  |none=>rfl
  |some ob=>have u:=XN q;rw[hsz] at u;exact absurd u<|Nat.not_lt.mpr<|XD _
 haveI hdC:k.objs.size≠H2.objs.size:=by simp only [hsz];exact Xe<|W1 _
 have s_none:∀a,k.get? a=none->s.heap.get? a=none:=λa e=>by
  cases q:s.heap.get? a with
  |none=>rfl
  |some ob=>exact absurd ((hk a ob q).symm.trans e)<|W8 _
 haveI r_none:∀a,k.get? a=none->∀n,h n≠some a:=λa e n q=>by obtain⟨_,ob,g,_⟩:=R1.owned q;rw[e] at g;cases g
 haveI fc:=xN hok f3 hs G.1 G.2 (R1.none_of Y) (r_none _ Y) N (λcc u y e=>by subst e;refine aI y λob g hd=>IT N λob' es ep g' hd' U=>?_;obtain rfl:=W2<|g.symm.trans g';exact nomatch (hd.symm.trans hd'));haveI a3:zj F mk k.objs.size [] {s with heap:=p,toks:=s.toks+([]:List<|Str×Value).length} h:=
  ⟨R1.none_of J,r_none _ J,c0,hc0,C0.keep F (λob z=>hk3 _ ob z) (λb ob z U=>hk3 b ob z) λU U e=>e⟩
 haveI I3:=I0.ext X3 id hr0;haveI hdF:¬FA (compEnvC j ce H2.objs.size env) k.objs.size:=by
  rintro (e|⟨x,e⟩);.exact hdC e
  .obtain⟨_,_,ob,g,_⟩:=f1.own _ (.inr ⟨x,G.1 _ _ e⟩)
   rw[J] at g;cases g
 haveI L:=qg (RR:=RR (.ref k.objs.size) H2.objs.size) hrule hb htg hmk hc hA (by show(relabel j env).names=_;exact kP f.kind hs) R3 fc hdF a3 I3 hB hr0
  ((X1.trans X3).weak tN) nY hfr he (by simpa using hm) λs4 ρ4 R4 X4 f4 a4=>?_
 .exact hstart _ _ _ _ _ _ L<|qz I3 L
 .have u:bc eR s h s4 ρ4:=by
   refine⟨X4.le,X4.fresh,λa ob e hn=>?_,X4.still,X4.there,X4.gens,X4.drawn,X4.os⟩;rcases X4.keep a ob e hn with(z|z)|z
   .haveI z:=z
    subst z;exact nomatch ((s_none _ Y).symm.trans e)
   .subst z;exact nomatch ((s_none _ J).symm.trans e)
   .exact .inr z
  refine kh (f4.own _<|.inl rfl) λy hr4 U=>?_;exact aI f4.vars λm4 ns4 U=>hQ _ _ s4 ρ4 R4 u (by simpa using a4) (s_none _ J) (s_none _ Y) hdC y hr4 ⟨m4,ns4⟩
theorem uu (h:gV F g i v) (f:cz F A env d b s) (H:env.scope.names=i):∀y∈g.names,y.2=.free->∃c,env.cells.lookup y.1=some c:=
 λy Y e=>f.bound y.1 (by unfold Env.kindOf;exact H▸(h.free y Y e))
theorem Co {C:Addr} (R:aG F H f s) (x:bc X p r s f) (a:zj F mk d L s f) (G:p.heap.get? d=none) (y:p.heap.get? C=none) (D:d≠C) (w:F.B.get? C=none) (J:∀n,f n≠some C) (hN:∃m,s.heap.Ns C m) (j:Heap.SameBut C s.heap h) (A:mk L=some c):
  aG F ((ak H,c)::H) (f.put (ak H) d) {s with heap:=h}/\bc X p r {s with heap:=h} (f.put (ak H) d)/\VR F.B h (f.put (ak H) d) (.ref<|ak H) (.ref d):=by
 refine O2 hN λm o Q O g l U=>?_;have i:∀b ob,s.heap.get? b=some ob->bv ob->h.get? b=some ob:=λb ob e st=>(j.2 b λq=>by subst q;obtain rfl:=W2<|g.symm.trans e;exact aU l st).trans e;haveI t:aG F H f {s with heap:=h}:=R.other (λb=>b=C) (λb ob e N=>(j.2 b N).trans e) (λb e=>by subst e;exact⟨w,J⟩) i;refine aI a.cell λM k u=>?_;obtain rfl:=W2<|A.symm.trans k;have v:=u.keep F (λob z=>(j.2 d D).trans z) i λU U e=>e;exact⟨t.adopt a.B a.out v,(x.but y g j.extBut).adopt t G,d,rfl,by unfold cJ.put;rw[Xb rfl]⟩
theorem zN (hx:∀n,eval x n=comprehension e j n pos N false (eval iter n)) (hg:clausesOf e=g::gs) (Y:g.iter=iter) (bj:ia iter=false)
  (p:tG F mk N) (o:gV F j M fv) (hi:aC F Xc D M iter ie)
  (k:dN F e 0) (r:dA F e 0 tg w) (hb:bY F Xc D (eE j.names M) mk w c) (htg:eG F (iE<|eE j.names M) tg t) (hmk:∀l xs,mk (l++xs)≠none->mk l≠none):
  aC F Xc D M x (λL i H=>(ie L i H).bind λv H=>kX mk t c v L (pick i fv) H):=by
 intro L hc A n i H s b hA hs R f;refine e7 (pT<|uu o f hs) λce O q u=>am.imp (am.bind (K:=λJ Q E s=>wpAny (MF F) A (pyIter J) (λit y=>wpAny (MF F) A N (λm z=>wpAny (MF F) A (newFunctionEnv j n.globals ce [] n.qual none .none<|some n) (λd G=>codeAny (MF F) A (.compStart e 0 it m {d with scope:=relabel j n}) (compPost (MF F) A E none Q m d.locals) G) E z) E y) E s) (hi L hc A n i H s b hA hs R f) λv H1 U J s1 ρ1 R1 X1 V1=>?_) λQ E h=>?_
 .refine am.cnd λz Q E P=>bO.bind0 P λxs H2 he P=>bO.ro P λcc G P=>?_
  exact sj p o k r hb htg hmk hc hA hs R1 (f.extN X1) V1 z he (by rw[G];nofun) ⟨q,u⟩ λd C s2 ρ2 R2 X2 a2 hd hC y hB hr hN=>hN.elim λm J=>bK m J λh' sb=>kh (Co R2 X2 a2 hd hC y hB hr ⟨m,J⟩ sb G) λR3 X3 V3=>P _ _ _ R3 X3 V3
 .rw[hx]
  refine a0j hg (Y▸(j5 bj)) O o.kind o.loc h
theorem lz:∀l x:List V,cZ (l++x)≠none->cZ l≠none:=by
 intro l x h;cases q:cZ (l++x) with
 |none=>contradiction
 |some c=>haveI H:=(gI q).2;rw[uT<|by rw[Yb] at H;exact a0k H];nofun
theorem cz.drop (f:cz F A env p j s) {C:Addr} (x:∀a,FA env a->a≠C) (h2:∀l,A.frames=some l->∀e∈l,e.frame≠some C) (J:∀o,s.heap.get? C=some o->¬bv o) (u:Heap.SameBut C s.heap O):cz F A env p j {s with heap:=O}:=by
 haveI hs:∀a ob,s.heap.get? a=some ob->bv ob->O.get? a=some ob:=λa ob e st=>(u.2 a λq=>by subst q;exact J ob e st).trans e;refine aI f.vars λm ns hv=>⟨f.kind,f.globals,f.builtins,f.code,⟨m,?_,λy v e=>?_⟩,λa N=>?_,f.bound,λy c e=>?_,f.apart,?_⟩
 .exact BQ ns λob L h e r=>Rx ob L h ((u.2 _<|x _<|.inl rfl).trans e) r
 .refine aI (hv y v e) λL G D=>bK L (VR.mono hs (λU U e=>e) _ G) ?_
  rcases D with h|⟨h,q,c,Q,ob,e,r⟩;.exact .inl h
  .exact .inr ⟨h,q,c,Q,ob,(u.2 _<|x _<|.inr ⟨_,Q⟩).trans e,r⟩
 .obtain⟨G,D,ob,e,st,n⟩:=f.own a N
  exact⟨G,D,ob,(u.2 _<|x a N).trans e,st,n⟩
 .obtain⟨G,v,ob,h,r⟩:=f.cells y c e
  exact⟨G,v,ob,(u.2 _<|x _<|.inr ⟨_,e⟩).trans h,r⟩
 .refine aI f.stk λl k1 k2=>bK l k1 (λh Y=>?_)
  obtain⟨h3,L,ob,Q,h5,h6,h7,h8⟩:=k2 h Y;exact⟨h3,L,ob,Q,h5,h6,(u.2 L λq=>h2 l k1 h Y<|qL Q<|qL q rfl).trans h7,h8⟩
theorem xn:∃b,swapsWith (.ListComp elt gens scope pos) (some<|.Name t p) n env=pure b/\(b->env.kindOf t=some .local):=by refine bK (env.blockKind==.function&&env.kindOf t==some .local&&p.line==(Expr.ListComp elt gens scope pos).pos.line&&!(scope.names.any λ(n,k)=>n==t&&(k==.local||k==.cell))) rfl  λh=>?_;simp only [XR,beq_iff_eq] at h;exact h.1.1.2
theorem Gk {iter:Expr} (bj:ia iter=false)
  (O:gV F u sc fv) (hi:aC F Xc D sc iter ie) (he:aC F Xc D sc (.ListComp x (⟨tg,iter,G,0⟩::gs) u w)<|bQ fv t ie c)
  (M:dN F (.ListComp x (⟨tg,iter,G,0⟩::gs) u w) 0) (hrule:dA F (.ListComp x (⟨tg,iter,G,0⟩::gs) u w) 0 tg rest) (hb:bY F Xc D (eE u.names sc) cZ rest c) (htg:eG F (iE<|eE u.names sc) tg t)
  (hn:F.nm i=n) (hbd:cY sc n):cC F Xc D sc (.Assign [.Name n pos'] (.ListComp x (⟨tg,iter,G,0⟩::gs) u w) pos) (ai (.loc i)<|bQ fv t ie c):=by
 subst hn
 refineλJ hc A N k H s j hA hf hs R f=>aI (xn (elt:=x) (gens:=⟨tg,iter,G,0⟩::gs) (scope:=u) (pos:=w) (p:=pos') (n:=pos.line) (t:=F.nm i) (env:=N)) λb hsw hloc=>?_
 induction b with
 |false=>exact am.imp (am.bindN (he J hc A N k H s j hA hs R f) λv H1 U val s1 ρ1 R1 X1 V1=>j8 R1 (f.extN X1) hs hbd V1) λQ E h=>YI h hsw
 |true=>
  refine e7 (pT<|uu O f hs) λce hcl hce1 hce2=>?_;haveI e0:ai (.loc i) (bQ fv t ie c) J k H=(ie J k H).bind λv H=>(kX cZ t c v J _ H).bind λv H=>dy _ H:=by show((ie J k H).bind λv H=>kX cZ t c v J _ H).bind (λv H=>dy _ H)=_;cases ie J k H<;>rfl
  refine qL e0 ?_;refine am.imp (am.bindN (K:=λval Q E s=>wpAny (MF F) A (pyIter val) (λy l=>wpAny (MF F) A (newList []) (λg m=>wpAny (MF F) A (newFunctionEnv u N.globals ce [] N.qual none .none<|some N) (λd o=>codeAny (MF F) A (.compStart (.ListComp x (⟨tg,iter,G,0⟩::gs) u w) 0 y g {d with scope:=relabel u N}) (compPost (MF F) A E (some<|assign (.Name (F.nm i) pos') N) (λU s'=>Q .next s') g d.locals) o) E m) E l) E s) (hi J hc A N k H s j hA hs R f) λv H1 U val s1 ρ1 R1 X1 V1=>?_) λQ E h=>?_
  .intro Q E P
   delta kX at P;cases hfr:fE _ t with
   |false=>rw[hfr] at P;exact P.elim
   |true=>
   rw[hfr] at P;cases hq:dW t c v J _ cS 0 H1 with
   |no=>rw[hq] at P;exact P.elim
   |ex=>rw[hq] at P;exact P.elim
   |ok xs H2=>
   rw[hq] at P;replace P:bO F Xc _ _ s1 ρ1 Q E ((HO _ H2).bind λv H=>dy _ H):=P;cases hm:cZ xs with
   |none=>rw[hm] at P;exact P.elim
   |some y=>
   rw[hm] at P;have f1:=f.extN X1;refine sj zP O M hrule hb htg lz hc hA hs R1 f1 V1 hfr hq (by lia) ⟨hce1,hce2⟩ λd C s2 ρ2 R2 X2 a2 hd hC hdC hB hr hN=>?_;refine aI a2.cell λcc' hcc C2=>?_;obtain rfl:=W2<|hm.symm.trans hcc;have R3:=R2.adopt a2.B a2.out C2;haveI X3:=X2.adopt R2 hd;haveI f3:=f1.extN X3;have V3:VR F.B s2.heap (ρ2.put (ak H2) d) (.ref _) _:=⟨d,rfl,by unfold cJ.put;rw[Xb rfl]⟩
   refine YR<|gZ R3 f3 (λy U e=>F.inj i y e) (qh f3 hs hbd) V3 λs4 R4 X4 f4=>?_;have hCF:∀a,FA N a->a≠C:=λa fa q=>by subst q;obtain⟨_,_,o,g,_⟩:=f1.own _ fa;exact nomatch (hC.symm.trans g)
   have hCS:∀l,A.frames=some l->∀e∈l,e.frame≠some C:=λl hl e he q=>by refine aI f1.stk λl' h1 h2=>?_;obtain rfl:=W2<|hl.symm.trans h1;obtain⟨_,L,o,g1,_,_,g2,_⟩:=h2 e he;obtain rfl:=W2<|q.symm.trans g1;exact nomatch (hC.symm.trans g2)
   have hr3:∀n,(ρ2.put _ d) n≠some C:=λn e=>by
    delta cJ.put at e;by_cases q:n=ak H2;.rw[Xb q] at e;cases e;exact hdC rfl
    .rw[Xd q] at e;exact hr n e
   refine O2 hN λm o es ep g hdd r=>?_;have hk:∃o',s4.heap.get? C=some o'/\jQ o o':=by exact(X4.keep C o g hr3).elim (λz=>((hCF _ z) rfl).elim) λz=>z
   refine aI hk λo' g' lk=>?_;have Y:=sK lk hdd;refine bK m ⟨o',es,ep,g',Y,r⟩  λh' sb=>?_;have hst:∀ob,s4.heap.get? C=some ob->¬bv ob:=λob e=>by obtain rfl:=W2<|g'.symm.trans e;exact aU Y
   haveI f5:=f4.drop hCF hCS hst sb;have R5:aG F ((ak H2,.lst xs)::H2) (ρ2.put (ak H2) d) {s4 with heap:=h'}:=by obtain⟨rfl,_⟩:=gI hm;exact R4.other (λb=>b=C) (λb ob e hn=>(sb.2 b hn).trans e) (λb e=>by subst e;exact⟨hB,hr3⟩) λb ob e st=>(sb.2 b λq=>by subst q;exact hst ob e st).trans e
   haveI X5:=((X3.weak tN).trans X4).but hC g' sb.extBut;obtain⟨rfl,_⟩:=gI hm;exact P .next _ _ R5 X5 ⟨.next,λU e=>f5.heap e⟩
  .simp only [exec_Assign_Name_used _ _ _ _ hsw]
   refine Yk<|Y1<|Yk ?_;refine Yk (Y0 (a0j rfl (j5 bj) hcl O.kind O.loc h)
    (λU s' hq=>Ym<|Ym hq) λU U e=>e)
theorem HA {p} (H:aZ c n) (m:F.B.Ns mainGlobals M) (v:M n=some (.int i t)):aC F x D c (.Name n p) (eK<|.int i):=
 λU U U U U U U U U s R f=>am.pure R ⟨t,rfl⟩ λU U h=>fx f s H R m v h
theorem sF (h:ry x v m=some r):m.length<100000/\n9 x v m=some r:=cg h λU h=>cg h λH h=>⟨dI H,h⟩
theorem Iu {E:Value->Shared->Prop} (n:DR F s.heap c d m) (h:ry (.str k) v m=some r) (X:VR F.B s.heap c (.str k) w) (Y:VR F.B s.heap c v i)
  (g:∀H,Heap.SameBut d s.heap H->∀b o,s.heap.get? b=some o->bv o->H.get? b=some o)
  (q:∀H t,DR F H c d r->Heap.SameBut d s.heap H->Q () {s with heap:=H,toks:=t}):wpAny (MF F) A (dictSet d w i) Q E s:=by
 obtain⟨l,h⟩:=sF h;refine aI (n.str<|qP h) λf D y=>?_;obtain⟨t,rfl⟩:=X;obtain⟨z,u⟩:=dY.set IJ (k:=cv k) Y f (MW D λU U U U U U U U N=>N) y h;exact wpAny_dictSet_pairs (strKind_is ..) D (λH p j=>q H _ ⟨Wk u l,.inr<|.inl ⟨_,p,dY.mono F (g H j) (λU U e=>e) _ z⟩⟩ j)
  ((dY.length IJ f y)▸(WO<|WR l<|by decide))
theorem og:∀(l x:List V) (A:List<|V×V),oC (l++x) A=(oC l A).bind (oC x):=by
 intro z;induction z with
 |nil=>exactλx A=>rfl
 |cons p l i=>intro x A;refine Eq.trans ?_ (a0l ..).symm;refine Wh (Option.bind _)<|funext λq=>Eq.trans ?_ (a0l ..).symm;exact Wh _<|funext λa=>i x a
theorem lJ (h:jx l=some c):∃m,oC l []=some m/\c=.dct m:=bB h λm e z=>bK m e z.symm
theorem wT:∀l x:List V,jx (l++x)≠none->jx l≠none:=by intro l x h q;refine h ?_;delta jx at q⊢;rw[og,Option.map_eq_none_iff.mp q];rfl
def l8 (F:Fx) (x b:Expr):Around->Env->Addr->r6 Unit:=λA e d Q E s=>wpAny (MF F) A (eval x e) (λk s=>wpAny (MF F) A (eval b e) (λv s=>wpAny (MF F) A (dictSet d k v) (λU s=>Q () s) E s) E s) E s
theorem MN (hk:aC F Xc D sc kx ke) (hv:aC F Xc D sc vx ve):bY F Xc D sc jx (l8 F kx vx) (qN ke ve):=by
 refineλcl hc A n i H s h d l hA hs R f hd ha xs H' e0 hm Q E hQ=>gK e0 λk H1 e1 e2=>gK e2 λv H2 G w=>HV w λk' ek w=>?_
 rw[lj ek] at e1 w;cases w;haveI r:=hk cl hc A n i H s h hA hs R f;rw[e1] at r;refine r _ _ λkv s1 ρ1 R1 x V1=>?_;haveI key2:=hv cl hc A n i H1 s1 ρ1 hA hs R1<|f.extN x;rw[G] at key2;refine key2 _ _ λvv s2 ρ2 R2 u V2=>?_;have j:=(ha.ext x id).ext u id;refine aI j.cell λc L C=>aI (lJ L) λm N ec=>?_;simp only [ec] at C;cases q:jx _ with
 |none=>contradiction
 |some c2=>
 refine aI (lJ q) λm2 M J=>?_;rw[J] at q;rw[og,N] at M;refine ao (o:=ry (.str k') v m) M λm3 p G=>?_;rw[W2 G] at p;refine uj j.obj λo g st nf fr=>?_;have O:∀y,Heap.SameBut d s2.heap y->∀b ob,s2.heap.get? b=some ob->bv ob->y.get? b=some ob:=λy sb b ob e z=>(sb.2 b λq=>by subst q;obtain rfl:=W2<|g.symm.trans e;exact st z).trans e;refine Iu C p (u.mono V1) V2 O λy t D' sb=>uj (CR.obj2 (F:=F) (c:=.dct m2) D') λo' g' st' Y fr'=>?_;obtain⟨R3,X3⟩:=mN R2 j.B j.out g st g' Y (λz=>(fr z).elim) λb ob hb e=>(sb.2 b hb).trans e;exact hQ _ ρ2 R3 (((x.weak tN).trans<|u.weak tN).trans<|X3.weak λa e=>.inr e) (((f.extN x).extN u).ext X3 λa fa e=>by subst e;exact hd fa) ⟨j.B,j.out,_,q,D'⟩
theorem Bu {iter:Expr}:dA F (.DictComp u y [⟨G,iter,j,0⟩] k w) 0 G (fJ F j<|l8 F u y):=by
 refineλA R q d N I t n s h=>a0g rfl I (λn s p=>?_) n h
 show wpAny _ A ((compTurn _ 0 q _ N).onRaise  λx=>do noteFrame x N;theTreesLotGoes x) _ _ s;refine a0h ?_;rw[compTurn_dict];refine Yk<|Y1<|Yk<|Y0 (t n s p) (λr c b=>?_) λU U H=>H;induction r with
 |none=>exact Ym b
 |some v=>
  refine Yk<|Y0 b (λU f e=>?_) λU U H=>H;refine Yk<|Y0 e (λU g f=>Yk<|Y0 f (λO i c=>?_) λU U H=>H) λU U H=>H;induction O with
  |false=>exact Ym ⟨rfl,c⟩
  |true=>exact Yk<|Yk<|Y0 c (λx l f=>Yk<|YS<|Y0 f (λz m g=>Yk<|Y1<|YS<|Y0 g (λU o i=>Ym ⟨rfl,i⟩) λU U H=>H) λU U H=>H) λU U H=>H
theorem wZ {iter:Expr}:dN F (.DictComp k v (⟨t,iter,i,0⟩::r) s p) 0:=
 λU U U U U U h0 h=>codeAny_compStart_dict h0 h
theorem IL:tG F jx newDict:=λA E Q s b U=>⟨{cls:=.type "dict",dict:=none,data:=.dict #[]},⟨.dct [],rfl,by simp,.inl ⟨[],gz (Ye _ rfl) ⟨rfl,rfl,rfl⟩ rfl rfl,rfl⟩⟩,λh=>ZM h⟩
theorem Fb {iter:Expr} (bj:ia iter=false) (h:gV F s b f) (e:aC F x D b iter g)
  (d:bY F x D (eE s.names b) jx (fJ F i<|l8 F k v) c) (H:eG F (iE<|eE s.names b) G t):
  aC F x D b (.DictComp k v [⟨G,iter,i,0⟩] s p) (sZ f t g c):=
 zN (λU=>arm_eval_DictComp ..) rfl rfl bj IL h e wZ Bu d H wT
noncomputable def yS (e:Env) (o:Pos) (k:List<|Expr×Expr):List (Sem Value×Sem Value):=k.map λp=>(eval p.1 e,do let x<-eval p.2 e;standAt o;pure x)
noncomputable def u0:List (Value×Value)->List Value
 |[]=>[]
 |p::l=>p.1::p.2::u0 l
inductive M6 (F:Fx) (Xc:V->Value->List Addr->Shared->Prop) (D:Nat) (sc:aS):List (Expr×Expr)->List E->Prop where
 |nil:M6 F Xc D sc [] []
 |cons {p:Expr×Expr} {r:List _} {a b:E} {m:List E} (ha:aC F Xc D sc p.1 a) (hb:aC F Xc D sc p.2 b) (t:M6 F Xc D sc r m):M6 F Xc D sc (p::r) (a::b::m)
theorem nI {b c d:Type} (r:R b) (f:b->Hp->R c) (g:c->Hp->R d):(r.bind f).bind g=r.bind λa H=>(f a H).bind g:=by cases r<;>rfl
theorem Gn:lQ (a::b::m) l c H=(a l c H).bind λk H=>(b l c H).bind λv H=>(lQ m l c H).bind λs H=>.ok (k::v::s) H:=by show(a l c H).bind (λv H=>((b l c H).bind λv H=>(lQ m l c H).bind λs H=>.ok _ H).bind λs H=>.ok _ H)=_;refine Wh _<|funext λk=>funext λH=>(nI ..).trans<|Wh _<|funext λv=>funext λH=>nI ..
theorem uD (G:bP F y L D) (z:kJ A D) (J:env.scope.names=sc) {l:List E} (hp:M6 F y D sc n l):∀(H:Hp) (s:Shared) (c:cJ),aG F H c s->cz F A env d c s->
  am F y eR (λQ E s=>wpAny (MF F) A (evalPairs<|yS env pos n) Q E s) (lQ l L d H) (λO g h c=>aX F.B h c O<|u0 g) s c:=by
 induction hp with
 |nil=>exactλH s c R f=>am.pure (a:=[]) R rfl λQ E q=>evalPairs_nil q
 |@cons p r a b m ha hb _ ih=>
  intro H s c R f;refine qL Gn ?_;refine am.imp (am.bind (K:=λj Q E s=>wpAny (MF F) A _ (λi s=>wpAny (MF F) A (evalPairs _) (λg s=>Q ((j,i)::g) s) E s) E s) (ha L G A env d H s c z J R f) λk Y U j M o R1 x V1=>am.bind (hb L G A env d Y M o z J R1<|f.extN x) λv H2 U i N t R2 u V2=>am.bind (ih H2 N t R2<|(f.extN x).extN u) λO H3 U g s3 ρ3 R3 w V3=>?_) λQ E h=>?_;.exact am.pure R3 ⟨j,i::u0 g,rfl,(u.trans w).mono V1,i,u0 g,rfl,w.mono V2,V3⟩ λQ E q=>q
  .exact evalPairs_cons<|Y0 h (λj M k=>Yk<|Y0 k (λi N o=>Yk<|Y1<|Ym o) λU U e=>e) λU U e=>e
theorem tU {c:Type} [DecidableEq c] {d:List<|c×Value} {k:c} (h:(d.map (·.1)).Nodup):((stored d k v).map (·.1)).Nodup:=by
 delta stored;by_cases q:d.any (λf=>f.1=k)=true
 .rw[Xb q,XJ]
  haveI:(d.map<|(λx=>x.1)∘λf=>if f.1=k then(f.1,v) else f)=d.map (·.1):=by refine a0m λx U=>?_;show(if x.1=k then(x.1,v) else x).1=x.1;split<;>rfl
  rw[this];exact h
 .rw[Xd q,a0n,List.nodup_append]
  refine mP h (by simp)  λa A b H=>?_;simp only [Xy,List.map_nil,a0o] at H;subst H;intro e;subst e;exact aI (VT A) λx g e=>q (a1Y.mpr ⟨x,g,by simpa using e⟩)
theorem lV:∀(s:List<|Value×Value) (f g:List V) (c m:List<|V×V) (A:List<|Int×Value),aX F.B h b f (u0 s)->qJ f=some g->oC g c=some m->dY F xS.enc h b A c->(A.map (·.1)).Nodup->c.length<=100000->
  ∃d,Carries (intKind F.prog F.w) s d/\dY F xS.enc h b (merged A d) m/\m.length<=100000
 |[],v::f,_,_,_,_,x,_,_,_,_,_=>oi x λU U e U=>nomatch e
 |[],[],g,c,m,A,x,u,H,y,_,L=>by rw[<-W2 u] at H;exact(W2 H)▸(jy [] trivial y L)
 |p::s,[],_,_,_,_,x,_,_,_,_,_=>nomatch x
 |p::s,[k],_,_,_,_,_,u,_,_,_,_=>dj rfl u
 |p::s,k::v::f,g,c,m,A,x,u,H,y,n,L=>by refine ao u λi M u=>bB u λj q N=>?_;rw[<-N] at H;refine ao (o:=ry k v c) H λa Q H=>?_;rw[bF M] at Q x;refine du x λk' r G hk x=>du x λv' r' J w x=>?_;cases G.trans (Wh _ J);obtain⟨l,D⟩:=sF Q;haveI z:=(dY.set xS w A n y D).1;haveI hz:=(dY.set xS w A n y D).2;refine e7 (lV s f j a m _ x q H z (tU n)<|Wk hz l) λd O Y h3=>?_;obtain⟨t,ht⟩:=hk;exact jy ((i,p.2)::d) ⟨ht▸intKind_is ..,rfl,O⟩ Y h3
theorem Ad:∀k:List (Expr×Expr),(evalEachOpt (k.map λp=>some p.1) env).zip ((evalEach (k.map (·.2)) env).map λv=>do let x<-v;standAt o;pure x)=(yS env o k).map λp=>(some p.1,p.2):=by
 intro z;induction z with
 |nil=>exact rfl
 |cons p k i=>haveI h:=i;exact Wh (List.cons (some _,do let x<-eval p.2 env;standAt o;pure x)) h
theorem Le {l:List E} (hp:M6 F Xc D sc k l) (h0:k≠[]) (L:k.length<=15):aC F Xc D sc (.Dict (k.map λp=>some p.1) (k.map (·.2)) pos) (iU l):=by
 intro cl M A env h H s d hA hs R f;have hk:∀b o,s.heap.get? b=some o->(s.heap.push {cls:=.type "dict",data:=.dict #[]}).get? b=some o:=λb o z=>Yd _ z;have u:bc eR s d {s with heap:=s.heap.push {cls:=.type "dict",data:=.dict #[]}} d:=bc.grow _ _ hk rfl rfl rfl;haveI R0:aG F H d {s with heap:=s.heap.push {cls:=.type "dict",data:=.dict #[]}}:=R.grow hk;haveI Y:=uD (pos:=pos) M hA hs hp H _ d R0<|f.extN u;haveI i:s.heap.get? s.heap.objs.size=none:=bh _;have r:∀n,d n≠some s.heap.objs.size:=λn e=>by obtain⟨_,ob,g,_⟩:=R.owned e;exact nomatch (i.symm.trans g)
 refineλQ E P=>wpAny_Dict_pairs (knd:=intKind F.prog F.w) (Ad k) (by unfold yS;simpa using h0) (by unfold yS;simpa using L)<|Y _ _<|bO.bind P (λx H1 P e w j fp y q N1 G=>P e w j fp y (u.trans q) (λa ha=>u.none_of<|N1 a ha) G) λvs H1 U P ps w j y q G=>bO.ro P λus hu P=>bO.ro P λc hm P=>?_
 refine aI (lJ hm) λm N ec=>?_;rw[ec] at P;refine e7 (lV ps vs us [] m [] G hu N rfl XG<|VY _) λv hC hK hl=>?_;have J:w.heap.get? s.heap.objs.size=some {cls:=.type "dict",data:=.dict #[]}:=by
  rcases q.keep _ _ (Ye _ rfl) r with z|⟨o',z,lk⟩;.exact z.elim
  .rcases lk with rfl|⟨⟨M,_⟩,_⟩
   .exact z
   .simp at M
 have t:∀n,j n≠some s.heap.objs.size:=λn e=>by
  rcases q.fresh n _ e with z|z;.exact r n z
  .rw[Ye _ rfl] at z;cases z
 refine jy v hC (gz J ⟨rfl,rfl,rfl⟩ rfl rfl)  λh' hD sb=>?_;haveI O:∀b ob,w.heap.get? b=some ob->bv ob->h'.get? b=some ob:=λb ob e st=>(sb.2 b λz=>by subst z;obtain rfl:=W2<|J.symm.trans e;exact aU rfl st).trans e;have C:CR F h' j s.heap.objs.size (.dct m):=⟨hl,.inl ⟨_,hD,dY.mono F O (λU U e=>e) _ hK⟩⟩
 refine uj C.obj2 λo' g' st' nf' fr'=>?_;obtain⟨R2,X2⟩:=mN y (R.none_of i) t J (aU rfl) g' nf' (λz=>by haveI:=z.1;simp at this) λb ob hb e=>(sb.2 b hb).trans e;haveI X3:=(u.trans q).transH X2 λa e=>.inr (by subst e;exact i);exact P _ _ _ (R2.adopt (R.none_of i) t C) (X3.adopt R2 i) ⟨_,rfl,by unfold cJ.put;rw[Xb rfl]⟩
theorem Av:∀{H:Hp},ac H n=some c->bj H n c=H:=@λz=>by
 induction z with
 |nil=>intro h;cases h
 |cons p H i=>
  intro h;rw[aL] at h;rw[nh];by_cases q:p.1=n
  .rw[Xb q] at h⊢
   obtain rfl:=W2 h;subst q;rfl
  .rw[Xd q] at h⊢
   rw[i h]
structure yG (F:Fx):Prop where
 hd:CodeHd F.B F.lamCode F.lamTab
 bi:∃mg,F.B.Ns mainGlobals mg/\F.B.BuiltinsAt mg F.lamTab
 gP:mainGlobals≠F.lamTab
theorem ES {E:Value->Shared->Prop}
  (w:closureFor b env=pure []) (j:env.globals=mainGlobals) (hg:s.heap.Ns mainGlobals mg) (d:env.code=.ref c) (C:CodeHd s.heap c P) (hP:s.heap.get? P=some (tabObj Y)) (ht:TriplesOk Y.toList)
  (z:codeAmong O Y.toList=none) (x:mainGlobals≠P) (hb:s.heap.BuiltinsAt mg P)
  (h:∀f l H tk,Heap.ExtBut P s.heap H->s.heap.objs.size<=f->(∃o vs t,H.get? f=some o/\o.cls=.type "code"/\o.data=.fields vs/\vs[1]?=some (.str q t))->H.get? P=some (tabObj<|Y++#[rawInt O.line,rawInt O.col,.ref f])->
   Q (.ref H.objs.size) {s with heap:=H.push<|kla_obj k q p g b [] ((mg "__name__").getD .none) f l,toks:=tk}):
  wpAny M A (makeFunction k q p (.expr g) b env [] [] [] O firstLine) Q E s:=by
 rw[makeFunction_eq];simp;obtain⟨bm,ob,m,n,_,N,u,i,e,D⟩:=hb;dsimp only [makeTail];refine qL w<|qL j ?_;refine Yk<|Ym ?_;refine Yk<|Ym ?_;refine Yk<|wpAny_functionCodeX d (C.code hP ht) (C.tab hP) z λf H tk L y hlt U r J v=>?_;haveI G:=hg.extBut L x;refine Yk<|wpAny_builtinsFor G m n (L _ _ N u) i e D ?_;refine Yk<|wpAny_nsGet G ?_;refine Yk (Ym<|ZM (h f .none H tk L y ?_ J.2)<|by size_fits);obtain⟨P',_,_,⟨o,vs,e1,e2,_⟩,_⟩:=v;obtain⟨c2,o2,vs2,t2,q1,q2,q3,q4⟩:=r;cases q1;obtain rfl:=W2<|e1.symm.trans q2;exact Do o vs2 t2 e1 e2 q3 q4
theorem Dy (L:yG F) (R:aG F H c s) (m:ac H 0=some .tab) {A:Around} {n:Env} {d:Sg} (f:cz F A n d c s) (hs:n.scope.names=F.lamSc) {p:Arguments} {O:Expr} {E:Value->Shared->Prop}
  (G:closureFor g n=pure []) (J:defaultsOf p n=([],[])) (Y:u.line=F.lamPos.line) (hp2:u.col=F.lamPos.col)
  (hQ:∀fa s' pm h i,aG F H c s'->bc eR s c s' c->s.heap.get? fa=none->s'.heap.get? fa=some (kla_obj "<lambda>" F.lamQual p O g [] pm i h)->(∃o v t,s'.heap.get? i=some o/\o.cls=.type "code"/\o.data=.fields v/\v[1]?=some (.str F.lamQual t))->Q (.ref fa) s'):
  wpAny (MF F) A (eval (.Lambda p O g u) n) Q E s:=by
 obtain⟨k,hq⟩:=f.code hs;refine aI L.bi λmg hg hb=>?_;haveI M:=hg.keeps R.keep;haveI C:=L.hd.keeps R.keep;have D:s.heap.BuiltinsAt mg F.lamTab:=by exact Ji hb λbm o b1 b2 b3 b4 b5 b6=>FW bm o b1 b2 b3 b4 (R.keep _ _ b5) b6
 obtain⟨P,x,l,e,w,hP,hps⟩:=R.cell 0 _ m;subst e;refine kla_eval J ?_;refine hq▸?_;rcases hps with rfl|⟨i,o,v,t,rfl,ho,hc,hd,hv⟩
 .refine ES G f.globals M k C hP trivial rfl L.gP D λi h j tk hx hge hco w=>mQ hco λo v t ho hc hd hv=>?_
  haveI N:∀b ob,b≠F.lamTab->s.heap.get? b=some ob->(j.push<|kla_obj "<lambda>" F.lamQual p O g [] ((mg "__name__").getD .none) i h).get? b=some ob:=λb ob hb e=>Yd _<|hx b ob hb e;haveI y:(j.push<|kla_obj "<lambda>" F.lamQual p O g [] ((mg "__name__").getD .none) i h).get? F.lamTab=some (tabObj _):=Yd _ w;haveI l:=Yd (kla_obj "<lambda>" F.lamQual p O g [] ((mg "__name__").getD .none) i h) ho;haveI CRn:CR F (j.push<|kla_obj "<lambda>" F.lamQual p O g [] _ i h) c F.lamTab .tab:=
   ⟨rfl,_,y,.inr ⟨i,o,v,t,by rw[Y,hp2];rfl,l,hc,hd,hv⟩⟩
  haveI R2:=R.upd (s':={s with heap:=j.push<|kla_obj "<lambda>" F.lamQual p O g [] _ i h,toks:=tk}) x N CRn;rw[Av m] at R2;haveI r:s.heap.get? j.objs.size=none:=by
   cases q:s.heap.get? j.objs.size with
   |none=>rfl
   |some ob=>
    by_cases z:j.objs.size=F.lamTab
    .rw[z] at q
     haveI:=XN w;rw[<-z] at this;exact absurd this<|XM _
    .exact absurd (XN<|hx _ _ z q)<|XM _
  exact hQ _ _ _ h i R2 (bc.upd eR R x N y (λU U=>rfl) rfl rfl rfl) r (Ye _ rfl) ⟨o,v,t,l,hc,hd,hv⟩
 .haveI w:codeAmong u (#[rawInt F.lamPos.line,rawInt F.lamPos.col,Value.ref i]).toList=some (.ref i):=by
   refine qR Y<|qR hp2 ?_;simp[codeAmong,rawInt]
  refine kla_makeFunctionHit G f.globals M k C hP (by trivial) w D λh j tk N y=>?_;haveI l:∀b ob,s.heap.get? b=some ob->(j.push<|kla_obj "<lambda>" F.lamQual p O g [] ((mg "__name__").getD .none) i h).get? b=some ob:=λb ob e=>Yd _<|N b ob e;haveI r:s.heap.get? j.objs.size=none:=by
   cases q:s.heap.get? j.objs.size with
   |none=>rfl
   |some ob=>exact((XM _)<|XN<|N _ _ q).elim
  exact hQ _ _ _ h i (R.grow l) (bc.grow _ _ l rfl rfl rfl) r (Ye _ rfl) ⟨o,v,t,l _ _ ho,hc,hd,hv⟩
theorem kJ.in2 (h:kJ A D):rJ A.in1.in1 D:=
 ⟨h.handled,by haveI:=h.depth;show A.depth+4*D<=802;exact Wk ‹_›<|by decide,Wk (WX<|WY _ 2 _)<|CH h.units (XA 2)<|by decide,by refine oi h.frames λe l q U=>?_;exact⟨_,q⟩⟩
theorem Fe (hA:rJ A<|D+1) (k:kC F A b s) (R:aG F H b s)
  (ho:s.heap.get? M=some (kla_obj "<lambda>" d p o c [] pm L t)) (O:s.heap.CodeRec (.ref L) d)
  (h:c.kind=.function) (w:c.isCoroutine=false) (g:c.isGenerator=false) (hn:F.nm x=n) (l:c.names.lookup n=some .local) (hne:c.names≠F.lamSc)
  (i:∀f,PySem.bindArgs (kla_fn "<lambda>" d p o c [] pm (.ref L) t) ⟨[f],[]⟩=pure [(n,f)]) (hb:aC F Xc D c.names o be) (hv:VR F.B s.heap b v f)
  (he:be (λU U U=>.no 0) [(x,v)] H=.ok r H') {Q E:Value->Shared->Prop} (hQ:∀a J m,aG F H' m J->bc eR s b J m->VR F.B J.heap m r a->Q a J):
  wpAny (MF F) A (call (.ref M) [f]) Q E s:=by
 haveI j:A.depth<recursionLimit:=by haveI:=hA.depth;show A.depth<1000;exact Fr this
 refine Y5<|kla_callFunE j ho rfl w g rfl O ?_;rw[i];refine Ym<|yF h (λy hy=>?_) λenv Y s1 z fr=>?_
 .rcases VS hy with rfl
  exact .inl l
 .subst Y
  obtain⟨R1,X1,f1,u⟩:=nF (σ:=[(x,v)]) R k h rfl rfl (λe=>(hne e).elim) (by simp) (λy hy=>by
   rcases VS hy with rfl;exact .inl l) (λy u e=>by
    rw[cw] at e;by_cases q:x=y
    .subst q
     rw[Xb rfl] at e;cases e;exact bK f (qL hn<|.head _) hv
    .rw[Xd q] at e;cases e) z fr
  refine⟨R1.nolimit,kla_codeExpr ?_⟩;haveI N:=hA.deeper (env:=callEnvC (kla_fn "<lambda>" d p o c [] pm (.ref L) t) s.heap.objs.size M) g w rfl rfl;haveI G:=hb (λU U U=>.no 0) (λU U U U U U U U U U U=>am.no) (A.deeper<|callEnvC (kla_fn "<lambda>" d p o c [] pm _ t) s.heap.objs.size M) _ [(x,v)] H s1 b N rfl R1 f1;simp only [he] at G;exact G _ _ λa s2 ρ2 R2 X2 V2=>hQ a s2 ρ2 R2 (X1.trans X2) V2
theorem yJ {E:Value->Shared->Prop} (h:Q (decide<|x=y) s):wpAny (model prog w) A (eqBool (.int x t)<|.int y u) Q E s:=
 wpAny_eqBool_int h
theorem vp {E:Value->Shared->Prop} {a b:Addr} {x y:Int} {t u:Tok} (d:s.heap.get? a=some (dH (.int x t::e) n)) (c:s.heap.get? b=some (dH (.int y u::Y) m)) (N:x≠y)
  (h:P (.done<|.ret<|.bool<|decide<|x<y) s):wpAny (model prog w) A (Builtin.«tuple.__lt__» ⟨[.ref a,.ref b],[]⟩) P E s:=by
 haveI H:s.TypeIs (.ref b) "tuple":=⟨_,c,rfl⟩
 show wpAny _ _ (isInstance _ _>>=_) _ _ s;refine Yk<|wpAny_isInstance H isSubtype_tuple_tuple ?_;refine Yk<|a0p d rfl ?_;refine Yk<|a0p c rfl ?_;refine Yk<|Yk<|Yk<|yJ ?_;refine qL (Xa N) ?_;refine Yk<|a0i<|Yk ?_;exact wpAny_lt_int<|Yk<|Ym<|Ym<|Ym<|Ym h
theorem KV {E:Value->Shared->Prop} {b:Addr} (d:A.units<cLine) (H:s.heap.get? a=some (dH (.int x t::f) n)) (c:s.heap.get? b=some (dH (.int y u::Y) m)) (N:x≠y)
  (h:Q (.bool<|decide<|x<y) s):wpAny (model prog w) A (compareOp .Lt (.ref a)<|.ref b) Q E s:=by
 exact wpAny_richCompare_same_room (op:=.Lt) ⟨_,H,rfl⟩ ⟨_,c,rfl⟩ a0q (a0a a0q ⟨_,H,rfl⟩ PySem.F.entry_tuple_lt (vp H c N ⟨_,rfl,(λe=>nomatch e),h⟩)<|PySem.F.args_tuple_lt_2 _ _) d
theorem Dh (m:∀i j (C c:Bool->Shared->Prop) s,(∀b s,C b s->c b s)->cmp i j C s->cmp i j c s)
  (h:cmp 1 0 (λb d=>b=false/\Q #[0,1] d) s):(kas_sort 2).kasWp cmp Q s:=by
 refine m 1 0 _ _ s (λb d H=>?_) h;obtain⟨rfl,q⟩:=H;exact q
structure qr (F:Fx) (params:Arguments) (body:Expr) (scope:Scope) (fa:Addr) (s:Shared) (ρ:cJ):Prop where
 obj:∃pm ctv c',s.heap.get? fa=some (kla_obj "<lambda>" F.lamQual params body scope [] pm c' ctv)/\∃o vs t,s.heap.get? c'=some o/\o.cls=.type "code"/\o.data=.fields vs/\vs[1]?=some (.str F.lamQual t)
 out:∀n,ρ n≠some fa
theorem yr (h:∀n,b n≠some f) (g:s.heap.get? f=some o) (e:bc X s b d c):∀n,c n≠some f:=λn q=>by
 rcases e.fresh n f q with z|z;.exact h n z
 .rw[g] at z;cases z
theorem qr.ext (x:qr F p O q A s j) (e:bc X s j Y u) (h:¬X A):qr F p O q A Y u:=by
 obtain⟨Q,r,G,g,o,vs,t,J,y,D,N⟩:=x.obj;refine⟨⟨Q,r,G,?_,o,vs,t,e.still _ _ J<|.inr ⟨.inr y,vs,D⟩,y,D,N⟩,yr x.out g e⟩;rcases e.keep _ _ g x.out with z|⟨L,z,lk⟩;.contradiction
 .rcases lk with rfl|⟨⟨L,_⟩,_⟩
  .exact z
  .simp at L
structure dQ (F:Fx) (d:Addr) (vs:List Value) (s:Shared) (ρ:cJ):Prop where
 obj:∃n,s.heap.get? d=some (bL vs n)
 B:F.B.get? d=none
 out:∀n,ρ n≠some d
theorem dQ.ext (x:dQ F d vs s j) (e:bc X s j r p) (h:¬X d):dQ F d vs r p:=by
 obtain⟨n,g⟩:=x.obj;refine⟨⟨n,?_⟩,x.B,yr x.out g e⟩;rcases e.keep _ _ g x.out with z|⟨O,z,lk⟩;.contradiction
 .rcases lk with rfl|⟨⟨q,_⟩,_⟩
  .exact z
  .simp at q
theorem dQ.upd (x:dQ F d vs s h) (R:aG F H h s) (f:Array Value->Array Value) (e:f vs.toArray=ws.toArray):
  aG F H h {s with heap:=s.heap.update d<|Obj.mapSeq f}/\bc (λa=>a=d) s h {s with heap:=s.heap.update d<|Obj.mapSeq f} h/\dQ F d ws {s with heap:=s.heap.update d<|Obj.mapSeq f} h:=by
 obtain⟨n,g⟩:=x.obj;obtain⟨N,G⟩:=iX g f e;obtain⟨r,j⟩:=mN R x.B x.out g (bZ (by simp) (by simp)<|by simp) G (λU e=>by cases e) (λz=>by haveI:=z.1;simp at this) dR;exact⟨r,j,⟨N,G⟩,x.B,x.out⟩
structure C7 (F:Fx) (params:Arguments) (body:Expr) (scope:Scope):Prop where
 kind:scope.kind=.function
 co:scope.isCoroutine=false
 gen:scope.isGenerator=false
 ne:scope.names≠F.lamSc
 run:∃(x:Nat) (n:Str),F.nm x=n/\scope.names.lookup n=some .local/\(∀pm c' ctv val,PySem.bindArgs (kla_fn "<lambda>" F.lamQual params body scope [] pm (.ref c') ctv) ⟨[val],[]⟩=pure [(n,val)])/\
  ∀Xc D,aC F Xc D scope.names body (bq [ah .len [ab x],ab x])
theorem Dg (x:Nat) (v:V):look [(x,v)] x=some v:=by rw[cw,Xb rfl]
theorem HN:bq [ah .len [ab x],ab x] (λU U U=>.no 0) [(x,.tup l)] H=.ok (.tup [.int<|.ofNat l.length,.tup l]) H:=by
 haveI e:ab x (λU U U=>.no 0) [(x,.tup l)] H=.ok _ H:=by show lift 80 _ H=_;rw[Dg];rfl
 haveI b:ah .len [ab x] (λU U U=>.no 0) [(x,.tup l)] H=.ok (.int _) H:=by show((ab x (λU U U=>.no 0) [(x,.tup l)] H).bind λv H=>(lQ [] (λU U U=>.no 0) [(x,.tup l)] H).bind λs H=>.ok _ H).bind (λs H=>cM .len s H)=_;rw[e];rfl
 show((ah .len [ab x] (λU U U=>.no 0) [(x,.tup l)] H).bind λv H=>((ab x (λU U U=>.no 0) [(x,.tup l)] H).bind λv H=>(lQ [] (λU U U=>.no 0) [(x,.tup l)] H).bind λs H=>.ok _ H).bind λs H=>.ok _ H).bind ow=_;refine qL b ?_;show(((ab x (λU U U=>.no 0) [(x,.tup l)] H).bind λv H=>(lQ [] (λU U U=>.no 0) [(x,.tup l)] H).bind λs H=>.ok _ H).bind λs H=>.ok (V.int _::s) H).bind ow=_;refine qL e ?_;rfl
theorem IG (e:C7 F p O c) (L:qr F p O c m s b) (q:rJ A<|D+1) (k:kC F A b s) (R:aG F H b s) (J:VR F.B s.heap b (.tup l) v) {E:Value->Shared->Prop}
  (r:∀a f d,aG F H d f->bc eR s b f d->VR F.B f.heap d (.tup [.int<|.ofNat l.length,.tup l]) a->Q a f):wpAny (MF F) A (call (.ref m) [v]) Q E s:=by
 obtain⟨M,h,j,g,o,vs,t,G,Y,y,i⟩:=L.obj;exact Nd e.run λx n N z w u=>Fe (Xc:=λU U U U=>True) q k R g ⟨j,o,vs,t,rfl,G,y,i⟩ e.kind e.co e.gen N z e.ne (λv=>w M j h v) (u _ _) J HN r
theorem pg (w:C7 F p o d) (L:qr F p o d J s b) (K:dQ F kS h s b) (M:rJ A<|D+1) (k:kC F A b s) (R:aG F H b s) (Y:VR F.B s.heap b (.tup l) j) (O:h.length<60)
  {E:Value->Shared->Prop}
  (N:∀v f c,aG F H c f->bc (λx=>x=kS) s b f c->VR F.B f.heap c (.tup [.int<|.ofNat l.length,.tup l]) v->dQ F kS (h++[v]) f c->Q (.yield ⟨⟩) f):
  wpAny (MF F) A (do
   match<-(call (.ref J) [j]).attempt with
   |.ok k=>Builtin.List.listUpdate (.ref kS) (·.push k)
   |.error e=>
    rule "list.sort.key-raised"
    let made<-Builtin.List.listItems (.ref kS)
    Builtin.List.listUpdate (.ref kS) λU=>#[]
    letGo made.toList.reverse [e]
    Builtin.List.listUpdate (.ref a) λU=>i
    throw e
   pure (ForInStep.yield PUnit.unit)) Q E s:=by
 refine Yk<|wpAny_attempt<|IG w L M k R Y λv n m y r G=>?_;have q:=K.ext r id;obtain⟨n,g⟩:=q.obj;refine kh (q.upd y (ws:=h++[v]) (·.push v)<|by simp) λz t u=>?_;refine Yk (a0r g rfl ?_ (by simp only [XS];exact WO<|WR ‹_›<|by decide)<|by simp only [Yu];exact Wk ‹_›<|by decide);exact Ym<|N v _ m z ((r.weak tN).trans t) (t.mono G) u
theorem mO (out:∀n,b n≠some d) (g:s.heap.get? d=some o) (H:¬n6 o) (e:bc X s b c f) (h:¬X d):c.heap.get? d=some o:=by
 rcases e.keep _ _ g out with z|⟨O,z,lk⟩;.contradiction
 .rcases lk with rfl|⟨q,_⟩
  .exact z
  .contradiction
theorem hZ:¬n6 (bL vs n):=λz=>by haveI:=z.1;simp at this
theorem pA {st:SortSt} {E:Value->Shared->Prop} (R:aG F H b s) (f:dQ F a [] s b) (o:s.heap.get? a=some (bL [] m)) (K:dQ F kS t s b) (N:kS≠a)
  (h:(arrOf st).map (·.2)=vs.toArray) (q:failedOf st=none) (z:vs.length<60) (v:t.length<60)
  (p:∀c,aG F H b c->bc (λx=>x=kS\/x=a) s b c b->dQ F a vs c b->P (.done<|.ret .none) c):wpAny (MF F) A (ksk_tail a false m (.ref kS) st) P E s:=by
 obtain⟨n,g⟩:=K.obj;refine kh (K.upd R (λU=>#[]) rfl) λr d u=>?_;haveI G:=mO f.out o hZ d N.symm;haveI k:=f.ext d N.symm;refine kh (k.upd r (λU=>vs.toArray) rfl) λj l i=>?_;refine Yk (a0r g rfl ?_ (by simp only [XS];exact WO<|WR ‹_›<|by decide)<|VY _);refine Yk<|wpAny_letGo ?_;refine Yk<|seqEpoch_at G rfl ?_;refine Yk (a0r G rfl ?_ (VY _)<|by simp only [a0s,h];simp only [XI];exact WO<|WR ‹_›<|by decide);simp only [a0s,h];simp only [q];simp only [bne_self_eq_false];exact Ym<|p _ j ((d.weak λU e=>.inl e).trans<|l.weak λU e=>.inr e) i
theorem Hj {E:Value->Shared->Prop} (R:aG F H b s) (d:dQ F a [] s b) (g:s.heap.get? a=some (bL [] e)) (K:dQ F kS [k] s b) (h:kS≠a)
  (p:∀c,aG F H b c->bc (λx=>x=kS\/x=a) s b c b->dQ F a [v] c b->P (.done<|.ret .none) c):wpAny (MF F) A (ksk_end a false #[v] e (.ref kS) #[k]) P E s:=by
 refine Yk<|Ym ?_;refine Yk<|Ym ?_;exact pA R d g K h (by show((#[k]).zip #[v]).map (·.2)=#[v];simp) rfl (by simp) (by simp) p
theorem sI:Looks M h (typeOf<|.int i t) (.type "int"):=by first|exact Looks.now|exact Looks.of_pure rfl
theorem zy {C:Prop} (h:iN v=some p) (k:∀r,v=.tup (.int p.1::r)->C):C:=by
 refine ao h λl L h=>?_;induction l with
 |nil=>exact dj rfl h
 |cons x r=>exact bB h λa e z=>k r<|qL (jM L)<|qL (bF e)<|qR z rfl
theorem Hx {E:Value->Shared->Prop} {x y:List V} (J:A.units+10<cLine) (M:VR F.B s.heap b (.tup [.int<|.ofNat x.length,.tup x]) N) (Y:VR F.B s.heap b (.tup [.int<|.ofNat y.length,.tup y]) O)
  (t:iN (.tup x)=some (a,x.length)) (u:iN (.tup y)=some (c,y.length)) (L:x.length=y.length) (h:a<c) (D:Cf Bj (.tup y) (.tup x)=some false) (w:Q false s):
  wpAny (MF F) A (keyLt' (tuples' true) O N) Q E s:=by
 obtain⟨m,vs,n,rfl,g,_,v1,w1,rfl,⟨t1,rfl⟩,v2,w2,rfl,v,rfl⟩:=M;obtain⟨n,ws,m,rfl,q,_,u1,z1,rfl,⟨t2,rfl⟩,u2,z2,rfl,H,rfl⟩:=Y;refine kat_lt q rfl g rfl ?_;refine kat_cons<|yJ ?_;refine qL L<|qL (Xh rfl) ?_;refine kat_yes<|kat_cons ?_;have k:=(j7 Bj A _ _ false D u2 v2 (by show A.units+4<_;lia) H v).1;refine k _ _ _ _<|kat_no ?_;refine kat_one _ _<|mQ v λra m rn l d U Z=>mQ H λrb n rm o G U z=>?_;refine qL l<|qL o ?_;refine zy t λr e=>zy u λr' f=>?_;simp only [V.tup.inj e] at Z;rw[V.tup.inj f] at z;refine du Z λp1 q1 i p U=>du z λp2 q2 j hp2 U=>?_;rw[i] at d;rw[j] at G;obtain⟨m,rfl⟩:=p;obtain⟨m,rfl⟩:=hp2;refine KV (a0k J) G d (Int.ne_of_gt h) ?_;exact(Xa<|Int.not_lt.mpr<|WB h)▸w
theorem IS {v w k f:Value} {E:Value->Shared->Prop} (hu:A.units+10<cLine) (R:aG F H b s) (J:dQ F a [] s b) (ga:s.heap.get? a=some (bL [] M)) (K:dQ F kS [k,f] s b) (N:kS≠a)
  (D:VR F.B s.heap b (.tup [.int<|.ofNat x.length,.tup x]) k) (Y:VR F.B s.heap b (.tup [.int<|.ofNat y.length,.tup y]) f)
  (h1:iN (.tup x)=some (i,x.length)) (h2:iN (.tup y)=some (c,y.length)) (hl:x.length=y.length) (r:i<c) (he:Cf Bj (.tup y) (.tup x)=some false)
  (hP:∀d,aG F H b d->bc (λx=>x=kS\/x=a) s b d b->dQ F a [v,w] d b->P (.done<|.ret .none) d):wpAny (MF F) A (ksk_end a false #[v,w] M (.ref kS) #[k,f]) P E s:=by
 obtain⟨h,vs,n,L,g,_,m,p,l,⟨t1,O⟩,j⟩:=id D;obtain⟨h,p,m,f0,g',_,n,z1,f1,⟨t2,f2⟩,j⟩:=id Y;have KT:KatTups s.heap [k,f] [.int (.ofNat x.length) t1,.int (.ofNat y.length) t2]:=by subst L f0 l f1 O f2;exact KatTups.cons g rfl rfl rfl<|KatTups.cons g' rfl rfl rfl KatTups.nil
 refine Yk (kat_kind KT (by simp) (T:=.type "int") (λq z=>?_) rfl ?_)
 .rcases VO z with rfl|z
  .exact sI
  .rcases VS z with rfl
   exact sI
 haveI ht:(Value.type "int" != Value.type "tuple")=true:=rfl;refine Yk (Y0 (kat_run (Q:=λt d=>d=s/\arrOf t=#[0,1].map (kas_item _)/\failedOf t=none) (G:=λp d=>p=#[0,1]/\d=s) rfl (XA _) (by simp) (λp t d U o u h=>⟨h.2,by rw[o,h.1],u⟩)
  (Dh (λi j C n s m h=>Y0 h m λU U e=>e) ?_)) ?_ λU U e=>e)
 .exact Hx hu D Y h1 h2 hl r he ⟨rfl,rfl,rfl⟩
 .rintro ⟨⟨⟩,t⟩ d ⟨rfl,o,u⟩
  refine pA R J ga K N ?_ u (by simp) (by simp) hP;refine qL (kat_snds (vs:=[v,w]) (ks:=[k,f]) rfl o) ?_;rfl
theorem lx (a v:Value):argsOk "list.sort" ⟨[a],[(Str.ofString "key",v)]⟩:=by unfold argsOk;kernel_rfl
theorem oE (a v:Value):argsOk "sorted" ⟨[a],[(Str.ofString "key",v)]⟩:=rfl
theorem uW {E:Value->Shared->Prop} (R:aG F H c s) (k:kC F A c s) (ga:s.heap.get? a=some (bL vs n)) (hz:vs.length<10)
  (h:∀d kS w r,aG F H c r->bc eR s c r c->s.heap.get? d=none->dQ F d [] r c->r.heap.get? d=some (bL [] w)->dQ F kS [] r c->s.heap.get? kS=none->kS≠d->
   wpAny (MF F) A.in1.in1 (ksk_rest d (.ref fa) false vs.toArray w<|.ref kS) (λfin M=>fin=.done (.ret .none)/\Q (.ref d) M) (λU U=>False) r):
  wpAny (MF F) A (call (.builtin "sorted") [.ref a] [(Str.ofString "key",.ref fa)]) Q E s:=by
 refine call_function_entry_kw kind_sorted plain_sorted entry_sorted (oE _ _) ?_;refine Yk<|Ym ?_;refine Yk (a0f a (.inl rfl) ga rfl rfl (λi u=>?_)<|by simp only [XI];exact WO<|WR ‹_›<|by decide);refine Yk (Z9 ?_<|by show vs.length<=_;simp only [XI];exact WO<|WR ‹_›<|by decide);haveI gd:(i.push<|seqObj "list" vs.toArray 0).get? i.objs.size=some _:=Ye _ rfl;have nd:∀b,i.get? b=none->s.heap.get? b=none:=λb e=>by
  cases q:s.heap.get? b with
  |none=>rfl
  |some o=>exact absurd ((u b o q).symm.trans e)<|W8 _
 haveI D:=nd _<|bh _;have N:∀b,s.heap.get? b=none->∀m,c m≠some b:=λb e m q=>by obtain⟨_,o,g,_⟩:=R.owned q;exact nomatch (e.symm.trans g)
 haveI v:∀b o,s.heap.get? b=some o->(i.push<|seqObj "list" vs.toArray 0).get? b=some o:=λb o e=>Yd _<|u b o e;haveI Y:aG F H c {s with heap:=i.push _}:=R.grow v;haveI X2:bc eR s c {s with heap:=i.push _} c:=bc.grow _ _ v rfl rfl rfl;haveI O:dQ F i.objs.size vs {s with heap:=i.push _} c:=⟨⟨0,gd⟩,R.none_of D,N _ D⟩
 refine kh (O.upd Y (λU=>#[]) rfl) λz J L=>?_;obtain⟨w,G⟩:=L.obj;refine Yk<|YS<|wpAny_call_entry_kw slot_list_sort ⟨_,gd,rfl⟩ a0b ?body<|lx _ _;simp only [ksk_t1];refine Yk<|a0t gd rfl ?_;refine Yk (a0r gd rfl ?_ (by simp only [XI];exact WO<|WR ‹_›<|by decide)<|VY _);refine Yk<|seqEpoch_at G rfl ?_;refine Yk (wpAny_newTuple ?_<|by show vs.length<=_;simp only [XI];exact WO<|WR ‹_›<|by decide);refine Yk<|Z9 ?_<|VY _;refine YS ?_;generalize hH3:(i.push _).update i.objs.size (Obj.mapSeq λU=>#[])=f at z J L G;have l:∀b o,f.get? b=some o->((f.push<|seqObj "tuple" vs.toArray 0).push<|seqObj "list" #[] 0).get? b=some o:=λb o e=>Yd _<|Yd _ e;haveI R5:aG F H c {s with heap:=(f.push _).push _}:=z.grow l;haveI t:bc eR {s with heap:=f} c {s with heap:=(f.push _).push _} c:=bc.grow _ _ l rfl rfl rfl;haveI x:=X2.transH J λa e=>.inr (by subst e;exact D);have j:f.get? (f.push<|seqObj "tuple" vs.toArray 0).objs.size=none:=by
  cases q:f.get? (f.push _).objs.size with
  |none=>rfl
  |some o=>exact((XM _)<|XN<|Yd _ q).elim
 haveI p:=x.none_of j;refine Y0 (h i.objs.size (f.push _).objs.size w {s with heap:=(f.push _).push _} R5 (x.trans t) D (L.ext t id) (l _ _ G) ⟨⟨0,Ye _ rfl⟩,R.none_of p,N _ p⟩ p  λq=>by rw[q] at j;exact nomatch (j.symm.trans G)) (λfin M y=>?_) λU U e=>e.elim;obtain⟨rfl,y⟩:=y;exact bK _ rfl<|Ym ⟨_,rfl,y⟩
theorem mU (h:iN v=some p):∃l,v=.tup l/\p.2=l.length:=by
 refine ao h λl e h=>bK l (jM e) ?_;induction l with
 |nil=>exact dj rfl h
 |cons x r=>exact bB h λa U z=>z▸rfl
theorem Ax {C:Prop} (h:ui v w) (k:∀x y a c,v=.tup x->w=.tup y->iN v=some (a,x.length)->iN w=some (c,y.length)->x.length=y.length->a<c->Cf Bj w v=some false->C):C:=by
 delta ui at h;cases H:iN v with
 |none=>rw[H] at h;exact sB rfl h
 |some p=>
 cases e:iN w with
 |none=>rw[H,e] at h;exact sB rfl h
 |some q=>
 rw[H,e] at h;obtain⟨h,d⟩:=VP h;obtain⟨g,i⟩:=VP h;refine aI (mU H) λx f j=>aI (mU e) λy Y Q=>?_;obtain⟨l,b⟩:=p;obtain⟨m,b⟩:=q;cases j;cases Q;refine k x y l m f Y H e (W3 g) (yh i) ?_;cases z:Cf Bj w v with
 |none=>rw[z] at d;exact sB rfl d
 |some b=>induction b with
  |true=>rw[z] at d;exact sB rfl d
  |false=>rfl
theorem xh (LB:C7 F i O t) (L:qr F i O t fa s b) (hA:kJ A<|D+1) (k:kC F A b s) (R:aG F H b s) (g:ac H n=some (.lst l)) (x:VR F.B s.heap b (.ref n) val):
  am F Xc eR (λQ E s=>wpAny (MF F) A (call (.builtin "sorted") [val] [(Str.ofString "key",.ref fa)]) Q E s) (OQ l H) (jt F) s b:=by
 refine rq (R.lst g x) λa vs kk q3_ ea ga hlen Z=>?_;subst q3_;cases l with
 |nil=>exact am.no
 |cons v r=>cases r with
  |nil=>
   refine am.ro λp hv=>aI (mU hv) λxs ex U=>aI (cI Z) λv1 o c=>?_;rw[ex] at c⊢;rw[o] at ga;intro Q E hQ;refine uW R k ga (by simp) λd kS e1 s5 R5 f Y J gd Lk q h=>Yk<|a0i ?_;simp only [<-a0u,Zc,Zb];refine Yk (Yk<|pg LB (L.ext f id) Lk hA.in2 (k.ext f) R5 (f.mono c) (by simp) λkv s6 ρ6 R6 j V6 L6=>?_);refine Ym ?_;obtain⟨nk,gk⟩:=L6.obj;refine Yk<|a0t gk rfl ?_;have G:=mO J.out gd hZ j h.symm;refine Hj R6 (J.ext j h.symm) G L6 h λs7 R7 z u=>⟨rfl,?_⟩
   haveI m:=(f.transH j λy e=>.inr<|by subst e;exact q).transH z λy e=>.inr (by rcases e with e|e<;>subst e;exact q;exact Y);obtain⟨N,w⟩:=u.obj;exact hQ _ _ _ (R7.adopt u.B u.out ⟨[v1],N,w,by simp,m.monos ⟨v1,[],rfl,c,rfl⟩⟩) (m.adopt R7 Y) ⟨d,rfl,by unfold cJ.put;rw[Xb rfl]⟩
  |cons w r=>cases r with
   |cons=>exact am.no
   |nil=>
    refine am.cnd λho=>Ax ho λxs ys p1 q1 ex ey hv hw hl hlt2 o=>du Z λv1 w1 e1 c Z=>aI (cI Z) λv2 e2 p=>?_;rw[ex] at c hv o⊢;rw[ey] at p hw o⊢;rw[e1,e2] at ga;intro Q E hQ;refine uW R k ga (by simp) λd kS e1 s5 R5 f Y J gd Lk q h=>Yk<|a0i ?_;simp only [<-a0u,Zc,Zb];haveI L5:=L.ext f id;refine Yk (Yk<|pg LB L5 Lk hA.in2 (k.ext f) R5 (f.mono c) (by simp) λkv s6 ρ6 R6 j V6 L6=>?_);have hfk:fa≠kS:=λe=>by refine BQ L.obj λpm ctv c' gf U=>?_;rw[e,q] at gf;cases gf
    have m:=f.transH j λy e=>.inr (by subst e;exact q);refine Yk (pg LB (L5.ext j hfk) L6 hA.in2 (k.ext m) R6 (m.mono p) (by simp) λkw s7 ρ7 R7 z V7 u=>?_);refine Ym ?_;obtain⟨nk,gk⟩:=u.obj;refine Yk<|a0t gk rfl ?_;haveI G:=mO J.out gd hZ j h.symm;haveI M:=J.ext j h.symm;refine IS (fQ (WZ (Wk (Wp _ _) hA.units) 12)<|by decide) R7 (M.ext z h.symm) (mO M.out G hZ z h.symm) u h (z.mono V6) V7 hv hw hl hlt2 o λs8 R8 X8 L8=>⟨rfl,?_⟩
    have N:=(m.transH z λy e=>.inr<|by subst e;exact q).transH X8 λy e=>.inr (by rcases e with e|e<;>subst e;exact q;exact Y);obtain⟨n8,g8⟩:=L8.obj;exact hQ _ _ _ (R8.adopt L8.B L8.out ⟨[v1,v2],n8,g8,by simp,N.monos ⟨v1,[v2],rfl,c,v2,[],rfl,p,rfl⟩⟩) (N.adopt R8 Y) ⟨d,rfl,by unfold cJ.put;rw[Xb rfl]⟩
theorem KA (LO:yG F) (hx:aC F Xc (D+1) sc y ae) (hns:bd y) (G:aZ sc n)
  (hm:F.B.Ns mainGlobals mg) (hv:mg n=none) (hm':F.B.Ns builtinsNs mb) (hv':mb n=some (.builtin "sorted")) (hsc:sc=F.lamSc) (LB:C7 F d o f) (j:∀x∈f.names,x.2≠.free) (t:∀N,defaultsOf d N=([],[])) (hp1:L.line=F.lamPos.line) (hp2:L.col=F.lamPos.col):
  aC F Xc (D+1) sc (.Call (.Name n p) [y] [⟨some<|Str.ofString "key",.Lambda d o f L,kpos⟩] O) (HW ae):=by
 refineλcl hc A N c H s b hA hs R q=>am.imp (am.bind (K:=λk Q E s=>wpAny (MF F) A (eval (.Lambda d o f L) N) (λfv w=>wpAny (MF F) A (call (.builtin "sorted") [k] [(Str.ofString "key",fv)]) Q E w) E s) (hx cl hc A N c H s b hA hs R q) λv g U k s1 ρ1 J X1 V1=>?_) λQ E h=>?_
 .have f1:=q.extN X1
  refine am.ro λl ql=>rQ ql λi ei gl=>am.ro λc0 q0=>am.cnd λqt=>?_;rw[LU qt] at q0;rw[ei] at V1
  refineλQ E P=>Dy LO J q0 f1 (hs.trans hsc) (closureFor_none j) (t N) hp1 hp2 λfa w pm M c' R2 u hn g2 Y=>?_
  haveI L2:qr F d o f fa w ρ1:=⟨⟨pm,M,c',g2,Y⟩,λm e=>(u.fresh m fa e).elim (λz=>aI (J.owned z).2 λU g U=>dj hn g) λU=>aI (J.owned e).2 λU g U=>dj hn g⟩
  exact xh LB L2 hA (f1.stk.ext u) R2 gl (u.mono V1) Q E<|P.after u
 .simp only [Y6]
  delta aZ at G;simp only [XR,beq_iff_eq,Y3] at G;haveI u:N.kindOf n=some .globalImplicit:=by unfold Env.kindOf;exact hs▸G.1
  refine Yk<|Y4 q.kind u (Y8 (q.globals▸(hm.keeps R.keep)) hv (q.builtins▸(hm'.keeps R.keep)) hv' ?_) G.2;haveI g:backTo O (starEach [y] N)=[(false,eval y N)]:=by rw[dm hns];rfl
  refine callWith_kw (by refine qL g ?_;refine YD<|Y0 h (λk s1 l=>?_) λU U e=>e;refine YC ?_;show wpAny (MF F) A (do let v<-(do let v<-eval _ N;standAt O;pure v);let r<-holding [v] (evalAll []);pure<|v::r) _ E s1;refine Yk<|Yk<|Y0 l (λfv w m=>?_) λU U e=>e;refine Yk<|Y1<|Ym ?_;exact Yk<|YS<|Ym<|Ym m) ‹_› (by simp only [g];rfl)
noncomputable def xE {M:PySem.Expr->Type} (e:PySem.Expr) (k0:∀A b c,Option (M<|.BoolOp A b c):=λU U U=>none) (k1:∀A b c d,Option (M<|.BinOp A b c d):=λU U U U=>none) (k2:∀A b c,Option (M<|.UnaryOp A b c):=λU U U=>none) (k3:∀A b c d,Option (M<|.Lambda A b c d):=λU U U U=>none) (k4:∀A b c d,Option (M<|.IfExp A b c d):=λU U U U=>none) (k5:∀A b c,Option (M<|.Dict A b c):=λU U U=>none) (k6:∀A b c d,Option (M<|.ListComp A b c d):=λU U U U=>none) (k7:∀A b c d f,Option (M<|.DictComp A b c d f):=λU U U U U=>none) (k8:∀A b c d,Option (M<|.Compare A b c d):=λU U U U=>none) (k9:∀A b c d,Option (M<|.Call A b c d):=λU U U U=>none) (k10:∀A b c,Option (M<|.Constant A b c):=λU U U=>none) (k11:∀A b c,Option (M<|.Attribute A b c):=λU U U=>none) (k12:∀A b c,Option (M<|.Subscript A b c):=λU U U=>none) (k13:∀A b,Option (M<|.Name A b):=λU U=>none) (k14:∀A b,Option (M<|.List A b):=λU U=>none) (k15:∀A b c,Option (M<|.Tuple A b c):=λU U U=>none) (k16:∀A b c d,Option (M<|.Slice A b c d):=λU U U U=>none):Option (M e):=e.casesOn k0 (λU U U=>none) k1 k2 k3 k4 k5 (λU U U=>none) k6 (λU U U U=>none) k7 (λU U U U=>none) (λU U=>none) (λU U=>none) (λU U=>none) k8 k9 (λU U U U=>none) (λU U=>none) k10 k11 k12 (λU U=>none) k13 k14 k15 k16
noncomputable def yE {M:PySem.Stmt->Type} (e:PySem.Stmt) (k0:∀A b,Option (M<|.Return A b):=λU U=>none) (k1:∀A b c,Option (M<|.Assign A b c):=λU U U=>none) (k2:∀A b c d,Option (M<|.AugAssign A b c d):=λU U U U=>none) (k3:∀A b c d f,Option (M<|.For A b c d f):=λU U U U U=>none) (k4:∀A b c d,Option (M<|.While A b c d):=λU U U U=>none) (k5:∀A b c d,Option (M<|.If A b c d):=λU U U U=>none) (k6:∀A b c,Option (M<|.Raise A b c):=λU U U=>none) (k7:∀A b c d f,Option (M<|.Try A b c d f):=λU U U U U=>none) (k8:∀A b,Option (M<|.Expr A b):=λU U=>none) (k9:∀A,Option (M<|.Pass A):=λU=>none) (k10:∀A,Option (M<|.Break A):=λU=>none) (k11:∀A,Option (M<|.Continue A):=λU=>none):Option (M e):=e.casesOn (λU U U U U U U U U U=>none) (λU U U U U U U U U U=>none) (λU U U U U U U U U U U=>none) k0 (λU U=>none) k1 (λU U U U U U U=>none) k2 (λU U U U U=>none) k3 (λU U U U U=>none) k4 k5 (λU U U=>none) (λU U U=>none) (λU U U=>none) k6 k7 (λU U U U U=>none) (λU U U=>none) (λU U=>none) (λU U U U=>none) (λU U=>none) (λU U=>none) k8 k9 k10 k11
def ib {M:PySem.Expr->Type} (e:PySem.Expr) (k:∀A b,Option<|M<|.Name A b):Option (M e):=xE e (k13:=k)
def tO {M:PySem.Expr->Type} (e:PySem.Expr) (k:∀A b c,Option<|M<|.Tuple A b c):Option (M e):=xE e (k15:=k)
def E8 {M:PySem.Expr->Type} (e:PySem.Expr) (k:∀A b c d,Option<|M<|.Call A b c d):Option (M e):=xE e (k9:=k)
def xi {M:PySem.Expr->Type} (e:PySem.Expr) (k:∀A b c,Option<|M<|.Attribute A b c):Option (M e):=xE e (k11:=k)
def Bn {M:PySem.Expr->Type} (e:PySem.Expr) (k:∀A b c,Option<|M<|.Constant A b c):Option (M e):=xE e (k10:=k)
def EY {M:PySem.Expr->Type} (e:PySem.Expr) (k:∀A b c d,Option<|M<|.Compare A b c d):Option (M e):=xE e (k8:=k)
def F9 {M:PySem.Expr->Type} (e:PySem.Expr) (k:∀A b c d,Option<|M<|.Lambda A b c d):Option (M e):=xE e (k3:=k)
def Ag {M:PySem.Expr->Type} (e:PySem.Expr) (k:∀A b c d,Option<|M<|.ListComp A b c d):Option (M e):=xE e (k6:=k)
def RP {M:PySem.Expr->Type} (e:PySem.Expr) (k:∀A b c d,Option<|M<|.Slice A b c d):Option (M e):=xE e (k16:=k)
def Vl {M:PySem.Expr->Type} (e:PySem.Expr) (k:∀A b,Option<|M<|.Name A b) (d:∀A b c,Option<|M<|.Tuple A b c):Option (M e):=xE e (k13:=k) (k15:=d)
def Vc {M:PySem.Expr->Type} (e:PySem.Expr) (k:∀A b,Option<|M<|.Name A b) (d:∀A b c,Option<|M<|.Attribute A b c):Option (M e):=xE e (k13:=k) (k11:=d)
def Qg {M:PySem.Expr->Type} (e:PySem.Expr) (k:∀A b,Option<|M<|.Name A b) (d:∀A b c,Option<|M<|.Attribute A b c) (f:∀A b c,Option<|M<|.Subscript A b c):Option (M e):=xE e (k13:=k) (k11:=d) (k12:=f)
def OV {M:PySem.Expr->Type} (e:PySem.Expr) (k:∀A b,Option<|M<|.Name A b) (d:∀A b c,Option<|M<|.Tuple A b c) (f:∀A b c,Option<|M<|.Attribute A b c) (g:∀A b c,Option<|M<|.Subscript A b c):Option (M e):=xE e (k13:=k) (k15:=d) (k11:=f) (k12:=g)
def Po {M:PySem.Expr->Type} (e:PySem.Expr) (l:∀A b c,Option<|M<|.Constant A b c) (m:∀A b,Option<|M<|.Name A b) (n:∀A b c d,Option<|M<|.BinOp A b c d) (o:∀A b c,Option<|M<|.UnaryOp A b c) (p:∀A b c d,Option<|M<|.Compare A b c d) (q:∀A b c,Option<|M<|.BoolOp A b c) (r:∀A b c d,Option<|M<|.IfExp A b c d) (s:∀A b c,Option<|M<|.Tuple A b c) (t:∀A b,Option<|M<|.List A b) (u:∀A b c,Option<|M<|.Dict A b c) (k:∀A b c,Option<|M<|.Attribute A b c) (f:∀A b c,Option<|M<|.Subscript A b c) (g:∀A b c d,Option<|M<|.Call A b c d) (h:∀A b c d,Option<|M<|.ListComp A b c d) (i:∀A b c d j,Option<|M<|.DictComp A b c d j):Option (M e):=xE e (k10:=l) (k13:=m) (k1:=n) (k2:=o) (k8:=p) (k0:=q) (k4:=r) (k15:=s) (k14:=t) (k5:=u) (k11:=k) (k12:=f) (k9:=g) (k6:=h) (k7:=i)
def HU {M:PySem.Stmt->Type} (e:PySem.Stmt) (k:∀A b,Option<|M<|.Return A b):Option (M e):=yE e (k0:=k)
def UR {M:PySem.Stmt->Type} (e:PySem.Stmt) (k:∀A b c,Option<|M<|.Assign A b c) (d:∀A b,Option<|M<|.Expr A b):Option (M e):=yE e (k1:=k) (k8:=d)
def Ti {M:PySem.Stmt->Type} (e:PySem.Stmt) (h:∀A,Option<|M<|.Pass A) (i:∀A,Option<|M<|.Break A) (j:∀A,Option<|M<|.Continue A) (l:∀A b,Option<|M<|.Return A b) (m:∀A b,Option<|M<|.Expr A b) (n:∀A b c,Option<|M<|.Assign A b c) (o:∀A b c d,Option<|M<|.AugAssign A b c d) (p:∀A b c d f,Option<|M<|.For A b c d f) (q:∀A b c d,Option<|M<|.While A b c d) (r:∀A b c d,Option<|M<|.If A b c d) (k:∀A b c,Option<|M<|.Raise A b c) (g:∀A b c d f,Option<|M<|.Try A b c d f):Option (M e):=yE e (k9:=h) (k10:=i) (k11:=j) (k0:=l) (k8:=m) (k1:=n) (k2:=o) (k3:=p) (k4:=q) (k5:=r) (k6:=k) (k7:=g)
structure SJ where
 nmOf:Str->Option Nat
 fnOf:Str->Option Nat
 biOf:Str->Option Bi
 clOf:Str->Option (Nat×Nat)
 exOf:Str->Option Nat
 glOf:Str->Option Int
 atOk:Str->Bool
 mt:MT
 lamSc:aS
 lamPos:Pos
noncomputable def HX (o:Operator):Option {p:Op // rt p=o}:=o.casesOn (some ⟨.add,rfl⟩) (some ⟨.sub,rfl⟩) (some ⟨.mul,rfl⟩) none none (some ⟨.mod,rfl⟩) (some ⟨.pow,rfl⟩) (some ⟨.shl,rfl⟩) (some ⟨.shr,rfl⟩) (some ⟨.bor,rfl⟩) (some ⟨.bxor,rfl⟩) (some ⟨.band,rfl⟩)<|some ⟨.fdiv,rfl⟩
noncomputable def NM (o:CmpOp):Option {p:Cm // vq p=o}:=o.casesOn (some ⟨.eq,rfl⟩) (some ⟨.ne,rfl⟩) (some ⟨.lt,rfl⟩) (some ⟨.le,rfl⟩) (some ⟨.gt,rfl⟩) (some ⟨.ge,rfl⟩) (some ⟨.isn,rfl⟩) (some ⟨.isnn,rfl⟩) (some ⟨.inn,rfl⟩)<|some ⟨.nin,rfl⟩
noncomputable def GW (s:aS) (n:Str):Bool:=match s.lookup n with|some .local=>true|some .cell=>true|some .free=>true|_=>false
noncomputable def qb (n:Str):Bool:=!(n==("__debug__"))
noncomputable def Go (x:Nat):List Nat->List Nat
 |[]=>[x]
 |y::l=>match Nat.ble x y with|true=>x::y::l|false=>y::Go x l
def uU:List Nat->List Nat
 |[]=>[]
 |x::l=>Go x<|uU l
noncomputable def ly (k:NameKind):Bool:=decide<|k=.free
noncomputable def xJ (k:NameKind):Bool:=decide<|k=.cell
noncomputable def oJ (k:NameKind):Bool:=decide<|k=.local
def Fz (g:SJ) (s:Scope) (c:aS):Bool:=!(eE s.names c==g.lamSc)&&(s.kind==.function)&&s.names.all (λy=>!xJ y.2)&&s.names.all (λy=>!oJ y.2||(s.names.lookup y.1).elim false oJ)&&
 s.names.all λy=>!ly y.2||(c.lookup y.1).elim false xJ
noncomputable def vf (g:Comprehension):Bool:=g.is_async==0
def TO (m:Nat) (n:Str):Bool:=match yf m with|some k=>n==ye k|none=>true
noncomputable def Qh (o:Option Bi) (b:Bi):Bool:=o.casesOn false λc=>Nat.beq c.ctorIdx b.ctorIdx
structure VI (F:Fx) (mg:Str->Option Value) (n:Str) (f:Nat) (o:Obj) (fd:FuncData):Prop where
 at':mg n=some (.ref<|F.fn f)
 ob:F.B.get? (F.fn f)=some o
 fd:o.data=.func fd
structure U0 (F:Fx) (mg:Str->Option Value) (n:Str) (c f:Nat):Prop where
 at':mg n=some (.ref<|F.cls c)
 keep:keepIn F.K (.ref<|F.cls c)=true
 ins:F.ins c=true
 mks:makesIn F.K (F.cls c)=true
 ini:findIn F.K (.ref<|F.cls c) "__init__"=some (some<|.ref<|F.fn f)
 ty:typeIn F.K (.ref<|F.fn f)=some (.type "function")
structure UD (F:Fx) (mg:Str->Option Value) (n:Str) (c f:Nat) (fd:FuncData):Prop where
 at':mg n=some (.ref<|F.cls c)
 keep:keepIn F.K (.ref<|F.cls c)=true
 exc:eX F (F.cls c)
 ty:typeIn F.K (.ref<|F.cls c)=some (.type "type")
 at2:qd F f fd
 ini:findIn F.K (.ref<|F.cls c) "__init__"=some (some<|.ref<|F.fn f)
 fty:typeIn F.K (.ref<|F.fn f)=some (.type "function")
structure bC (F:Fx) (g:SJ) (mg mb:Str->Option Value):Prop where
 hm:F.B.Ns mainGlobals mg
 hb:F.B.Ns builtinsNs mb
 fn:∀n f,g.fnOf n=some f->∃o fd,VI F mg n f o fd
 bi:∀n b,g.biOf n=some b->mg n=none
 bi2:∀n b,g.biOf n=some b->mb n=some (yO b)
 cl:∀n c f,g.clOf n=some (c,f)->U0 F mg n c f
 gl:∀n i,g.glOf n=some i->∃t,mg n=some (.int i t)
 ex:∀n c,g.exOf n=some c->∃f fd,UD F mg n c f fd
 nm:∀n i,g.nmOf n=some i->F.nm i=n
 at':∀n,g.atOk n=true->∀c,F.ins c=true->fP F.K (F.cls c) n=true
 mt:Ll F g.mt
 lam:F.lamSc=g.lamSc
 lamP:F.lamPos=g.lamPos
 lamO:yG F
 fault:∀y,F.nm y≠("fault":Str)
theorem Ec:y∈Go x l->y=x\/y∈l:=by
 induction l with
 |nil=>exactλh=>.inl<|VS h
 |cons z l i=>
  intro h;haveI h:y∈(match Nat.ble x z with|true=>x::z::l|false=>z::Go x l):=h;cases q:Nat.ble x z with
  |true=>rw[q] at h;exact VO h
  |false=>rw[q] at h;exact(VO h).elim (λe=>.inr<|e▸.head _) λm=>(i m).imp id<|.tail _
theorem Ak:y∈uU l->y∈l:=by
 induction l with
 |nil=>exact id
 |cons x l i=>exactλh=>(Ec h).elim (λq=>q▸.head _) λq=>.tail _<|i q
theorem kc {o:Option NameKind} (h:o.elim false f=true):∃k,o=some k/\f k:=by
 induction o with
 |none=>cases h
 |some k=>exact bK k rfl h
theorem AR (h:ly k):k=.free:=Xm h
theorem BG (h:xJ k):k=.cell:=Xm h
theorem o8 (h:oJ k):k=.local:=Xm h
noncomputable abbrev uh (F:Fx) (all:aS) (l:List Nat):Prop:=∀x∈l,all.lookup (F.nm x)=some .free/\(F.nm x==("__classdict__"))=false
theorem xl (G:bC F g M m) (H:((all.lookup n).elim false ly&&!(n==("__classdict__":Str)))) (d:g.nmOf n=some i) (h:uh F all l):uh F all (i::l):=λx b=>by
 rcases VO b with rfl|b
 .simp only [XR] at H
  refine aI (kc H.1) λk e c=>?_;refine(G.nm _ _ d)▸?_;exact⟨by rw[e,AR c],aA H.2⟩
 .exact h x b
def zr (G:bC F g M m) (all:aS):aS->Option {l:List Nat // uh F all l}
 |[]=>some ⟨[],λU h=>nomatch h⟩
 |y::Y=>match ly y.2 with
  |true=>gd ((all.lookup y.1).elim false ly&&!(y.1==("__classdict__"))) λh=>op _ λi H=>ob (zr G all Y) λl=>some ⟨i::l.1,xl G h H l.2⟩
  |false=>zr G all Y
theorem pr (G:bC F g o M) (h:Fz g s n) (l:uh F s.names f):gV F s n (uU f):=by
 delta Fz at h;simp only [XR,beq_iff_eq,Xr] at h;obtain⟨⟨⟨⟨h0,c⟩,d⟩,i⟩,j⟩:=h;refine⟨c,λy H q=>?_,λy H q=>?_,λy H q=>?_,by exact G.lam▸(beq_eq_false_iff_ne.mp<|aA h0),λx m=>l x<|Ak m⟩;.haveI:=d y H;rw[q] at this;cases this
 .haveI:=i y H
  rw[q] at this;refine aI (kc this) λk e b=>?_;exact qL e<|qL (o8 b) rfl
 .haveI:=j y H
  rw[q] at this;refine aI (kc this) λk e b=>?_;exact qL e<|qL (BG b) rfl
theorem jo (h:vf g):g=⟨g.target,g.iter,g.ifs,0⟩:=by
 obtain⟨a,b,c,d⟩:=g;haveI:d=0:=by simpa [vf] using h
 subst this;rfl
noncomputable def uv (F:Fx) (x:V->Value->List Addr->Shared->Prop) (D:Nat) (c:aS) (e:Expr) (g:List Comprehension) (s:Scope) (o:Pos) (p:(List Nat×PT)×E×Cs):Prop:=
 ∃t iter i G r,g=⟨t,iter,i,0⟩::G/\ia iter=false/\gV F s c p.1.1/\aC F x D c iter p.2.1/\dN F (.ListComp e g s o) 0/\dA F (.ListComp e g s o) 0 t r/\
  bY F x D (eE s.names c) cZ r p.2.2/\eG F (iE<|eE s.names c) t p.1.2
theorem vz (h:uv F x D l e g s o p):aC F x D l (.ListComp e g s o) (bQ p.1.1 p.1.2 p.2.1 p.2.2):=by refine Ud h λt iter k G r q H b c d f i j=>?_;subst q;exact zN (λU=>rfl) rfl rfl H zP b c d f i j lz
theorem OJ (b:Bi):rA F x D b:=by
 induction b with
 |len=>exact Eg
 |range=>exact FG
 |tuple=>exact Fv
 |list=>exact Hg
 |sorted=>exact Aw
 |max=>exact KD
 |min=>exact KX
 |set=>exact L4
theorem Ug (b:Bi):[PM.len,.range,.tuple,.list,.sorted,.max,.min,.set][b.ctorIdx]?=some b:=by cases b<;>rfl
theorem yp (h:Qh o b):o=some b:=by
 induction o with
 |none=>exact sB rfl h
 |some c=>exact(Ug c).symm.trans<|W3  h ▸Ug b
def EG (x:Expr):Option Str:=E8 (M:=λU=>Str) x λf U U U=>ib (M:=λU=>Str) f λn U=>some n
def LI (x:Expr):Bool:=(EG x).elim false λn=>n==("_wall")
def Aa (x:Expr):Bool:=(EG x).elim false λn=>n==("str")
def wh (s:aS) (n:Str):Bool:=(s.lookup n).elim false oJ
theorem Dw:cC F c D s x Cw:=λU U U U U U U U U U U U U=>am.no
theorem jW (h:wh s n):s.lookup n=some .local:=by refine aI (kc h) λk e b=>?_;exact qL e<|qL (o8 b) rfl
abbrev RE (F:Fx) (c:V->Value->List Addr->Shared->Prop) (D:Nat) (s:aS) (x:Expr):=Option {a:E // aC F c D s x a}
abbrev RC (F:Fx) (c:V->Value->List Addr->Shared->Prop) (D:Nat) (s:aS) (x:Expr):=Option {a:C // lr F c D s x a}
abbrev RS (F:Fx) (c:V->Value->List Addr->Shared->Prop) (D:Nat) (s:aS) (x:Stmt):=Option {a:S // cC F c D s x a}
structure FT (F:Fx) (Xc:V->Value->List Addr->Shared->Prop) (D:Nat) where
 e:∀sc x,RE F Xc D sc x
 c:∀sc x,RC F Xc D sc x
theorem AY (h:bd x) (H:s.all bd):(x::s).all bd:=by simp only [W5,h,H];rfl
def Nb (e:∀x,RE F c D b x):(s:List Expr)->Option {l:List E // jD F c D b s l/\s.all bd=true}
 |[]=>some ⟨[],xV,rfl⟩
 |x::s=>gd _ λh=>ob (e x) λa=>ob (Nb e s) λl=>some ⟨a.1::l.1,oO a.2 l.2.1 h,AY h l.2.2⟩
def I6 (c:∀x,RC F b D d x):(s:List Expr)->Option {l:List C // iy F b D d .And s (gX l)}
 |[]=>some ⟨[],xT⟩
 |x::s=>ob (c x) λa=>ob (I6 c s) λl=>some ⟨a.1::l.1,vw a.2 l.2⟩
def Nt (c:∀x,RC F b D d x):(s:List Expr)->Option {l:List C // iy F b D d .Or s (oG l)}
 |[]=>some ⟨[],BH⟩
 |x::s=>ob (c x) λa=>ob (Nt c s) λl=>some ⟨a.1::l.1,xr a.2 l.2⟩
def TU (e:∀x,RE F c D s x):(x:Option Expr)->Option {l:Option E // Bx F c D s x l}
 |none=>some ⟨none,.none⟩
 |some x=>ob (e x) λa=>some ⟨some a.1,.some a.2⟩
theorem Ib (G:bC F g M m) (h:aZ s n) (H:g.glOf n=some i):aC F x D s (.Name n p) (eK<|.int i):=by exact(G.gl n i H).elim λt b=>HA h G.hm b
def LN (G:bC F g M m) (s:aS) (n:Str) (p:Pos):RE F x D s (.Name n p):=match GW s n with
 |true=>gd _ λh=>op _ λi H=>some ⟨ab i,E9 (G.nm _ _ H)<|aA h⟩
 |false=>gd _ λh=>op _ λi H=>some ⟨eK _,Ib G h H⟩
theorem Kl (H:F.nm i=n) (h:o n):eG F o (.Name n p) (.loc i):=by subst H;exact .loc h
theorem Gp (H:F.nm i=n) (h:o n) (t:ee F o e x):ee F o (.Name n p::e) (i::x):=by subst H;exact .cons h t
def Lh (G:bC F g b m) (o:Str->Bool):(s:List Expr)->Option {l:List Nat // ee F o s l}
 |[]=>some ⟨[],.nil⟩
 |e::s=>ib (M:=λe=>{l:List Nat // ee F o (e::s) l}) e λn U=>gd (o n) λh=>op _ λi H=>ob (Lh G o s) λl=>some ⟨i::l.1,Gp (G.nm _ _ H) h l.2⟩
def Nv (G:bC F g b m) (o:Str->Bool) (e:Expr):Option {t:PT // eG F o e t}:=Vl (M:=λe=>{t:PT // eG F o e t}) e
 (λn U=>gd (o n) λh=>op _ λi H=>some ⟨.loc i,Kl (G.nm _ _ H) h⟩)
 λs U U=>ob (Lh G o s) λl=>some ⟨.tup l.1,.tup l.2⟩
def yM (c:∀x,RC F d D s x) (b:{b:Cs // bY F d D s mk r b}):(i:List Expr)->Option {b:Cs // bY F d D s mk (fJ F i r) b}
 |[]=>some ⟨b.1,Kd b.2⟩
 |[x]=>ob (c x) λt=>some ⟨l9 t.1 b.1,RN t.2 b.2⟩
 |_=>none
theorem LP (H:gV F s b f) (h:(vf g&&!ia g.iter)) (j:eG F (iE<|eE s.names b) g.target t) (i:aC F x D b g.iter k)
  (d:bY F x D (eE s.names b) cZ (fJ F g.ifs<|mG F e) c):uv F x D b e [g] s p ((f,t),k,c):=by
 simp only [XR] at h;haveI q:=jo h.1;exact Up g.target g.iter g.ifs [] _ (qR q rfl) (aA h.2) H i (q▸sy) (q▸Dz) d j
theorem MI (h:(vf G&&!ia G.iter&&(vf g&&!ia g.iter))) (t:eG F (iE<|eE s.names c) g.target f) (i:aC F x D (eE s.names c) g.iter b)
  (H:bY F x D (eE s.names c) cZ (fJ F g.ifs<|mG F e) d):bY F x D (eE s.names c) cZ (oW F (.ListComp e [G,g] s p) g.iter) (lT f b d):=by
 simp only [XR] at h;haveI q:=jo h.1.1;refine OG ?_ ?_ i H t lz;.rw[q,jo h.2.1];exact Bf
 .rw[q,jo h.2.1];exact z9
theorem Mp (H:gV F s b f) (h:(vf g&&!ia g.iter&&(vf G&&!ia G.iter))) (j:eG F (iE<|eE s.names b) g.target t) (i:aC F x D b g.iter k)
  (d:bY F x D (eE s.names b) cZ (fJ F g.ifs<|oW F (.ListComp e [g,G] s p) G.iter) c):uv F x D b e [g,G] s p ((f,t),k,c):=by
 simp only [XR] at h;haveI q:=jo h.1.1;refine Up g.target g.iter g.ifs [G] _ (qR q rfl) (aA h.1.2) H i ?_ ?_ d j;.rw[q];exact sy
 .rw[q,jo h.2.1];exact AJ<|aA h.2.2
def Nf (G:bC F g q M) (r:FT F x D) (j:aS) (l:Expr) (b:List Comprehension) (s:Scope) (o:Pos):Option {p:(List Nat×PT)×E×Cs // uv F x D j l b s o p}:=gd (Fz g s j) λH=>ob (zr G s.names s.names) λv=>match b with
 |[d]=>gd _ λh=>ob (Nv G _ d.target) λt=>ob (r.e j d.iter) λi=>ob (r.e _ l) λe=>ob (yM (r.c _) ⟨cr e.1,JN e.2⟩ d.ifs) λc=>some ⟨((uU v.1,t.1),i.1,c.1),LP (pr G H v.2) h t.2 i.2 c.2⟩
 |[d,k]=>gd _ λh=>ob (Nv G _ d.target) λt=>ob (r.e j d.iter) λi=>ob (r.e _ l) λe=>ob (yM (r.c _) ⟨cr e.1,JN e.2⟩ k.ifs) λm=>
   ob (Nv G _ k.target) λn=>ob (r.e _ k.iter) λf=>ob (yM (r.c _) ⟨lT n.1 f.1 m.1,MI h n.2 f.2 m.2⟩ d.ifs) λc=>
   some ⟨((uU v.1,t.1),i.1,c.1),Mp (pr G H v.2) h t.2 i.2 c.2⟩
 |_=>none
theorem Fj (H:gV F s b f) (h:(vf g&&!ia g.iter)) (e:eG F (iE<|eE s.names b) g.target t) (i:aC F x D b g.iter j)
  (d:bY F x D (eE s.names b) jx (fJ F g.ifs<|l8 F k v) c):aC F x D b (.DictComp k v [g] s p) (sZ f t j c):=by
 simp only [XR] at h;refine qL (jo h.1) ?_;exact Fb (aA h.2) H i d e
def P7 (G:bC F g M m) (r:FT F x D) (e:aS) (k v:Expr) (d:Comprehension) (s:Scope) (p:Pos):RE F x D e (.DictComp k v [d] s p):=gd _ λH=>ob (zr G s.names s.names) λf=>gd _ λh=>ob (Nv G _ d.target) λt=>ob (r.e e d.iter) λi=>ob (r.e _ k) λa=>ob (r.e _ v) λb=>ob (yM (r.c _) ⟨qN a.1 b.1,MN a.2 b.2⟩ d.ifs) λc=>some ⟨sZ _ t.1 i.1 c.1,Fj (pr G H f.2) h t.2 i.2 c.2⟩
noncomputable def KP (F:Fx) (x:V->Value->List Addr->Shared->Prop) (D:Nat) (c:aS) (s:List<|Option Expr) (v:List Expr) (l:List E):Prop:=∃k:List (Expr×Expr),s=k.map (λp=>some p.1)/\v=k.map (·.2)/\M6 F x D c k l
theorem KP.nil:KP F x D h [] [] []:=⟨[],rfl,rfl,.nil⟩
theorem KP.cons (A:aC F x D p k a) (u:aC F x D p v b) (h:KP F x D p y vs l):KP F x D p (some k::y) (v::vs) (a::b::l):=by refine e7 h λj q Q r=>?_;subst q Q;exact⟨(k,v)::j,rfl,rfl,.cons A u r⟩
def yK (e:∀x,RE F d D f x):(s:List<|Option Expr)->(c:List Expr)->Option {l:List E // KP F d D f s c l}
 |[],[]=>some ⟨[],.nil⟩
 |some k::s,v::c=>ob (e k) λa=>ob (e v) λb=>ob (yK e s c) λl=>some ⟨a.1::b.1::l.1,.cons a.2 b.2 l.2⟩
 |_,_=>none
theorem KF (h:KP F x D c s vs l) (h0:Nat.ble s.length 15):aC F x D c (.Dict s vs p) (iU l):=by
 refine e7 h λk q Q H=>?_;subst q Q;induction k with
 |nil=>cases H;exact Gr
 |cons p k=>exact Le H nofun (by simpa using Xi h0)
structure Gg (F:Fx) (params:Arguments) (body:Expr) (scope:Scope):Prop where
 b:C7 F params body scope
 fr:∀x∈scope.names,x.2≠.free
 df:∀env,defaultsOf params env=([],[])
theorem Lq (G:bC F g O M) (H:g.nmOf r=some x) (i:z=r) (j:A=r) (f:r=Str.ofString "row") (e:g.biOf l=some .len) (m:aZ s.names l) (n:s.kind=.function)
  (o:s.isCoroutine=false) (t:s.isGenerator=false) (u:s.names≠F.lamSc) (v:s.names.lookup r=some .local) (b:qb r) (d:∀y∈s.names,(!ly y.2)):
  Gg F ⟨[],[⟨r,none,Q⟩],none,[],[],none,[]⟩ (.Tuple [.Call (.Name l p2) [.Name z p3] [] p4,.Name A p5] k p6) s:=by
 subst i j f;haveI h:∀(c:V->Value->List Addr->Shared->Prop) (D:Nat) p,aC F c D s.names (.Name _ p) _:=λc D p=>E9 (G.nm _ _ H)<|aA b;exact⟨⟨n,o,t,u,x,_,G.nm _ _ H,v,λpm L w J=>rfl,λc D=>Dt (oO (wr Eg (oO (h c D _) xV rfl) rfl m G.hm (G.bi _ _ e) G.hb<|G.bi2 _ _ e) (oO (h c D _) xV rfl) rfl) rfl⟩,
  λy Y q=>sB (by rw[q];rfl)<|d y Y,λN=>rfl⟩
noncomputable def SZ {M:List Expr->Type} (l:List Expr) (k:∀a b,Option<|M [a,b]):Option (M l):=l.casesOn none λa t=>t.casesOn none λb t=>t.casesOn (k a b) λU U=>none
noncomputable abbrev AH (F:Fx) (p:Arguments) (b:Expr) (s:Scope):=PLift<|Gg F p b s
def Oo (G:bC F g mg mb) (A:Arguments) (o:Expr) (s:Scope):Option (PLift<|Gg F A o s):=A.casesOn λpo h va ko Y kw O=>po.casesOn (h.casesOn none λa h=>h.casesOn (a.casesOn λr N p=>N.casesOn (va.casesOn (ko.casesOn (Y.casesOn (kw.casesOn (O.casesOn
 (tO (M:=λb=>AH F ⟨[],[⟨r,none,p⟩],none,[],[],none,[]⟩ b s) o λl k c=>SZ (M:=λl=>AH F ⟨[],[⟨r,none,p⟩],none,[],[],none,[]⟩ (.Tuple l k c) s) l λj e=>
  E8 (M:=λj=>AH F ⟨[],[⟨r,none,p⟩],none,[],[],none,[]⟩ (.Tuple [j,e] k c) s) j λf d n m=>ib (M:=λf=>AH F ⟨[],[⟨r,none,p⟩],none,[],[],none,[]⟩ (.Tuple [.Call f d n m,e] k c) s) f λln p2=>
  d.casesOn none λx d=>d.casesOn (n.casesOn (ib (M:=λx=>AH F ⟨[],[⟨r,none,p⟩],none,[],[],none,[]⟩ (.Tuple [.Call _ [x] [] m,e] k c) s) x λr1 p3=>ib (M:=λe=>AH F ⟨[],[⟨r,none,p⟩],none,[],[],none,[]⟩ (.Tuple [.Call _ [.Name r1 p3] [] m,e] k c) s) e λr2 p5=>op _ λU Q=>gd _ λt=>gd _ λu=>gd _ λq=>gd _ λv=>gd _ λw=>gd _ λz=>gd _ λD=>gd _ λH=>gd _ λJ=>gd _ λL=>gd _ λb=>gd (s.names.all λy=>!ly y.2) λi=>some ⟨Lq G Q (eq_of_beq t) (eq_of_beq u) (eq_of_beq q) (yp v) w (eq_of_beq z) (aA D) (aA H) (G.lam▸beq_eq_false_iff_ne.mp (aA J)) (jW L) b<|VU i⟩) λU U=>none) λU U=>none) λU U=>none) λU=>none) λU U=>none) λU U=>none) λU=>none) λU=>none) λU U=>none) λU U=>none
theorem JX (H:1<=D) (G:bC F g q M) (f:k=Str.ofString "key") (h:bd x) (i:aZ c n) (j:c=F.lamSc) (d:g.biOf n=some .sorted) (m:l.line=F.lamPos.line) (o:l.col=F.lamPos.col) (L:Gg F p b s) (A:aC F e D c x a):
  aC F e D c (.Call (.Name n r) [x] [⟨some k,.Lambda p b s l,t⟩] u) (HW a):=by
 subst f;induction D with
 |zero=>cases H
 |succ D=>exact KA G.lamO A h i G.hm (G.bi _ _ d) G.hb (G.bi2 _ _ d) j L.b L.fr L.df m o
def OT (H:1<=D) (G:bC F g v M) (r:FT F d D) (c:aS) (n k:Str) (x:Expr) (p:Arguments) (b:Expr) (s:Scope) (q l t u:Pos):RE F d D c (.Call (.Name n q) [x] [⟨some k,.Lambda p b s l,t⟩] u):=
 gd _ λe=>gd _ λf=>gd _ λh=>gd _ λi=>gd _ λj=>gd _ λm=>gd _ λo=>ob (Oo G p b s) λL=>ob (r.e c x) λa=>some ⟨HW a.1,JX H G (eq_of_beq e) f h ((eq_of_beq i).trans G.lam.symm) (yp j) (G.lamP▸eq_of_beq m) (G.lamP▸eq_of_beq o) L.1 a.2⟩
theorem Eb (G:bC F g M m) (h0:aZ s n) (h:jD F c D s x l/\x.all bd) (H:g.fnOf n=some f):aC F c D s (.Call (.Name n p) x [] b) (ag f l):=by exact EH (G.fn _ f H) λo fd k=>CS h.1 h.2 h0 G.hm k.at' k.ob k.fd
theorem Fd (G:bC F g M m) (h0:aZ s n) (H:jD F c D s x l/\x.all bd) (h:g.biOf n=some b):aC F c D s (.Call (.Name n p) x [] d) (ah b l):=
 wr (OJ b) H.1 H.2 h0 G.hm (G.bi _ b h) G.hb (G.bi2 _ b h)
theorem KR (G:bC F g M m) (h0:aZ s n) (h:jD F c D s x l/\x.all bd) (H:g.clOf n=some p):aC F c D s (.Call (.Name n b) x [] d) (mF p.1 p.2 l):=by haveI k:=G.cl _ p.1 p.2 H;exact LR h.1 h.2 h0 G.hm k.at' k.keep k.ins k.mks k.ini k.ty
theorem Fk (G:bC F g i f) (h0:(qM x&&Nat.blt s.length 30&&(A.endLine==p.line))) (M:g.nmOf n=some m) (h:TO m n) (d:aC F c D b x a) (H:jD F c D b s l/\s.all bd):
  aC F c D b (.Call (.Attribute x n A) s [] p) (aj g.mt a m l):=by
 simp only [XR] at h0;refine Ek G.mt d H.1 H.2 (G.nm _ _ M) (λk e=>?_) h0.1.1 (Xi h0.1.2) h0.2;delta TO at h;rw[e] at h;exact eq_of_beq h
theorem Kv (h0:(!behindInMarks o y)) (h:vq q=o) (H:aC F x D s l a) (c:aC F x D s y b):aC F x D s (.Compare l [o] [y] p) (jI q a b):=by subst h;exact MH H c<|aA h0
theorem IF (h0:(!behindInMarks o y)) (h:vq q=o) (H:aC F x D s l a) (c:aC F x D s y b):lr F x D s (.Compare l [o] [y] p) (aw q a b):=by subst h;exact KG H c<|aA h0
theorem D6 (h:(a&&b)):a:=(VP h).1
theorem FC (h:(a&&b)):b:=(VP h).2
def LW (G:bC F g M m) (s:aS) (n:Str) (e i:Pos) (h:aZ s n=true) (l:{l:List E // jD F c D s x l/\x.all bd=true}):RE F c D s (.Call (.Name n e) x [] i):=match d:g.fnOf n with
 |some f=>some ⟨ag f l.1,Eb G h l.2 d⟩
 |none=>match H:g.biOf n with
  |some b=>some ⟨ah b l.1,Fd G h l.2 H⟩
  |none=>op _ λp b=>some ⟨mF p.1 p.2 l.1,KR G h l.2 b⟩
def Pa (hD:1<=D) (G:bC F g mg mb) (r:FT F u D) (d:aS) (x:Expr):RE F u D d x:=Po (M:=λx=>{a:E // aC F u D d x a}) x
 (λc U U=>c.casesOn (some ⟨eK .non,Iq⟩) (λb=>some ⟨eK _,Hf⟩) (λi=>some ⟨eK _,MD⟩) (λU=>none) (λU U=>none) (λs=>some ⟨eK _,KS⟩) (λU=>none) none)
 (λn p=>LN G d n p)
 (λl o x U=>ob (HX o) λp=>ob (r.e d l) λa=>ob (r.e d x) λb=>some ⟨ap p.1 a.1 b.1,by obtain⟨p,rfl⟩:=p;exact J4 a.2 b.2⟩)
 (λo x U=>o.casesOn none (ob (r.e d x) λa=>some ⟨NK a.1,MX a.2⟩) none<|ob (r.e d x) λa=>some ⟨mR a.1,Lc a.2⟩)
 (λl os m U=>os.casesOn none λo t=>t.casesOn (m.casesOn none λy t=>t.casesOn (gd _ λh=>ob (NM o) λp=>ob (r.e d l) λa=>ob (r.e d y) λb=>some ⟨jI p.1 a.1 b.1,Kv h p.2 a.2 b.2⟩) λU U=>none) λU U=>none)
 (λo q U=>q.casesOn none λx t=>t.casesOn none λy t=>t.casesOn (o.casesOn (ob (r.e d x) λa=>ob (r.e d y) λb=>some ⟨Ge [a.1,b.1],LQ a.2 b.2⟩)<|ob (r.e d x) λa=>ob (r.e d y) λb=>some ⟨MY [a.1,b.1],Pj a.2 b.2⟩) λU U=>none)
 (λt x y U=>ob (r.c d t) λc=>ob (r.e d x) λa=>ob (r.e d y) λb=>some ⟨ta c.1 a.1 b.1,MV c.2 a.2 b.2⟩)
 (λq U U=>ob (Nb (r.e d) q) λl=>some ⟨bq l.1,Dt l.2.1 l.2.2⟩)
 (λq U=>ob (Nb (r.e d) q) λl=>some ⟨aT l.1,MJ l.2.1 l.2.2⟩)
 (λz m U=>gd _ λh=>ob (yK (r.e d) z m) λl=>some ⟨iU l.1,KF l.2 h⟩)
 (λx n U=>gd _ λh=>op _ λf H=>ob (r.e d x) λa=>some ⟨al a.1 f,GU a.2 (G.nm _ _ H) (G.at' _<|FC h)<|D6 h⟩)
 (λx y U=>NC (RP (M:=λy=>{a:E // aC F u D d (.Subscript x y _) a}) y λlo H st U=>st.casesOn (ob (r.e d x) λa=>ob (TU (r.e d) lo) λl=>ob (TU (r.e d) H) λh=>some ⟨rz a.1 l.1 h.1,Ks a.2 l.2 h.2⟩) λU=>none)<|gd _ λh=>ob (r.e d x) λa=>ob (r.e d y) λb=>some ⟨aq a.1 b.1,JW a.2 b.2<|aA h⟩)
 (λf q z H=>Vc (M:=λf=>{a:E // aC F u D d (.Call f q z H) a}) f
  (λn N=>z.casesOn (gd _ λh=>ob (Nb (r.e d) q) λl=>LW G d n N H h l)
   λk t=>t.casesOn (k.casesOn λw e U=>w.casesOn none λk=>q.casesOn none λQ t=>t.casesOn (F9 (M:=λe=>{a:E // aC F u D d (.Call _ [Q] [⟨some k,e,_⟩] H) a}) e λA m j L=>OT hD G r d n k Q A m j N L _ H) λU U=>none) λU U=>none)
  λx n J=>z.casesOn (gd _ λh=>op _ λm A=>gd _ λw=>ob (r.e d x) λa=>ob (Nb (r.e d) q) λl=>some ⟨aj g.mt a.1 m l.1,Fk G h A w a.2 l.2⟩) λU U=>none)
 (λL m j O=>ob (Nf G r d L m j O) λp=>some ⟨bQ p.1.1.1 p.1.1.2 p.1.2.1 p.1.2.2,vz p.2⟩)
 λk v gs j O=>gs.casesOn none λY t=>t.casesOn (P7 G r d k v Y j O) λU U=>none
def O5 (r:FT F c D) (s:aS) (x:Expr):RC F c D s x:=NC (Po (M:=λx=>{a:C // lr F c D s x a}) x (λU U U=>none) (λU U=>none) (λU U U U=>none)
 (λo x U=>o.casesOn none (ob (r.c s x) λa=>some ⟨pK a.1,Kx a.2⟩) none none)
 (λl os Y U=>os.casesOn none λo t=>t.casesOn (Y.casesOn none λy t=>t.casesOn (gd _ λh=>ob (NM o) λp=>ob (r.e s l) λa=>ob (r.e s y) λb=>some ⟨aw p.1 a.1 b.1,IF h p.2 a.2 b.2⟩) λU U=>none) λU U=>none)
 (λo b U=>o.casesOn (ob (I6 (r.c s) b) λl=>some ⟨gX l.1,MA l.2⟩)<|ob (Nt (r.c s) b) λl=>some ⟨oG l.1,N6 l.2⟩)
 (λU U U U=>none) (λU U U=>none) (λU U=>none) (λU U U=>none) (λU U U=>none) (λU U U=>none) (λU U U U=>none) (λU U U U=>none) λU U U U U=>none)
 (gd _ λh=>ob (r.e s x) λa=>some ⟨aW a.1,Cp a.2 h⟩)
def ck (h:1<=D) (G:bC F g M m) (n:Nat):FT F x D:=Nat.rec ⟨λU U=>none,λU U=>none⟩ (λU r=>⟨Pa h G r,O5 r⟩) n
def M8 (f:∀x,RS F c D b x):(s:List Stmt)->Option {l:List S // nE F c D b s (ad l)}
 |[]=>some ⟨[],Ls⟩
 |x::s=>ob (f x) λa=>ob (M8 f s) λl=>some ⟨a.1::l.1,GQ a.2 l.2⟩
theorem HM (G:bC F g y M) (H:cY b n) (u:g.nmOf n=some i) (h:uv F x D b l e s c q):
  cC F x D b (.Assign [.Name n p] (.ListComp l e s c) O) (ai (.loc i)<|bQ q.1.1 q.1.2 q.2.1 q.2.2):=by
 refine Ud h λz iter v w r Q d f j k m o t=>?_;subst Q;exact Gk d f j (vz h) k m o t (G.nm _ _ u) H
def N4 (G:bC F g k m) (r:FT F f D) (d:aS) (n:Str) (x:Expr) (p o:Pos):RS F f D d (.Assign [.Name n p] x o):=gd _ λH=>op _ λi j=>NC (Ag (M:=λx=>{a:S // cC F f D d (.Assign [.Name n p] x o) a}) x λl b s c=>ob (Nf G r d l b s c) λq=>some ⟨ai _ _,HM G H j q.2⟩)<|gd _ λh=>ob (r.e d x) λe=>some ⟨ai _ e.1,KN e.2 (G.nm _ _ j) H<|aA h⟩
theorem Gf (G:bC F g v M) (h:(wh s a&&wh s b&&(o.line==A.line)&&qb c)) (f:g.nmOf a=some i) (l:g.nmOf b=some j) (H:(!Nat.beq i j))
  (m:aC F x D s (.Tuple [.Name c r,.Name d t] n u) e):cC F x D s (.Assign [.Tuple [.Name a A,.Name b o] k p] (.Tuple [.Name c r,.Name d t] n u) O) (ai (.tup [i,j]) e):=by
 simp only [XR] at h;refine Ij m (G.nm _ _ f) (G.nm _ _ l) (λq=>?_) (jW h.1.1.1) (jW h.1.1.2) h.1.2<|aA h.2;subst q;rw[qY,Xh rfl] at H;cases H
def OE (G:bC F g O N) (r:FT F h D) (s:aS) (f:List Expr) (k:Nat) (x:Expr) (p o:Pos):RS F h D s (.Assign [.Tuple f k p] x o):=gt (zz x)
 (f.casesOn none λt f=>f.casesOn none λm f=>f.casesOn (ib (M:=λe=>{a:S // cC F h D s (.Assign [.Tuple [e,m] k p] x o) a}) t λa A=>ib (M:=λe=>{a:S // cC F h D s (.Assign [.Tuple [.Name _ A,e] k p] x o) a}) m λb l=>tO (M:=λx=>{a:S // cC F h D s (.Assign [.Tuple [.Name _ A,.Name _ l] k p] x o) a}) x λy n q=>y.casesOn none λL y=>y.casesOn none λY y=>y.casesOn (ib (M:=λe=>{a:S // cC F h D s (.Assign [.Tuple [.Name _ A,.Name _ l] k p] (.Tuple [e,Y] n q) o) a}) L λc z=>ib (M:=λe=>{a:S // cC F h D s (.Assign [.Tuple [.Name _ A,.Name _ l] k p] (.Tuple [.Name _ z,e] n q) o) a}) Y λd Q=>gd _ λH=>op _ λi u=>op _ λj v=>gd _ λw=>ob (r.e s _) λe=>some ⟨ai _ e.1,Gf G H u v w e.2⟩) λU U=>none) λU U=>none) λU=>
 gd _ λH=>ob (Lh G _ f) λJ=>ob (r.e s x) λe=>some ⟨ai _ e.1,HJ J.2 e.2 (aA<|D6 H)<|aA<|FC H⟩
theorem EN (G:bC F g z M) {ix:Nat}
  (h:cY s b) (j:(!fY x)) (l:aZ s N) (m:n=("fault":Str)) (o:y=n) (q:k=bM) (r:wh s n) (t:qb d) (H:g.nmOf b=some i) (u:g.nmOf d=some ix) (v:g.exOf N=some c) (w:aC F (eT F) D s x e):
  cC F (eT F) D s (.Try [.Assign [.Name b A] x J] [.ExceptHandler (some<|.Name N L) (some n) [.Return (some<|.Compare (.Attribute (.Name y O) k Q) [.In] [.Name d Y] p7) p8] p9] [] [] p) (ny (ai (.loc i) e) c ix):=by
 subst m o q;exact EH (G.ex _ c v) λf fd k=>Cq (q3:=p) w (G.nm _ _ H) h (aA j) l G.hm k.at' k.exc G.fault (jW r) rfl (G.nm _ _ u)<|aA t
theorem Cc (G:bC F g z M)
  (d:(!fY x)) (h:aZ s N) (i:n=("fault":Str)) (j:r=n) (l:t=n) (m:A=bM) (o:b=aY) (p:wh s n) (H:g.exOf N=some c) (q:aC F (eT F) D s x e):
  cC F (eT F) D s (.Try [.Expr x J] [.ExceptHandler (some<|.Name N L) (some n) [.Return (some<|.Compare (.Tuple [.Attribute (.Name r Q) A Y,.Attribute (.Name t p5) b p6] w p7) [.Eq] [.Tuple [.Constant (.str u) z1 q1,.Constant (.str v) z2 q2] y p8] p9) q3] q4] [] [] O) (nj (aM e) c u.cps.toList v.cps.toList):=by
 subst i j l m o;exact EH (G.ex _ c H) λf fd k=>BY q (aA d) h G.hm k.at' k.exc G.fault (jW p) rfl
def Pr {M:List ExceptHandler->Type} (h:List ExceptHandler) (k:∀N d n l o c e b p,Option<|M [.ExceptHandler (some<|.Name N d) (some n) [.Return (some<|.Compare l [o] [c] e) b] p]):Option (M h):=
 h.casesOn none λD t=>t.casesOn (D.casesOn λy m H p=>y.casesOn none λg=>m.casesOn none λn=>H.casesOn none λr t=>t.casesOn
  (ib (M:=λg=>M [.ExceptHandler _ _ [r] p]) g λN d=>HU (M:=λr=>M [.ExceptHandler _ _ [r] p]) r λro b=>ro.casesOn none λf=>EY (M:=λf=>M [.ExceptHandler _ _ [.Return _ b] p]) f λl O s e=>O.casesOn none λo t=>t.casesOn (s.casesOn none λc t=>t.casesOn (k N d n l o c e b p) λU U=>none) λU U=>none) λU U=>none) λU U=>none
noncomputable def NG {M:List Expr->Type} (l:List Expr) (k:∀a b,Option<|M [a,b]):Option (M l):=l.casesOn none λa t=>t.casesOn none λb t=>t.casesOn (k a b) λU U=>none
def K7 {M:Expr->Type} (e:Expr) (k:∀n p a q,Option<|M<|.Attribute (.Name n p) a q):Option (M e):=xi e λx a q=>ib (M:=λx=>M<|.Attribute x a q) x λn p=>k n p a q
def OO {M:Expr->Type} (e:Expr) (k:∀s z q,Option<|M<|.Constant (.str s) z q):Option (M e):=Bn e λc z q=>c.casesOn none (λU=>none) (λU=>none) (λU=>none) (λU U=>none) (λs=>k s z q) (λU=>none) none
abbrev BU (F:Fx) (D:Nat) (s:aS) (p:Pos) (b:List Stmt) (h:List ExceptHandler):={a:S // cC F (eT F) D s (.Try b h [] [] p) a}
def Pv (G:bC F g mg mb) (r:FT F (eT F) D) (s:aS) (O:List Stmt) (H:List ExceptHandler) (p:Pos):RS F (eT F) D s (.Try O H [] [] p):=O.casesOn none λst t=>t.casesOn (UR (M:=λst=>BU F D s p [st] H) st
 (λts x m=>ts.casesOn none λt1 t=>t.casesOn (ib (M:=λt1=>BU F D s p [.Assign [t1] x m] H) t1 λn1 d=>Pr H λcn p3 n l o b j f h=>
  K7 (M:=λl=>BU F D s p [.Assign [.Name n1 d] x m] [.ExceptHandler _ _ [.Return (some<|.Compare l [o] [b] j) f] h]) l λn' p4 k p5=>ib (M:=λb=>BU F D s p [.Assign [.Name n1 d] x m] [.ExceptHandler _ _ [.Return (some<|.Compare _ [o] [b] j) f] h]) b λnx p6=>
   o.casesOn none none none none none none none none (
   gd _ λu=>gd _ λv=>gd _ λw=>gd (n==("fault")) λA=>gd _ λJ=>gd _ λL=>gd _ λN=>gd _ λQ=>op _ λi h2=>op _ λix h3=>op _ λc Y=>ob (r.e s x) λe=>some ⟨ny _ c ix,EN G u v w (eq_of_beq A) (eq_of_beq J) (eq_of_beq L) N Q h2 h3 Y e.2⟩) none) λU U=>none)
 λx d=>Pr H λcn m n l o b f h z=>
  tO (M:=λl=>BU F D s p [.Expr x d] [.ExceptHandler _ _ [.Return (some<|.Compare l [o] [b] f) h] z]) l λxs k1 j=>NG (M:=λxs=>BU F D s p [.Expr x d] [.ExceptHandler _ _ [.Return (some<|.Compare (.Tuple xs k1 j) [o] [b] f) h] z]) xs λx1 q=>
  K7 (M:=λx1=>BU F D s p [.Expr x d] [.ExceptHandler _ _ [.Return (some<|.Compare (.Tuple [x1,q] k1 j) [o] [b] f) h] z]) x1 λn1 p3 a1 p4=>K7 (M:=λq=>BU F D s p [.Expr x d] [.ExceptHandler _ _ [.Return (some<|.Compare (.Tuple [.Attribute _ a1 p4,q] k1 j) [o] [b] f) h] z]) q λn2 p5 a2 p6=>
  tO (M:=λb=>BU F D s p [.Expr x d] [.ExceptHandler _ _ [.Return (some<|.Compare _ [o] [b] f) h] z]) b λys k2 q3=>NG (M:=λys=>BU F D s p [.Expr x d] [.ExceptHandler _ _ [.Return (some<|.Compare _ [o] [.Tuple ys k2 q3] f) h] z]) ys λy1 y=>
  OO (M:=λy1=>BU F D s p [.Expr x d] [.ExceptHandler _ _ [.Return (some<|.Compare _ [o] [.Tuple [y1,y] k2 q3] f) h] z]) y1 λu1 z1 q1=>OO (M:=λy=>BU F D s p [.Expr x d] [.ExceptHandler _ _ [.Return (some<|.Compare _ [o] [.Tuple [.Constant _ z1 q1,y] k2 q3] f) h] z]) y λu2 z2 q2=>
   o.casesOn (
   gd _ λu=>gd _ λv=>gd (n==("fault")) λw=>gd _ λA=>gd _ λJ=>gd _ λL=>gd _ λN=>gd _ λQ=>op _ λc Y=>ob (r.e s x) λe=>some ⟨nj _ c u1.cps.toList u2.cps.toList,Cc G u v (eq_of_beq w) (eq_of_beq A) (eq_of_beq J) (eq_of_beq L) (eq_of_beq N) Q Y e.2⟩) none none none none none none none none none) λU U=>none
theorem Ex (G:bC F g M m) (H:aZ s n) (b:g.exOf n=some c) (h:jD F (eT F) D s x l/\x.all bd):cC F (eT F) D s (.Raise (some<|.Call (.Name n d) x [] e) none p) (jg c l):=by exact EH (G.ex _ c b) λf fd k=>Eu h.1 h.2 H G.hm k.at' k.keep k.exc k.at2 k.ini k.fty k.ty
def O1 (G:bC F g A z) (r:FT F (eT F) D) (f:∀s x,RS F (eT F) D s x) (s:aS) (x:Stmt):RS F (eT F) D s x:=Ti (M:=λx=>{a:S // cC F (eT F) D s x a}) x
 (λU=>some ⟨FB,IR⟩)
 (λU=>some ⟨CY,MC⟩)
 (λU=>some ⟨mh,He⟩)
 (λo U=>o.casesOn none λx=>ob (r.e s x) λe=>some ⟨ay e.1,Lv e.2⟩)
 (λx U=>gt (LI x) (some ⟨Cw,Dw⟩) λU=>gd _ λh=>ob (r.e s x) λe=>some ⟨aM e.1,Gz e.2<|aA h⟩)
 (λw x O=>w.casesOn none λt l=>l.casesOn (OV (M:=λt=>{a:S // cC F (eT F) D s (.Assign [t] x O) a}) t (λn p=>N4 G r s n x p O) (λu k p=>OE G r s u k x p O) (λo n U=>gd _ λh=>op _ λk H=>ob (r.e s o) λa=>ob (r.e s x) λe=>some ⟨cD a.1 k e.1,IU a.2 e.2 (G.nm _ _ H) (G.at' _<|FC h)<|aA<|D6 h⟩) λo i U=>gd _ λh=>ob (r.e s o) λa=>ob (r.e s i) λb=>ob (r.e s x) λe=>some ⟨bN a.1 b.1 e.1,GJ a.2 b.2 e.2<|aA h⟩) λU U=>none)
 (λt o x O=>Qg (M:=λt=>{a:S // cC F (eT F) D s (.AugAssign t o x O) a}) t (λn U=>gd (cY s n) λh=>op (g.nmOf n) λi u=>ob (HX o) λp=>ob (r.e s x) λe=>some ⟨cE i p.1 e.1,by obtain⟨p,rfl⟩:=p;exact Ga e.2 (G.nm _ _ u) h⟩) (λb n U=>gd (g.atOk n) λh=>op (g.nmOf n) λk H=>ob (HX o) λp=>ob (r.e s b) λa=>ob (r.e s x) λe=>some ⟨zf a.1 k p.1 e.1,by obtain⟨p,rfl⟩:=p;exact Hu a.2 e.2 (G.nm _ _ H)<|G.at' _ h⟩) λb i U=>gd (!ku i) λh=>ob (HX o) λp=>ob (r.e s b) λa=>ob (r.e s i) λc=>ob (r.e s x) λe=>some ⟨uz a.1 c.1 p.1 e.1,by obtain⟨p,rfl⟩:=p;exact IV a.2 c.2 e.2<|aA h⟩)
 (λu x d l U=>l.casesOn (gd _ λh=>ob (Nv G _ u) λt=>ob (r.e s x) λe=>ob (M8 (f s) d) λl=>some ⟨aP t.1 e.1 _,K5 Kb t.2 e.2 (aA h) l.2⟩) λU U=>none)
 (λt d l U=>l.casesOn (gt (HE t) (some ⟨Cw,Dw⟩) λU=>ob (r.c s t) λc=>ob (M8 (f s) d) λl=>some ⟨xv c.1 _,Fc Kb c.2 l.2⟩) λU U=>none)
 (λt d y U=>ob (r.c s t) λc=>ob (M8 (f s) d) λl=>ob (M8 (f s) y) λm=>some ⟨br c.1 _ _,Nu c.2 l.2 m.2⟩)
 (λo c O=>o.casesOn none λe=>c.casesOn (E8 (M:=λe=>{a:S // cC F (eT F) D s (.Raise (some e) none O) a}) e λf d w q=>w.casesOn (ib (M:=λf=>{a:S // cC F (eT F) D s (.Raise (some<|.Call f d [] q) none O) a}) f λn U=>gt (d.any Aa) (some ⟨Cw,Dw⟩) λU=>gd _ λh=>op _ λc u=>ob (Nb (r.e s) d) λl=>some ⟨jg c l.1,Ex G h u l.2⟩) λU U=>none) λU=>none)
 λj v l m O=>l.casesOn (m.casesOn (Pv G r s j v O) λU U=>none) λU U=>none
def Vh (h:1<=D) (G:bC F g M m) (n:Nat):∀s x,RS F (eT F) D s x:=Nat.rec (λU U=>none) (λn f=>O1 G (ck h G<|n+20) f) n
def TV (h:1<=D) (G:bC F g M m) (s:aS) (o:List Stmt):Option {b:S // nE F (eT F) D s o b}:=ob (M8 (Vh h G 12 s) o) λl=>some ⟨ad l.1,l.2⟩
def Sc (h:1<=D) (G:bC F g M m) (s:aS) (b:List Stmt):Option S:=(TV h G s b).map (·.1)
theorem MK (H:1<=D) (G:bC F g M m) (h:Sc H G s o=some b):nE F (eT F) D s o b:=by
 delta Sc at h;cases q:TV H G s o with
 |none=>rw[q] at h;cases h
 |some p=>rw[q] at h;cases h;exact p.2
structure yy (fd:FuncData) (ns:List Str):Prop where
 pos:fd.params.posonlyargs=[]
 args:fd.params.args.map (·.arg)=ns
 var:fd.params.vararg=none
 kwo:fd.params.kwonlyargs=[]
 kwa:fd.params.kwarg=none
noncomputable def zM (fd:FuncData) (d:List Value) (h:Heap):Prop:=(fd.defaults=.none/\d=[])\/∃T o n,fd.defaults=.ref T/\h.get? T=some o/\o.data=.seq d.toArray n
theorem J1 {E:Value->Shared->Prop} (D:zM fd d s.heap) (h:∀r:Option (Array Value),(r.getD #[]).toList=d->Q r s):wpAny M A (seqItems? fd.defaults) Q E s:=by
 rcases D with⟨e,rfl⟩|⟨T,o,n,e,g,H⟩;.exact e▸(Ym<|h none rfl)
 .exact e▸(wpAny_seqItems g H<|h _ rfl)
noncomputable def jv (slots:List<|Str×Value) (p:Str×Value):List (Str×Value):=if(slots.lookup p.1).isNone=true then slots++[(p.1,p.2)] else slots
theorem HZ:∀(l slots:List<|Str×Value),(∀p∈l,(slots.lookup p.1).isSome)->l.foldl jv slots=slots:=by
 intro z;induction z with
 |nil=>exactλU U=>rfl
 |cons p l i=>
  intro slots h;simp;haveI e:jv slots p=slots:=by
   delta jv;have:=h p<|.head _;cases q:slots.lookup p.1 with
   |none=>rw[q] at this;cases this
   |some v=>rfl
  refine qL e ?_;exact i slots λp H=>h p<|.tail _ H
theorem lh:∀{a b:List<|Str×Value},a.lookup n=none->(a++b).lookup n=b.lookup n:=@λz=>by
 induction z with
 |nil=>exact@λU U=>rfl
 |cons p a i=>
  intro b h;simp;cases H:n==p.1 with
  |true=>rw[show p=(p.1,p.2) from rfl] at h;simp only [Y9,H] at h;cases h
  |false=>rw[show p=(p.1,p.2) from rfl] at h⊢;simp only [Y9,H] at h⊢;exact i h
theorem EA:∀(l slots:List<|Str×Value),(l.map (·.1)).Nodup->(∀p∈l,slots.lookup p.1=none)->l.foldl jv slots=slots++l:=by
 intro z;induction z with
 |nil=>intro _ _ _;simp
 |cons p l i=>
  intro slots n h;refine .trans Yf ?_;haveI e:jv slots p=slots++[p]:=by delta jv;refine(h p<|.head _)▸?_;rfl
  refine qL e ?_;rw[Xy,XB] at n;rw[i _ n.2 λq H=>?_];.simp
  .refine .trans (lh<|h q<|.tail _ H) ?_
   haveI N:q.1≠p.1:=λe=>n.1<|e▸XC H;haveI x:(q.1==p.1)=false:=by simpa using N
   refine qL (show[p]=[(p.1,p.2)] from rfl) ?_;simp only [Y9,x,a0v]
theorem fG:∀{N:List Str} {s:List Value} {n:Str},n∈N.take s.length->((N.zip s).lookup n).isSome
 |[],[],_,h=>nomatch h
 |[],_::_,_,h=>nomatch h
 |m::N,[],_,h=>nomatch h
 |m::N,v::s,n,h=>by
  show(List.lookup n<|(m,v)::N.zip s).isSome=true;refine qL Y9 ?_;cases H:n==m with
  |true=>rfl
  |false=>exact fG<|(VO h).resolve_left λe=>beq_eq_false_iff_ne.mp H e
theorem oy {N:List Str} {v:List Value} (h:n∈N) (l:N.length<=v.length):((N.zip v).lookup n).isSome:=fG<|(a0w l).symm▸h
theorem jr:∀{N:List Str} {s:List Value} {n:Str},n∉N->(N.zip s).lookup n=none
 |[],_,_,_=>rfl
 |m::N,[],_,_=>rfl
 |m::N,v::s,n,h=>by simp only [a0x];haveI b:n≠m:=λe=>h<|e▸(.head _);haveI H:=beq_eq_false_iff_ne.mpr b;refine qL Y9<|qL H ?_;exact jr λq=>h<|.tail _ q
theorem Fi {N:List Str} (d:(s++n++N).Nodup) (h:(s++n).length=v.length) (b:n.length=d2.length) (c:N.length=d3.length):
  ((n++N).zip<|d2++d3).foldl jv ((s++n++N).zip v)=(s++n++N).zip (v++d3):=by
 haveI e:(s++n++N).zip v=(s++n).zip v:=by haveI:=a0y (r₁:=N) (r₂:=[]) h;simpa using this
 rw[a0y b,a0z,e,HZ _ _ λp H=>oy (a0A _ (a0B H).1)<|WX h,
  EA _ _ (qL (a0C<|WX c)<|(List.nodup_append.mp d).2.1) λp H=>jr λq=>(List.nodup_append.mp d).2.2 _ q _ (a0B H).1 rfl,a0y h]
theorem pF:∀(N:List Str) (s:List Value) (pre:List<|Str×Value),N.length=s.length->N.Nodup->(∀n∈N,pre.lookup n=none)->N.filterMap (λn=>((pre++N.zip s).lookup n).map (n,·))=N.zip s
 |[],_,_,_,_,_=>rfl
 |n::N,[],_,h,_,_=>by cases h
 |n::N,w::s,pre,h,d,p=>by
  rw[XB] at d;haveI e:(pre++(n::N).zip (w::s)).lookup n=some w:=by refine qL (lh<|p n<|.head _) ?_;simp
  refine qL ZD<|qL e ?_;simp
  congr 1
  haveI i:=pF N s (pre++[(n,w)]) (by simpa using h) d.2 λm H=>by refine qL (lh<|p m<|.tail _ H) ?_;haveI b:m≠n:=λe=>d.1<|e▸H;haveI x:=beq_eq_false_iff_ne.mpr b;simp only [Y9,x,a0v]
  rw[Yg] at i;exact i
theorem Ds:∀(l slots:List<|Str×Value),(forIn l slots λx r=>if(List.lookup x.fst r).isNone then pure (ForInStep.yield<|r++[(x.fst,x.snd)]) else pure (ForInStep.yield r))=(pure (l.foldl jv slots):Sem<|List<|Str×Value):=by
 intro z;induction z with
 |nil=>exactλslots=>rfl
 |cons p l H=>
  intro slots;rw[Zc,Yf];haveI i:=H<|jv slots p;dsimp only [jv] at i⊢;by_cases h:(List.lookup p.fst slots).isNone=true
  .rw[Xb h] at i⊢
   refine qL (Xb h) ?_;exact i
  .rw[Xd h] at i⊢
   refine qL (Xd h) ?_;exact i
theorem RX {N:List Str} {A:List Value} (h:k<=A.length):(N.take k).filter (λn=>((N.zip A).lookup n).isNone)=[]:=by
 refine List.filter_eq_nil_iff.mpr λn H=>?_;have z:=fG<|a0D<|((Wh (N.take ·) (a0E h).symm).trans List.take_take.symm)▸H;cases q:(N.zip A).lookup n with
 |none=>rw[q] at z;cases z
 |some v=>exact nofun
theorem Ke {N:List Str} (f:N.Nodup) (H:v.length<=N.length) (b:N.length<=v.length+D.length) (c:D.length<=N.length):
  (N.filterMap λn=>(List.lookup n<|((N.drop<|N.length-D.length).zip D).foldl jv<|N.zip v).map λx=>(n,x))=N.zip (v++D.drop (v.length+D.length-N.length)):=by
 haveI l:=LZ b c;haveI L:=Fm H b;haveI g:=Rz (d:=D.length) H;haveI h:(N.drop<|N.length-D.length).length=D.length:=by simp only [a0F,V8 c]
 haveI lk:=Nat.sub_le N.length D.length;generalize v.length+D.length-N.length=j at*;generalize N.length-D.length=k at*;haveI s:N.take k++(N.drop k).take j++(N.drop k).drop j=N:=by simp only [Yg,a0G]
 haveI e:=Fi (d2:=D.take j) (d3:=D.drop j) (s.symm▸f)
  (by simp only [Yb,Zo,h,a0E lk,a0E g];exact l.symm) (by simp only [Zo,h]) (by simp only [a0F,h])
 simp only [s,a0G,a0G] at e;refine qL e ?_;exact pF N _ [] (by simp only [Yb,a0F];exact L) f λU U=>rfl
theorem zu {b:Type} [Decidable c] {t e:Sem b} {E:Value->Shared->Prop} {Q:b->Shared->Prop} (h:¬c) (x:wpAny M A e Q E s):wpAny M A (if c then t else e) Q E s:=Xd h▸x
theorem O7 {b:Type} {l:List b} (h:l=[]):¬(!l.isEmpty):=by rw[h];exact nofun
theorem Bw {E:Value->Shared->Prop}
  (D:∀{q:Option (Array Value)->Shared->Prop},(∀r:Option (Array Value),(r.getD #[]).toList=d->q r s)->wpAny M A (seqItems? i) q E s) (N:(b.map (·.arg)).Nodup) (H:v.length<=(b.map (·.arg)).length) (c:(b.map (·.arg)).length<=v.length+d.length) (f:d.length<=(b.map (·.arg)).length)
  (g:Q ((b.map (·.arg)).zip<|v++d.drop (v.length+d.length-(b.map (·.arg)).length)) s):wpAny M A (PySem.bindArgs ⟨z,J,⟨[],b,none,[],y,none,w⟩,o,L,gl,l,i,m,doc,G,p,O,t,u⟩ ⟨v,[]⟩) Q E s:=by
 refine Yk<|Ym<|Yk<|D λr j=>?_;refine zu (λh=>Nat.not_lt.mpr H<|Xm (VP h).1) ?_;subst j;generalize (r.getD #[]).toList=d at*;have e:d.drop (d.length-(b.map (·.arg)).length)=d:=by rw[WN f];rfl
 haveI k:(b.map (·.arg)).length-(d.drop _).length<=v.length:=by rw[e];exact Wx c
 refine zu (O7<|RX k)<|Yk<|Zk (Ds _ _)<|Ym ?_;rw[<-Ke N H c f] at g;show Q (((b.map λx:Arg=>x.arg)++[]).filterMap λn=>(List.lookup n<|(((b.map λx:Arg=>x.arg).drop<|(b.map λx:Arg=>x.arg).length-(d.drop<|d.length-(b.map λx:Arg=>x.arg).length).length).zip<|d.drop<|d.length-(b.map λx:Arg=>x.arg).length).foldl jv<|(b.map λx:Arg=>x.arg).zip v).map λx=>(n,x)) s;refine qL e ?_;rw[Ya];exact g
theorem CU (P:yy fd n):fd=⟨fd.name,fd.qualname,⟨[],fd.params.args,none,[],fd.params.kw_defaults,none,fd.params.defaults⟩,fd.body,fd.scope,fd.globals,fd.closure,fd.defaults,fd.kwdefaults,fd.doc,fd.pyModule,fd.annotations,fd.code,fd.closureTuple,fd.builtins⟩:=by
 haveI e:fd.params=⟨[],fd.params.args,none,[],fd.params.kw_defaults,none,fd.params.defaults⟩:=by
  haveI e:∀{p:Arguments} {a k:List Arg} {v w:Option Arg},p.posonlyargs=a->p.vararg=v->p.kwonlyargs=k->p.kwarg=w->p=⟨a,p.args,v,k,p.kw_defaults,w,p.defaults⟩:=λ{p} _ _ _ _ h H b c=>by subst h H b c;cases p;rfl
  exact e P.pos P.var P.kwo P.kwa
 exact Wh (λp=>FuncData.mk fd.name fd.qualname p fd.body fd.scope fd.globals fd.closure fd.defaults fd.kwdefaults fd.doc fd.pyModule fd.annotations fd.code fd.closureTuple fd.builtins) e
theorem lG {E:Value->Shared->Prop} (P:yy fd n) (D:zM fd dvs s.heap) (N:n.Nodup) (h:v.length<=n.length) (H:n.length<=v.length+dvs.length) (b:dvs.length<=n.length)
  (q:Q (n.zip<|v++dvs.drop (v.length+dvs.length-n.length)) s):wpAny M A (PySem.bindArgs fd ⟨v,[]⟩) Q E s:=by
 cases P.args;exact(CU P).symm▸Bw (J1 D) N h H b q
section
variable {F:Fx}
theorem ur {b:Type}:∀{l:List b} {k:Nat} {a:b},nth l k=some a->l.drop k=a::l.drop (k+1)
 |x::l,0,a,h=>W2 h▸rfl
 |x::l,k+1,a,h=>ur (l:=l) h
theorem pG:∀{ps:List Nat} {b:Sg},zA D ps=some b->ps.length<=D.length/\b=ps.zip (D.drop<|D.length-ps.length):=@λc=>by
 induction c with
 |nil=>exact@λb h=>⟨VY _,(W2 h).symm⟩
 |cons p ps i=>exact@λb h=>xt h λq h=>ao h λd r h=>bB h λe t z=>by haveI q:=Nat.not_lt.mp<|of_decide_eq_false<|(vm ..).symm.trans q;refine⟨q,?_⟩;simp only [ZF,ur r,a0x,<-z,(i t).2,<-rc q]
theorem pp:∀{s:List Nat} {A:List V} {b:Sg},Internal.bindArgs d s A=some b->A.length<=s.length/\s.length<=A.length+d.length/\b=s.zip (A++d.drop (A.length+d.length-s.length))
 |[],[],b,h=>mP (XA _) (VY _) (W2 h).symm
 |[],_::_,b,h=>dj rfl h
 |p::s,[],b,h=>by haveI H:=(pG (ps:=p::s) h).1;haveI c:=(pG (ps:=p::s) h).2;refine mP (VY _) (by simp only [a0H,a0I];exact H) ?_;simp only [c,a0J,a0H,a0I]
 |p::s,a::A,b,h=>bB h λf t z=>kh (pp t) λH c e=>by refine mP (XE H) (by simp only [ZF,WY];exact XE c) ?_;simp only [List.cons_append,a0x,<-z,e,ZF,WY,Nat.add_sub_add_right]
theorem vu:∀(s:List Nat) (c:List V) (d:List Value),aX B h b c d->look (s.zip c) x=some v->∃A,(F.nm x,A)∈(s.map F.nm).zip d/\VR B h b v A
 |[],_,_,_,e=>by cases e
 |p::s,[],_,_,e=>by cases e
 |p::s,w::c,d,Y,e=>by
  refine du Y λu g Q y Z=>?_;subst Q;rw[a0x,cw] at e;by_cases q:p=x
  .replace e:=(Xb q).symm.trans e
   obtain rfl:=W2 e;subst q;exact bK u (.head _) y
  .rw[Xd q] at e
   exact aI (vu s c g Z e) λA H f=>bK A (.tail _ H) f
theorem EX {f:Fn} (P:yy fd<|f.params.map F.nm) (N:(f.params.map F.nm).Nodup) (m:∀(s:Shared) (b:cJ),F.K.In s.heap->zM fd D s.heap/\aX F.B s.heap b f.dflts D) (h:f.dflts.length<=f.params.length)
  (H:∀n∈f.params.map F.nm,fd.scope.names.lookup n=some .local\/(fd.scope.names.lookup n=some .cell/\(n==("__classdict__":Str))=false))
  (K:F.K.In s.heap) (z:Internal.bindArgs f.dflts f.params r=some c) (Y:aX F.B s.heap b r d):
  ∃i:List (Str×Value),(∀A E Q,Q i s->wpAny (MF F) A (PySem.bindArgs fd ⟨d,[]⟩) Q E s)/\(i.map (·.1)).Nodup/\
   (∀x∈i,fd.scope.names.lookup x.1=some .local\/(fd.scope.names.lookup x.1=some .cell/\(x.1==("__classdict__":Str))=false))/\
   ∀x v,look c x=some v->∃g,(F.nm x,g)∈i/\VR F.B s.heap b v g:=by
 refine kh (pp z) λw y q=>?_;subst q;haveI t:=(m s b K).1;haveI k:=(m s b K).2;have L:=Y.length;have j:=k.length;haveI l:(f.params.map F.nm).length=f.params.length:=XK _;have o:d.length<=(f.params.map F.nm).length:=by simp only [L,l];exact w
 have p:(f.params.map F.nm).length<=d.length+D.length:=by simp only [L,j,l];exact y
 refine y7 ((f.params.map F.nm).zip<|d++D.drop _) (λA E Q u=>lG P t N o p (by simp only [j,l];exact h) u) ?_ (λx G=>?_)  λx v e=>?_
 .rw[a0C<|by simp only [Yb,a0F];exact WX<|Fm o p]
  exact N
 .exact H _ (a0B G).1
 .refine vu f.params _ _ (aX.append _ Y ?_) e
  haveI u:d.length+D.length-(f.params.map F.nm).length=r.length+f.dflts.length-f.params.length:=by simp only [L,j,l]
  exact u▸(aX.drop _ _ k)
end
def Jh (K:Frag) (d:Value) (q:Str):Pf (∀h:Heap,K.In h->h.CodeRec d q):=op _ λc H=>op _ λo O=>op _ λs D=>op (s[1]?) λv f=>op (Pc v) λp b=>gd (p.1==q) λe=>some ⟨λU k=>⟨c,o,s,p.2,tA H,k _ _ O,Il D,f.trans<|by rw[yP b,eq_of_beq e]⟩⟩
def Jn (K:Frag) (c:Value) (q:Str):Bool:=(Jh K c q).isSome
theorem Cu {K:Frag} (k:K.In h) (e:Jn K c q):h.CodeRec c q:=zG _ e h k
def Ms (v:V) (A:Value):Pf (∀(B h:Heap) (c:cJ),VR B h c v A):=v.casesOn (op _ λU h=>some ⟨λU U U=>vP h⟩) (λa=>op _ λb h=>gd _ λe=>some ⟨λU U U=>(CZ h).trans<|Wh Value.bool (eq_of_beq e).symm⟩)
 (λi=>op _ λp h=>gd (i==p.1) λe=>some ⟨λU U U=>⟨p.2,(y5 h).trans<|by rw[eq_of_beq e]⟩⟩) (λs=>op _ λp h=>gd (p.1==cv s) λe=>some ⟨λU U U=>⟨p.2,(yP h).trans<|by rw[eq_of_beq e]⟩⟩) (λU=>none) (λU=>none) (λU U U=>none) (λU=>none)
def Iz:(l:List V)->(m:List Value)->Pf (∀(B h:Heap) (c:cJ),aX B h c l m):=λl=>l.rec (λm=>m.casesOn (some ⟨λU U U=>rfl⟩) λU U=>none) λv U i m=>m.casesOn none λA m=>ob (Ms v A) λa=>ob (i m) λb=>some ⟨λB h c=>vK A m rfl (a.1 B h c)<|b.1 B h c⟩
def Nh (K:Frag) (d:Value):Option {l:List Value //∀(fd:FuncData) (h:Heap),fd.defaults=d->K.In h->zM fd l h}:=NC (op _ λU e=>some ⟨[],λU U H U=>.inl ⟨H.trans<|vP e,rfl⟩⟩)
 (op _ λT t=>op _ λo O=>op _ λp b=>some ⟨p.1.toList,λU U H k=>.inr ⟨T,o,p.2,H.trans<|tA t,k _ _ O,Hy b⟩⟩)
noncomputable def tn:List Str->Bool
 |[]=>true
 |x::l=>!l.contains x&&tn l
theorem mW:∀{l:List Str},tn l->l.Nodup:=@λz=>by
 induction z with
 |nil=>exactλU=>XG
 |cons x l i=>intro h;haveI h:(!l.contains x&&tn l)=true:=h;simp only [XR] at h;refine XB.mpr ⟨λH=>?_,i h.2⟩;have:l.contains x=true:=List.contains_iff_mem.mpr H;replace h:=this▸h;cases h.1
noncomputable def tC (fd:FuncData) (n:List Str):Bool:=fd.params.posonlyargs.isEmpty&&(fd.params.args.map (·.arg)==n)&&fd.params.vararg.isNone&&fd.params.kwonlyargs.isEmpty&&fd.params.kwarg.isNone
theorem nv (h:tC fd n):yy fd n:=by delta tC at h;simp only [XR,List.isEmpty_iff,a0K,beq_iff_eq] at h;exact⟨h.1.1.1.1,h.1.1.1.2,h.1.1.2,h.1.2,h.2⟩
def Q0 (s:aS) (n:Str):Pf (s.lookup n=some .local\/(s.lookup n=some .cell/\(n==("__classdict__":Str))=false)):=op _ λk e=>NameKind.casesOn (motive:=λk=>s.lookup n=some k->Pf _) k (λe=>some ⟨.inl e⟩) (λe=>gd (!(n==("__classdict__"))) λh=>some ⟨.inr ⟨e,aA h⟩⟩) (λU=>none) (λU=>none) (λU=>none) e
def TG (F:Fx) (fd:FuncData):Pf (fd.scope.names=F.lamSc->fd.code=.ref F.lamCode/\fd.qualname++".<locals>."++("<lambda>":Str)=F.lamQual):=NC (gd _ λh=>some ⟨λe=>absurd e<|beq_eq_false_iff_ne.mp<|aA h⟩)
 (op _ λU c=>gd (_==F.lamCode) λh=>gd (fd.qualname++".<locals>."++("<lambda>")==F.lamQual) λH=>some ⟨λU=>⟨(tA c).trans<|Wh Value.ref<|eq_of_beq h,eq_of_beq H⟩⟩)
def VD (F:Fx) (fd:FuncData) (N:Fn):Pf (∀{f:Nat} {O:List Stmt} {o:Obj},F.K.lookup (F.fn f)=some o->o.data=.func fd->fd.body=.stmts O->E4 F f N fd O):=gd fd.closure.isEmpty λi=>gd _ λj=>gd (fd.globals==mainGlobals) λk=>gd (fd.builtins==builtinsNs) λl=>
 ob (TG F fd) λm=>gd _ λp=>gd _ λq=>ob (Jh F.K fd.code fd.qualname) λr=>gd (tC fd _) λt=>gd (tn _) λc=>ob (Nh F.K fd.defaults) λd=>ob (Iz N.dflts d.1) λe=>
 gd _ λg=>gd ((N.params.map F.nm).all λn=>(Q0 fd.scope.names n).isSome) λh=>some ⟨λv D u=>⟨⟨_,F.KB _ _ v,D⟩,u,List.isEmpty_iff.mp i,eq_of_beq j,eq_of_beq k,eq_of_beq l,m.1,aA p,aA q,r.1 _ F.KB,λK H Y=>EX (nv t) (mW c) (λs b K=>⟨d.2 fd s.heap rfl K,e.1 _ _ _⟩) (Xi g) (λn b=>zG _<|VU h n b) K H Y⟩⟩
def TP (F:Fx) (fd:FuncData) (f:Fn):Bool:=(VD F fd f).isSome
theorem JT (O:F.K.lookup (F.fn f)=some o) (d:o.data=.func fd) (H:fd.body=.stmts b) (h:TP F fd n):E4 F f n fd b:=zG _ h O d H
mutual
noncomputable def dX (d:Nat->Nat):V->V
 |.non=>.non|.bool b=>.bool b|.int i=>.int i|.str x=>.str x
 |.tup l=>.tup<|eZ d l
 |.ref n=>.ref<|d n
 |.rng a b c=>.rng a b c
 |.arr l=>.arr<|eZ d l
noncomputable def eZ (b:Nat->Nat):List V->List V
 |[]=>[]
 |v::l=>dX b v::eZ b l
end
mutual
noncomputable def jz (p:Nat->Bool):V->Bool
 |.tup l=>dF p l
 |.arr l=>dF p l
 |.ref n=>p n
 |_=>true
noncomputable def dF (p:Nat->Bool):List V->Bool
 |[]=>true
 |v::l=>jz p v&&dF p l
end
mutual
theorem VR.ren {B h:Heap} {p:Nat->Bool} {j:Nat->Nat} (r:∀i a,p i=true->q i=some a->u (j i)=some a):∀(v:V) {A:Value},jz p v=true->VR B h q v A->VR B h u (dX j v) A
 |.non,_,_,x=>x
 |.bool _,_,_,x=>x
 |.int _,_,_,x=>x
 |.str _,_,_,x=>x
 |.tup l,_,O,x=>W7 (λU=>W7 λU=>W7 λU h=>⟨h.1,h.2.1,h.2.2.1,aX.ren r l O h.2.2.2⟩) x
 |.ref n,_,O,x=>W7 (λa h=>⟨h.1,r n a O h.2⟩) x
 |.rng _ _ _,_,_,x=>x
 |.arr l,_,O,x=>W7 (λU=>W7 λU=>W7 λU h=>⟨h.1,h.2.1,h.2.2.1,aX.ren r l O h.2.2.2⟩) x
theorem aX.ren {B h:Heap} {p:Nat->Bool} {j:Nat->Nat} (r:∀i a,p i=true->q i=some a->u (j i)=some a):∀(l:List V) {y:List Value},dF p l=true->aX B h q l y->aX B h u (eZ j l) y
 |[],_,_,x=>x
 |v::l,_,O,x=>W7 (λU=>W7 λU h=>⟨h.1,VR.ren r v (VP O).1 h.2.1,aX.ren r l (VP O).2 h.2.2⟩) x
end
mutual
theorem VR.unren {B h:Heap} {p:Nat->Bool} {j:Nat->Nat} (r:∀i a,p i=true->u (j i)=some a->q i=some a):∀(v:V) {A:Value},jz p v=true->VR B h u (dX j v) A->VR B h q v A
 |.non,_,_,x=>x
 |.bool _,_,_,x=>x
 |.int _,_,_,x=>x
 |.str _,_,_,x=>x
 |.tup l,_,O,x=>W7 (λU=>W7 λU=>W7 λU h=>⟨h.1,h.2.1,h.2.2.1,aX.unren r l O h.2.2.2⟩) x
 |.ref n,_,O,x=>W7 (λa h=>⟨h.1,r n a O h.2⟩) x
 |.rng _ _ _,_,_,x=>x
 |.arr l,_,O,x=>W7 (λU=>W7 λU=>W7 λU h=>⟨h.1,h.2.1,h.2.2.1,aX.unren r l O h.2.2.2⟩) x
theorem aX.unren {B h:Heap} {p:Nat->Bool} {j:Nat->Nat} (r:∀i a,p i=true->u (j i)=some a->q i=some a):∀(l:List V) {y:List Value},dF p l=true->aX B h u (eZ j l) y->aX B h q l y
 |[],_,_,x=>x
 |v::l,_,O,x=>W7 (λU=>W7 λU h=>⟨h.1,VR.unren r v (VP O).1 h.2.1,aX.unren r l (VP O).2 h.2.2⟩) x
end
def re (b:Nat->Nat):List (V×V)->List (V×V)
 |[]=>[]
 |p::l=>(p.1,dX b p.2)::re b l
def wY (p:Nat->Bool):List (V×V)->Bool
 |[]=>true
 |q::l=>jz p q.2&&wY p l
def px (b:Nat->Nat):Sg->Sg
 |[]=>[]
 |p::l=>(p.1,dX b p.2)::px b l
def BX (p:Nat->Bool):Sg->Bool
 |[]=>true
 |q::l=>jz p q.2&&BX p l
def kG (b:Nat->Nat):aB->aB
 |.lst l=>.lst<|eZ b l
 |.dct l=>.dct<|re b l
 |.set l=>.set l
 |.ins c d=>.ins c<|b d
 |.ns f=>.ns<|px b f
 |.tab=>.tab
def wt (p:Nat->Bool):aB->Bool
 |.lst l=>dF p l
 |.dct l=>wY p l
 |.set _=>true
 |.ins _ d=>p d
 |.ns f=>BX p f
 |.tab=>true
theorem nX (b:Nat->Nat):∀l:List (V×V),(re b l).length=l.length:=by
 intro z;induction z with
 |nil=>exact rfl
 |cons p l i=>exact Wh (·+1) i
theorem nK (b:Nat->Nat):∀l:Sg,(px b l).length=l.length:=by
 intro z;induction z with
 |nil=>exact rfl
 |cons p l i=>exact Wh (·+1) i
theorem mx (b:Nat->Nat) (x:Nat):∀l:Sg,look (px b l) x=(look l x).map (dX b):=by
 intro z;induction z with
 |nil=>exact rfl
 |cons p l i=>
  show look ((p.1,dX b p.2)::px b l) x=_;rw[cw,cw];by_cases h:p.1=x;.rw[Xb h,Xb h];rfl
  .exact qL (Xd h)<|qL (Xd h)<|qL i rfl
theorem uS:∀{l:Sg},BX p l->look l x=some v->jz p v:=@λb=>by
 induction b with
 |nil=>intro _ e;cases e
 |cons q l i=>
  intro h e;haveI h:(jz p q.2&&BX p l)=true:=h;simp only [XR] at h;rw[cw] at e;by_cases z:q.1=x;.rw[Xb z] at e;cases e;exact h.1
  .rw[Xd z] at e;exact i h.2 e
theorem dY.ren {j:Type} {N:j->V} (D:∀i a,p i->u i=some a->J (r i)=some a):∀(A:List<|j×Value) {l:List<|V×V},wY p l->dY F N h u A l->dY F N h J A (re r l):=by
 intro G;induction G with
 |nil=>intro _ _ x;cases x;rfl
 |cons q A L=>exactλO x=>du x λv m e y z=>by subst e;haveI O:(jz p v&&wY p m)=true:=O;simp only [XR] at O;exact vK _ _ rfl (VR.ren D v O.1 y)<|L O.2 z
theorem dY.unren {j:Type} {N:j->V} (G:∀i a,p i->L (u i)=some a->A i=some a):∀(D:List<|j×Value) {l:List<|V×V},wY p l->dY F N h L D (re u l)->dY F N h A D l:=by
 intro J;induction J with
 |nil=>
  intro l _ x;induction l with
  |nil=>rfl
  |cons q l=>cases x
 |cons q D ih=>
  intro l O x;induction l with
  |nil=>refine oi x λU U e U=>?_;cases e
  |cons r l=>
   refine du x λv m e y z=>?_;injection e with Q Y
   injection Q with e3 e4;subst e4 Y;haveI O:(jz p r.2&&wY p l)=true:=O;simp only [XR] at O;exact vK r.2 l (qR e3 rfl) (VR.unren G _ O.1 y)<|ih O.2 z
theorem CR.ren (A:∀i a,p i->r i=some a->G (j i)=some a) (O:wt p c) (x:CR F h r a c):CR F h G a (kG j c):=by
 induction c with
 |lst l=>refine du x λu n g k y=>?_;exact vK u n g k<|aX.ren A l O y
 |dct l=>
  haveI L:=x.1;haveI x:=x.2;refine⟨by simp only [nX];exact L,?_⟩;rcases x with⟨u,d,y⟩|⟨u,d,y⟩|⟨D,d,y⟩;.exact .inl ⟨u,d,y.ren A _ O⟩
  .exact .inr<|.inl ⟨u,d,y.ren A _ O⟩
  .exact .inr<|.inr ⟨D,d,y.ren A _ O⟩
 |set l=>exact x
 |ins c d=>refine e7 x λD u g J=>?_;exact jy D (A _ _ O u) g J
 |ns J=>
  obtain⟨m,⟨o,Y,Q,g,h1,h2,h3,h4,h5⟩,y,y2⟩:=x;refine jy m ⟨o,Y,Q,g,h1,h2,h3,h4,by simp only [nK];exact h5⟩ (λf v e=>?_)  λf e=>?_
  .rw[mx] at e
   cases q:look J f with
   |none=>rw[q] at e;cases e
   |some u=>rw[q] at e;cases e;exact aI (y f u q) λD L N=>bK D L<|VR.ren A u (uS O q) N
  .rw[mx] at e
   cases q:look J f with
   |none=>exact y2 f q
   |some u=>rw[q] at e;cases e
 |tab=>exact x
theorem CR.unren (r:∀i a,p i->D (j i)=some a->q i=some a) (O:wt p c) (x:CR F h D a<|kG j c):CR F h q a c:=by
 induction c with
 |lst l=>refine du x λu n g k y=>?_;exact vK u n g k<|aX.unren r l O y
 |dct l=>
  haveI L:=x.1;haveI x:=x.2;refine⟨by rw[nX] at L;exact L,?_⟩;rcases x with⟨u,d,y⟩|⟨u,d,y⟩|⟨A,d,y⟩;.exact .inl ⟨u,d,dY.unren r _ O y⟩
  .exact .inr<|.inl ⟨u,d,dY.unren r _ O y⟩
  .exact .inr<|.inr ⟨A,d,dY.unren r _ O y⟩
 |set l=>exact x
 |ins c d=>refine e7 x λu A g G=>?_;exact jy u (r _ _ O A) g G
 |ns fs=>
  obtain⟨m,⟨o,N,L,g,Q,Y,h3,h4,u⟩,y,y2⟩:=x;refine jy m ⟨o,N,L,g,Q,Y,h3,h4,by rw[nK] at u;exact u⟩ (λf v e=>?_)  λf e=>?_
  .refine aI (y f _<|by simp only [mx,e];rfl) λA G J=>?_
   exact bK A G<|VR.unren r v (uS O e) J
  .exact y2 f (by simp only [mx,e];rfl)
 |tab=>exact x
def lu (H:Hp) (n:Nat):Bool:=(ac H n).isSome
structure Sub (H H0:Hp) (π:Nat->Nat):Prop where
 cell:∀i c,ac H0 i=some c->ac H (π i)=some (kG π c)/\wt (lu H0) c=true
 inj:∀i j c d,ac H0 i=some c->ac H0 j=some d->π i=π j->i=j
 lt:∀i c,ac H0 i=some c->i<ak H0
def tJ (H:Hp) (b:Nat->Nat) (c:cJ):cJ:=λi=>match ac H i with|some _=>c (b i)|none=>none
theorem e9 (h:tJ H b d i=some a):d (b i)=some a/\∃c,ac H i=some c:=by
 delta tJ at h;cases q:ac H i with
 |none=>rw[q] at h;cases h
 |some c=>rw[q] at h;exact⟨h,c,rfl⟩
theorem oS (h:ac H i=some c):tJ H b d i=d (b i):=by unfold tJ;rw[h]
theorem iJ (h:lu H n):∃c,ac H n=some c:=VQ h
theorem aG.sub (R:aG F H p s) (S:Sub H y j):aG F y (tJ y j p) s:=by
 refine⟨R.keep,λn c h=>?_,λn a h=>(e9 h).2,λn m a q r=>?_,S.lt⟩
 .obtain⟨q,r⟩:=S.cell n c h
  refine e7 (R.cell _ _ q) λa e u x=>?_;refine jy a ((oS h)▸e) u<|CR.unren (λi b A u=>?_) r x;obtain⟨d,D⟩:=iJ A;exact(oS D)▸u
 .obtain⟨u,c,A⟩:=e9 q
  obtain⟨x,d,D⟩:=e9 r;exact S.inj n m c d A D<|R.inj _ _ a u x
theorem Sub.args (S:Sub H q j) (O:dF (lu q) l) (Y:aX B h p (eZ j l) vs):aX B h (tJ q j p) l vs:=
 aX.unren (λi b u r=>by obtain⟨d,D⟩:=iJ u;exact(oS D)▸r) l O Y
structure Lx (H H0 H1 H2:Hp) (π π1:Nat->Nat) (p:Nat->Bool) (σ:Nat->Option Nat):Prop where
 old:∀i c,ac H0 i=some c->π1 i=π i/\p i=true
 kept:∀i,p i=true->∃c,ac H1 i=some c/\wt p c=true
 back:∀j i,σ j=some i->p i=true/\π1 i=j/\ac H0 i=none/\ac H j=none
 fwd:∀i,p i=true->ac H0 i=none->σ (π1 i)=some i
 cell:∀j c,ac H2 j=some c->(∃i c0,p i=true/\π1 i=j/\ac H1 i=some c0/\c=kG π1 c0)\/(ac H j=some c/\∀i c0,ac H0 i=some c0->π i≠j)
 dom:∀j,(∃c,ac H j=some c)\/(∃i,σ j=some i)->∃c,ac H2 j=some c
 lt:∀j c,ac H2 j=some c->j<ak H2
noncomputable def kW (c:Nat->Option Nat) (b d:cJ):cJ:=λj=>match c j with|some i=>d i|none=>b j
theorem yj (R:aG F H f s) (S:Sub H D d) (K:Lx H D H1 H2 d y p l) (J:aG F H1 m Y) (u:bc eR s (tJ D d f) Y m):
  aG F H2 (kW l f m) Y/\bc eR s f Y (kW l f m)/\∀i a,p i->m i=some a->kW l f m (y i)=some a:=by
 haveI sn:∀j a,f j=some a->l j=none:=λj a e=>by
  cases q:l j with
  |none=>rfl
  |some i=>obtain⟨c,w⟩:=R.dom j a e;have:=(K.back j i q).2.2.2;exact nomatch (w.symm.trans this)
 have L:∀j a,f j=some a->kW l f m j=some a:=λj a e=>by unfold kW;exact(sn j a e)▸e
 have t:∀i a,p i=true->m i=some a->kW l f m (y i)=some a:=λi a G e=>by
  cases q:ac D i with
  |none=>unfold kW;exact(K.fwd i G q)▸e
  |some c=>haveI A:=(S.cell i c q).1;refine aI (R.cell _ _ A) λb x U=>?_;haveI r:=u.le i b<|(oS q)▸x;obtain rfl:=W2<|e.symm.trans r;exact((K.old i c q).1)▸(L _ _ x)
 have N:∀j i a,l j=some i->m i=some a->s.heap.get? a=none:=λj i a h e=>by
  rcases u.fresh i a e with z|z
  .obtain⟨_,c,w⟩:=e9 z
   have:=(K.back j i h).2.2.1;exact nomatch (w.symm.trans this)
  .exact z
 refine mP ⟨J.keep,λj c h=>?_,λj a e=>?_,λj k a v r=>?_,K.lt⟩ ⟨L,λj a e=>?_,λa o g hn=>?_,u.still,u.there,u.gens,u.drawn,u.os⟩ t
 .rcases K.cell j c h with⟨i,c0,G,rfl,b,rfl⟩|⟨w,Q⟩
  .refine aI (K.kept i G) λc0' O ok=>?_
   obtain rfl:=W2<|b.symm.trans O;exact e7 (J.cell i c0 b) λa A M x=>jy a (t i a G A) M<|CR.ren t ok x
  .refine e7 (R.cell j c w) λa A M x=>jy a (L j a A) M (x.keep F (λo g=>?_) u.still L)
   haveI out:∀n,tJ D d f n≠some a:=λn e=>by obtain⟨v,c1,O⟩:=e9 e;exact Q n c1 O<|R.inj _ _ a v A
   have nf:=R.notFra A g;rcases u.keep a o g out with z|⟨o',z,lk⟩;.exact z.elim
   .rcases lk with rfl|⟨q,_⟩
    .exact z
    .contradiction
 .refine K.dom j ?_
  unfold kW at e;cases q:l j with
  |some i=>exact .inr ⟨i,rfl⟩
  |none=>rw[q] at e;exact .inl<|R.dom j a e
 .unfold kW at v r
  cases b:l j with
  |some i=>
   rw[b] at v;cases Q:l k with
   |some x=>rw[Q] at r;haveI:=J.inj i x a v r;subst this;exact qR ((K.back j i b).2.1)<|qR ((K.back k i Q).2.1) rfl
   |none=>rw[Q] at r;obtain⟨_,o,g,_⟩:=R.owned r;have:=N j i a b v;exact absurd (this.symm.trans g) nofun
  |none=>
   rw[b] at v;cases Q:l k with
   |some x=>rw[Q] at r;obtain⟨_,o,g,_⟩:=R.owned v;have:=N k x a Q r;exact absurd (this.symm.trans g) nofun
   |none=>rw[Q] at r;exact R.inj j k a v r
 .unfold kW at e
  cases q:l j with
  |some i=>rw[q] at e;exact .inr<|N j i a q e
  |none=>rw[q] at e;exact .inl e
 .exact u.keep a o g λn e=>hn _ (e9 e).1
theorem rJ.le (h:rJ A D) (p:j<=D):rJ A j:=
 ⟨h.handled,Wk (Wo (a0L _<|by assumption) _) h.depth,Wk (Wo (a0L _<|by assumption) _) h.units,h.frames⟩
theorem kC.sub (k:kC F A j s):kC F A (tJ O h j) s:=by refine aI k λl p q=>bK l p  λN J=>?_;obtain⟨r,L,o,u,x,y,D,G⟩:=q N J;exact⟨r,L,o,u,x,λn e=>y _ (e9 e).1,D,G⟩
theorem jk (w:bP F n L D) (y:L f r h=.ok d g) (S:Sub H h b) (K:Lx H h g H2 b π1 p σ) (O:dF (lu h) r) (o:jz p d)
  (t:rJ A D) (k:kC F A c s) (R:aG F H c s) (Y:aX F.B s.heap c (eZ b r) v):
  am F n eR (λQ E s=>codeAny (MF F) A (.call (.ref<|F.fn f) ⟨v,[]⟩) (rd Q E) s) (.ok (dX π1 d) H2) (jt F) s c:=by
 haveI e:=w f r v h s _ A t k.sub (R.sub S)<|S.args O Y;simp only [y] at e
 refineλQ E u=>e Q E λa z G i x l=>?_
 exact kh (yj R S K i x) λj m q=>u a z _ j m<|VR.ren q d o l
theorem yo:Sub H [] b:=⟨λU U h=>(by cases h),λU U U U h=>(by cases h),λU U h=>by cases h⟩
theorem Cj (R:aG F H b s):Lx H [] d H id id (λU=>false) (λU=>none):=
 ⟨λU U h=>(by cases h),λU h=>(by cases h),λU U h=>(by cases h),λU h=>(by cases h),λj c h=>.inr ⟨h,λU U h=>by cases h⟩,λj h=>h.elim id λ⟨_,h⟩=>(by cases h),R.lt⟩
mutual
theorem mj:∀(v:V) (b:Nat->Nat),jz (λU=>false) v=true->dX b v=v
 |.non,_,_=>rfl
 |.bool _,_,_=>rfl
 |.int _,_,_=>rfl
 |.str _,_,_=>rfl
 |.tup l,b,h=>Wh V.tup<|bn l b h
 |.ref _,_,h=>by cases h
 |.rng _ _ _,_,_=>rfl
 |.arr l,b,h=>Wh V.arr<|bn l b h
theorem bn:∀(l:List V) (b:Nat->Nat),dF (λU=>false) l=true->eZ b l=l
 |[],_,_=>rfl
 |v::l,b,h=>by haveI h:(jz (λU=>false) v&&dF (λU=>false) l)=true:=h;rw[XR] at h;show dX b v::eZ b l=v::l;simp only [mj v b h.1,bn l b h.2]
end
theorem zX (g:bP F x l D) (i:l f r []=.ok v j) (O:dF (λU=>false) r) (o:jz (λU=>false) v)
  (h:rJ A D) (k:kC F A b s) (R:aG F H b s) (Y:aX F.B s.heap b r c):
  am F x eR (λQ E s=>codeAny (MF F) A (.call (.ref<|F.fn f) ⟨c,[]⟩) (rd Q E) s) (.ok v H) (jt F) s b:=by
 haveI e:=bn r id O;haveI d:=mj v id o;haveI:=jk g i  yo  (Cj R) O o h k R<|e▸Y;simp only [d] at this;exact this
theorem xZ:rJ callerA 100:=⟨rfl,by decide,by decide,[],rfl⟩
theorem wW:kC F callerA b s:=⟨[],rfl,λU h=>by cases h⟩
theorem xF (m:bP F x l D) (j:D<=100) (n:l f A H=.ok v i) (R:aG F H b s) (Y:aX F.B s.heap b A c) {E:Value->Shared->Prop}
  (q:∀a g d,aG F i d g->bc eR s b g d->VR F.B g.heap d v a->Q a g):wpAny (MF F) callerA (call (.ref<|F.fn f) c) Q E s:=by
 haveI k:=m f A c H s b callerA (xZ.le j) wW R Y;rw[n] at k;refine Y5<|Zh (k Q E q) λr g h=>?_;cases r with
 |ok L=>cases L<;>first|exact h|exact h.elim
 |error e=>exact h
noncomputable def mt:MT:=[(2,15,4),(2,19,5),(2,67,6),(2,71,7),(2,126,8),(2,21,9),(2,66,10),(2,70,11),(3,67,17),(3,71,18),(3,116,19),(3,43,20),(3,47,21),(3,65,22),(3,64,23),(3,161,24),(3,31,25),(3,112,26),(3,162,27),(5,119,62),(5,120,63),(6,128,67),(6,132,68),(6,127,69)]
def f0:Fn:=⟨[4],[],ad [Cw]⟩
def f1:Fn:=⟨[5,6,7,8],[.int (-1),.str []],ad [cD (ab 5) 6<|ab 6,cD (ab 5) 7<|ab 7,cD (ab 5) 8<|ab 8]⟩
def f2:Fn:=⟨[6],[],ad [ay<|MY [jI .eq (ab 6)<|eK<|.str [102,108,111,112],jI .eq (ab 6)<|eK<|.str [108,97,116,99,104]]]⟩
def f3:Fn:=⟨[5,9],[],ad [cD (ab 5) 9<|ab 9,cD (ab 5) 10<|eK<|.int 2,cD (ab 5) 11<|aT [],cD (ab 5) 12<|aT [],cD (ab 5) 13<|aT []]⟩
def f4:Fn:=⟨[5],[],ad [ai (.loc 14)<|al (ab 5) 10,zf (ab 5) 10 .add<|eK<|.int 1,ay<|ab 14]⟩
def f5:Fn:=⟨[5,17],[],ad [ay<|bQ [5] (.loc 16) (ah .range [ab 17])<|cr<|aj mt (ab 5) 15 []]⟩
def f6:Fn:=⟨[5,9,17],[],ad [ai (.loc 18)<|aj mt (ab 5) 19 [ab 17],aM<|aj mt (al (ab 5) 11) 0 [bq [ab 9,ah .list [ab 18]]],ay<|ab 18]⟩
def f7:Fn:=⟨[5,9,18],[],ad [aM<|aj mt (al (ab 5) 12) 0 [bq [ab 9,ah .list [ab 18]]]]⟩
def f8:Fn:=⟨[5,6,22,23],[.non],ad [ai (.loc 20)<|aj mt (ab 5) 15 [],aM<|aj mt (ab 5) 21 [ab 20,ab 6,ab 22,ab 23],ay<|ab 20]⟩
def f9:Fn:=⟨[5,20,6,22,23],[.non],ad [aM<|aj mt (al (ab 5) 13) 0 [bq [ab 6,ab 20,ah .tuple [ab 22],ab 23]]]⟩
def Rd:Fn:=⟨[5],[],ad [ai (.loc 18)<|aT [],aP (.tup [9,24]) (al (ab 5) 11)<|ad [aM<|aj mt (ab 18) 1 [ab 24]],aP (.loc 25) (al (ab 5) 13)<|ad [br (aW<|ag 2 [aq (ab 25)<|eK<|.int 0]) (ad [aM<|aj mt (ab 18) 0 [aq (ab 25)<|eK<|.int 1]])<|ad []],ay<|ab 18]⟩
def Ra:Fn:=⟨[5],[],ad [ai (.loc 18)<|aT [],aP (.tup [9,24]) (al (ab 5) 12)<|ad [aM<|aj mt (ab 18) 1 [ab 24]],aP (.loc 25) (al (ab 5) 13)<|ad [br (aW<|ag 2 [aq (ab 25)<|eK<|.int 0]) (ad [aM<|aj mt (ab 18) 1 [aq (ab 25)<|eK<|.int 2]])<|ad []],ay<|ab 18]⟩
def RH:Fn:=⟨[28],[],ad [ai (.loc 26)<|aT [],aP (.loc 27) (ah .range [ah .len [al (ab 28) 13]])<|ad [br (aW<|ag 2 [aq (aq (al (ab 28) 13)<|ab 27)<|eK<|.int 0]) (ad [aM<|aj mt (ab 26) 0 [ab 27]])<|ad []],ay<|ab 26]⟩
def SH:Fn:=⟨[28],[],ad [ai (.loc 29)<|iU [eK<|.int 0,eK<|.bool true,eK<|.int 1,eK<|.bool true],aP (.tup [9,24]) (al (ab 28) 11)<|ad [aP (.loc 14) (ab 24)<|ad [br (aw .inn (ab 14)<|ab 29) (ad [Cw])<|ad [],bN (ab 29) (ab 14)<|eK<|.bool true]],ai (.loc 26)<|iU [],aP (.loc 27) (ah .range [ah .len [al (ab 28) 13]])<|ad [ai (.loc 14)<|aq (aq (al (ab 28) 13)<|ab 27)<|eK<|.int 1,br (aw .inn (ab 14)<|ab 29) (ad [Cw])<|ad [],bN (ab 29) (ab 14)<|eK<|.bool true,bN (ab 26) (ab 14)<|ab 27],ay<|ab 26]⟩
def Rl:Fn:=⟨[28,34],[],ad [ai (.loc 13)<|al (ab 28) 13,ai (.loc 30)<|iU [],ai (.loc 31)<|iU [],ai (.loc 32)<|aT [],aP (.loc 27) (ah .range [ah .len [ab 13]])<|ad [br (aW<|ag 2 [aq (aq (ab 13)<|ab 27)<|eK<|.int 0]) (ad [mh])<|ad [],ai (.loc 10)<|eK<|.int 0,aP (.loc 14) (aq (aq (ab 13)<|ab 27)<|eK<|.int 2)<|ad [ai (.loc 33)<|aj mt (ab 34) 3 [ab 14,mR<|eK<|.int 1],br (gX [aw .ge (ab 33)<|eK<|.int 0,pK<|aW<|ag 2 [aq (aq (ab 13)<|ab 33)<|eK<|.int 0]]) (ad [cE 10 .add<|eK<|.int 1,br (aw .nin (ab 33)<|ab 31) (ad [bN (ab 31) (ab 33)<|aT []])<|ad [],aM<|aj mt (aq (ab 31)<|ab 33) 0 [ab 27]])<|ad []],bN (ab 30) (ab 27)<|ab 10,br (aw .eq (ab 10)<|eK<|.int 0) (ad [aM<|aj mt (ab 32) 0 [ab 27]])<|ad []],ai (.loc 35)<|eK<|.int 0,xv (aw .lt (ab 35)<|ah .len [ab 32])<|ad [aP (.loc 27) (aj mt (ab 31) 3 [aq (ab 32)<|ab 35,aT []])<|ad [uz (ab 30) (ab 27) .sub<|eK<|.int 1,br (aw .eq (aq (ab 30)<|ab 27)<|eK<|.int 0) (ad [aM<|aj mt (ab 32) 0 [ab 27]])<|ad []],cE 35 .add<|eK<|.int 1],ay<|ab 32]⟩
def Sm:Fn:=⟨[28],[],ad [ai (.loc 36)<|ag 14 [ab 28,ag 13 [ab 28]],br (aw .lt (ap .add (ah .len [ab 36])<|ah .len [ag 12 [ab 28]])<|ah .len [al (ab 28) 13]) (ad [jg 1 [eK<|.str [99,111,109,98,105,110,97,116,105,111,110,97,108,95,108,111,111,112]]])<|ad [],ay<|ab 36]⟩
def Te:Fn:=⟨[5],[],ad [cD (ab 5) 37<|aT [eK<|.non],cD (ab 5) 11<|aT [],cD (ab 5) 12<|aT [],cD (ab 5) 38<|iU []]⟩
def Sy:Fn:=⟨[5],[],ad [ai (.loc 39)<|ah .len [al (ab 5) 37],aM<|aj mt (al (ab 5) 37) 0 [eK<|.non],aM<|aj mt (al (ab 5) 11) 0 [ab 39],ay<|ap .mul (eK<|.int 2)<|ab 39]⟩
def RJ:Fn:=⟨[5,40],[],ad [aM<|aj mt (al (ab 5) 12) 0 [ab 40]]⟩
def P3:Fn:=⟨[5,39],[],ad [ay<|jI .isnn (aq (al (ab 5) 37)<|ab 39)<|eK<|.non]⟩
def SW:Fn:=⟨[5,41,42],[],ad [br (aw .gt (ab 41)<|ab 42) (ad [ai (.tup [41,42])<|bq [ab 42,ab 41]])<|ad [],br (oG [aw .eq (ab 41)<|eK<|.int 0,aw .eq (ab 41)<|ap .bxor (ab 42)<|eK<|.int 1]) (ad [ay<|eK<|.int 0])<|ad [],br (oG [aw .eq (ab 41)<|eK<|.int 1,aw .eq (ab 41)<|ab 42]) (ad [ay<|ab 42])<|ad [],ai (.loc 39)<|aj mt (al (ab 5) 38) 3 [bq [ab 41,ab 42],mR<|eK<|.int 1],br (aw .lt (ab 39)<|eK<|.int 0) (ad [ai (.loc 39)<|ah .len [al (ab 5) 37],aM<|aj mt (al (ab 5) 37) 0 [bq [ab 41,ab 42]],bN (al (ab 5) 38) (bq [ab 41,ab 42])<|ab 39])<|ad [],ay<|ap .mul (eK<|.int 2)<|ab 39]⟩
def RT:Fn:=⟨[5,41,42],[],ad [ay<|ap .bxor (aj mt (ab 5) 43 [ap .bxor (ab 41)<|eK<|.int 1,ap .bxor (ab 42)<|eK<|.int 1])<|eK<|.int 1]⟩
def Qw:Fn:=⟨[5,41,42],[],ad [ai (.loc 44)<|ap .band (ap .bxor (ab 41)<|ab 42)<|eK<|.int 1,ai (.loc 45)<|ap .bxor (ab 41)<|ap .band (ab 41)<|eK<|.int 1,ai (.loc 46)<|ap .bxor (ab 42)<|ap .band (ab 42)<|eK<|.int 1,ay<|ap .bxor (aj mt (ab 5) 47 [aj mt (ab 5) 43 [ab 45,ap .bxor (ab 46)<|eK<|.int 1],aj mt (ab 5) 43 [ap .bxor (ab 45)<|eK<|.int 1,ab 46]])<|ab 44]⟩
def Sw:Fn:=⟨[5,50,48,49],[],ad [br (aw .eq (ab 48)<|ab 49) (ad [ay<|ab 48])<|ad [],ay<|aj mt (ab 5) 47 [aj mt (ab 5) 43 [ab 50,ab 49],aj mt (ab 5) 43 [ap .bxor (ab 50)<|eK<|.int 1,ab 48]]]⟩
def St:Fn:=⟨[5],[],ad [Cw]⟩
def Qn:Fn:=⟨[5],[],ad [ai (.loc 51)<|aT [],aP (.loc 39) (ah .range [ah .len [al (ab 5) 37]])<|ad [aM<|aj mt (ab 51) 0 [aT []],ai (.loc 52)<|aq (al (ab 5) 37)<|ab 39,br (aw .isnn (ab 52)<|eK<|.non) (ad [aP (.loc 40) (ab 52)<|ad [aM<|aj mt (aq (ab 51)<|ap .shr (ab 40)<|eK<|.int 1) 0 [ab 39]]])<|ad []],ay<|ab 51]⟩
def Q8:Fn:=⟨[5],[],ad [ai (.loc 53)<|ap .mul (aT [eK<|.int 0])<|ah .len [al (ab 5) 37],aP (.loc 52) (al (ab 5) 37)<|ad [br (aw .isnn (ab 52)<|eK<|.non) (ad [aP (.loc 40) (ab 52)<|ad [uz (ab 53) (ap .shr (ab 40)<|eK<|.int 1) .add<|eK<|.int 1]])<|ad []],aP (.loc 40) (al (ab 5) 12)<|ad [uz (ab 53) (ap .shr (ab 40)<|eK<|.int 1) .add<|eK<|.int 1],ay<|ab 53]⟩
def SX:Fn:=⟨[5,54,55],[.int 1],ad [Cw]⟩
def SD:Fn:=⟨[61,38,56],[],ad [ai (.loc 51)<|ap .shl (eK<|.int 1)<|ah .len [ab 56],br (aw .eq (ab 38)<|eK<|.int 0) (ad [ay<|eK<|.int 0])<|ad [],br (aw .eq (ab 38)<|ap .sub (ap .shl (eK<|.int 1)<|ab 51)<|eK<|.int 1) (ad [ay<|eK<|.int 1])<|ad [],ai (.loc 57)<|ap .shr (ab 51)<|eK<|.int 1,ai (.loc 58)<|ap .band (ab 38)<|ap .sub (ap .shl (eK<|.int 1)<|ab 57)<|eK<|.int 1,ai (.loc 59)<|ap .shr (ab 38)<|ab 57,ai (.loc 60)<|rz (ab 56) none<|some<|mR<|eK<|.int 1,br (aw .eq (ab 58)<|ab 59) (ad [ay<|ag 28 [ab 61,ab 58,ab 60]])<|ad [],ai (.loc 62)<|ag 28 [ab 61,ab 59,ab 60],ai (.loc 63)<|ag 28 [ab 61,ab 58,ab 60],ay<|aj mt (ab 61) 64 [aq (ab 56)<|mR<|eK<|.int 1,ab 63,ab 62]]⟩
def Qz:Fn:=⟨[61,6,23,56],[],ad [br (aw .eq (ab 6)<|eK<|.str [108,117,116]) (ad [ay<|ag 28 [ab 61,ab 23,ab 56]])<|ad [],br (aw .eq (ab 6)<|eK<|.str [99,101,108,108]) (ad [ay<|ag 28 [ab 61,aq (ab 23)<|eK<|.int 1,ab 56]])<|ad [],br (aw .eq (ab 6)<|eK<|.str [109,117,120]) (ad [ay<|aj mt (ab 61) 64 [aq (ab 56)<|eK<|.int 0,aq (ab 56)<|eK<|.int 1,aq (ab 56)<|eK<|.int 2]])<|ad [],br (aw .eq (ab 6)<|eK<|.str [98,117,102]) (ad [ay<|aq (ab 56)<|eK<|.int 0])<|ad [],br (aw .eq (ab 6)<|eK<|.str [110,111,116]) (ad [ay<|ap .bxor (aq (ab 56)<|eK<|.int 0)<|eK<|.int 1])<|ad [],br (aw .eq (ab 6)<|eK<|.str [97,110,100]) (ad [ay<|aj mt (ab 61) 43 [aq (ab 56)<|eK<|.int 0,aq (ab 56)<|eK<|.int 1]])<|ad [],br (aw .eq (ab 6)<|eK<|.str [110,97,110,100]) (ad [ay<|ap .bxor (aj mt (ab 61) 43 [aq (ab 56)<|eK<|.int 0,aq (ab 56)<|eK<|.int 1])<|eK<|.int 1])<|ad [],br (aw .eq (ab 6)<|eK<|.str [111,114]) (ad [ay<|aj mt (ab 61) 47 [aq (ab 56)<|eK<|.int 0,aq (ab 56)<|eK<|.int 1]])<|ad [],br (aw .eq (ab 6)<|eK<|.str [110,111,114]) (ad [ay<|ap .bxor (aj mt (ab 61) 47 [aq (ab 56)<|eK<|.int 0,aq (ab 56)<|eK<|.int 1])<|eK<|.int 1])<|ad [],br (aw .eq (ab 6)<|eK<|.str [120,111,114]) (ad [ay<|aj mt (ab 61) 65 [aq (ab 56)<|eK<|.int 0,aq (ab 56)<|eK<|.int 1]])<|ad [],br (aw .eq (ab 6)<|eK<|.str [120,110,111,114]) (ad [ay<|ap .bxor (aj mt (ab 61) 65 [aq (ab 56)<|eK<|.int 0,aq (ab 56)<|eK<|.int 1])<|eK<|.int 1])<|ad [],jg 1 [eK<|.str [117,110,107,110,111,119,110,95,99,101,108,108],mR<|eK<|.int 1,ab 6]]⟩
def SP:Fn:=⟨[56,14],[],ad [br (aw .nin (ab 14)<|ab 56) (ad [Cw])<|ad [],ay<|aq (ab 56)<|ab 14]⟩
def Rr:Fn:=⟨[28],[],ad [ai (.loc 61)<|mF 3 16 [],ai (.loc 56)<|iU [eK<|.int 0,eK<|.int 0,eK<|.int 1,eK<|.int 1],aP (.loc 14) (aj mt (ab 28) 66 [])<|ad [bN (ab 56) (ab 14)<|aj mt (ab 61) 67 []],aP (.loc 68) (ag 15 [ab 28])<|ad [ai (.tup [6,20,22,23])<|aq (al (ab 28) 13)<|ab 68,ai (.loc 69)<|aT [],aP (.loc 14) (ab 22)<|ad [aM<|aj mt (ab 69) 0 [ag 30 [ab 56,ab 14]]],bN (ab 56) (ab 20)<|ag 29 [ab 61,ab 6,ab 23,ab 69]],aP (.loc 14) (aj mt (ab 28) 70 [])<|ad [aM<|aj mt (ab 61) 71 [ag 30 [ab 56,ab 14]]],ay<|ab 61]⟩
def Tn:Fn:=⟨[4],[],ad [ay<|ap .sub (ap .shl (eK<|.int 1)<|ap .shl (eK<|.int 1)<|ab 4)<|eK<|.int 1]⟩
def Qj:Fn:=⟨[73,4],[],ad [ai (.loc 72)<|ag 32 [ab 4],ay<|ap .bxor (ab 72)<|ap .fdiv (ab 72)<|ap .add (ap .shl (eK<|.int 1)<|ap .shl (eK<|.int 1)<|ab 73)<|eK<|.int 1]⟩
def Qp:Fn:=⟨[74,73,16,4],[],ad [ai (.loc 59)<|ap .band (ab 74)<|ag 33 [ab 73,ab 4],br (aw .eq (ab 16)<|eK<|.int 1) (ad [ay<|ap .bor (ab 59)<|ap .shr (ab 59)<|ap .shl (eK<|.int 1)<|ab 73])<|ad [],ai (.loc 58)<|ap .bxor (ab 74)<|ab 59,ay<|ap .bor (ab 58)<|ap .shl (ab 58)<|ap .shl (eK<|.int 1)<|ab 73]⟩
def Qu:Fn:=⟨[74,73,4],[],ad [ay<|jI .ne (ag 34 [ab 74,ab 73,eK<|.int 0,ab 4])<|ag 34 [ab 74,ab 73,eK<|.int 1,ab 4]]⟩
def QA:Fn:=⟨[74,4],[],ad [ai (.loc 26)<|aT [],aP (.loc 73) (ah .range [ab 4])<|ad [br (aW<|ag 35 [ab 74,ab 73,ab 4]) (ad [aM<|aj mt (ab 26) 0 [ab 73]])<|ad []],ay<|ab 26]⟩
def Sp:Fn:=⟨[77,76],[],ad [ai (.loc 69)<|eK<|.int 0,aP (.loc 75) (ah .range [ah .len [ab 76]])<|ad [cE 69 .bor<|ap .shl (ap .band (ap .shr (ab 77)<|ab 75)<|eK<|.int 1)<|aq (ab 76)<|ab 75],ay<|ab 69]⟩
def P5:Fn:=⟨[74,36,4],[],ad [ai (.loc 78)<|eK<|.int 0,aP (.loc 77) (ah .range [ap .shl (eK<|.int 1)<|ab 4])<|ad [cE 78 .bor<|ap .shl (ap .band (ap .shr (ab 74)<|ag 37 [ab 77,ab 36])<|eK<|.int 1)<|ab 77],ay<|ab 78]⟩
def Rq:Fn:=⟨[74,4],[],ad [ai (.loc 79)<|ag 36 [ab 74,ab 4],ai (.loc 78)<|eK<|.int 0,aP (.loc 77) (ah .range [ap .shl (eK<|.int 1)<|ah .len [ab 79]])<|ad [cE 78 .bor<|ap .shl (ap .band (ap .shr (ab 74)<|ag 37 [ab 77,ab 79])<|eK<|.int 1)<|ab 77],ay<|bq [ab 78,ab 79]]⟩
def Sn:Fn:=⟨[74,73,4],[],ad [ai (.loc 59)<|ap .band (ab 74)<|ag 33 [ab 73,ab 4],ay<|ap .bor (ap .shr (ab 59)<|ap .shl (eK<|.int 1)<|ab 73)<|ap .shl (ap .bxor (ab 74)<|ab 59)<|ap .shl (eK<|.int 1)<|ab 73]⟩
def Sb:Fn:=⟨[4],[],ad [ai (.loc 51)<|aT [bq []],aP (.loc 80) (ah .range [ab 4])<|ad [ai (.loc 81)<|aT [],aP (.loc 69) (ab 51)<|ad [aP (.loc 73) (ah .range [ab 4])<|ad [br (aw .nin (ab 73)<|ab 69) (ad [aM<|aj mt (ab 81) 0 [ap .add (ab 69)<|bq [ab 73]]])<|ad []]],ai (.loc 51)<|ab 81],ay<|ab 51]⟩
def Se:Fn:=⟨[74,4],[],ad [ai (.loc 72)<|ag 32 [ab 4],ai (.loc 82)<|ab 74,ai (.loc 83)<|bq [ah .tuple [ah .range [ab 4]],eK<|.int 0,eK<|.int 0],aP (.loc 36) (ag 41 [ab 4])<|ad [ai (.loc 26)<|ag 38 [ab 74,ab 36,ab 4],ai (.loc 11)<|eK<|.int 0,aP (.loc 80) (ah .range [ap .shl (eK<|.int 1)<|ab 4])<|ad [br (aw .gt (ab 80)<|eK<|.int 0) (ad [ai (.loc 73)<|ag 43 [ab 80],ai (.loc 26)<|ag 40 [ab 26,ab 73,ab 4],cE 11 .bxor<|ap .shl (eK<|.int 1)<|ab 73])<|ad [],br (aw .lt (ab 26)<|ab 82) (ad [ai (.loc 82)<|ab 26,ai (.loc 83)<|bq [ab 36,ab 11,eK<|.int 0]])<|ad [],br (aw .lt (ap .bxor (ab 72)<|ab 26)<|ab 82) (ad [ai (.loc 82)<|ap .bxor (ab 72)<|ab 26,ai (.loc 83)<|bq [ab 36,ab 11,eK<|.int 1]])<|ad []]],ay<|bq [ab 82,ab 83]]⟩
def QK:Fn:=⟨[84],[],ad [ai (.loc 68)<|eK<|.int 0,xv (aw .eq (ap .band (ap .shr (ab 84)<|ab 68)<|eK<|.int 1)<|eK<|.int 0)<|ad [cE 68 .add<|eK<|.int 1],ay<|ab 68]⟩
def RM:Fn:=⟨[86,87,4],[],ad [ai (.loc 85)<|aT [],ai (.loc 73)<|eK<|.int 0,ai (.loc 75)<|eK<|.int 0,xv (oG [aw .lt (ab 73)<|ah .len [ab 86],aw .lt (ab 75)<|ah .len [ab 87]])<|ad [br (oG [aw .eq (ab 75)<|ah .len [ab 87],gX [aw .lt (ab 73)<|ah .len [ab 86],aw .lt (aq (ab 86)<|ab 73)<|aq (ab 87)<|ab 75]]) (ad [aM<|aj mt (ab 85) 0 [aq (ab 86)<|ab 73],cE 73 .add<|eK<|.int 1])<|ad [br (oG [aw .eq (ab 73)<|ah .len [ab 86],aw .lt (aq (ab 87)<|ab 75)<|aq (ab 86)<|ab 73]) (ad [aM<|aj mt (ab 85) 0 [aq (ab 87)<|ab 75],cE 75 .add<|eK<|.int 1])<|ad [aM<|aj mt (ab 85) 0 [aq (ab 86)<|ab 73],cE 73 .add<|eK<|.int 1,cE 75 .add<|eK<|.int 1]]],br (aw .gt (ah .len [ab 85])<|ab 4) (ad [ay<|eK<|.non])<|ad [],ay<|ah .tuple [ab 85]]⟩
def Qe:Fn:=⟨[88,89],[],ad [aP (.loc 39) (ab 88)<|ad [br (aw .nin (ab 39)<|ab 89) (ad [ay<|eK<|.bool false])<|ad []],ay<|eK<|.bool true]⟩
def QM:Fn:=⟨[91],[],ad [ai (.loc 79)<|aT [],aP (.loc 90) (HW<|ab 91)<|ad [ai (.loc 92)<|eK<|.bool true,aP (.loc 93) (ab 79)<|ad [br (aW<|ag 45 [ab 93,ab 90]) (ad [ai (.loc 92)<|eK<|.bool false])<|ad []],br (aW<|ab 92) (ad [aM<|aj mt (ab 79) 0 [ab 90]])<|ad []],ay<|ab 79]⟩
def Qk:Fn:=⟨[39,45,46,4,94],[],ad [ai (.loc 85)<|aT [],aP (.loc 62) (ab 45)<|ad [aP (.loc 93) (ab 46)<|ad [ai (.loc 90)<|ag 44 [ab 62,ab 93,ab 4],br (aw .isnn (ab 90)<|eK<|.non) (ad [aM<|aj mt (ab 85) 0 [ab 90]])<|ad []]],ai (.loc 79)<|rz (ag 46 [ab 85]) none<|some<|ab 94,aM<|aj mt (ab 79) 0 [bq [ab 39]],ay<|ab 79]⟩
def Qx:Fn:=⟨[61,4,94],[],ad [ai (.loc 51)<|aT [aT [bq []]],aP (.loc 39) (ah .range [eK<|.int 1,ah .len [al (ab 61) 37]])<|ad [ai (.loc 52)<|aq (al (ab 61) 37)<|ab 39,br (aw .isn (ab 52)<|eK<|.non) (ad [aM<|aj mt (ab 51) 0 [aT [bq [ab 39]]]])<|ad [aM<|aj mt (ab 51) 0 [ag 47 [ab 39,aq (ab 51)<|ap .shr (aq (ab 52)<|eK<|.int 0)<|eK<|.int 1,aq (ab 51)<|ap .shr (aq (ab 52)<|eK<|.int 1)<|eK<|.int 1,ab 4,ab 94]]]],ay<|ab 51]⟩
def Qo:Fn:=⟨[61,39,90],[],ad [ai (.loc 95)<|iU [],ai (.loc 30)<|aT [ab 39],xv (aw .gt (ah .len [ab 30])<|eK<|.int 0)<|ad [ai (.loc 62)<|aj mt (ab 30) 2 [],br (oG [aw .inn (ab 62)<|ab 90,aw .inn (ab 62)<|ab 95,aw .eq (ab 62)<|eK<|.int 0]) (ad [mh])<|ad [],ai (.loc 52)<|aq (al (ab 61) 37)<|ab 62,br (aw .isn (ab 52)<|eK<|.non) (ad [Cw])<|ad [],bN (ab 95) (ab 62)<|eK<|.bool true,aM<|aj mt (ab 30) 0 [ap .shr (aq (ab 52)<|eK<|.int 0)<|eK<|.int 1],aM<|aj mt (ab 30) 0 [ap .shr (aq (ab 52)<|eK<|.int 1)<|eK<|.int 1]],ay<|ah .sorted [ab 95]]⟩
def Tp:Fn:=⟨[96,40,72],[],ad [ai (.loc 38)<|aq (ab 96)<|ap .shr (ab 40)<|eK<|.int 1,br (aw .eq (ap .band (ab 40)<|eK<|.int 1)<|eK<|.int 1) (ad [ay<|ap .bxor (ab 38)<|ab 72])<|ad [],ay<|ab 38]⟩
def Sx:Fn:=⟨[61,39,90],[],ad [ai (.loc 4)<|ah .len [ab 90],ai (.loc 72)<|ag 32 [ab 4],ai (.loc 96)<|iU [eK<|.int 0,eK<|.int 0],aP (.loc 73) (ah .range [ab 4])<|ad [bN (ab 96) (aq (ab 90)<|ab 73)<|ag 33 [ab 73,ab 4]],aP (.loc 62) (ag 49 [ab 61,ab 39,ab 90])<|ad [ai (.loc 52)<|aq (al (ab 61) 37)<|ab 62,bN (ab 96) (ab 62)<|ap .band (ag 50 [ab 96,aq (ab 52)<|eK<|.int 0,ab 72])<|ag 50 [ab 96,aq (ab 52)<|eK<|.int 1,ab 72]],ay<|aq (ab 96)<|ab 39]⟩
def Ry:Fn:=⟨[5,9,38,11,97,98],[],ad [cD (ab 5) 9<|ab 9,cD (ab 5) 38<|ab 38,cD (ab 5) 11<|ab 11,cD (ab 5) 97<|ab 97,cD (ab 5) 98<|ab 98]⟩
def Ts:Fn:=⟨[55],[],ad [ai (.loc 10)<|eK<|.int 0,xv (aw .gt (ab 55)<|eK<|.int 0)<|ad [cE 10 .add<|ap .band (ab 55)<|eK<|.int 1,cE 55 .shr<|eK<|.int 1],ay<|ab 10]⟩
def Qd:Fn:=⟨[99],[],ad [aP (.loc 25) (ab 99)<|ad [br (gX [aw .eq (al (ab 25) 11)<|eK<|.int 1,aw .eq (al (ab 25) 38)<|eK<|.int 1]) (ad [ay<|ab 25])<|ad []],jg 1 [eK<|.str [110,111,95,105,110,118,101,114,116,101,114]]]⟩
def PH:Fn:=⟨[99],[],ad [aP (.loc 25) (ab 99)<|ad [br (gX [aw .eq (al (ab 25) 11)<|eK<|.int 1,aw .eq (al (ab 25) 38)<|eK<|.int 1]) (ad [ay<|eK<|.bool true])<|ad []],ay<|eK<|.bool false]⟩
def R9:Fn:=⟨[99,101],[],ad [ai (.tup [25,100,55,20])<|ab 101,ai (.loc 102)<|ap .add (ag 53 [ab 55])<|ab 20,br (aw .eq (ab 102)<|eK<|.int 0) (ad [ay<|al (ab 25) 97])<|ad [],br (pK<|aW<|ag 55 [ab 99]) (ad [ay<|eK<|.non])<|ad [],ay<|ap .add (al (ab 25) 97)<|ap .mul (ab 102)<|al (ag 54 [ab 99]) 97]⟩
def QP:Fn:=⟨[99,4],[],ad [ai (.loc 51)<|aT [],aP (.loc 25) (ab 99)<|ad [br (aw .eq (al (ab 25) 11)<|ab 4) (ad [ai (.tup [82,83])<|ag 42 [al (ab 25) 38,ab 4],aM<|aj mt (ab 51) 0 [bq [ab 25,ab 82,ab 83]]])<|ad []],ay<|ab 51]⟩
def TL:Fn:=⟨[25,103,104],[],ad [ai (.loc 36)<|ap .mul (aT [eK<|.int 0])<|al (ab 25) 11,ai (.loc 55)<|eK<|.int 0,aP (.loc 75) (ah .range [al (ab 25) 11])<|ad [ai (.loc 68)<|aq (aq (ab 103)<|eK<|.int 0)<|ab 75,bN (ab 36) (ab 68)<|aq (aq (ab 104)<|eK<|.int 0)<|ab 75,ai (.loc 102)<|ap .bxor (ap .band (ap .shr (aq (ab 103)<|eK<|.int 1)<|ab 75)<|eK<|.int 1)<|ap .band (ap .shr (aq (ab 104)<|eK<|.int 1)<|ab 75)<|eK<|.int 1,cE 55 .bor<|ap .shl (ab 102)<|ab 68],ay<|bq [ab 25,ah .tuple [ab 36],ab 55,ap .bxor (aq (ab 103)<|eK<|.int 2)<|aq (ab 104)<|eK<|.int 2]]⟩
def QH:Fn:=⟨[25,38],[],ad [aP (.loc 36) (ag 41 [al (ab 25) 11])<|ad [br (aw .eq (ag 38 [al (ab 25) 38,ab 36,al (ab 25) 11])<|ab 38) (ad [ai (.loc 76)<|ap .mul (aT [eK<|.int 0])<|al (ab 25) 11,aP (.loc 75) (ah .range [al (ab 25) 11])<|ad [bN (ab 76) (aq (ab 36)<|ab 75)<|ab 75],ay<|bq [ab 25,ah .tuple [ab 76],eK<|.int 0,eK<|.int 0]])<|ad []],ay<|eK<|.non]⟩
def Sv:Fn:=⟨[51,99,38,4],[],ad [ai (.tup [82,83])<|ag 42 [ab 38,ab 4],ai (.loc 105)<|eK<|.non,ai (.loc 106)<|eK<|.int 0,aP (.tup [25,107,103]) (ab 51)<|ad [br (aw .eq (ab 107)<|ab 82) (ad [ai (.loc 101)<|ag 58 [ab 25,ab 103,ab 83],ai (.loc 108)<|ag 56 [ab 99,ab 101],br (aw .isn (ab 108)<|eK<|.non) (ad [ai (.loc 101)<|ag 59 [ab 25,ab 38],ai (.loc 108)<|ta (aw .isn (ab 101)<|eK<|.non) (eK<|.non)<|al (ab 25) 97])<|ad [],br (gX [aw .isnn (ab 108)<|eK<|.non,oG [aw .isn (ab 105)<|eK<|.non,aw .lt (ab 108)<|ab 106]]) (ad [ai (.loc 105)<|ab 101,ai (.loc 106)<|ab 108])<|ad []])<|ad []],ay<|ab 105]⟩
def Qt:Fn:=⟨[5,99],[],ad [cD (ab 5) 99<|ab 99,cD (ab 5) 109<|iU [],cD (ab 5) 110<|iU []]⟩
def Qq:Fn:=⟨[5,38,4],[],ad [ai (.loc 111)<|bq [ab 4,ab 38],br (aw .nin (ab 111)<|al (ab 5) 110) (ad [br (aw .nin (ab 4)<|al (ab 5) 109) (ad [bN (al (ab 5) 109) (ab 4)<|ag 57 [al (ab 5) 99,ab 4]])<|ad [],ai (.loc 101)<|ag 60 [aq (al (ab 5) 109)<|ab 4,al (ab 5) 99,ab 38,ab 4],ai (.loc 108)<|eK<|.int 0,br (aw .isnn (ab 101)<|eK<|.non) (ad [ai (.loc 108)<|ag 56 [al (ab 5) 99,ab 101]])<|ad [],bN (al (ab 5) 110) (ab 111)<|bq [ab 101,ab 108]])<|ad [],ay<|aq (al (ab 5) 110)<|ab 111]⟩
def Sh:Fn:=⟨[5,38,4],[],ad [ai (.tup [82,100])<|ag 42 [ab 38,ab 4],ay<|jI .inn (ab 82)<|bQ [] (.loc 69) (aq (al (ab 5) 109)<|ab 4)<|cr<|aq (ab 69)<|eK<|.int 1]⟩
def Rg:Fn:=⟨[61,99,4,94],[],ad [ai (.loc 53)<|aj mt (ab 61) 112 [],ai (.loc 91)<|ag 48 [ab 61,ab 4,ab 94],ai (.loc 113)<|mF 5 61 [ab 99],ai (.loc 114)<|ap .mul (aT [eK<|.non])<|ah .len [al (ab 61) 37],ai (.loc 115)<|ap .mul (aT [eK<|.int 0])<|ah .len [al (ab 61) 37],aP (.loc 39) (ah .range [ah .len [al (ab 61) 37]])<|ad [br (pK<|aW<|aj mt (ab 61) 116 [ab 39]) (ad [mh])<|ad [],ai (.loc 105)<|mR<|eK<|.int 1,ai (.loc 117)<|eK<|.str [110,111,95,99,101,108,108],aP (.loc 90) (aq (ab 91)<|ab 39)<|ad [br (aw .eq (ab 90)<|bq [ab 39]) (ad [mh])<|ad [],ai (.tup [38,79])<|ag 39 [ag 51 [ab 61,ab 39,ab 90],ah .len [ab 90]],ai (.loc 118)<|ah .tuple [bQ [90] (.loc 73) (ab 79)<|cr<|aq (ab 90)<|ab 73],ai (.loc 101)<|eK<|.non,ai (.loc 108)<|eK<|.int 0,br (aw .gt (ah .len [ab 118])<|eK<|.int 1) (ad [ai (.tup [101,108])<|aj mt (ab 113) 119 [ab 38,ah .len [ab 118]],br (aw .isn (ab 101)<|eK<|.non) (ad [br (aW<|aj mt (ab 113) 120 [ab 38,ah .len [ab 118]]) (ad [ai (.loc 117)<|eK<|.str [110,111,95,105,110,118,101,114,116,101,114]])<|ad [],mh])<|ad []])<|ad [],ai (.loc 121)<|ap .mul (eK<|.int 60)<|ab 108,aP (.loc 122) (ab 118)<|ad [cE 121 .add<|aq (ab 115)<|ab 122],br (oG [aw .lt (ab 105)<|eK<|.int 0,aw .lt (ab 121)<|ab 105]) (ad [ai (.loc 105)<|ab 121,bN (ab 114) (ab 39)<|bq [ab 118,ab 38,ab 101]])<|ad []],br (aw .lt (ab 105)<|eK<|.int 0) (ad [jg 1 [ab 117]])<|ad [],bN (ab 115) (ab 39)<|ap .fdiv (ab 105)<|ah .max [eK<|.int 1,aq (ab 53)<|ab 39]],ay<|ab 114]⟩
def Ty:Fn:=⟨[61,114],[],ad [ai (.loc 123)<|ap .mul (aT [eK<|.bool false])<|ah .len [al (ab 61) 37],aP (.loc 40) (al (ab 61) 12)<|ad [bN (ab 123) (ap .shr (ab 40)<|eK<|.int 1)<|eK<|.bool true],aP (.loc 39) (ah .range [ap .sub (ah .len [al (ab 61) 37])<|eK<|.int 1,mR<|eK<|.int 1,mR<|eK<|.int 1])<|ad [br (gX [aW<|aq (ab 123)<|ab 39,aw .isnn (aq (ab 114)<|ab 39)<|eK<|.non]) (ad [aP (.loc 122) (aq (aq (ab 114)<|ab 39)<|eK<|.int 0)<|ad [bN (ab 123) (ab 122)<|eK<|.bool true]])<|ad []],ay<|bQ [114,123] (.loc 39) (ah .range [ah .len [al (ab 61) 37]])<|l9 (gX [aW<|aq (ab 123)<|ab 39,aw .isnn (aq (ab 114)<|ab 39)<|eK<|.non])<|cr<|ab 39]⟩
def TM:Fn:=⟨[5,28,99],[],ad [cD (ab 5) 28<|ab 28,cD (ab 5) 99<|ab 99,cD (ab 5) 124<|iU [eK<|.int 0,eK<|.int 1,eK<|.int 1,eK<|.int 0]]⟩
def QR:Fn:=⟨[5,14],[],ad [br (aw .nin (ab 14)<|al (ab 5) 124) (ad [ai (.loc 25)<|ag 54 [al (ab 5) 99],ai (.loc 125)<|aj mt (al (ab 5) 28) 126 [eK<|.str [99,101,108,108],bq [ab 14],bq [al (ab 25) 9,al (ab 25) 38]],bN (al (ab 5) 124) (ab 14)<|ab 125,bN (al (ab 5) 124) (ab 125)<|ab 14])<|ad [],ay<|aq (al (ab 5) 124)<|ab 14]⟩
def Rs:Fn:=⟨[5,118,38,101],[],ad [br (aw .isn (ab 101)<|eK<|.non) (ad [ay<|aj mt (ab 5) 127 [ab 118,ab 38]])<|ad [],ai (.tup [25,36,55,20])<|ab 101,ai (.loc 22)<|aT [],aP (.loc 73) (ah .range [al (ab 25) 11])<|ad [ai (.loc 14)<|aq (ab 118)<|aq (ab 36)<|ab 73,br (aW<|ap .band (ap .shr (ab 55)<|ab 73)<|eK<|.int 1) (ad [ai (.loc 14)<|aj mt (ab 5) 128 [ab 14]])<|ad [],aM<|aj mt (ab 22) 0 [ab 14]],ai (.loc 125)<|aj mt (al (ab 5) 28) 126 [eK<|.str [99,101,108,108],ah .tuple [ab 22],bq [al (ab 25) 9,al (ab 25) 38]],br (aW<|ab 20) (ad [ay<|aj mt (ab 5) 128 [ab 125]])<|ad [],ay<|ab 125]⟩
def Ss:Fn:=⟨[5,118,38],[],ad [br (aw .eq (ah .len [ab 118])<|eK<|.int 0) (ad [ay<|ap .band (ab 38)<|eK<|.int 1])<|ad [],br (aw .eq (ab 38)<|eK<|.int 1) (ad [ay<|aj mt (ab 5) 128 [aq (ab 118)<|eK<|.int 0]])<|ad [],ay<|aq (ab 118)<|eK<|.int 0]⟩
def RZ:Fn:=⟨[28,99,4,94],[.int 3,.int 8],ad [ai (.loc 61)<|ag 31 [ab 28],ai (.loc 114)<|ag 64 [ab 61,ab 99,ab 4,ab 94],ai (.loc 78)<|mF 2 3 [al (ab 28) 9],ai (.loc 18)<|iU [eK<|.int 0,eK<|.int 0],ai (.loc 76)<|aT [],aP (.tup [9,24]) (al (ab 28) 11)<|ad [aM<|aj mt (ab 76) 1 [aj mt (ab 78) 67 [ab 9,ah .len [ab 24]]]],ai (.loc 129)<|ag 12 [ab 28],ai (.loc 130)<|aj mt (ab 78) 19 [ah .len [ab 129]],aM<|aj mt (ab 76) 1 [ab 130],aP (.loc 73) (ah .range [ah .len [ab 76]])<|ad [bN (ab 18) (aq (al (ab 61) 11)<|ab 73)<|aq (ab 76)<|ab 73],ai (.loc 131)<|mF 6 66 [ab 78,ab 99],aP (.loc 39) (ag 65 [ab 61,ab 114])<|ad [ai (.tup [118,38,101])<|aq (ab 114)<|ab 39,bN (ab 18) (ab 39)<|aj mt (ab 131) 132 [bQ [18] (.loc 122) (ab 118)<|cr<|aq (ab 18)<|ab 122,ab 38,ab 101]],ai (.loc 70)<|aT [],aP (.loc 40) (al (ab 61) 12)<|ad [ai (.loc 14)<|aq (ab 18)<|ap .shr (ab 40)<|eK<|.int 1,br (aW<|ap .band (ab 40)<|eK<|.int 1) (ad [ai (.loc 14)<|aj mt (ab 131) 128 [ab 14]])<|ad [],aM<|aj mt (ab 70) 0 [ab 14]],ai (.loc 7)<|eK<|.int 0,aP (.tup [9,24]) (al (ab 28) 12)<|ad [aM<|aj mt (ab 78) 71 [ab 9,rz (ab 70) (some<|ab 7)<|some<|ap .add (ab 7)<|ah .len [ab 24]],cE 7 .add<|ah .len [ab 24]],aP (.loc 73) (ah .range [ah .len [ab 129]])<|ad [ai (.tup [6,100,22,23])<|aq (al (ab 28) 13)<|aq (ab 129)<|ab 73,aM<|aj mt (ab 78) 21 [aq (ab 130)<|ab 73,ab 6,ah .tuple [rz (ab 70) (some<|ab 7)<|some<|ap .add (ab 7)<|ah .len [ab 22]],ab 23],cE 7 .add<|ah .len [ab 22]],ay<|ab 78]⟩
def QO:Fn:=⟨[99],[],ad [ay<|sZ [] (.loc 25) (ab 99)<|qN (al (ab 25) 9)<|ab 25]⟩
def TJ:Fn:=⟨[28,99],[],ad [ai (.loc 133)<|ag 71 [ab 99],ai (.loc 121)<|eK<|.int 0,aP (.tup [6,100,100,23]) (al (ab 28) 13)<|ad [br (aw .eq (ab 6)<|eK<|.str [99,101,108,108]) (ad [br (aw .nin (aq (ab 23)<|eK<|.int 0)<|ab 133) (ad [jg 1 [eK<|.str [117,110,107,110,111,119,110,95,99,101,108,108],mR<|eK<|.int 1,aq (ab 23)<|eK<|.int 0]])<|ad [],cE 121 .add<|al (aq (ab 133)<|aq (ab 23)<|eK<|.int 0) 97])<|ad []],ay<|ab 121]⟩
def RF:Fn:=⟨[135],[],ad [ai (.loc 134)<|aT [],aP (.loc 62) (rz (ab 135) none<|some<|eK<|.int 60)<|ad [ai (.loc 60)<|ta (aw .ge (ab 62)<|eK<|.int 0) (ab 62)<|ap .sub (eK<|.int 7)<|ab 62,aP (.loc 35) (ah .range [eK<|.int 12])<|ad [aM<|aj mt (ab 134) 0 [ap .mod (ab 60)<|eK<|.int 96],ai (.loc 60)<|ap .fdiv (ab 60)<|eK<|.int 96,br (aw .eq (ab 60)<|eK<|.int 0) (ad [CY])<|ad []]],ay<|rz (ab 134) none<|some<|eK<|.int 60]⟩
def RK:Fn:=⟨[134,94],[],ad [ay<|ta (aw .ne (ab 134)<|aT []) (ap .mod (aj mt (ab 134) 2 [eK<|.int 0])<|ab 94)<|eK<|.int 0]⟩
def SC:Fn:=⟨[136],[],ad [br (aw .eq (ab 136)<|eK<|.int 2) (ad [ay<|aT [bq [eK<|.int 0,eK<|.int 1],bq [eK<|.int 1,eK<|.int 0]]])<|ad [],ay<|aT [bq [eK<|.int 0,eK<|.int 1,eK<|.int 2],bq [eK<|.int 0,eK<|.int 2,eK<|.int 1],bq [eK<|.int 1,eK<|.int 0,eK<|.int 2],bq [eK<|.int 1,eK<|.int 2,eK<|.int 0],bq [eK<|.int 2,eK<|.int 0,eK<|.int 1],bq [eK<|.int 2,eK<|.int 1,eK<|.int 0]]]⟩
def SR:Fn:=⟨[38,137,102,141],[],ad [ai (.loc 78)<|eK<|.int 0,aP (.loc 69) (ah .range [ap .pow (eK<|.int 2)<|ah .len [ab 137]])<|ad [ai (.loc 138)<|eK<|.int 0,aP (.loc 139) (ah .range [ah .len [ab 137]])<|ad [ai (.loc 140)<|ap .mod (ap .add (ap .fdiv (ab 69)<|ap .pow (eK<|.int 2)<|aq (ab 137)<|ab 139)<|ap .fdiv (ab 102)<|ap .pow (eK<|.int 2)<|ab 139)<|eK<|.int 2,cE 138 .add<|ap .mul (ab 140)<|ap .pow (eK<|.int 2)<|ab 139],cE 78 .add<|ap .mul (ap .mod (ap .add (ap .fdiv (ab 38)<|ap .pow (eK<|.int 2)<|ab 138)<|ab 141)<|eK<|.int 2)<|ap .pow (eK<|.int 2)<|ab 69],ay<|ab 78]⟩
def QQ:Fn:=⟨[38,123,136],[],ad [aP (.loc 137) (ag 75 [ab 136])<|ad [br (aw .eq (ag 76 [ab 38,ab 137,eK<|.int 0,eK<|.int 0])<|ab 123) (ad [ay<|eK<|.bool true])<|ad []],ay<|eK<|.bool false]⟩
def SE:Fn:=⟨[38,123],[],ad [aP (.loc 137) (ag 75 [eK<|.int 2])<|ad [aP (.loc 102) (ah .range [eK<|.int 4])<|ad [br (aw .inn (ab 123)<|aT [ag 76 [ab 38,ab 137,ab 102,eK<|.int 0],ag 76 [ab 38,ab 137,ab 102,eK<|.int 1]]) (ad [ay<|eK<|.bool true])<|ad []]],ay<|eK<|.bool false]⟩
def SG:Fn:=⟨[134],[],ad [ai (.loc 136)<|ap .add (eK<|.int 2)<|ag 74 [ab 134,eK<|.int 2],ai (.loc 142)<|ta (aw .eq (ab 136)<|eK<|.int 2) (aT [eK<|.int 1,eK<|.int 7,eK<|.int 6,eK<|.int 2,eK<|.int 14,eK<|.int 8,eK<|.int 9,eK<|.int 4])<|aT [eK<|.int 127,eK<|.int 1,eK<|.int 228,eK<|.int 31,eK<|.int 7,eK<|.int 128,eK<|.int 150,eK<|.int 2],ai (.loc 143)<|aT [],aP (.loc 35) (ah .range [ap .add (eK<|.int 1)<|ag 74 [ab 134,eK<|.int 3]])<|ad [ai (.loc 38)<|aq (ab 142)<|ag 74 [ab 134,eK<|.int 8],aM<|aj mt (ab 143) 0 [mF 4 52 [ap .add (eK<|.str [67])<|aq (eK<|.str [48,49,50])<|ab 35,ab 38,ab 136,ap .add (eK<|.int 1)<|ag 74 [ab 134,eK<|.int 4],eK<|.int 1]]],ai (.loc 123)<|aq (ab 142)<|ap .mod (ap .add (ag 74 [ab 134,eK<|.int 8])<|eK<|.int 5)<|eK<|.int 8,br (aw .eq (ag 74 [ab 134,eK<|.int 2])<|eK<|.int 1) (ad [ai (.loc 144)<|ag 75 [ab 136],ai (.loc 123)<|ag 76 [al (aq (ab 143)<|mR<|eK<|.int 1) 38,aq (ab 144)<|ag 74 [ab 134,ah .len [ab 144]],eK<|.int 0,eK<|.int 0]])<|ad [],ai (.loc 145)<|ag 60 [ag 57 [ab 143,ab 136],ab 143,ab 123,ab 136],ai (.loc 146)<|bQ [123,136] (.loc 62) (ab 143)<|l9 (aW<|ag 77 [al (ab 62) 38,ab 123,ab 136])<|cr<|ab 62,br (aw .isn (ab 145)<|eK<|.non) (ad [ay<|jI .eq (ab 146)<|aT []])<|ad [],ai (.tup [114,137,102,141])<|ab 145,br (oG [aw .ne (ab 102)<|eK<|.int 0,aw .ne (ab 141)<|eK<|.int 0,aw .ne (ah .sorted [ab 137])<|ah .list [ah .range [ab 136]]]) (ad [ay<|eK<|.bool false])<|ad [],br (aw .ne (ag 76 [al (ab 114) 38,ab 137,eK<|.int 0,eK<|.int 0])<|ab 123) (ad [ay<|eK<|.bool false])<|ad [],br (oG [aw .ne (ag 56 [ab 143,ab 145])<|al (ab 114) 97,aw .isnn (ag 56 [ab 143,bq [ab 114,ab 137,eK<|.int 1,eK<|.int 0]])<|eK<|.non]) (ad [ay<|eK<|.bool false])<|ad [],br (aw .isnn (ag 56 [ab 143,bq [ab 114,ab 137,eK<|.int 0,eK<|.int 1]])<|eK<|.non) (ad [ay<|eK<|.bool false])<|ad [],ai (.loc 82)<|ah .min [bQ [] (.loc 62) (ab 146)<|cr<|al (ab 62) 97],ay<|jI .eq (al (ab 114) 9)<|al (aq (bQ [82] (.loc 62) (ab 146)<|l9 (aw .eq (al (ab 62) 97)<|ab 82)<|cr<|ab 62)<|eK<|.int 0) 9]⟩
def SI:Fn:=⟨[6,45,46],[],ad [br (aw .inn (ab 6)<|bq [eK<|.str [97,110,100],eK<|.str [110,97,110,100]]) (ad [ai (.loc 145)<|ap .mul (ab 45)<|ab 46])<|ad [br (aw .inn (ab 6)<|bq [eK<|.str [111,114],eK<|.str [110,111,114]]) (ad [ai (.loc 145)<|ah .max [ab 45,ab 46]])<|ad [ai (.loc 145)<|ap .mod (ap .add (ab 45)<|ab 46)<|eK<|.int 2]],ay<|ta (aw .inn (ab 6)<|bq [eK<|.str [110,97,110,100],eK<|.str [110,111,114],eK<|.str [120,110,111,114]]) (ap .sub (eK<|.int 1)<|ab 145)<|ab 145]⟩
def Q7:Fn:=⟨[6],[],ad [br (aw .inn (ab 6)<|bq [eK<|.str [97,110,100],eK<|.str [110,97,110,100]]) (ad [ay<|aT [aT [eK<|.int 8]]])<|ad [],br (aw .inn (ab 6)<|bq [eK<|.str [111,114],eK<|.str [110,111,114]]) (ad [ay<|aT [aT [eK<|.int 1]]])<|ad [],ay<|aT [aT [eK<|.int 2],aT [eK<|.int 4],aT [eK<|.int 9,eK<|.int 1]]]⟩
def QX:Fn:=⟨[148,149,152,124],[],ad [ai (.loc 54)<|aT [],ai (.loc 147)<|eK<|.bool false,aP (.loc 6) (ab 148)<|ad [br (aW<|ab 149) (ad [ai (.loc 147)<|MY [ab 147,jI .inn (ab 6)<|bq [eK<|.str [110,97,110,100],eK<|.str [110,111,114]]],mh])<|ad [],ai (.loc 147)<|MY [ab 147,jI .inn (ab 6)<|bq [eK<|.str [110,97,110,100],eK<|.str [111,114],eK<|.str [120,111,114]]],aP (.loc 150) (ag 81 [ab 6])<|ad [ai (.loc 151)<|bQ [152] (.loc 62) (ab 150)<|lT (.loc 153) (ab 152)<|l9 (aW<|ag 77 [al (ab 153) 38,ab 62,eK<|.int 2])<|cr<|ab 62,ai (.loc 154)<|bQ [152] (.loc 62) (ab 150)<|lT (.loc 153) (ab 152)<|l9 (aW<|ag 78 [al (ab 153) 38,ab 62])<|cr<|ab 62,br (aw .eq (ab 154)<|aT []) (ad [aM<|aj mt (ab 54) 0 [eK<|.str [110,111,95,99,101,108,108]]])<|ad [br (gX [aw .eq (ab 151)<|aT [],pK<|aW<|ab 124]) (ad [aM<|aj mt (ab 54) 0 [eK<|.str [110,111,95,105,110,118,101,114,116,101,114]]])<|ad []]]],br (gX [aw .eq (ab 54)<|aT [],aW<|ab 147,pK<|aW<|ab 124]) (ad [aM<|aj mt (ab 54) 0 [eK<|.str [110,111,95,105,110,118,101,114,116,101,114]]])<|ad [],ay<|ab 54]⟩
def Sj:Fn:=⟨[51,110,14],[],ad [br (aw .nin (ab 14)<|ab 110) (ad [aP (.tup [155,20,22,23]) (ab 51)<|ad [br (aw .eq (ab 20)<|ab 14) (ad [ai (.loc 138)<|eK<|.int 0,aP (.loc 139) (ah .range [ah .len [ab 22]])<|ad [ai (.loc 140)<|ag 83 [ab 51,ab 110,aq (ab 22)<|ab 139],cE 138 .add<|ap .mul (ab 140)<|ap .pow (eK<|.int 2)<|ab 139],bN (ab 110) (ab 14)<|ap .mod (ap .fdiv (aq (ab 23)<|eK<|.int 1)<|ap .pow (eK<|.int 2)<|ab 138)<|eK<|.int 2])<|ad []]])<|ad [],ay<|aq (ab 110)<|ab 14]⟩
def P9:Fn:=⟨[125,148,149,143],[],ad [br (aw .ne (bQ [] (.tup [9,18]) (al (ab 125) 11)<|cr<|bq [ab 9,ah .len [ab 18]])<|aT [bq [eK<|.str [97],eK<|.int 2]]) (ad [ay<|eK<|.bool false])<|ad [],br (aw .ne (bQ [] (.tup [9,18]) (al (ab 125) 12)<|cr<|bq [ab 9,ah .len [ab 18]])<|aT [bq [eK<|.str [121],ah .len [ab 148]]]) (ad [ay<|eK<|.bool false])<|ad [],ai (.loc 121)<|eK<|.int 0,ai (.loc 156)<|aT [],aP (.tup [155,20,22,23]) (al (ab 125) 13)<|ad [ai (.loc 157)<|bQ [22,23] (.loc 62) (ab 143)<|l9 (gX [aw .eq (bq [al (ab 62) 9,al (ab 62) 38])<|ab 23,aw .eq (al (ab 62) 11)<|ah .len [ab 22]])<|cr<|ab 62,br (oG [aw .ne (ab 155)<|eK<|.str [99,101,108,108],aw .eq (ab 157)<|aT []]) (ad [ay<|eK<|.bool false])<|ad [],cE 121 .add<|al (aq (ab 157)<|eK<|.int 0) 97,br (aw .eq (al (aq (ab 157)<|eK<|.int 0) 11)<|eK<|.int 1) (ad [aM<|aj mt (ab 156) 0 [bq [aq (ab 22)<|eK<|.int 0,ab 20]]])<|ad []],ai (.loc 29)<|bQ [] (.loc 52) (ab 156)<|cr<|aq (ab 52)<|eK<|.int 0,br (oG [aw .ne (ah .len [ah .set [ab 29]])<|ah .len [ab 29],aw .ne (bQ [29] (.loc 52) (ab 156)<|l9 (aw .inn (aq (ab 52)<|eK<|.int 1)<|ab 29)<|cr<|ab 52)<|aT []]) (ad [ay<|eK<|.bool false])<|ad [],aP (.loc 69) (ah .range [eK<|.int 4])<|ad [ai (.loc 110)<|iU [eK<|.int 0,eK<|.int 0,eK<|.int 1,eK<|.int 1],ai (.loc 45)<|ap .mod (ab 69)<|eK<|.int 2,ai (.loc 46)<|ap .fdiv (ab 69)<|eK<|.int 2,bN (ab 110) (aq (aq (aq (al (ab 125) 11)<|eK<|.int 0)<|eK<|.int 1)<|eK<|.int 0)<|ab 45,bN (ab 110) (aq (aq (aq (al (ab 125) 11)<|eK<|.int 0)<|eK<|.int 1)<|eK<|.int 1)<|ab 46,br (aW<|ab 149) (ad [ai (.loc 46)<|ab 45])<|ad [],aP (.loc 7) (ah .range [ah .len [ab 148]])<|ad [br (aw .ne (ag 83 [al (ab 125) 13,ab 110,aq (aq (aq (al (ab 125) 12)<|eK<|.int 0)<|eK<|.int 1)<|ab 7])<|ag 80 [aq (ab 148)<|ab 7,ab 45,ab 46]) (ad [ay<|eK<|.bool false])<|ad []]],ay<|jI .eq (ag 72 [ab 125,ab 143])<|ab 121]⟩
def Rb:Fn:=⟨[134],[],ad [ai (.loc 142)<|aT [eK<|.str [97,110,100],eK<|.str [111,114],eK<|.str [120,111,114],eK<|.str [110,97,110,100],eK<|.str [110,111,114],eK<|.str [120,110,111,114]],ai (.loc 148)<|aT [aq (ab 142)<|ag 74 [ab 134,eK<|.int 6]],br (aw .eq (ag 74 [ab 134,eK<|.int 2])<|eK<|.int 1) (ad [aM<|aj mt (ab 148) 0 [aq (ab 142)<|ag 74 [ab 134,eK<|.int 6]]])<|ad [],ai (.loc 149)<|jI .eq (ag 74 [ab 134,eK<|.int 4])<|eK<|.int 3,ai (.loc 14)<|mF 2 3 [eK<|.str [103,97,116,101,115]],ai (.loc 158)<|aj mt (ab 14) 67 [eK<|.str [97],eK<|.int 2],br (aW<|ab 149) (ad [ai (.loc 158)<|aT [aq (ab 158)<|eK<|.int 0,aq (ab 158)<|eK<|.int 0]])<|ad [],aM<|aj mt (ab 14) 71 [eK<|.str [121],bQ [14,158] (.loc 6) (ab 148)<|cr<|aj mt (ab 14) 126 [ab 6,ab 158]],ai (.loc 152)<|aT [],aP (.loc 35) (ah .range [ap .add (eK<|.int 1)<|ag 74 [ab 134,eK<|.int 2]])<|ad [ai (.loc 38)<|aq (aT [eK<|.int 1,eK<|.int 8,eK<|.int 7,eK<|.int 2,eK<|.int 6,eK<|.int 14,eK<|.int 9,eK<|.int 11])<|ag 74 [ab 134,eK<|.int 8],aM<|aj mt (ab 152) 0 [mF 4 52 [ap .add (eK<|.str [71])<|aq (eK<|.str [48,49])<|ab 35,ab 38,eK<|.int 2,ap .add (eK<|.int 1)<|ag 74 [ab 134,eK<|.int 4],eK<|.int 2]]],ai (.loc 124)<|jI .eq (ag 74 [ab 134,eK<|.int 2])<|eK<|.int 1,ai (.loc 143)<|ta (aW<|ab 124) (ap .add (ab 152)<|aT [mF 4 52 [eK<|.str [73,78,86],eK<|.int 1,eK<|.int 1,eK<|.int 2,eK<|.int 1]])<|ab 152,ai (.loc 159)<|ag 82 [ab 148,ab 149,ab 152,ab 124],ny (ai (.loc 125)<|ag 70 [ab 14,ab 143,eK<|.int 2,eK<|.int 4]) 1 159,ay<|Ge [jI .eq (ab 159)<|aT [],ag 84 [ab 125,ab 148,ab 149,ab 143]]]⟩
def SQ:Fn:=⟨[135],[],ad [ai (.loc 134)<|ag 73 [ab 135],aP (.loc 160) (ah .range [eK<|.int 2])<|ad [br (oG [pK<|aW<|ag 79 [ab 134],pK<|aW<|ag 85 [ab 134]]) (ad [ay<|eK<|.bool false])<|ad []],ai (.loc 93)<|mF 2 3 [eK<|.str [116,119,111]],ai (.loc 158)<|aj mt (ab 93) 67 [eK<|.str [97],eK<|.int 2],aM<|aj mt (ab 93) 71 [eK<|.str [121],aT [aj mt (ab 93) 126 [eK<|.str [99,101,108,108],ab 158,bq [eK<|.str [79,68,68,50],eK<|.int 8]]]],nj (aM<|ag 72 [ab 93,aT [mF 4 52 [eK<|.str [71],eK<|.int 8,eK<|.int 2,eK<|.int 3,eK<|.int 2]]]) 1 [117,110,107,110,111,119,110,95,99,101,108,108] [79,68,68,50],ay<|eK<|.bool false]⟩
def prog:Tr Fn:=.node (some f0) (.node none (.node (some f3) (.node (some f7) (.node (some Sm) (.node (some Rr) (.node (some Sh) .nil .nil) .nil)<|.node (some Qk) (.node (some SG) .nil .nil) .nil)<|.node (some Sw) (.node (some Rq) (.node (some QO) .nil .nil) .nil)<|.node (some PH) .nil .nil)<|.node (some Ra) (.node (some P3) (.node (some Qu) (.node (some QR) .nil .nil) .nil)<|.node (some Sx) (.node (some Sj) .nil .nil) .nil)<|.node (some SX) (.node (some QK) (.node (some SC) .nil .nil) .nil)<|.node (some QH) .nil .nil)<|.node (some f5) (.node (some f9) (.node (some Sy) (.node (some Qj) (.node (some Ty) .nil .nil) .nil)<|.node (some Qo) (.node (some Q7) .nil .nil) .nil)<|.node (some Qn) (.node (some Sb) (.node (some RF) .nil .nil) .nil)<|.node (some QP) .nil .nil)<|.node (some SH) (.node (some RT) (.node (some Sp) (.node (some Ss) .nil .nil) .nil)<|.node (some Ts) (.node (some Rb) .nil .nil) .nil)<|.node (some Qz) (.node (some Qe) (.node (some QQ) .nil .nil) .nil)<|.node (some Qt) .nil .nil)<|.node (some f2) (.node (some f4) (.node (some f8) (.node (some Te) (.node (some Tn) (.node (some Rg) .nil .nil) .nil)<|.node (some Qx) (.node (some SI) .nil .nil) .nil)<|.node (some St) (.node (some Sn) (.node (some TJ) .nil .nil) .nil)<|.node (some R9) .nil .nil)<|.node (some RH) (.node (some SW) (.node (some QA) (.node (some Rs) .nil .nil) .nil)<|.node (some Ry) (.node (some P9) .nil .nil) .nil)<|.node (some SD) (.node (some RM) (.node (some SR) .nil .nil) .nil)<|.node (some Sv) .nil .nil)<|.node (some f6) (.node (some Rd) (.node (some RJ) (.node (some Qp) (.node (some TM) .nil .nil) .nil)<|.node (some Tp) (.node (some QX) .nil .nil) .nil)<|.node (some Q8) (.node (some Se) (.node (some RK) .nil .nil) .nil)<|.node (some TL) .nil .nil)<|.node (some Rl) (.node (some Qw) (.node (some P5) (.node (some RZ) .nil .nil) .nil)<|.node (some Qd) (.node (some SQ) .nil .nil) .nil)<|.node (some SP) (.node (some QM) (.node (some SE) .nil .nil) .nil)<|.node (some Qq) .nil .nil
noncomputable def dP:List (List Nat):=[[97,112,112,101,110,100],[101,120,116,101,110,100],[112,111,112],[103,101,116],[107],[115,101,108,102],[107,105,110,100],[97,116],[100,101,116,97,105,108],[110,97,109,101],[99,111,117,110,116],[105,110,112,117,116,115],[111,117,116,112,117,116,115],[99,101,108,108,115],[110,101,116],[110,101,119,95,110,101,116],[98,105,116],[119,105,100,116,104],[110,101,116,115],[110,101,119,95,110,101,116,115],[111,117,116],[100,114,105,118,101],[105,110,115],[112,97,114,97,109],[98,105,116,115],[99,101,108,108],[102,111,117,110,100],[105,110,100,101,120],[110,101,116,108,105,115,116],[116,97,107,101,110],[119,97,105,116,105,110,103],[117,115,101,114,115],[114,101,97,100,121],[98,101,102,111,114,101],[100,114,105,118,101,110],[116,117,114,110],[111,114,100,101,114],[110,111,100,101,115],[116,97,98,108,101],[110,111,100,101],[108,105,116,101,114,97,108],[108],[114],[108,97,110,100],[115,105,103,110],[108,101,102,116],[114,105,103,104,116],[108,111,114],[97],[98],[115],[114,111,119,115],[112,97,105,114],[99,111,117,110,116,115],[119,111,114,100,115],[109,97,115,107],[108,105,116,101,114,97,108,115],[104,97,108,102],[108,111,119],[104,105,103,104],[114,101,115,116],[97,105,103],[111,110,101],[122,101,114,111],[108,109,117,120],[108,120,111,114],[115,111,117,114,99,101,115],[97,100,100,95,105,110,112,117,116],[112,108,97,99,101],[114,111,119],[115,105,110,107,115],[97,100,100,95,111,117,116,112,117,116],[102,117,108,108],[105],[116],[106],[112,108,97,99,101,115],[109],[114,101,115,117,108,116],[107,101,112,116],[115,116,101,112],[108,111,110,103,101,114],[108,101,97,115,116],[102,111,114,109],[110],[109,101,114,103,101,100],[99,49],[99,50],[115,109,97,108,108],[108,97,114,103,101],[99,117,116],[99,117,116,115],[102,114,101,101],[111,116,104,101,114],[109,111,115,116],[115,101,101,110],[118,97,108,117,101,115],[97,114,101,97],[100,101,108,97,121],[108,105,98,114,97,114,121],[95],[109,97,116,99,104],[116,117,114,110,101,100],[99,101,108,108,95,102,111,114,109],[116,97,98,108,101,95,102,111,114,109],[98,101,115,116],[108,111,119,101,115,116],[99,101,108,108,95,108,101,97,115,116],[99,111,115,116],[102,111,114,109,115],[107,110,111,119,110],[107,101,121],[117,115,101,115],[109,97,116,99,104,101,115],[99,104,111,115,101,110],[102,108,111,119],[105,115,95,97,110,100],[108,97,99,107,105,110,103],[108,101,97,118,101,115],[102,105,110,100],[108,97,99,107,115,95,105,110,118,101,114,116,101,114],[116,111,116,97,108],[108,101,97,102],[119,97,110,116,101,100],[105,110,118,101,114,116,101,100],[109,97,100,101],[97,100,100,95,99,101,108,108],[112,108,97,105,110],[105,110,118],[115,116,97,116,101,115],[111,117,116,115],[98,117,105,108,100,101,114],[119,105,114,101],[110,97,109,101,100],[115,116,111,99,107],[115,99,114,105,112,116],[119,105,100,101],[119,97,121],[115,112,111,116],[112,105,110],[102,101,101,100],[102,108,105,112,112,101,100],[109,101,110,117],[115,104,101,108,102],[119,97,121,115],[116,111,108,100],[102,105,116,116,105,110,103],[105,110,118,101,114,115,101],[107,105,110,100,115],[116,119,105,99,101],[116,97,98,108,101,115],[115,116,114,97,105,103,104,116],[103,97,116,101,115],[103,97,116,101],[104,101,108,112,101,100],[115,111,114,116],[102,101,100],[97,108,105,107,101],[102,101,101,100,115],[100,117,101],[108,97,112],[108,101,118,101,108,115],[118,97,108,117,101]]
noncomputable def tX:List (List Nat×Nat):=[([95,119,97,108,108],0),([105,115,95,115,116,97,116,101,95,107,105,110,100],2),([115,116,97,116,101,95,99,101,108,108,115],12),([100,114,105,118,101,114,115],13),([111,114,100,101,114,101,100,95,99,101,108,108,115],14),([99,111,109,98,95,111,114,100,101,114],15),([116,97,98,108,101,95,108,105,116,101,114,97,108],28),([99,101,108,108,95,108,105,116,101,114,97,108],29),([108,105,116,101,114,97,108,95,111,102],30),([102,114,111,109,95,110,101,116,108,105,115,116],31),([102,117,108,108,95,116,97,98,108,101],32),([118,97,114,95,116,97,98,108,101],33),([99,111,102,97,99,116,111,114],34),([100,101,112,101,110,100,115],35),([115,117,112,112,111,114,116],36),([115,112,114,101,97,100],37),([112,101,114,109,117,116,101],38),([115,104,114,105,110,107],39),([102,108,105,112,95,105,110,112,117,116],40),([111,114,100,101,114,115],41),([99,97,110,111,110],42),([108,111,119,95,98,105,116],43),([109,101,114,103,101,95,99,117,116,115],44),([119,105,116,104,105,110],45),([119,105,116,104,111,117,116,95,100,111,109,105,110,97,116,101,100],46),([110,111,100,101,95,99,117,116,115],47),([99,117,116,95,115,101,116,115],48),([99,111,110,101],49),([108,105,116,101,114,97,108,95,116,97,98,108,101],50),([99,117,116,95,116,97,98,108,101],51),([111,110,101,115,95,105,110],53),([105,110,118,101,114,116,101,114],54),([104,97,115,95,105,110,118,101,114,116,101,114],55),([109,97,116,99,104,95,99,111,115,116],56),([99,101,108,108,95,102,111,114,109,115],57),([106,111,105,110,101,100,95,109,97,116,99,104],58),([112,108,97,105,110,95,109,97,116,99,104],59),([109,97,116,99,104,95,97,109,111,110,103],60),([99,104,111,111,115,101,95,99,101,108,108,115],64),([110,101,101,100,101,100,95,110,111,100,101,115],65),([109,97,112,95,99,101,108,108,115],70),([99,101,108,108,95,116,97,98,108,101],71),([97,114,101,97],72),([95,108,97,119,95,115,116,111,99,107],73),([95,108,97,119,95,112,105,99,107],74),([95,108,97,119,95,119,97,121,115],75),([95,108,97,119,95,102,101,100],76),([95,108,97,119,95,115,116,114,97,105,103,104,116],77),([95,108,97,119,95,116,117,114,110,101,100],78),([95,108,97,119,95,109,97,116,99,104,101,100],79),([95,108,97,119,95,103,97,116,101],80),([95,108,97,119,95,110,111,100,101,115],81),([95,108,97,119,95,116,114,111,117,98,108,101],82),([95,108,97,119,95,118,97,108,117,101],83),([95,108,97,119,95,109,97,100,101,95,114,105,103,104,116],84),([95,108,97,119,95,109,97,112,112,101,100],85),([108,97,119],86)]
noncomputable def ua:List (List Nat×Nat×Nat):=[([78,101,116,108,105,115,116],2,3),([65,105,103],3,16),([67,101,108,108,75,105,110,100],4,52),([77,97,116,99,104,101,115],5,61),([67,101,108,108,66,117,105,108,100,101,114],6,66)]
noncomputable def lW:List (List Nat×Nat):=[([71,97,116,101,108,111,111,109,69,114,114,111,114],0),([83,121,110,116,104,69,114,114,111,114],1)]
noncomputable def tv:List (List Nat×Int):=[([67,79,78,83,84,48],0),([67,79,78,83,84,49],1)]
noncomputable def zx:List (List Nat):=[[97,114,101,97],[99,101,108,108,115],[99,111,117,110,116],[100,101,108,97,121],[102,111,114,109,115],[105,110,112,117,116,115],[105,110,118,101,114,116,101,100],[107,110,111,119,110],[108,105,98,114,97,114,121],[110,97,109,101],[110,101,116,108,105,115,116],[110,111,100,101,115],[111,117,116,112,117,116,115],[116,97,98,108,101]]
def RO:List Fn:=[f0,f1,f2,f3,f4,f5,f6,f7,f8,f9,Rd,Ra,RH,SH,Rl,Sm,Te,Sy,RJ,P3,SW,RT,Qw,Sw,St,Qn,Q8,SX,SD,Qz,SP,Rr,Tn,Qj,Qp,Qu,QA,Sp,P5,Rq,Sn,Sb,Se,QK,RM,Qe,QM,Qk,Qx,Qo,Tp,Sx,Ry,Ts,Qd,PH,R9,QP,TL,QH,Sv,Qt,Qq,Sh,Rg,Ty,TM,QR,Rs,Ss,RZ,QO,TJ,RF,RK,SC,SR,QQ,SE,SG,SI,Q7,QX,Sj,P9,Rb,SQ]
noncomputable def PD:Nat:=0
noncomputable def AI:Nat:=2
noncomputable def DU:Nat:=12
noncomputable def LT:Nat:=13
noncomputable def AX:Nat:=14
noncomputable def FO:Nat:=15
noncomputable def AQ:Nat:=28
noncomputable def BN:Nat:=29
noncomputable def FM:Nat:=30
noncomputable def BP:Nat:=31
noncomputable def FU:Nat:=32
noncomputable def Iw:Nat:=33
noncomputable def Jw:Nat:=34
noncomputable def MG:Nat:=35
noncomputable def K8:Nat:=36
noncomputable def M7:Nat:=37
noncomputable def Lz:Nat:=38
noncomputable def M3:Nat:=39
noncomputable def FP:Nat:=40
noncomputable def M5:Nat:=41
noncomputable def Oy:Nat:=42
noncomputable def MU:Nat:=43
noncomputable def FN:Nat:=44
noncomputable def Na:Nat:=45
noncomputable def uR:Nat:=46
noncomputable def IC:Nat:=47
noncomputable def Js:Nat:=48
noncomputable def PW:Nat:=49
noncomputable def Az:Nat:=50
noncomputable def GN:Nat:=51
noncomputable def Mf:Nat:=53
noncomputable def JJ:Nat:=54
noncomputable def BW:Nat:=55
noncomputable def FL:Nat:=56
noncomputable def FK:Nat:=57
noncomputable def BL:Nat:=58
noncomputable def Ca:Nat:=59
noncomputable def CT:Nat:=60
noncomputable def BV:Nat:=64
noncomputable def BK:Nat:=65
noncomputable def Ii:Nat:=70
noncomputable def FV:Nat:=71
noncomputable def PU:Nat:=72
noncomputable def GH:Nat:=73
noncomputable def JD:Nat:=74
noncomputable def JP:Nat:=75
noncomputable def MO:Nat:=76
noncomputable def BO:Nat:=77
noncomputable def FI:Nat:=78
noncomputable def CD:Nat:=79
noncomputable def Jq:Nat:=80
noncomputable def GF:Nat:=81
noncomputable def E7:Nat:=82
noncomputable def Ia:Nat:=83
noncomputable def za:Nat:=84
noncomputable def FQ:Nat:=85
noncomputable def Sl:Nat:=86
namespace Hd
noncomputable def pw:Program:=PySem.Challenge.pw_rg0150_01
noncomputable abbrev r (a:Nat):Value:=.ref a
noncomputable abbrev i (n:Int):Value:=.int n 0
noncomputable abbrev I (n:Int) (t:Nat):Value:=.int n t
noncomputable abbrev s (x:Str) (t:Nat):Value:=.str x t
noncomputable abbrev T (x:String):Value:=.type x
noncomputable abbrev B (x:String):Value:=.builtin x
noncomputable abbrev vN:Value:=.none
noncomputable abbrev e (P:Params) (k:Str) (t:Nat) (v:Value):DictEntry:=⟨PyData.keyHash P k,.str k t,v⟩
noncomputable abbrev oT (l:List Value):Obj:=⟨.type "tuple",none,.seq ⟨l⟩ 0,#[]⟩
noncomputable abbrev oF (l:List Value):Obj:=⟨.none,none,.fields ⟨l⟩,#[]⟩
noncomputable abbrev oX (c:String) (l:List Value):Obj:=⟨.type c,none,.fields ⟨l⟩,#[]⟩
noncomputable abbrev oD (l:List DictEntry) (n:Nat):Obj:=⟨.type "dict",none,.dict ⟨l⟩ n,#[]⟩
noncomputable abbrev oN (l:List DictEntry) (n:Nat):Obj:=⟨.none,none,.dict ⟨l⟩ n,#[]⟩
noncomputable abbrev oR (l:List<|Option Value):Obj:=⟨.type "frame",none,.plain,⟨l⟩⟩
noncomputable abbrev oK (l:List<|Option Value) (n:Str) (b mro:List Value) (N:Nat) (sub:List Value):Obj:=
 ⟨.type "type",none,.cls {name:=n,bases:=b,mro:=mro,ns:=N,qualname:=n,subclasses:=sub},⟨l⟩⟩
noncomputable def Uo {M:Type} (x:Stmt) (z:M) (f:Arguments->List Stmt->Scope->M) (g:List Stmt->M):M:=x.casesOn (λU a b U U U s U U U=>f a b s) (λU U U U U U U U U U=>z) (λU U U b U U U U U U U=>g b) (λU U=>z) (λU U=>z) (λU U U=>z) (λU U U U U U U=>z) (λU U U U=>z) (λU U U U U=>z) (λU U U U U=>z) (λU U U U U=>z) (λU U U U=>z) (λU U U U=>z) (λU U U=>z) (λU U U=>z) (λU U U=>z) (λU U U=>z) (λU U U U U=>z) (λU U U U U=>z) (λU U U=>z) (λU U=>z) (λU U U U=>z) (λU U=>z) (λU U=>z) (λU U=>z) (λU=>z) (λU=>z)  λU=>z
noncomputable def UI (x:Stmt):List (Arguments×Scope×List Stmt):=Uo x [] (λa b s=>[(a,s,b)]) λU=>[]
noncomputable def OI (l:List Stmt):List (Arguments×Scope×List Stmt):=l.flatMap λx=>Uo x [] (λa b s=>[(a,s,b)]) λb=>b.flatMap UI
noncomputable def Nl:List (Arguments×Scope×List Stmt)->Nat->Arguments×Scope×List Stmt
 |[],_=>default
 |d::l,n=>match n with|0=>d|n+1=>Nl l n
def dAt (k:Nat):Arguments×Scope×List Stmt:=Nl (OI pw.main.body) k
def fd (k:Nat) (n q:Str) (g:Nat) (d m c:Value):FuncData:=
 {name:=n,qualname:=q,params:=(dAt k).1,body:=.stmts (dAt k).2.2,scope:=(dAt k).2.1,globals:=g,closure:=[],defaults:=d,kwdefaults:=.none,pyModule:=m,code:=c}
noncomputable abbrev nQ:Str:="/claim/cut.py"
noncomputable def vs:List Str->Nat->List Value
 |[],_=>[]
 |x::l,t=>.str x t::vs l (t+1)
def d7 (b t:Nat) (n q:Str) (line A:Int) (l:List Str) (d:Value) (m:Str) (mt k:Nat):List Obj:=
 [oT [],oF [],oT<|vs l<|t+3,oT [],⟨.none,none,.func<|fd k n q 0 .none .none .none,#[]⟩,
  oX "code" [s n t,s q<|t+1,s nQ<|t+2,i line,i A,i 0,i 0,i 3,r b,.bool true,i 181,r<|b+1,vN,r<|b+2,r<|b+3,r<|b+4,i<|.ofNat<|t+3+l.length,i line,s nQ<|t+4+l.length],
  ⟨.type "function",none,.func<|fd k n q 3 d (s m mt)<|r<|b+5,#[]⟩]
def d5 (b t:Nat) (n q:Str) (line A:Int) (d:Value) (m:Str) (mt k:Nat):List Obj:=
 [oT [],oF [],⟨.none,none,.func<|fd k n q 0 .none .none .none,#[]⟩,
  oX "code" [s n t,s q<|t+1,s nQ<|t+2,i line,i A,i 0,i 0,i 3,r b,.bool true,i 181,r<|b+1,vN,vN,vN,r<|b+2,i<|.ofNat<|t+3,i line,s nQ<|t+4],
  ⟨.type "function",none,.func<|fd k n q 3 d (s m mt)<|r<|b+3,#[]⟩]
def o2 (P:Params):Obj:=oN [e P "type.__subclasses__.Exception.0" 228<|i 39,e P "type.__subclasses__.Exception.n" 229<|i 1] 2
def Rv (P:Params):List DictEntry:=[e P "__doc__" 166 vN,e P "__package__" 167 vN,e P "__loader__" 168<|B "__main__.__loader__#opaque",e P "__spec__" 169 vN,e P "__annotations__" 170<|r 6,e P "__builtins__" 171<|r 4,e P "__file__" 173<|s "/claim/cut.py" 172,e P "__cached__" 174 vN,e P "_wall" 193<|r 21,e P "GateloomError" 231<|r 39,e P "SynthError" 247<|r 52,e P "CONST0" 251<|I  0  250,e P "CONST1" 253<|I  1  252,e P "is_state_kind" 260<|r 61,e P "Netlist" 370<|r 134,e P "state_cells" 379<|r 145,e P "drivers" 392<|r 152,e P "ordered_cells" 409<|r 159,e P "comb_order" 417<|r 166,e P "Aig" 553<|r 261,e P "table_literal" 569<|r 272,e P "cell_literal" 579<|r 279,e P "literal_of" 587<|r 286,e P "from_netlist" 603<|r 293,e P "full_table" 612<|r 300,e P "var_table" 621<|r 307,e P "cofactor" 633<|r 314,e P "depends" 642<|r 321,e P "support" 652<|r 328,e P "spread" 662<|r 335,e P "permute" 673<|r 342,e P "shrink" 684<|r 349,e P "flip_input" 694<|r 356,e P "orders" 706<|r 363,e P "canon" 722<|r 370,e P "low_bit" 730<|r 377,e P "merge_cuts" 744<|r 384,e P "within" 753<|r 391,e P "without_dominated" 764<|r 398,e P "node_cuts" 780<|r 405,e P "cut_sets" 792<|r 412,e P "cone" 805<|r 419,e P "literal_table" 815<|r 426,e P "cut_table" 830<|r 433,e P "CellKind" 869<|r 450,e P "ones_in" 877<|r 461,e P "inverter" 885<|r 468,e P "has_inverter" 893<|r 475,e P "match_cost" 906<|r 482,e P "cell_forms" 918<|r 489,e P "joined_match" 932<|r 496,e P "plain_match" 943<|r 503,e P "match_among" 962<|r 510,e P "Matches" 1011<|r 539,e P "choose_cells" 1017<|r 548,e P "needed_nodes" 1023<|r 553,e P "CellBuilder" 1092<|r 591,e P "map_cells" 1100<|r 601,e P "cell_table" 1106<|r 606,e P "area" 1119<|r 613,e P "_law_stock" 1132<|r 620,e P "_law_pick" 1140<|r 627,e P "_law_ways" 1147<|r 634,e P "_law_fed" 1162<|r 641,e P "_law_straight" 1172<|r 648,e P "_law_turned" 1182<|r 655,e P "_law_matched" 1188<|r 660,e P "_law_gate" 1198<|r 667,e P "_law_nodes" 1205<|r 674,e P "_law_trouble" 1211<|r 679,e P "_law_value" 1227<|r 686,e P "_law_made_right" 1233<|r 691,e P "_law_mapped" 1239<|r 696,e P "law" 1251<|r 703]
def o3 (P:Params) (m:Nat) (n:Str) (t:Nat):Obj:=oD (e P "__name__" 165 (s n t)::(Rv P).take (m-1)) m
def tab:List Value:=[i 1,i 0,r 20,i 5,i 0,r 27,i 11,i 0,r 48,i 16,i 0,r 60,i 18,i 0,r 67,i 68,i 0,r 144,i 74,i 0,r 151,i 89,i 0,r 158,i 116,i 0,r 165,i 122,i 0,r 172,i 195,i 0,r 271,i 210,i 0,r 278,i 234,i 0,r 285,i 238,i 0,r 292,i 253,i 0,r 299,i 255,i 0,r 306,i 258,i 0,r 313,i 264,i 0,r 320,i 266,i 0,r 327,i 272,i 0,r 334,i 277,i 0,r 341,i 282,i 0,r 348,i 288,i 0,r 355,i 291,i 0,r 362,i 301,i 0,r 369,i 320,i 0,r 376,i 326,i 0,r 383,i 344,i 0,r 390,i 349,i 0,r 397,i 359,i 0,r 404,i 369,i 0,r 411,i 378,i 0,r 418,i 392,i 0,r 425,i 397,i 0,r 432,i 408,i 0,r 439,i 416,i 0,r 460,i 422,i 0,r 467,i 427,i 0,r 474,i 432,i 0,r 481,i 440,i 0,r 488,i 447,i 0,r 495,i 456,i 0,r 502,i 464,i 0,r 509,i 479,i 0,r 516,i 501,i 0,r 547,i 535,i 0,r 552,i 544,i 0,r 559,i 580,i 0,r 600,i 612,i 0,r 605,i 614,i 0,r 612,i 624,i 0,r 619,i 634,i 0,r 626,i 636,i 0,r 633,i 640,i 0,r 640,i 649,i 0,r 647,i 654,i 0,r 654,i 660,i 0,r 659,i 686,i 0,r 666,i 694,i 0,r 673,i 700,i 0,r 678,i 718,i 0,r 685,i 728,i 0,r 690,i 757,i 0,r 695,i 780,i 0,r 702]
def U7 (m:Nat):Obj:=oF<|tab.take m
def UK (P:Params):Obj:=oK [some<|r 22,none,some<|s "GateloomError" 196,some<|s "GateloomError" 204,some<|B "Exception.__new__",some<|.bool true] "GateloomError" [T "Exception"] [r 39,T "Exception",T "BaseException",T "object"] 38 [r 52]
def Un (P:Params) (m:Nat):List Obj:=[oT []]++(
 [U7 m]++(
 [oX "code" [s "<module>" 182,s "<module>" 183,s "/claim/cut.py" 184,i 1,i 0,i 0,i 0,i 0,r 11,.bool false,i 181,r 12,vN,vN,vN,vN,i 185,i 1,s "/claim/cut.py" 186]]++(
 [oR [some<|r 13,some<|r 3,some<|r 3,none,some<|s "__main__" 164,none,some<|r 0]]++(
 (d7 15 187 "_wall" "_wall" 1 1 ["k"] vN "__main__" 164 0)++(
 [oT [T "Exception"]]++(
 [oX "builtin_function_or_method" [B "type.__prepare__",T "type"]]++(
 [oD [e P "__module__" 203<|s "gateloom.errors" 194,e P "__qualname__" 205<|s "GateloomError" 204,e P "__firstlineno__" 207<|I  5  206,e P "__init__" 220<|r 36,e P "__static_attributes__" 224<|r 37] 5]++(
 [oT []]++(
 [oF [i 7,i 4,r 35]]++(
 [oX "code" [s "GateloomError" 198,s "GateloomError" 199,s "/claim/cut.py" 200,i 5,i 0,i 0,i 0,i 0,r 25,.bool false,i 181,r 26,vN,vN,vN,vN,i 201,i 5,s "/claim/cut.py" 202]]++(
 [oR [some<|r 27,some<|r 3,some<|r 24,none,some<|s "gateloom.errors" 194,none,some<|r 0]]++(
 [oT [I (-1) 209,s "" 210]]++(
 (d7 30 211 "__init__" "GateloomError.__init__" 7 4 ["self","kind","at","detail"] (r 29) "gateloom.errors" 194 1)++(
 [oT [s "at" 221,s "detail" 222,s "kind" 223]]++(
 [oD [e P "__module__" 203<|s "gateloom.errors" 194,e P "__firstlineno__" 207<|I  5  206,e P "__init__" 220<|r 36,e P "__static_attributes__" 224<|r 37,e P "__weakref__" 226<|r 40,e P "__doc__" 227 vN] 3]++(
 [UK P]++(
 [oX "getset_descriptor" [s "__weakref__" 225,r 39,B "ExceptionGroup.__weakref__",vN]]++(
 [oX "super" [r 39,r 39,r 39]]++(
 [oX "builtin_function_or_method" [B "object.__init_subclass__",r 39]]++(
 [oT [r 39]]++(
 [oX "builtin_function_or_method" [B "type.__prepare__",T "type"]]++(
 [oD [e P "__module__" 239<|s "gateloom.errors" 194,e P "__qualname__" 241<|s "SynthError" 240,e P "__firstlineno__" 243<|I  11  242,e P "__static_attributes__" 244<|r 50] 4]++(
 [oT []])))))))))))))))))))))))
def Uw (P:Params):List Obj:=[oF []]++(
 [oX "code" [s "SynthError" 234,s "SynthError" 235,s "/claim/cut.py" 236,i 11,i 0,i 0,i 0,i 0,r 46,.bool false,i 181,r 47,vN,vN,vN,vN,i 237,i 11,s "/claim/cut.py" 238]]++(
 [oR [some<|r 48,some<|r 3,some<|r 45,none,some<|s "gateloom.errors" 194,none,some<|r 0]]++(
 [oT []]++(
 [oD [e P "__module__" 239<|s "gateloom.errors" 194,e P "__firstlineno__" 243<|I  11  242,e P "__static_attributes__" 244<|r 50,e P "__doc__" 245 vN] 2]++(
 [oK [some<|r 43,none,some<|s "SynthError" 232,some<|s "SynthError" 240,some<|B "Exception.__new__",some<|.bool true] "SynthError" [r 39] [r 52,r 39,T "Exception",T "BaseException",T "object"] 51 []]++(
 [oX "super" [r 52,r 52,r 52]]++(
 [oX "builtin_function_or_method" [B "object.__init_subclass__",r 52]]++(
 (d7 55 254 "is_state_kind" "is_state_kind" 16 1 ["kind"] vN "gateloom.netlist" 248 2)++(
 [oT []]++(
 [oX "builtin_function_or_method" [B "type.__prepare__",T "type"]]++(
 [oD [e P "__module__" 268<|s "gateloom.netlist" 248,e P "__qualname__" 270<|s "Netlist" 269,e P "__firstlineno__" 272<|I  18  271,e P "__init__" 280<|r 75,e P "new_net" 288<|r 82,e P "new_nets" 294<|r 87,e P "add_input" 304<|r 94,e P "add_output" 313<|r 101,e P "add_cell" 324<|r 109,e P "drive" 335<|r 117,e P "sources" 346<|r 124,e P "sinks" 357<|r 131,e P "__static_attributes__" 363<|r 132] 13]++(
 [oT []]++(
 [oF [i 20,i 4,r 74,i 27,i 4,r 81,i 32,i 4,r 86,i 35,i 4,r 93,i 40,i 4,r 100,i 43,i 4,r 108,i 48,i 4,r 116,i 51,i 4,r 123,i 60,i 4,r 130]]++(
 [oX "code" [s "Netlist" 263,s "Netlist" 264,s "/claim/cut.py" 265,i 18,i 0,i 0,i 0,i 0,r 65,.bool false,i 181,r 66,vN,vN,vN,vN,i 266,i 18,s "/claim/cut.py" 267]]++(
 [oR [some<|r 67,some<|r 3,some<|r 64,none,some<|s "gateloom.netlist" 248,none,some<|r 0]]++(
 (d7 69 273 "__init__" "Netlist.__init__" 20 2 ["self","name"] vN "gateloom.netlist" 248 3)++(
 (d7 76 281 "new_net" "Netlist.new_net" 27 1 ["self","net"] vN "gateloom.netlist" 248 4)++(
 (d5 83 289 "new_nets" "Netlist.new_nets" 32 2 vN "gateloom.netlist" 248 5)++(
 (d7 88 295 "add_input" "Netlist.add_input" 35 3 ["self","name","width","nets"] vN "gateloom.netlist" 248 6)++(
 (d7 95 305 "add_output" "Netlist.add_output" 40 3 ["self","name","nets"] vN "gateloom.netlist" 248 7)++(
 [oT [vN]]++(
 (d7 103 314 "add_cell" "Netlist.add_cell" 43 4 ["self","kind","ins","param","out"] (r 102) "gateloom.netlist" 248 8)++(
 [oT [vN]])))))))))))))))))))))))
def Vy (P:Params):List Obj:=(d7 111 325 "drive" "Netlist.drive" 48 5 ["self","out","kind","ins","param"] (r 110) "gateloom.netlist" 248 9)++(
 (d7 118 336 "sources" "Netlist.sources" 51 1 ["self","nets","name","bits","cell"] vN "gateloom.netlist" 248 10)++(
 (d7 125 347 "sinks" "Netlist.sinks" 60 1 ["self","nets","name","bits","cell"] vN "gateloom.netlist" 248 11)++(
 [oT [s "cells" 358,s "count" 359,s "inputs" 360,s "name" 361,s "outputs" 362]]++(
 [oD [e P "__module__" 268<|s "gateloom.netlist" 248,e P "__firstlineno__" 272<|I  18  271,e P "__init__" 280<|r 75,e P "new_net" 288<|r 82,e P "new_nets" 294<|r 87,e P "add_input" 304<|r 94,e P "add_output" 313<|r 101,e P "add_cell" 324<|r 109,e P "drive" 335<|r 117,e P "sources" 346<|r 124,e P "sinks" 357<|r 131,e P "__static_attributes__" 363<|r 132,e P "__dict__" 365<|r 135,e P "__weakref__" 367<|r 136,e P "__doc__" 368 vN] 4]++(
 [oK [none,none,some<|s "Netlist" 261,some<|s "Netlist" 269,some<|B "object.__new__",some<|.bool true] "Netlist" [T "object"] [r 134,T "object"] 133 []]++(
 [oX "getset_descriptor" [s "__dict__" 364,r 134,B "function.__dict__",B "function.__dict__#set"]]++(
 [oX "getset_descriptor" [s "__weakref__" 366,r 134,B "ExceptionGroup.__weakref__",vN]]++(
 [oX "super" [r 134,r 134,r 134]]++(
 [oX "builtin_function_or_method" [B "object.__init_subclass__",r 134]]++(
 (d7 139 371 "state_cells" "state_cells" 68 1 ["netlist","found","index"] vN "gateloom.netlist" 248 12)++(
 (d7 146 380 "drivers" "drivers" 74 1 ["netlist","taken","name","bits","net","found","index"] vN "gateloom.netlist" 248 13)++(
 (d7 153 393 "ordered_cells" "ordered_cells" 89 2 ["netlist","driven","cells","waiting","users","ready","index","count","net","before","turn"] vN "gateloom.netlist" 248 14)++(
 (d7 160 410 "comb_order" "comb_order" 116 1 ["netlist","order"] vN "gateloom.netlist" 248 15)++(
 [oT []]++(
 [oX "builtin_function_or_method" [B "type.__prepare__",T "type"]]++(
 [oD [e P "__module__" 427<|s "gateloom.aig" 418,e P "__qualname__" 429<|s "Aig" 428,e P "__firstlineno__" 431<|I  122  430,e P "__init__" 438<|r 180,e P "add_input" 446<|r 187,e P "add_output" 454<|r 194,e P "is_and" 462<|r 201,e P "land" 472<|r 208,e P "lor" 481<|r 215,e P "lxor" 493<|r 222,e P "lmux" 503<|r 229,e P "levels" 510<|r 236,e P "users" 521<|r 243,e P "uses" 531<|r 250,e P "value" 541<|r 258,e P "__static_attributes__" 546<|r 259] 16]++(
 [oT []]++(
 [oF [i 124,i 4,r 179,i 130,i 4,r 186,i 136,i 4,r 193,i 139,i 4,r 200,i 142,i 4,r 207,i 156,i 4,r 214,i 159,i 4,r 221,i 165,i 4,r 228,i 170,i 4,r 235,i 173,i 4,r 242,i 183,i 4,r 249,i 193,i 4,r 257]]++(
 [oX "code" [s "Aig" 422,s "Aig" 423,s "/claim/cut.py" 424,i 122,i 0,i 0,i 0,i 0,r 170,.bool false,i 181,r 171,vN,vN,vN,vN,i 425,i 122,s "/claim/cut.py" 426]]++(
 [oR [some<|r 172,some<|r 3,some<|r 169,none,some<|s "gateloom.aig" 418,none,some<|r 0]]++(
 (d7 174 432 "__init__" "Aig.__init__" 124 1 ["self"] vN "gateloom.aig" 418 16)++(
 (d7 181 439 "add_input" "Aig.add_input" 130 1 ["self","node"] vN "gateloom.aig" 418 17)++(
 (d7 188 447 "add_output" "Aig.add_output" 136 2 ["self","literal"] vN "gateloom.aig" 418 18))))))))))))))))))))))))
def UP (P:Params):List Obj:=(d7 195 455 "is_and" "Aig.is_and" 139 2 ["self","node"] vN "gateloom.aig" 418 19)++(
 (d7 202 463 "land" "Aig.land" 142 3 ["self","l","r","node"] vN "gateloom.aig" 418 20)++(
 (d7 209 473 "lor" "Aig.lor" 156 3 ["self","l","r"] vN "gateloom.aig" 418 21)++(
 (d7 216 482 "lxor" "Aig.lxor" 159 3 ["self","l","r","sign","left","right"] vN "gateloom.aig" 418 22)++(
 (d7 223 494 "lmux" "Aig.lmux" 165 4 ["self","s","a","b"] vN "gateloom.aig" 418 23)++(
 (d7 230 504 "levels" "Aig.levels" 170 1 ["self"] vN "gateloom.aig" 418 24)++(
 (d7 237 511 "users" "Aig.users" 173 1 ["self","rows","node","pair","literal"] vN "gateloom.aig" 418 25)++(
 (d7 244 522 "uses" "Aig.uses" 183 1 ["self","counts","pair","literal"] vN "gateloom.aig" 418 26)++(
 [oT [I  1  532]]++(
 (d7 252 533 "value" "Aig.value" 193 3 ["self","words","mask"] (r 251) "gateloom.aig" 418 27)++(
 [oT [s "inputs" 542,s "nodes" 543,s "outputs" 544,s "table" 545]]++(
 [oD [e P "__module__" 427<|s "gateloom.aig" 418,e P "__firstlineno__" 431<|I  122  430,e P "__init__" 438<|r 180,e P "add_input" 446<|r 187,e P "add_output" 454<|r 194,e P "is_and" 462<|r 201,e P "land" 472<|r 208,e P "lor" 481<|r 215,e P "lxor" 493<|r 222,e P "lmux" 503<|r 229,e P "levels" 510<|r 236,e P "users" 521<|r 243,e P "uses" 531<|r 250,e P "value" 541<|r 258,e P "__static_attributes__" 546<|r 259,e P "__dict__" 548<|r 262,e P "__weakref__" 550<|r 263,e P "__doc__" 551 vN] 4]++(
 [oK [none,none,some<|s "Aig" 420,some<|s "Aig" 428,some<|B "object.__new__",some<|.bool true] "Aig" [T "object"] [r 261,T "object"] 260 []]++(
 [oX "getset_descriptor" [s "__dict__" 547,r 261,B "function.__dict__",B "function.__dict__#set"]]++(
 [oX "getset_descriptor" [s "__weakref__" 549,r 261,B "ExceptionGroup.__weakref__",vN]]++(
 [oX "super" [r 261,r 261,r 261]]++(
 [oX "builtin_function_or_method" [B "object.__init_subclass__",r 261]]++(
 (d7 266 554 "table_literal" "table_literal" 195 3 ["aig","table","literals","rows","half","low","high","rest","one","zero"] vN "gateloom.aig" 418 28)++(
 (d7 273 570 "cell_literal" "cell_literal" 210 4 ["aig","kind","param","literals"] vN "gateloom.aig" 418 29)++(
 (d7 280 580 "literal_of" "literal_of" 234 2 ["literals","net"] vN "gateloom.aig" 418 30)++(
 (d7 287 588 "from_netlist" "from_netlist" 238 1 ["netlist","aig","literals","net","place","kind","out","ins","param","row"] vN "gateloom.aig" 418 31)++(
 (d7 294 606 "full_table" "full_table" 253 1 ["k"] vN "gateloom.truth" 604 32)++(
 (d7 301 613 "var_table" "var_table" 255 2 ["i","k","full"] vN "gateloom.truth" 604 33)++(
 (d7 308 622 "cofactor" "cofactor" 258 4 ["t","i","bit","k","high","low"] vN "gateloom.truth" 604 34))))))))))))))))))))))))
def UL (P:Params):List Obj:=(d7 315 634 "depends" "depends" 264 3 ["t","i","k"] vN "gateloom.truth" 604 35)++(
 (d7 322 643 "support" "support" 266 2 ["t","k","found","i"] vN "gateloom.truth" 604 36)++(
 (d7 329 653 "spread" "spread" 272 2 ["m","places","row","j"] vN "gateloom.truth" 604 37)++(
 (d7 336 663 "permute" "permute" 277 3 ["t","order","k","result","m"] vN "gateloom.truth" 604 38)++(
 (d7 343 674 "shrink" "shrink" 282 2 ["t","k","kept","result","m"] vN "gateloom.truth" 604 39)++(
 (d7 350 685 "flip_input" "flip_input" 288 3 ["t","i","k","high"] vN "gateloom.truth" 604 40)++(
 (d7 357 695 "orders" "orders" 291 1 ["k","rows","step","longer","row","i"] vN "gateloom.truth" 604 41)++(
 (d7 364 707 "canon" "canon" 301 2 ["t","k","full","least","form","order","found","inputs","step","i"] vN "gateloom.truth" 604 42)++(
 (d7 371 723 "low_bit" "low_bit" 320 1 ["n","place"] vN "gateloom.truth" 604 43)++(
 (d7 378 733 "merge_cuts" "merge_cuts" 326 3 ["c1","c2","k","merged","i","j"] vN "gateloom.cuts" 731 44)++(
 (d7 385 745 "within" "within" 344 2 ["small","large","node"] vN "gateloom.cuts" 731 45)++(
 (d7 392 754 "without_dominated" "without_dominated" 349 1 ["cuts","kept","cut","free","other"] vN "gateloom.cuts" 731 46)++(
 (d7 399 765 "node_cuts" "node_cuts" 359 5 ["node","left","right","k","most","merged","one","other","cut","kept"] vN "gateloom.cuts" 731 47)++(
 (d7 406 781 "cut_sets" "cut_sets" 369 3 ["aig","k","most","rows","node","pair"] vN "gateloom.cuts" 731 48)++(
 (d7 413 793 "cone" "cone" 378 3 ["aig","node","cut","seen","waiting","one","pair"] vN "gateloom.cuts" 731 49)++(
 (d7 420 806 "literal_table" "literal_table" 392 3 ["values","literal","full","table"] vN "gateloom.cuts" 731 50)++(
 (d7 427 816 "cut_table" "cut_table" 397 3 ["aig","node","cut","k","full","values","i","one","pair"] vN "gateloom.cuts" 731 51)++(
 [oT []]++(
 [oX "builtin_function_or_method" [B "type.__prepare__",T "type"]]++(
 [oD [e P "__module__" 840<|s "gateloom.cellmap" 831,e P "__qualname__" 842<|s "CellKind" 841,e P "__firstlineno__" 844<|I  408  843,e P "__init__" 856<|r 447,e P "__static_attributes__" 862<|r 448] 5]++(
 [oT []]++(
 [oF [i 410,i 4,r 446]]++(
 [oX "code" [s "CellKind" 835,s "CellKind" 836,s "/claim/cut.py" 837,i 408,i 0,i 0,i 0,i 0,r 437,.bool false,i 181,r 438,vN,vN,vN,vN,i 838,i 408,s "/claim/cut.py" 839]]++(
 [oR [some<|r 439,some<|r 3,some<|r 436,none,some<|s "gateloom.cellmap" 831,none,some<|r 0]])))))))))))))))))))))))
def UC (P:Params):List Obj:=(d7 441 845 "__init__" "CellKind.__init__" 410 6 ["self","name","table","inputs","area","delay"] vN "gateloom.cellmap" 831 52)++(
 [oT [s "area" 857,s "delay" 858,s "inputs" 859,s "name" 860,s "table" 861]]++(
 [oD [e P "__module__" 840<|s "gateloom.cellmap" 831,e P "__firstlineno__" 844<|I  408  843,e P "__init__" 856<|r 447,e P "__static_attributes__" 862<|r 448,e P "__dict__" 864<|r 451,e P "__weakref__" 866<|r 452,e P "__doc__" 867 vN] 4]++(
 [oK [none,none,some<|s "CellKind" 833,some<|s "CellKind" 841,some<|B "object.__new__",some<|.bool true] "CellKind" [T "object"] [r 450,T "object"] 449 []]++(
 [oX "getset_descriptor" [s "__dict__" 863,r 450,B "function.__dict__",B "function.__dict__#set"]]++(
 [oX "getset_descriptor" [s "__weakref__" 865,r 450,B "ExceptionGroup.__weakref__",vN]]++(
 [oX "super" [r 450,r 450,r 450]]++(
 [oX "builtin_function_or_method" [B "object.__init_subclass__",r 450]]++(
 (d7 455 870 "ones_in" "ones_in" 416 1 ["mask","count"] vN "gateloom.cellmap" 831 53)++(
 (d7 462 878 "inverter" "inverter" 422 1 ["library","cell"] vN "gateloom.cellmap" 831 54)++(
 (d7 469 886 "has_inverter" "has_inverter" 427 1 ["library","cell"] vN "gateloom.cellmap" 831 55)++(
 (d7 476 894 "match_cost" "match_cost" 432 2 ["library","match","cell","_","mask","out","turned"] vN "gateloom.cellmap" 831 56)++(
 (d7 483 907 "cell_forms" "cell_forms" 440 2 ["library","k","rows","cell","least","form"] vN "gateloom.cellmap" 831 57)++(
 (d7 490 919 "joined_match" "joined_match" 447 3 ["cell","cell_form","table_form","order","mask","j","place","turned"] vN "gateloom.cellmap" 831 58)++(
 (d7 497 933 "plain_match" "plain_match" 456 2 ["cell","table","order","places","j"] vN "gateloom.cellmap" 831 59)++(
 (d7 504 944 "match_among" "match_among" 464 4 ["rows","library","table","k","least","form","best","lowest","cell","cell_least","cell_form","match","cost"] vN "gateloom.cellmap" 831 60)++(
 [oT []]++(
 [oX "builtin_function_or_method" [B "type.__prepare__",T "type"]]++(
 [oD [e P "__module__" 970<|s "gateloom.cellmap" 831,e P "__qualname__" 972<|s "Matches" 971,e P "__firstlineno__" 974<|I  479  973,e P "__init__" 982<|r 524,e P "find" 994<|r 531,e P "lacks_inverter" 1000<|r 536,e P "__static_attributes__" 1004<|r 537] 7]++(
 [oT []]++(
 [oF [i 481,i 4,r 523,i 486,i 4,r 530,i 498,i 4,r 535]]++(
 [oX "code" [s "Matches" 965,s "Matches" 966,s "/claim/cut.py" 967,i 479,i 0,i 0,i 0,i 0,r 514,.bool false,i 181,r 515,vN,vN,vN,vN,i 968,i 479,s "/claim/cut.py" 969]]++(
 [oR [some<|r 516,some<|r 3,some<|r 513,none,some<|s "gateloom.cellmap" 831,none,some<|r 0]]++(
 (d7 518 975 "__init__" "Matches.__init__" 481 2 ["self","library"] vN "gateloom.cellmap" 831 61))))))))))))))))))))))))
def VC (P:Params):List Obj:=(d7 525 983 "find" "Matches.find" 486 3 ["self","table","k","key","match","cost"] vN "gateloom.cellmap" 831 62)++(
 (d5 532 995 "lacks_inverter" "Matches.lacks_inverter" 498 3 vN "gateloom.cellmap" 831 63)++(
 [oT [s "forms" 1001,s "known" 1002,s "library" 1003]]++(
 [oD [e P "__module__" 970<|s "gateloom.cellmap" 831,e P "__firstlineno__" 974<|I  479  973,e P "__init__" 982<|r 524,e P "find" 994<|r 531,e P "lacks_inverter" 1000<|r 536,e P "__static_attributes__" 1004<|r 537,e P "__dict__" 1006<|r 540,e P "__weakref__" 1008<|r 541,e P "__doc__" 1009 vN] 4]++(
 [oK [none,none,some<|s "Matches" 963,some<|s "Matches" 971,some<|B "object.__new__",some<|.bool true] "Matches" [T "object"] [r 539,T "object"] 538 []]++(
 [oX "getset_descriptor" [s "__dict__" 1005,r 539,B "function.__dict__",B "function.__dict__#set"]]++(
 [oX "getset_descriptor" [s "__weakref__" 1007,r 539,B "ExceptionGroup.__weakref__",vN]]++(
 [oX "super" [r 539,r 539,r 539]]++(
 [oX "builtin_function_or_method" [B "object.__init_subclass__",r 539]]++(
 (d5 544 1012 "choose_cells" "choose_cells" 501 4 vN "gateloom.cellmap" 831 64)++(
 (d5 549 1018 "needed_nodes" "needed_nodes" 535 2 vN "gateloom.cellmap" 831 65)++(
 [oT []]++(
 [oX "builtin_function_or_method" [B "type.__prepare__",T "type"]]++(
 [oD [e P "__module__" 1031<|s "gateloom.cellmap" 831,e P "__qualname__" 1033<|s "CellBuilder" 1032,e P "__firstlineno__" 1035<|I  544  1034,e P "__init__" 1044<|r 567,e P "inv" 1054<|r 574,e P "wire" 1072<|r 581,e P "plain" 1081<|r 588,e P "__static_attributes__" 1085<|r 589] 8]++(
 [oT []]++(
 [oF [i 546,i 4,r 566,i 551,i 4,r 573,i 559,i 4,r 580,i 574,i 4,r 587]]++(
 [oX "code" [s "CellBuilder" 1026,s "CellBuilder" 1027,s "/claim/cut.py" 1028,i 544,i 0,i 0,i 0,i 0,r 557,.bool false,i 181,r 558,vN,vN,vN,vN,i 1029,i 544,s "/claim/cut.py" 1030]]++(
 [oR [some<|r 559,some<|r 3,some<|r 556,none,some<|s "gateloom.cellmap" 831,none,some<|r 0]]++(
 (d7 561 1036 "__init__" "CellBuilder.__init__" 546 3 ["self","netlist","library"] vN "gateloom.cellmap" 831 66)++(
 (d7 568 1045 "inv" "CellBuilder.inv" 551 2 ["self","net","cell","made"] vN "gateloom.cellmap" 831 67)++(
 (d7 575 1055 "wire" "CellBuilder.wire" 559 4 ["self","leaves","table","match","cell","order","mask","out","ins","i","net","made"] vN "gateloom.cellmap" 831 68)++(
 (d7 582 1073 "plain" "CellBuilder.plain" 574 3 ["self","leaves","table"] vN "gateloom.cellmap" 831 69)++(
 [oT [s "inverted" 1082,s "library" 1083,s "netlist" 1084]]++(
 [oD [e P "__module__" 1031<|s "gateloom.cellmap" 831,e P "__firstlineno__" 1035<|I  544  1034,e P "__init__" 1044<|r 567,e P "inv" 1054<|r 574,e P "wire" 1072<|r 581,e P "plain" 1081<|r 588,e P "__static_attributes__" 1085<|r 589,e P "__dict__" 1087<|r 592,e P "__weakref__" 1089<|r 593,e P "__doc__" 1090 vN] 4])))))))))))))))))))))))
def UM (P:Params):List Obj:=[oK [none,none,some<|s "CellBuilder" 1024,some<|s "CellBuilder" 1032,some<|B "object.__new__",some<|.bool true] "CellBuilder" [T "object"] [r 591,T "object"] 590 []]++(
 [oX "getset_descriptor" [s "__dict__" 1086,r 591,B "function.__dict__",B "function.__dict__#set"]]++(
 [oX "getset_descriptor" [s "__weakref__" 1088,r 591,B "ExceptionGroup.__weakref__",vN]]++(
 [oX "super" [r 591,r 591,r 591]]++(
 [oX "builtin_function_or_method" [B "object.__init_subclass__",r 591]]++(
 [oT [I  3  1093,I  8  1094]]++(
 (d5 597 1095 "map_cells" "map_cells" 580 4 (r 596) "gateloom.cellmap" 831 70)++(
 (d5 602 1101 "cell_table" "cell_table" 612 1 vN "gateloom.cellmap" 831 71)++(
 (d7 607 1107 "area" "area" 614 2 ["netlist","library","named","total","kind","_","param"] vN "gateloom.cellmap" 831 72)++(
 (d7 614 1122 "_law_stock" "_law_stock" 624 1 ["script","stock","one","rest","turn"] vN "law_rg0150_01" 1120 73)++(
 (d7 621 1133 "_law_pick" "_law_pick" 634 2 ["stock","most"] vN "law_rg0150_01" 1120 74)++(
 (d7 628 1141 "_law_ways" "_law_ways" 636 1 ["wide"] vN "law_rg0150_01" 1120 75)++(
 (d7 635 1148 "_law_fed" "_law_fed" 640 4 ["table","way","turned","flipped","result","row","spot","pin","feed"] vN "law_rg0150_01" 1120 76)++(
 (d7 642 1163 "_law_straight" "_law_straight" 649 3 ["table","wanted","wide","way"] vN "law_rg0150_01" 1120 77)++(
 (d7 649 1173 "_law_turned" "_law_turned" 654 2 ["table","wanted","way","turned"] vN "law_rg0150_01" 1120 78)++(
 (d5 656 1183 "_law_matched" "_law_matched" 660 1 vN "law_rg0150_01" 1120 79)++(
 (d7 661 1189 "_law_gate" "_law_gate" 686 3 ["kind","left","right","told"] vN "law_rg0150_01" 1120 80)++(
 (d7 668 1199 "_law_nodes" "_law_nodes" 694 1 ["kind"] vN "law_rg0150_01" 1120 81)++(
 (d5 675 1206 "_law_trouble" "_law_trouble" 700 4 vN "law_rg0150_01" 1120 82)++(
 (d7 680 1212 "_law_value" "_law_value" 718 3 ["rows","known","net","sort","out","ins","param","spot","pin","feed"] vN "law_rg0150_01" 1120 83)++(
 (d5 687 1228 "_law_made_right" "_law_made_right" 728 4 vN "law_rg0150_01" 1120 84)++(
 (d5 692 1234 "_law_mapped" "_law_mapped" 757 1 vN "law_rg0150_01" 1120 85)++(
 (d7 697 1240 "law" "law" 780 1 ["script","stock","lap","other","feeds","fault"] vN "law_rg0150_01" 1120 86)))))))))))))))))))))))
def objs (P:Params) (o3:Obj) (m:Nat):List Obj:=boot_o_0 P::boot_o_1 P::o2 P::o3::boot_o_4 P::boot_o_5 P::boot_o_6 P::boot_o_7 P::boot_o_8 P::boot_o_9 P::boot_o_10 P::(Un P m++(Uw P++(Vy P++(UP P++(UL P++(UC P++(VC P++(UM P))))))))
def zT (P:Params):List Obj:=boot_o_0 P::boot_o_1 P::boot_o_2 P::boot_o_3 P::boot_o_4 P::boot_o_5 P::boot_o_6 P::boot_o_7 P::boot_o_8 P::boot_o_9 P::boot_o_10 P::(Un P 0).take 4
noncomputable def bt (n:Nat):List Obj->BT:=@Nat.rec (λU=>List Obj->BT) (λU=>.nil) (λU f l=>@List.rec Obj (λU=>BT) .nil (λx l U=>.node x
  (f<|@List.rec Obj (λU=>Bool->List Obj) (λU=>[]) (λy U i b=>@Bool.rec (λU=>List Obj) (i true) (y::i false) b) l true)
  (f<|@List.rec Obj (λU=>Bool->List Obj) (λU=>[]) (λy U i b=>@Bool.rec (λU=>List Obj) (i true) (y::i false) b) l false)) l) n
def env:Env:={scope:=pw.main.scope,locals:=mainNs,globals:=mainNs,cells:=[],code:=.ref 13,frame:=some 14}
def cB:Code:=.body (behindTheImports pw) env
noncomputable abbrev q0:Pos:=⟨0,0,0,0⟩
noncomputable abbrev v9:Option Value:=some<|.ref 6
def yW (P:Params) (m:Nat) (N:Str) (t k:Nat) (n tok:Nat) (os:OsState):SharedT:=⟨bt 11<|(objs P (o3 P m N t) k).take n,n,{},⟨[]⟩,{},tok,os⟩
def Os (P:Params) (os:OsState):SharedT:=⟨bt 11<|zT P,15,{},⟨[]⟩,{},187,os⟩
def xX (a n:Nat):List Stmt:=((behindTheImports pw).drop a).take n
theorem Td (w:World):(λos=>Fast.tw10110043849684766642 Fast.tw14364793385576792824 pw w 11 v9 1 548 (Os w.params os) ⟨(Fast.tw12563942051412417395 (xX 0 8) env).wrap doneF deadEnd id id,cB,q0,[topFrame q0]⟩)=
  λos=>some (.next,yW w.params 15 "gateloom.netlist" 248 12 62 261 os,cB,⟨16,0,17,44⟩):=by kernel_rfl
theorem Sk (w:World):(λos=>Fast.tw10110043849684766642 Fast.tw14364793385576792824 pw w 11 v9 1 640 (yW w.params 15 "gateloom.netlist" 248 12 62 261 os) ⟨(Fast.tw12563942051412417395 (xX 8 6) env).wrap doneF deadEnd id id,cB,⟨16,0,17,44⟩,[topFrame q0]⟩)=
  λos=>some (.next,yW w.params 20 "gateloom.aig" 418 27 167 420 os,cB,⟨121,0,121,8⟩):=by kernel_rfl
theorem Q6 (w:World):(λos=>Fast.tw10110043849684766642 Fast.tw14364793385576792824 pw w 11 v9 1 631 (yW w.params 20 "gateloom.aig" 418 27 167 420 os) ⟨(Fast.tw12563942051412417395 (xX 14 2) env).wrap doneF deadEnd id id,cB,⟨121,0,121,8⟩,[topFrame q0]⟩)=
  λos=>some (.next,yW w.params 22 "gateloom.aig" 418 33 273 570 os,cB,⟨195,0,209,44⟩):=by kernel_rfl
theorem Sa (w:World):(λos=>Fast.tw10110043849684766642 Fast.tw14364793385576792824 pw w 11 v9 1 499 (yW w.params 22 "gateloom.aig" 418 33 273 570 os) ⟨(Fast.tw12563942051412417395 (xX 16 16) env).wrap doneF deadEnd id id,cB,⟨195,0,209,44⟩,[topFrame q0]⟩)=
  λos=>some (.next,yW w.params 37 "gateloom.truth" 604 78 378 731 os,cB,⟨320,0,324,16⟩):=by kernel_rfl
theorem P8 (w:World):(λos=>Fast.tw10110043849684766642 Fast.tw14364793385576792824 pw w 11 v9 1 792 (yW w.params 37 "gateloom.truth" 604 78 378 731 os) ⟨(Fast.tw12563942051412417395 (xX 32 19) env).wrap doneF deadEnd id id,cB,⟨320,0,324,16⟩,[topFrame q0]⟩)=
  λos=>some (.next,yW w.params 54 "gateloom.cellmap" 831 129 511 963 os,cB,⟨464,0,478,15⟩):=by kernel_rfl
theorem Rj (w:World):(λos=>Fast.tw10110043849684766642 Fast.tw14364793385576792824 pw w 11 v9 1 675 (yW w.params 54 "gateloom.cellmap" 831 129 511 963 os) ⟨(Fast.tw12563942051412417395 (xX 51 4) env).wrap doneF deadEnd id id,cB,⟨464,0,478,15⟩,[topFrame q0]⟩)=
  λos=>some (.next,yW w.params 58 "gateloom.cellmap" 831 141 596 1093 os,cB,⟨544,0,579,24⟩):=by kernel_rfl
theorem Qr (w:World):(λos=>Fast.tw10110043849684766642 Fast.tw14364793385576792824 pw w 11 v9 1 530 (yW w.params 58 "gateloom.cellmap" 831 141 596 1093 os) ⟨(Fast.tw12563942051412417395 (xX 55 18) env).wrap doneF deadEnd id id,cB,⟨544,0,579,24⟩,[topFrame q0]⟩)=
  λos=>some (.next,yW w.params 75 "law_rg0150_01" 1120 192 704 1252 os,cB,⟨780,0,792,16⟩):=by kernel_rfl
end Hd
namespace Hd
abbrev B0:List Frame:=[topFrame q0]
theorem back {s:SharedT} {r} (h:Fast.tw10110043849684766642 Fast.tw14364793385576792824 pw w 11 v9 1 N s ⟨(Fast.tw12563942051412417395 l env).wrap doneF deadEnd id id,cB,p,B0⟩=r):
  segRunT treeTable pw w 11 v9 1 N s (piecesOf l env cB p B0)=r:=by
 refine qL Fast.te10110043849684766642<|qL Fast.te14364793385576792824 ?_;delta piecesOf;refine Fast.te12563942051412417395▸?_;exact h
def hN (P:Params):Heap:=⟨⟨objs P (o3 P 75 "law_rg0150_01" 1120) 192⟩,{}⟩
theorem pre (w:World):(λos=>Fast.tw15667345088766844465 Fast.tw14364793385576792824 pw w 11 v9 12 ⟨boot_heap w.params,⟨[]⟩,boot_drawn,boot_toks,os⟩<|topStub pw)=
  λos=>some (⟨⟨⟨zT w.params⟩,{}⟩,⟨[]⟩,{},187,os⟩,⟨Fast.tw11892475500146522536 Fast.tw14364793385576792824 cB,cB,q0,B0⟩):=by kernel_rfl
theorem Vj (w:World):(λos=>segRun treeTable pw w 11 v9 1 1 ⟨⟨⟨zT w.params⟩,{}⟩,⟨[]⟩,{},187,os⟩<|blockOf (behindTheImports pw) env cB q0 B0)=λos=>some (.next,(Os w.params os).abs,cB,q0):=by kernel_rfl
theorem fin (w:World):(λos=>topRun treeTable pw w 11 v9 2 (yW w.params 75 "law_rg0150_01" 1120 192 704 1252 os).abs ⟨doneF .next,cB,⟨780,0,792,16⟩,B0⟩)=λos=>some ⟨hN w.params,⟨[]⟩,{},1252,os⟩:=by kernel_rfl
theorem Vx:∀w:World,(fencedOpening treeTable pw w 20000).map (λs=>(s.heap,s.gens,s.drawn,s.toks))=some (boot_heap w.params,⟨[]⟩,boot_drawn,boot_toks):=
 boot_open (by kernel_rfl) rfl (λs=>by kernel_rfl)
theorem VJ:∀w:World,((boot_heap w.params).isNs mainGlobals&&(Array.mk []:Array GenState).size==0,(boot_heap w.params).objs.size,(boot_heap w.params).nsMap mainGlobals "__annotations__")=(true,11,v9):=λw=>by kernel_rfl
theorem cut:behindTheImports pw=xX 0 8++(xX 8 6++(xX 14 2++(xX 16 16++(xX 32 19++(xX 51 4++(xX 55 18++[])))))):=by kernel_rfl
theorem Qy (w:World) (os:OsState):topGo treeTable pw w 11 v9 12 ⟨boot_heap w.params,⟨[]⟩,boot_drawn,boot_toks,os⟩ (topStub pw)=
  some (⟨⟨⟨zT w.params⟩,{}⟩,⟨[]⟩,{},187,os⟩,⟨denote treeTable cB,cB,q0,B0⟩):=by
 haveI h:=congrFun (pre w) os;rw[<-Fast.te15667345088766844465,<-Fast.te14364793385576792824,<-Fast.te11892475500146522536] at h;exact h
theorem sg {os:OsState} {s b:OsState->SharedT} (h:(λos=>Fast.tw10110043849684766642 Fast.tw14364793385576792824 pw w 11 v9 1 N (s os) ⟨(Fast.tw12563942051412417395 l env).wrap doneF deadEnd id id,cB,o,B0⟩)=λos=>some (.next,b os,cB,p)):
  segRun treeTable pw w 11 v9 1 N (s os).abs (piecesOf l env cB o B0)=some (.next,(b os).abs,cB,p):=segRun_of (back<|congrFun h os)
theorem run (w:World) (os:OsState):topRun treeTable pw w 11 v9 (12+(1+(548+(640+(631+(499+(792+(675+(530+(2))))))))))
  ⟨boot_heap w.params,⟨[]⟩,boot_drawn,boot_toks,os⟩ (topStub pw)=some ⟨hN w.params,⟨[]⟩,{},1252,os⟩:=by
 refine go_top (Qy w os)<|piece_block (congrFun (Vj w) os) ?_;refine cut▸?_;refine a0M (sg<|Td w)<|a0M (sg<|Sk w) ?_;refine a0M (sg<|Q6 w)<|a0M (sg<|Sa w) ?_;refine a0M (sg<|P8 w)<|a0M (sg<|Rj w) ?_;exact a0M (sg<|Qr w)<|piece_nil<|congrFun (fin w) os
end Hd
namespace Hd
def q:Program:={pw with main:={pw.main with body:=xX 72 1}}
noncomputable def kQ:List Str:=["_wall","GateloomError","SynthError","CONST0","CONST1","is_state_kind","Netlist","state_cells","drivers","ordered_cells","comb_order","Aig","table_literal","cell_literal","literal_of","from_netlist","full_table","var_table","cofactor","depends","support","spread","permute","shrink","flip_input","orders","canon","low_bit","merge_cuts","within","without_dominated","node_cuts","cut_sets","cone","literal_table","cut_table","CellKind","ones_in","inverter","has_inverter","match_cost","cell_forms","joined_match","plain_match","match_among","Matches","choose_cells","needed_nodes","CellBuilder","map_cells","cell_table","area","_law_stock","_law_pick","_law_ways","_law_fed","_law_straight","_law_turned","_law_matched","_law_gate","_law_nodes","_law_trouble","_law_value","_law_made_right","_law_mapped"].map PySem.Str.ofString
def S1 (w:World) (os:OsState):Shared:=⟨hN w.params,⟨[]⟩,{},1252,os⟩
theorem No:importedModules pw.main.body=[]:=by kernel_rfl
theorem VM (w:World):staticsOk [] (boot_heap w.params) (hN w.params):=by kernel_rfl
theorem VL (w:World):namesBound pw (hN w.params):=by kernel_rfl
theorem VN (w:World) (os:OsState):gensDone (S1 w os):=by kernel_rfl
theorem Vo (w:World):laidKept (boot_heap w.params) (hN w.params):=by kernel_rfl
def Xt (s:Shared):Bool:=xlAt q [] s&&recOk [] s
theorem Vf (w:World) (os:OsState):Fast.tw5160383126252970620 ((recsOf q).map (·.name)) (ownsOf q) [] {S1 w os with gens:=#[]}=expectedOf q:=by kernel_rfl
theorem U6 (w:World) (os:OsState):(S1 w os).heap.bltView=bltViewBooted:=by kernel_rfl
theorem Sq (w:World) (os:OsState):(S1 w os).heap.keysOk (looseW q kQ) ((recsOf q).map (·.name)) ((litsOf q).map (·.1)) ((clssOf q<|looseW q kQ).map (·.name)):=by kernel_rfl
theorem QY (w:World) (os:OsState):(S1 w os).heap.accountedOkI []:=by kernel_rfl
theorem P2 (w:World) (os:OsState):((S1 w os).heap.isNs mainGlobals&&(S1 w os).heap.isNs builtinsNs&&tablesOk q (S1 w os).heap&&Xt (S1 w os)&&(if true then(S1 w os).gens.size==0 else !leftWithCleanup (S1 w os).gens)):=by kernel_rfl
theorem VE (w:World) (os:OsState):tabsOk q (S1 w os):=by kernel_rfl
theorem UT (w:World) (os:OsState):pinSeenD q (drecsOf q) (S1 w os)=pinGoodD (drecsOf q):=by kernel_rfl
theorem Uy (w:World) (os:OsState):plainSeenE q (looseW q kQ) (S1 w os)=plainGoodE q (looseW q kQ):=by kernel_rfl
theorem Va (w:World) (os:OsState):plainSeenD q kQ (S1 w os)=plainGoodD q kQ:=by kernel_rfl
theorem Vd (w:World) (os:OsState):wideSeen q (S1 w os)=wideGood q:=by kernel_rfl
theorem UZ (w:World) (os:OsState):clsSeenW q kQ (S1 w os)=clsGoodW q kQ:=by kernel_rfl
theorem left:LeftO pw q kQ Xt (λs=>s.heap) (λw=>hN w.params) 20000:=by
 refine LeftO.of_pieces Vx VJ run rfl λw=>funext λos=>a0N ?_<|a0N ?_ rfl
 .show(staticsOk _ _ _&&namesBound pw _&&gensDone _&&laidKept _ _)=true
  rw[No,VM,VL,Vo];rfl
 .show openSeen q kQ _ Xt true (S1 w os)=_
  refine qL No ?_;refine a0N ?_<|a0N (U6 w os)<|a0N ?_<|a0N (VE w os)<|a0N (UT w os)<|a0N (Uy w os)<|a0N (Va w os)<|a0N (Vd w os)<|UZ w os;.rw[Fast.te5160383126252970620];exact Vf w os
  .rw[Sq,QY]
   exact P2 w os
theorem Ur:namesResolve pw=true:=by rw[Fast.te8377067652309620493];kernel_rfl
theorem UJ:noRoadLSs {strict:=!(importedModules pw.main.body).all cThrough.contains,foot:=none,bare:=(["vars","dir","locals"]:List Str).filter<|readsOut pw pw.main.body} pw.main.body=true:=by rw[Fast.te8326940854005059898];kernel_rfl
theorem UU:namesMeet pw pw.main.body (λU n=>attrL n)=true:=by rw[Fast.te17119622794617984870];kernel_rfl
theorem Vw:looksOpen pw=true:=by show(_&&namesResolve pw&&_&&noRoadLSs _ _&&namesMeet pw _ _)=true;rw[Ur,UJ,UU];kernel_rfl
theorem Px:PySem.Challenge.rw_rg0150_01.wellSaid:=by show(looksOpen pw&&_&&_&&_&&_&&_&&_&&_&&_&&_&&_&&_&&_&&_&&_&&_&&_&&_&&_&&_&&_&&_&&_&&_&&_&&_&&_&&_&&_&&_&&_&&_&&_&&_)=true;rw[Vw];kernel_rfl
end Hd
def vG (s:List Nat):List (List Nat)->Nat->Option Nat
 |[],_=>none
 |x::l,i=>match seq x s with|true=>some i|false=>vG s l<|i+1
def oq {b:Type} (s:List Nat):List (List Nat×b)->Option b
 |[]=>none
 |p::l=>match seq p.1 s with|true=>some p.2|false=>oq s l
noncomputable def tu:List (List Nat×Bi):=[("len".toList.map Char.toNat,.len),("range".toList.map Char.toNat,.range),("tuple".toList.map Char.toNat,.tuple),("list".toList.map Char.toNat,.list),("sorted".toList.map Char.toNat,.sorted),("max".toList.map Char.toNat,.max),("min".toList.map Char.toNat,.min),("set".toList.map Char.toNat,.set)]
def uP:aS:=(Hd.dAt 46).2.1.names
def Qi:SJ where
 nmOf n:=vG n.cps.toList dP 0
 fnOf n:=oq n.cps.toList tX
 biOf n:=oq n.cps.toList tu
 clOf n:=oq n.cps.toList ua
 exOf n:=oq n.cps.toList lW
 glOf n:=oq n.cps.toList tv
 atOk n:=(vG n.cps.toList zx 0).isSome
 mt:=mt
 lamSc:=uP
 lamPos:=⟨351,32,351,59⟩
def Tr.rows {h:Type} (t:Tr h) (f:Nat->Nat):List (Nat×h):=t.rec (λU=>[]) (λv U U l r f=>v.toList.map (λx=>(f 0,x))++(l (λj=>f<|2*j+1)++r λj=>f<|2*j+2)) f
theorem Tr.mem_rows {p:Type} (t:Tr p):∀(i:Nat) (f:Nat->Nat) (x:p),t.get i=some x->(f i,x)∈t.rows f:=by
 induction t with
 |nil=>intro _ _ _ h;cases h
 |node v l r u y=>
  intro i f x h;haveI h:cond _ v (cond _ (l.get<|i/2)<|r.get _)=some x:=h;refine a0P.mpr ?_;cases q:Nat.beq i 0 with
  |true=>rw[q] at h;haveI h:v=some x:=h;rw[h,W3 q];exact .inl<|.head _
  |false=>
   rw[q] at h;refine .inr<|a0P.mpr ?_;haveI h:=h;cases z:Nat.beq (i%2) 1 with
   |false=>rw[z] at h;refine qL (Wh f<|Mn (a0O q)<|a0O z) ?_;exact .inr<|y _ (λj=>f _) x h
   |true=>rw[z] at h;exact qL (Wh f<|NE<|W3 z)<|.inl<|u _ (λj=>f _) x h
def jO:List (Nat×Fn):=[(0,f0),(3,f3),(7,f7),(15,Sm),(31,Rr),(63,Sh),(47,Qk),(79,SG),(23,Sw),(39,Rq),(71,QO),(55,PH),(11,Ra),(19,P3),(35,Qu),(67,QR),(51,Sx),(83,Sj),(27,SX),(43,QK),(75,SC),(59,QH),(5,f5),(9,f9),(17,Sy),(33,Qj),(65,Ty),(49,Qo),(81,Q7),(25,Qn),(41,Sb),(73,RF),(57,QP),(13,SH),(21,RT),(37,Sp),(69,Ss),(53,Ts),(85,Rb),(29,Qz),(45,Qe),(77,QQ),(61,Qt),(2,f2),(4,f4),(8,f8),(16,Te),(32,Tn),(64,Rg),(48,Qx),(80,SI),(24,St),(40,Sn),(72,TJ),(56,R9),(12,RH),(20,SW),(36,QA),(68,Rs),(52,Ry),(84,P9),(28,SD),(44,RM),(76,SR),(60,Sv),(6,f6),(10,Rd),(18,RJ),(34,Qp),(66,TM),(50,Tp),(82,QX),(26,Q8),(42,Se),(74,RK),(58,TL),(14,Rl),(22,Qw),(38,P5),(70,RZ),(54,Qd),(86,SQ),(30,SP),(46,QM),(78,SE),(62,Qq)]
theorem GE:prog.rows id=jO:=by kernel_rfl
theorem KO:∀f n,prog.get f=some n->(f,n)∈jO:=λf n h=>by exact GE▸prog.mem_rows f id n h
def cN (k:Nat):List (Nat×Fn):=(jO.drop<|11*k).take 11
def lU (h:1<=D) (G:bC F Qi M m) (p:Nat×Fn):Option S:=Sc h G (Hd.dAt p.1).2.1.names (Hd.dAt p.1).2.2
theorem dh {b c:Type} {f g:b->c} {l:List b} (h:l.map f=l.map g):∀x∈l,f x=g x:=List.map_inj_left.mp h
theorem Mi:jO=cN 0++(cN 1++(cN 2++(cN 3++(cN 4++(cN 5++(cN 6++cN 7)))))):=by kernel_rfl
section
variable {F:Fx} {D:Nat} {m M:Str->Option Value} (h:1<=D) (G:bC F Qi m M)
include h G
theorem VH:(cN 0).map (lU h G)=(cN 0).map λp=>some p.2.body:=by kernel_rfl
theorem Vu:(cN 1).map (lU h G)=(cN 1).map λp=>some p.2.body:=by kernel_rfl
theorem Vi:(cN 2).map (lU h G)=(cN 2).map λp=>some p.2.body:=by kernel_rfl
theorem U5:(cN 3).map (lU h G)=(cN 3).map λp=>some p.2.body:=by kernel_rfl
theorem Vr:(cN 4).map (lU h G)=(cN 4).map λp=>some p.2.body:=by kernel_rfl
theorem UF:(cN 5).map (lU h G)=(cN 5).map λp=>some p.2.body:=by kernel_rfl
theorem Vp:(cN 6).map (lU h G)=(cN 6).map λp=>some p.2.body:=by kernel_rfl
theorem Uz:(cN 7).map (lU h G)=(cN 7).map λp=>some p.2.body:=by kernel_rfl
theorem U8 (p:Nat×Fn) (H:p∈jO):lU h G p=some p.2.body:=by
 rw[Mi] at H;simp only [a0P] at H;rcases H with H|H|H|H|H|H|H|H;.exact dh (VH h G) p H
 .exact dh (Vu h G) p H
 .exact dh (Vi h G) p H
 .exact dh (U5 h G) p H
 .exact dh (Vr h G) p H
 .exact dh (UF h G) p H
 .exact dh (Vp h G) p H
 .exact dh (Uz h G) p H
end
namespace Hd
def Sz:DefRec:=⟨"law",(dAt 86).1,(dAt 86).2.2,(dAt 86).2.1,⟨780,0,792,16⟩⟩
theorem Oh:PySem.Challenge.rw_rg0150_01.row.prog.bare:=⟨by kernel_rfl,by kernel_rfl,by kernel_rfl,by kernel_rfl,by kernel_rfl,by kernel_rfl⟩
end Hd
section
open Hd
noncomputable def jA:Nat:=393
noncomputable def m8:List Nat->Nat->Nat
 |[],n=>1000000+n
 |a::l,n=>match n with|0=>a|n+1=>m8 l n
noncomputable def Ow:List Nat:=[21,36,61,75,82,87,94,101,109,117,124,131,145,152,159,166,180,187,194,201,208,215,222,229,236,243,250,258,272,279,286,293,300,307,314,321,328,335,342,349,356,363,370,377,384,391,398,405,412,419,426,433,447,461,468,475,482,489,496,503,510,524,531,536,548,553,567,574,581,588,601,606,613,620,627,634,641,648,655,660,667,674,679,686,691,696,703]
noncomputable def Kc:List Nat:=[39,52,134,261,450,539,591]
noncomputable def PC:Obj:=⟨.none,none,.freed,#[]⟩
def Uc (P:Params):List Obj:=objs P (o3 P 75 "law_rg0150_01" 1120) 192
def h0 (P:Params):Heap:=⟨⟨(Uc P).set jA PC⟩,{}⟩
noncomputable def GR (d:Data):Bool:=match d with|.freed=>false|_=>true
def LH:Nat->List Obj->Frag
 |_,[]=>[]
 |k,o::l=>cond (GR o.data) ((k,o)::LH (k+1) l)<|LH (k+1) l
def oB (P:Params):Frag:=LH 0<|(Uc P).set jA PC
theorem xQ:∀(l:List Obj) (k b:Nat) (o:Obj),(LH k l).lookup b=some o->k<=b/\l[b-k]?=some o/\GR o.data:=by
 intro l;induction l with
 |nil=>intro _ _ _ e;cases e
 |cons x l i=>
  intro k b o e;have c:∀e:(LH (k+1) l).lookup b=some o,k<=b/\(x::l)[b-k]?=some o/\GR o.data=true:=λe=>by refine kh (i (k+1) b o e) λf H d=>?_;refine mP (WO ‹_›) ?_ d;simp only [rc<|by assumption];exact H
  haveI e:(cond _ ((k,x)::LH (k+1) l) _).lookup b=some o:=e;cases h:GR x.data with
  |false=>rw[h] at e;exact c e
  |true=>
   rw[h] at e;haveI e:(match b==k with|true=>some x|false=>(LH (k+1) l).lookup b)=some o:=e;by_cases q:b=k
   .subst q
    simp only [beq_self_eq_true] at e;obtain rfl:=W2 e;exact mP (XA _) (by simp only [a0Q];rfl) h
   .rw[beq_false_of_ne q] at e
    exact c e
theorem Md (P:Params):(oB P).In (h0 P):=λb o e=>by refine kh (xQ _ _ _ _ e) λU h H=>?_;unfold Heap.get? h0;simp only [a0R] at h;refine qL  YM <|qL h ?_;obtain⟨c,d,D,s⟩:=o;cases D<;>first|rfl|cases H
def vU (h:Heap):Heap:=⟨⟨h.objs.toList.set jA PC⟩,h.life⟩
theorem jS (h:Heap) (b:Nat):(vU h).get? b=if b=jA then none else h.get? b:=by
 show(match((⟨h.objs.toList.set jA PC⟩:Array Obj)[b]?) with|some ⟨_,_,.freed,_⟩=>none|o=>o)=_;refine qL  YM <|qL  a0S  ?_;by_cases q:jA=b
 .subst q
  refine qL (Xb rfl)<|qL (Xb rfl) ?_;by_cases z:jA<h.objs.toList.length;.rw[Xb z];rfl
  .rw[Xd z]
 .rw[Xd q,Xd<|Xf q,ZJ];rfl
theorem Q4 (P:Params):(h0 P).isNs mainGlobals:=by kernel_rfl
theorem Tt (P:Params):(h0 P).isNs builtinsNs:=by kernel_rfl
theorem T9 (P:Params):(h0 P).isNs cStatics:=by kernel_rfl
theorem VA (P:Params):(h0 P).isNs sysModules:=by kernel_rfl
theorem Uv (P:Params):(h0 P).bltView=bltViewBooted:=by kernel_rfl
theorem U1 (P:Params):(h0 P).nsMap cStatics "sys.recursionlimit"=none:=by kernel_rfl
theorem Uu (P:Params):(h0 P).nsMap cStatics "sys.audit-hooks"=none:=by kernel_rfl
theorem VF (P:Params):(h0 P).nsMap cStatics "sys.dict"=none:=by kernel_rfl
theorem Vq (P:Params):(h0 P).nsMap sysModules "_pylong"=none:=by kernel_rfl
theorem Ua (P:Params):(h0 P).nsMap mainGlobals "__builtins__"=some (.ref 4):=by kernel_rfl
theorem T6 (P:Params):(h0 P).get? 4=some ⟨.type "module",some builtinsNs,.plain,#[]⟩:=by kernel_rfl
theorem ST (P:Params):((h0 P).get? cStatics).isSome:=by kernel_rfl
theorem QF (P:Params):((h0 P).get? sysModules).isSome:=by kernel_rfl
theorem ns0 (P:Params) (h:(h0 P).isNs a):(h0 P).Ns a ((h0 P).nsMap a):=.of_isNs h
theorem QV (P:Params):(h0 P).NoLimit:=⟨_,.of_isNs<|T9 P,U1 P⟩
theorem Nq (P:Params):(h0 P).NoSeer:=⟨⟨_,.of_isNs<|T9 P,Uu P,VF P⟩,⟨_,.of_isNs<|VA P,Vq P⟩,⟨_,.of_isNs<|Tt P,Heap.of_bltView (Tt P)<|Uv P⟩,⟨_,_,_,.of_isNs<|Q4 P,Ua P,T6 P,rfl,rfl⟩⟩
def Gi (k:Nat):Str:=match nth dP k with|some l=>cv l|none=>cv [2000000+k]
noncomputable def LJ (c:Nat):Bool:=Nat.ble 2 c&&Nat.ble c 6
abbrev gl (P:Params) (l:List Nat):Option Value:=(h0 P).nsMap mainGlobals<|cv l
abbrev fA (f:Nat):Value:=.ref<|m8 Ow f
abbrev cA (c:Nat):Value:=.ref<|m8 Kc c
def Uf (o:Option Obj):Bool:=(o.bind λo=>O8 o.data).isSome
theorem Vz (P:Params):tX.map (λp=>(gl P p.1,Uf<|(h0 P).get?<|m8 Ow p.2))=tX.map (λp=>(some<|fA p.2,true)):=by kernel_rfl
theorem Uq (P:Params):tu.map (λp=>(gl P p.1,(h0 P).nsMap builtinsNs<|cv p.1))=tu.map (λp=>(none,some<|yO p.2)):=by kernel_rfl
theorem UO (P:Params):ua.map (λp=>(gl P p.1,keepIn (oB P)<|cA p.2.1,LJ p.2.1,makesIn (oB P)<|m8 Kc p.2.1,findIn (oB P) (cA p.2.1) "__init__",typeIn (oB P)<|fA p.2.2))=
  ua.map (λp=>(some<|cA p.2.1,true,true,true,some<|some<|fA p.2.2,some<|.type "function")):=by kernel_rfl
def RA (v:Option Value):Option Int:=v.bind λv=>(Nz v).bind λp=>some p.1
theorem Vs (P:Params):tv.map (λp=>RA<|gl P p.1)=tv.map (λp=>some p.2):=by kernel_rfl
theorem U2 (P:Params):(zx.all λn=>[2,3,4,5,6].all λc=>fP (oB P) (m8 Kc c)<|cv n):=by kernel_rfl
theorem Vg (P:Params):(mt.all λr=>sY (oB P) (m8 Kc r.1) (Gi r.2.1)<|m8 Ow r.2.2):=by kernel_rfl
def ID (K:Frag) (C:Addr):Bool:=(clsIn K C).elim false λc=>eJ c.mro&&c.hasDict
theorem Ln {K:Frag} {C:Addr} (h:ID K C):∃c,clsIn K C=some c/\eJ c.mro/\c.hasDict:=by
 delta ID at h;cases q:clsIn K C with
 |none=>rw[q] at h;cases h
 |some c=>rw[q] at h;exact⟨c,rfl,(VP h).1,(VP h).2⟩
theorem UG (P:Params):lW.map (λp=>(gl P p.1,keepIn (oB P)<|cA p.2,typeIn (oB P)<|cA p.2,ID (oB P)<|m8 Kc p.2,findIn (oB P) (cA p.2) "__init__",EK (oB P)<|m8 Kc p.2))=
  lW.map (λp=>(some<|cA p.2,true,some<|.type "type",true,some<|some<|fA 1,true)):=by kernel_rfl
theorem Tk (P:Params):lW.map (λp=>(findIn (oB P) (cA p.2) "__setattr__",findIn (oB P) (cA p.2) "__getattribute__",findIn (oB P) (cA p.2) "__getattr__",findIn (oB P) (cA p.2) bM,findIn (oB P) (cA p.2) rj,findIn (oB P) (cA p.2) aY))=
  lW.map (λp=>(some<|some<|.builtin "object.__setattr__",some<|some<|.builtin "BaseException.__getattribute__",some none,some none,some none,some none)):=by kernel_rfl
theorem Vb (P:Params):typeIn (oB P) (fA 1)=some (.type "function"):=by kernel_rfl
theorem wS:∀{a b:List Nat},seq a b->a=b
 |[],[],_=>rfl
 |[],_::_,h=>by cases h
 |_::_,[],h=>by cases h
 |x::a,y::b,h=>by
  haveI h:(match Nat.beq x y with|true=>seq a b|false=>false)=true:=h;cases q:Nat.beq x y<;>rw[q] at h;.cases h
  .exact qL (W3 q)<|qL (wS h) rfl
def fresh (s:List Nat):List (List Nat)->Bool
 |[]=>true
 |x::l=>match seq s x with|true=>false|false=>fresh s l
def PO:List (List Nat)->Bool
 |[]=>true
 |x::l=>match fresh x l with|true=>PO l|false=>false
theorem D7:∀a:List Nat,seq a a:=by
 intro z;induction z with
 |nil=>exact rfl
 |cons x a i=>show(match Nat.beq x x with|true=>seq a a|false=>false)=true;rw[W9];exact i
theorem sr {s:List Nat}:∀{l:List<|List Nat} {j:Nat},fresh s l->nth l j≠some s:=@λz=>by
 induction z with
 |nil=>intro _ _ e;cases e
 |cons x l i=>
  intro j h e;haveI h:(match seq s x with|true=>false|false=>fresh s l)=true:=h;cases q:seq s x<;>rw[q] at h
  .induction j with
   |zero=>haveI e:some x=some s:=e;cases e;rw[D7] at q;cases q
   |succ j=>exact i h e
  .cases h
theorem HG:∀{l:List<|List Nat} {i j:Nat} {s:List Nat},PO l->nth l i=some s->nth l j=some s->i=j:=@λz=>by
 induction z with
 |nil=>intro _ _ _ _ e _;cases e
 |cons x l H=>
  intro i j s h b c;haveI h:(match fresh x l with|true=>PO l|false=>false)=true:=h;cases q:fresh x l<;>rw[q] at h;.cases h
  .induction i with
   |zero=>
    haveI b:some x=some s:=b;obtain rfl:=W2 b;induction j with
    |zero=>rfl
    |succ j=>exact((sr q)<|show nth l j=some x from c).elim
   |succ i=>
    induction j with
    |zero=>haveI c:some x=some s:=c;obtain rfl:=W2 c;exact((sr q)<|show nth l i=some x from b).elim
    |succ j=>exact qL (H h b c) rfl
theorem Bm:PO dP:=by decide+kernel
theorem sv:(dP.all λl=>match l with|x::_=>Nat.blt x 2000000|[]=>true):=rfl
theorem mw:∀{l:List<|List Nat} {i:Nat} {s:List Nat},nth l i=some s->s∈l
 |x::l,0,s,e=>by cases e;exact Xz
 |x::l,i+1,s,e=>Xw _<|mw e
theorem JV:∀x y,Gi x=Gi y->x=y:=by
 intro x y h;delta Gi at h;cases c:nth dP x with
 |some a=>
  cases H:nth dP y with
  |some b=>rw[c,H] at h;haveI:=dU h;subst this;exact HG Bm c H
  |none=>rw[c,H] at h;have:=dU h;subst this;haveI:=VU sv _<|mw c;simp only [a0T] at this;lia
 |none=>
  cases H:nth dP y with
  |some b=>rw[c,H] at h;haveI:=dU h;subst this;haveI:=VU sv _<|mw H;simp only [a0T] at this;lia
  |none=>rw[c,H] at h;haveI:=dU h;simp only [a0U,and_true] at this;exact a0V this
variable {s:Shared}
noncomputable abbrev z7 (w:World) (s:Shared):Prop:=∀b o,(hN w.params).get? b=some o->s.heap.get? b=some o
theorem jF (h:z7 w s):∀b o,(h0 w.params).get? b=some o->(vU s.heap).get? b=some o:=λb o e=>by
 haveI e:(vU<|hN w.params).get? b=some o:=e;rw[jS] at e⊢;by_cases q:b=jA;.rw[Xb q] at e;cases e
 .rw[Xd q] at e⊢;exact h b o e
theorem sz {b:Type} {o:Option b} (h:o.isSome):∃x,o=some x:=VQ h
def FX (w:World) (s:Shared) (h:z7 w s):Fx where
 prog:=PySem.Challenge.pw_rg0150_01
 w:=w
 B:=vU s.heap
 K:=oB w.params
 KB:=λb o e=>jF h b o (Md _ b o e)
 cls:=m8 Kc
 nm:=Gi
 lim:=(QV _).keeps (jF h)
 sys:=let⟨o,e⟩:=sz<|QF w.params;⟨o,jF h _ _ e⟩
 stat:=let⟨o,e⟩:=sz<|ST w.params;⟨o,jF h _ _ e⟩
 seer:=(Nq _).keeps (jF h)
 fn:=m8 Ow
 inj:=JV
 tree:=by kernel_rfl
 ins:=LJ
 lamPos:=⟨351,32,351,59⟩
 lamQual:="without_dominated.<locals>.<lambda>"
 lamTab:=jA
 lamCode:=397
 lamSc:=uP
theorem fg {b:Type} {s:List Nat} {v:b}:∀{l:List<|List Nat×b},oq s l=some v->(s,v)∈l:=@λz=>by
 induction z with
 |nil=>intro e;cases e
 |cons p l i=>
  intro e;haveI e:(match seq p.1 s with|true=>some p.2|false=>oq s l)=some v:=e;cases q:seq p.1 s<;>rw[q] at e;.exact Xw _<|i e
  .cases e;exact(wS q)▸Xz
theorem yX {s:List Nat}:∀{l:List<|List Nat} {k i:Nat},vG s l k=some i->k<=i/\nth l (i-k)=some s:=@λz=>by
 induction z with
 |nil=>intro _ _ e;cases e
 |cons x l H=>
  intro k i e;haveI e:(match seq x s with|true=>some k|false=>vG s l<|k+1)=some i:=e;cases q:seq x s<;>rw[q] at e
  .obtain⟨b,h⟩:=H e
   refine⟨by exact WO ‹_›,?_⟩;rw[rc<|by assumption];exact h
  .cases e
   refine⟨XA _,?_⟩;rw[a0Q,<-wS q];rfl
theorem o5 (n:Str):cv n.cps.toList=n:=by cases n;rfl
theorem Ix (P:Params):(h0 P).get? 397=some (oX "code" [Hd.s "without_dominated" 754,Hd.s "without_dominated" 755,Hd.s nQ 756,i 349,i 1,i 0,i 0,i 3,r 392,.bool true,i 181,r 393,vN,r 394,r 395,r 396,i 762,i 349,Hd.s nQ 763]):=by kernel_rfl
theorem Ep (h:z7 w s):yG (FX w s h) where
 hd:=⟨_,_,_,_,_,_,_,_,_,jF h _ _<|Ix _,rfl,rfl,rfl,rfl,rfl,rfl,rfl,rfl,(by decide:(397:Nat)≠393)⟩
 bi:=⟨_,(ns0 _<|Q4 _).keeps<|jF h,4,_,Ua _,by decide,by decide,(by decide:(4:Nat)≠393),jF h _ _<|T6 _,rfl,rfl,rfl⟩
 gP:=(by decide:(3:Nat)≠393)
end
section
open Hd
variable {w:World} {s:Shared}
theorem Bs:∀{l:MT},pQ l c m=some f->(c,m,f)∈l:=@λz=>by
 induction z with
 |nil=>intro e;cases e
 |cons p l i=>
  intro e;haveI e:(match Nat.beq p.1 c&&Nat.beq p.2.1 m with|true=>some p.2.2|false=>pQ l c m)=some f:=e;cases q:Nat.beq p.1 c&&Nat.beq p.2.1 m<;>rw[q] at e;.exact Xw _<|i e
  .cases e
   haveI h:=(VP q).1;haveI H:=(VP q).2;rw[<-W3 h,<-W3 H];exact Xz
def Mv:FuncData:=fd 1 "__init__" "GateloomError.__init__" 3 (.ref 29) (.str "gateloom.errors" 194)<|.ref 35
theorem Pn (P:Params):(oB P).lookup 36=some ⟨.type "function",none,.func Mv,#[]⟩:=by kernel_rfl
theorem Jc (P:Params):(oB P).lookup 29=some (oT [I (-1) 209,Hd.s "" 210]):=by kernel_rfl
theorem Ot (P:Params):Jn (oB P) Mv.code Mv.qualname:=by kernel_rfl
theorem GC:∃p b c d q Q e f r g h r4,Mv.body=.stmts [.Assign [.Attribute (.Name dp p) bM b] (.Name bM c) d,.Assign [.Attribute (.Name dp q) rj Q] (.Name rj e) f,.Assign [.Attribute (.Name dp r) aY g] (.Name aY h) r4]:=
 ⟨_,_,_,_,_,_,_,_,_,_,_,_,by with_unfolding_all rfl⟩
theorem vX:tC Mv [dp,bM,rj,aY]:=by kernel_rfl
theorem Gw (Y:z7 w s):qd (FX w s Y) 1 Mv where
 obj:=⟨_,(FX w s Y).KB _ _<|Pn _,rfl⟩
 body:=GC
 clo:=rfl
 kind:=by kernel_rfl
 names:=⟨by kernel_rfl,by kernel_rfl,by kernel_rfl,by kernel_rfl⟩
 co:=by kernel_rfl
 gen:=by kernel_rfl
 code:=Cu (FX w s Y).KB (Ot _)
 binds2:=⟨_,_,210,rfl,λe k s H A E Q h=>lG (dvs:=[.int (-1) 209,.str _ 210]) (nv vX) (.inr ⟨29,_,0,rfl,H _ _<|Jc _,by kernel_rfl⟩) (mW<|by kernel_rfl) (by simp) (by simp) (by simp) h⟩
 binds4:=λe k a d s H A E Q h=>lG (dvs:=[.int (-1) 209,.str (cv []) 210]) (nv vX) (.inr ⟨29,_,0,rfl,H _ _<|Jc _,by kernel_rfl⟩) (mW<|by kernel_rfl) (by simp) (by simp) (by simp) h
theorem pj (n:Str):gl w.params n.cps.toList=(h0 w.params).nsMap mainGlobals n:=Wh ((h0 w.params).nsMap mainGlobals)<|o5 n
theorem GB:∀c≤6,LJ c->c∈[2,3,4,5,6]:=by decide
theorem Mt (H:z7 w s):bC (FX w s H) Qi ((h0 w.params).nsMap mainGlobals) ((h0 w.params).nsMap builtinsNs) where
 hm:=(ns0 _<|Q4 w.params).keeps (jF H)
 hb:=(ns0 _<|Tt w.params).keeps (jF H)
 fn:=λn f h=>
  have t:=dh (Vz w.params) _<|fg h
  (VQ<|show Uf _=true from Wh (·.2) t).elim λfd D=>ao D λo O D=>⟨o,fd,(pj n).symm.trans<|Wh (·.1) t,jF H _ _ O,Ha D⟩
 bi:=λn b h=>(pj n).symm.trans (Wh (·.1)<|dh (Uq w.params) _<|fg h)
 bi2:=λn b h=>(Wh _<|o5 n).symm.trans (Wh (·.2)<|dh (Uq w.params) _<|fg h)
 cl:=λn c f h=>
  haveI t:=dh (UO w.params) _<|fg h
  ⟨(pj n).symm.trans<|Wh (·.1) t,Wh (·.2.1) t,Wh (·.2.2.1) t,Wh (·.2.2.2.1) t,Wh (·.2.2.2.2.1) t,Wh (·.2.2.2.2.2) t⟩
 gl:=λn k h=>
  haveI t:=dh (Vs w.params) _<|fg h
  ao t λv z e=>ao e λp r e=>⟨p.2,(pj n).symm.trans<|z.trans<|Wh some<|(y5 r).trans<|Wh (Value.int · p.2)<|W2 e⟩
 ex:=λn c h=>
  haveI t:=dh (UG w.params) _<|fg h;haveI u:=dh (Tk w.params) _<|fg h
  (Ln<|show ID _ _=true from Wh (·.2.2.2.1) t).elim λj x=>
   ⟨1,Mv,(pj n).symm.trans<|Wh (·.1) t,Wh (·.2.1) t,⟨Wh (·.2.2.2.2.2) t,⟨j,x⟩,Wh (·.1) u,Wh (·.2.1) u,Wh (·.2.2.1) u,Wh (·.2.2.2.1) u,Wh (·.2.2.2.2.1) u,Wh (·.2.2.2.2.2) u⟩,
    Wh (·.2.2.1) t,Gw H,Wh (·.2.2.2.2.1) t,Vb _⟩
 nm:=λn k h=>by haveI g:=(yX h).2;simp only [a0R] at g;show Gi k=n;delta Gi;rw[g];try exact o5 n
 at':=λn h c i=>by haveI h:=h;obtain⟨k,q⟩:=VQ h;haveI M:=mw (yX q).2;exact o5 n▸VU (VU (U2 w.params) _ M) c (GB c (Xi (VP i).2) i)
 mt:=λc m f h=>VU (Vg w.params) (c,m,f) (Bs h)
 lam:=rfl
 lamP:=rfl
 lamO:=Ep H
 fault:=λy h=>by
  haveI h:Gi y=_:=h;delta Gi at h;cases Y:nth dP y with
  |some l=>rw[Y] at h;haveI d:=dU (h.trans<|show "fault" =cv [102,97,117,108,116] by decide);subst d;exact absurd (mw Y) (by decide+kernel)
  |none=>rw[Y] at h;haveI d:=dU (h.trans<|show("fault":Str)=cv [102,97,117,108,116] by decide);exact nomatch (show 1=5 from Wh List.length d)
end
section
open Hd
variable {s:Shared}
def GL (K:Frag) (f:Nat):Option FuncData:=match K.lookup (m8 Ow f) with|some o=>(match o.data with|.func fd=>some fd|_=>none)|none=>none
theorem QW (P:Params):jO.map (λp=>(GL (oB P) p.1).map λfd=>(fd.body,fd.scope))=jO.map (λp=>some (.stmts (dAt p.1).2.2,(dAt p.1).2.1)):=by kernel_rfl
theorem SB (h:z7 w s):(jO.all λp=>match GL (oB w.params) p.1 with|some fd=>TP (FX w s h) fd p.2|none=>false):=by kernel_rfl
set_option tactic.hygienic true in
theorem Oa (Y:z7 w s):∀f n,prog.get f=some n->∃fd b,E4 (FX w s Y) f n fd b/\∀D,1<=D->nE (FX w s Y) (eT<|FX w s Y) D fd.scope.names b n.body:=by
 intro f n h;have m:=KO f n h;have H:=dh (QW w.params) _ m;haveI c:=VU (SB Y) _ m;dsimp only at H c;cases q:GL _ f with
 |none=>rw[q] at H;cases H
 |some fd=>
  rw[q] at H c;simp only [a0W,a0X,Prod.mk.injEq] at H;haveI Q:=q;unfold GL at Q;split at Q
  .rename_i o O
   split at Q
   .rename_i e g
    cases Q;refine yu fd _ (JT O g H.1 c)  λD d=>?_;exact H.2▸(MK d<|Mt Y) (U8 d _ _ m)
   .cases Q
  .cases Q
end
section
open Hd
variable {s:Shared}
noncomputable def zh (c:Cl) (D:Nat):Prop:=∀(w:World) (s:Shared) (h:z7 w s),bP (FX w s h) (eT<|FX w s h) c D
theorem xL (h:z7 w s):s.heap.get? jA=some {cls:=.none,data:=.fields #[]}:=h _ _ (by kernel_rfl)
def Ng:cJ:=λn=>match n with|0=>some jA|_+1=>none
theorem QG (H:z7 w s):aG (FX w s H) [(0,.tab)] Ng s where
 keep:=λb o e=>by
  haveI e:(vU s.heap).get? b=some o:=e;rw[jS] at e;by_cases q:b=jA;.rw[Xb q] at e;cases e
  .rw[Xd q] at e;exact e
 cell:=λn c h=>by
  induction n with
  |zero=>obtain rfl:=W2 h;refine⟨jA,rfl,?_,rfl,#[],xL H,.inl rfl⟩;show(vU s.heap).get? jA=none;rw[jS,Xb rfl]
  |succ n=>cases h
 dom:=λn a h=>by
  induction n with
  |zero=>exact⟨.tab,rfl⟩
  |succ n=>cases h
 inj:=λn m a d f=>by
  induction n with
  |succ n=>cases d
  |zero=>induction m with
   |zero=>rfl
   |succ m=>cases f
 lt:=λn c h=>by
  induction n with
  |zero=>exact VZ
  |succ n=>cases h
theorem Ip (H:z7 w s) (X:bc eR s Ng d c) (R:aG (FX w s H) f c d) (t:ac f 0=some .tab):OldK s.heap d.heap:=by
 refine⟨λb o e=>?_,λb o e=>?_⟩
 .by_cases q:b=jA
  .subst q
   replace e:=(xL H).symm.trans e;obtain rfl:=W2 e;obtain⟨a,h,_,A,g,p,_⟩:=R.cell 0 _ t;have:c 0=some jA:=X.le 0 jA rfl;replace h:=this.symm.trans h;obtain rfl:=W2 h;refine .inr (.inl ⟨⟨397,_,_,H 397 _ (by kernel_rfl:(hN w.params).get? 397=some (oX "code" [Hd.s "without_dominated" 754,Hd.s "without_dominated" 755,Hd.s nQ 756,i 349,i 1,i 0,i 0,i 3,r 392,.bool true,i 181,r 393,vN,r 394,r 395,r 396,i 762,i 349,Hd.s nQ 763])),rfl,rfl,rfl⟩,rfl,#[],g,rfl,?_⟩);rw[p];simp
  .left
   haveI:(vU s.heap).get? b=some o:=by rw[jS,Xd q];exact e
   exact R.keep b o this
 .exact aI (X.there b o e) λO h U=>⟨O,h⟩
theorem CP (H:z7 w s) (h:(hN w.params).get? a=some o):s.heap.nsMap a=(hN w.params).nsMap a:=by
 funext n
 delta Heap.nsMap;exact qL h<|qL (H _ _ h) rfl
theorem IM (w:World):(hN w.params).get? mainGlobals=some (o3 w.params 75 "law_rg0150_01" 1120):=by kernel_rfl
theorem KZ (w:World):(hN w.params).nsMap mainGlobals (PySem.Str.ofString "law")=some (.ref 703):=by kernel_rfl
set_option maxHeartbeats 1000000 in
set_option tactic.hygienic true in
theorem O3 (hD:D<=100) (hS:zh cl D) (hrun:∀x:List Int,x.length<=63->∃f,cl 86 [.arr<|x.map V.int] [(0,.tab)]=.ok (.bool true) f/\ac f 0=some .tab):PySem.Challenge.rw_rg0150_01.Holds:=by
 refine holds_law Px λsaid=>?_;refine holds_open (d:=Sz) (kwd:=[]) (YP:=λw h=>∀b o,(hN w.params).get? b=some o->h.get? b=some o) left
  (λw s e b o g=>by rw[e];exact g) (λw h h' a k b o g=>k b o<|a b o g) (λs e=>xl_of s (VP e).1) XL.keeps (by kernel_rfl) (by kernel_rfl) (by kernel_rfl)
  (λs e=>recFacts_of (VP e).2) (by kernel_rfl) said (by kernel_rfl) Oh ⟨[.list []],by decide+kernel,by decide+kernel⟩ ?_
 intro w J c mg mb G Y fa o pm cd doc dV kV ho hd hcd hD' M hg t O as p H r q L;haveI m:fa=703:=by haveI u:=congrFun G.T.g.eq_nsMap<|PySem.Str.ofString "law";simp only [CP Y<|IM w,KZ] at u;have:=u.symm.trans M;cases this;rfl
 subst m
 wrow_args p H r q L
 rename_i x _ _ _ _ _ _ _ a vs _ hL _ hW _ y _ z _;refine aI (hrun x<|Int.ofNat_le.mp<|Int.not_lt.mp<|by assumption) λf he ht=>?_;have A:c.heap.get? a=some (bL vs 0):=by
  cases hW with
  |list g _=>obtain⟨o',l,c1,n,d1⟩:=hL;replace l:=g.symm.trans l;obtain rfl:=W2 l;cases d1;exact g
 haveI N:a≠jA:=λe=>by subst e;replace A:=(xL Y).symm.trans A;cases A
 haveI hB:(FX w c Y).B.get? a=some _:=by show(vU c.heap).get? a=_;rw[jS,Xd N];exact A
 refine xF (hS w c Y) hD he (QG Y) ⟨_,_,rfl,⟨a,vs,0,rfl,hB,by rw[y.length];exact Wk (Int.ofNat_le.mp<|Int.not_lt.mp<|by assumption)<|by decide,uw y⟩,rfl⟩ λv s' ρ' Q j i=>?_;haveI i:=i;subst i;refine G0 (.inl ⟨_,.bool true,[],rfl,λU=>rfl,.bool true,by kernel_rfl,λU=>⟨XG,λU h=>by cases h⟩⟩) (Ip Y j Q ht) j.os ?_;rw[j.gens];exact .of_eq hg
end
noncomputable def kI:Nc:=λU U U=>none
abbrev TN:=Nat->List V->Hp->R V->Prop
open Classical in
def nW (A:TN):Nc:=λf b H=>if h:∃r,A f b H r then some (choose h) else none
set_option tactic.hygienic true in
theorem na (e:nW A f b H=some r):A f b H r:=by
 delta nW at e;split at e;.rename_i h;cases e;exact Classical.choose_spec h
 .cases e
theorem uM (h:∃r,A f b H r):∃r,nW A f b H=some r:=by delta nW;rw[dif_pos h];exact⟨_,rfl⟩
theorem wB (h:∀r,¬A f b H r):nW A f b H=none:=by delta nW;rw[dif_neg λ⟨r,x⟩=>h r x]
abbrev lH (v:V):Bool:=jz (λU=>false) v
abbrev bV (l:List V):Bool:=dF (λU=>false) l
abbrev D5 (l:Sg):Bool:=BX (λU=>false) l
noncomputable def hp2 (f:Sg):Hp:=[(1,.ins 4 0),(0,.ns f)]
mutual
theorem iC {p q:Nat->Bool} (h:∀i,p i=true->q i=true):∀v:V,jz p v=true->jz q v=true
 |.non,_=>rfl
 |.bool _,_=>rfl
 |.int _,_=>rfl
 |.str _,_=>rfl
 |.tup l,e=>bU h l e
 |.ref n,e=>h n e
 |.rng _ _ _,_=>rfl
 |.arr l,e=>bU h l e
theorem bU {p q:Nat->Bool} (h:∀i,p i=true->q i=true):∀l:List V,dF p l=true->dF q l=true
 |[],_=>rfl
 |v::l,e=>by haveI e:(jz p v&&dF p l)=true:=e;rw[XR] at e;show(jz q v&&dF q l)=true;rw[iC h v e.1,bU h l e.2];rfl
end
mutual
theorem jq {p:Nat->Bool} {b c:Nat->Nat}:∀(v:V),(∀i,p i=true->b i=c i)->jz p v=true->dX b v=dX c v
 |.non,_,_=>rfl
 |.bool _,_,_=>rfl
 |.int _,_,_=>rfl
 |.str _,_,_=>rfl
 |.tup l,h,e=>Wh V.tup<|iY l h e
 |.ref n,h,e=>Wh V.ref<|h n e
 |.rng _ _ _,_,_=>rfl
 |.arr l,h,e=>Wh V.arr<|iY l h e
theorem iY {p:Nat->Bool} {b c:Nat->Nat}:∀(l:List V),(∀i,p i=true->b i=c i)->dF p l=true->eZ b l=eZ c l
 |[],_,_=>rfl
 |v::l,h,e=>by haveI e:(jz p v&&dF p l)=true:=e;rw[XR] at e;show dX b v::eZ b l=dX c v::eZ c l;rw[jq v h e.1,iY l h e.2]
end
theorem lN (h:∀i,p i->q i):∀l:Sg,BX p l->BX q l
 |[],_=>rfl
 |v::l,e=>by haveI e:(jz p v.2&&BX p l)=true:=e;simp only [XR] at e;show(jz q v.2&&BX q l)=true;rw[iC h v.2 e.1,lN h l e.2];rfl
theorem tI:∀(l:Sg) (b:Nat->Nat),D5 l->px b l=l
 |[],_,_=>rfl
 |v::l,b,e=>by haveI e:(jz (λU=>false) v.2&&BX (λU=>false) l)=true:=e;simp only [XR] at e;show(v.1,dX b v.2)::px b l=v::l;exact qL (mj v.2 b e.1)<|qL (tI l b e.2) rfl
theorem z5 (u:bP F x L D) (w:L f r []=.ok (.ref m) d) (O:bV r) (g:ac d m=some (.lst l)) (o:bV l)
  (t:rJ A D) (k:kC F A b s) (R:aG F H b s) (Y:aX F.B s.heap b r v):
  am F x eR (λQ E s=>codeAny (MF F) A (.call (.ref<|F.fn f) ⟨v,[]⟩) (rd Q E) s) (.ok (.ref<|ak H)<|(ak H,.lst l)::H) (jt F) s b:=by
 haveI p:=bn r id O;haveI N:ac H _=none:=by
  cases q:ac H _ with
  |none=>rfl
  |some c=>haveI:=R.lt _ _ q;exact((XM _) ‹_›).elim
 have G:ac ((ak H,aB.lst l)::H) (ak H)=some (.lst l):=by rw[aL,Xb rfl]
 have n:∀j,j≠ak H->ac ((ak H,aB.lst l)::H) j=ac H j:=λj h=>by rw[aL,Xd<|Xf h]
 haveI e:=jk (π1:=λU=>ak H) (H2:=(ak H,.lst l)::H) (σ:=λj=>if j=ak H then some m else none) u w  yo
  ⟨λU U h=>(by cases h),λi h=>?_,λj i h=>?_,λi h U=>?_,λj c h=>?_,λj h=>?_,λj c h=>?_⟩ O (by show Nat.beq m m=true;exact W9 m) t k R (qL p Y)
 .exact e
 .have:=W3 h
  subst this;refine bK _ g (bU (λU h=>by cases h) l o)
 .by_cases q:j=ak H
  .rw[Xb q] at h
   obtain rfl:=W2 h;exact G0 (W9 _) q.symm rfl<|q▸N
  .rw[Xd q] at h;cases h
 .haveI:=W3 h
  subst this;exact qL (Xb rfl) rfl
 .by_cases q:j=ak H
  .subst q
   obtain rfl:=W2<|G.symm.trans h;refine .inl ⟨m,_,W9 _,rfl,g,?_⟩;show aB.lst l=.lst _;exact qL (bn l _ o) rfl
  .rw[n j q] at h
   exact .inr ⟨h,λU U h=>by cases h⟩
 .by_cases q:j=ak H
  .subst q;exact⟨_,G⟩
  .rw[n j q]
   rcases h with h|⟨i,h⟩;.exact h
   .rw[Xd q] at h;cases h
 .show j<ak H+1
  by_cases q:j=ak H;.exact Nat.lt_succ_of_le (WX<|by assumption)
  .rw[n j q] at h
   haveI:=R.lt _ _ h;exact W0 ‹_›
theorem Ah (hc:bP F N O D) {l:Sg} {w:Hp} (G:ac H c=some (.ins 4 d)) (z:ac H d=some (.ns l)) (u:D5 l) (a:bV r)
  (he:O f (.ref 1::r) (hp2 l)=.ok v w) (L:ac w 1=some (.ins 4 0)) (M:ac w 0=some (.ns l)) (o:jz (λi=>Nat.beq i 1) v)
  (hA:rJ A D) (k:kC F A g s) (R:aG F H g s) (Y:aX F.B s.heap g (.ref c::r) m):
  am F N eR (λQ E s=>codeAny (MF F) A (.call (.ref<|F.fn f) ⟨m,[]⟩) (rd Q E) s) (.ok (dX (λU=>c) v) H) (jt F) s g:=by
 have J:c≠d:=λe=>by subst e;exact nomatch (G.symm.trans z)
 let b:Nat->Nat:=λi=>if i=1 then c else d;have two_some:∀{i x},ac (hp2 l) i=some x->(i=1/\x=.ins 4 0)\/(i=0/\x=.ns l):=λ{i x} h=>by
  delta hp2 at h;rw[aL] at h;by_cases q:1=i;.rw[Xb q] at h;cases h;exact .inl ⟨q.symm,rfl⟩
  .rw[Xd q,aL] at h
   by_cases n:0=i;.rw[Xb n] at h;cases h;exact .inr ⟨n.symm,rfl⟩
   .rw[Xd n] at h;cases h
 have hS:Sub H _ b:=⟨λi x h=>by
   rcases two_some h with⟨rfl,rfl⟩|⟨rfl,rfl⟩;.exact⟨G,rfl⟩
   .refine⟨?_,lN (λU h=>by cases h) l u⟩
    show ac H d=some (.ns _);rw[tI l b u];exact z,
  λi j x y h1 h2 e=>by
   rcases two_some h1 with⟨rfl,_⟩|⟨rfl,_⟩<;>rcases two_some h2 with⟨rfl,_⟩|⟨rfl,_⟩;.rfl
   .contradiction
   .exact(J e.symm).elim
   .rfl,
  λi x h=>by rcases two_some h with⟨rfl,_⟩|⟨rfl,_⟩<;>(show _<2;lia)⟩
 haveI e1:=bn r b a;haveI t:=jk (π1:=b) (p:=λi=>Nat.beq i 1||Nat.beq i 0) (σ:=λU=>none) hc he hS
  ⟨λi x h=>?_,λi h=>?_,λj i h=>(by cases h),λi h hn=>?_,λj x h=>?_,λj h=>?_,R.lt⟩
  (by show(jz (lu _) _&&dF (lu _) r)=true;rw[bU (λU h=>by cases h) r a];rfl)
  (iC (λi h=>by rw[h];rfl) v o) hA k R (by show aX F.B s.heap g (.ref (b 1)::eZ b r) m;rw[e1];exact Y)
 .rw[jq v (λi h=>by rw[W3 h];rfl:∀i,(λi=>Nat.beq i 1) i=true->b i=(λU=>c) i) o] at t
  exact t
 .rcases two_some h with⟨rfl,_⟩|⟨rfl,_⟩<;>exact⟨rfl,rfl⟩
 .simp only [a0Y] at h
  rcases h with h|h<;>haveI:=W3 h<;>subst this;.exact bK _ L rfl
  .exact bK _ M (lN (λU h=>by cases h) l u)
 .simp only [a0Y] at h
  rcases h with h|h<;>haveI:=W3 h<;>subst this<;>cases hn
 .by_cases q:j=c
  .subst q
   obtain rfl:=W2<|G.symm.trans h;exact .inl ⟨1,_,rfl,rfl,L,rfl⟩
  .by_cases n:j=d
   .subst n
    obtain rfl:=W2<|z.symm.trans h;refine .inl ⟨0,_,rfl,rfl,M,?_⟩;show aB.ns l=.ns _;exact qL (tI l b u) rfl
   .refine .inr ⟨h,λi x y=>?_⟩
    rcases two_some y with⟨rfl,_⟩|⟨rfl,_⟩;.exact Xf q
    .exact Xf n
 .rcases h with h|⟨i,h⟩
  .exact h
  .cases h
theorem xu (h:∀i,p i->b i=c i):∀l:List (V×V),wY p l->re b l=re c l:=by
 intro z;induction z with
 |nil=>exactλU=>rfl
 |cons q l H=>intro e;haveI e:(jz p q.2&&wY p l)=true:=e;simp only [XR] at e;show(q.1,dX b q.2)::re b l=(q.1,dX c q.2)::re c l;exact qL (jq q.2 h e.1)<|qL (H e.2) rfl
theorem wX (h:∀i,p i->b i=c i):∀l:Sg,BX p l->px b l=px c l:=by
 intro z;induction z with
 |nil=>exactλU=>rfl
 |cons q l H=>intro e;haveI e:(jz p q.2&&BX p l)=true:=e;simp only [XR] at e;show(q.1,dX b q.2)::px b l=(q.1,dX c q.2)::px c l;exact qL (jq q.2 h e.1)<|qL (H e.2) rfl
theorem xW (c:aB) (h:∀i,p i->b i=e i) (o:wt p c):kG b c=kG e c:=by
 induction c with
 |lst l=>exact Wh aB.lst<|iY l h o
 |dct l=>exact Wh aB.dct<|xu h l o
 |set l=>rfl
 |ins c d=>exact Wh _<|h d o
 |ns f=>exact Wh aB.ns<|wX h f o
 |tab=>rfl
noncomputable def eU (i:Nat) (s:List Nat):Nat->Option Nat:=s.rec (λU=>none) λk U h j=>if k=i then some j else h (j+1)
theorem lE:∀{s:List Nat} {j p:Nat},eU i s j=some p->j<=p/\s[p-j]?=some i:=@λz=>by
 induction z with
 |nil=>intro _ _ h;cases h
 |cons k s H=>
  intro j p h;replace h:(if k=i then some j else eU i s (j+1))=_:=h;by_cases q:k=i
  .rw[Xb q] at h;cases h
   subst q;exact⟨XA _,by rw[a0Q];rfl⟩
  .rw[Xd q] at h
   haveI c:=(H h).1;haveI b:=(H h).2;refine⟨by exact WO ‹_›,?_⟩;rw[rc<|by assumption];exact b
theorem rX:∀{s:List Nat} {j:Nat},i∈s->∃p,eU i s j=some p
 |k::s,j,h=>by
  show∃p,(if k=i then some j else eU i s (j+1))=some p;by_cases q:k=i;.rw[Xb q];exact⟨_,rfl⟩
  .rw[Xd q]
   exact(VO h).elim (λh=>(q h.symm).elim) λh=>rX h
theorem ij:∀{s:List Nat} {j m:Nat},s.Nodup->s[m]?=some i->eU i s j=some (j+m)
 |k::s,j,0,_,h=>by obtain rfl:=W2 h;exact Xb rfl
 |k::s,j,m+1,H,h=>by
  have H:=XB.mp H;show(if k=i then some j else eU i s (j+1))=_;refine qL (Xd (λe:k=i=>H.1<|e▸(a0Z h)))<|qL (ij H.2 h) ?_
  congr 1;exact WY _ _ _
def cL (H:Hp) (c:Nat->Nat) (b:Nat) (k:List Nat) (i:Nat):Nat:=match ac H i with
 |some _=>c i
 |none=>match eU i k 0 with|some p=>b+p|none=>0
def gF (h:Hp) (b:Nat->Nat):List Nat->Hp->Hp
 |[],H=>H
 |k::s,H=>gF h b s<|(ak H,kG b<|(ac h k).getD .tab)::H
theorem As:∀(s:List Nat) (H:Hp),ak (gF h b s H)=ak H+s.length:=by
 intro z;induction z with
 |nil=>exactλU=>rfl
 |cons k s i=>intro H;dsimp only [gF];simp only [i];show ak H+1+s.length=_;exact ZF▸(WY _ _ _)
theorem nC:∀(s:List Nat) (H:Hp) (j:Nat),j<ak H->ac (gF c b s H) j=ac H j:=by
 intro z;induction z with
 |nil=>exactλU U U=>rfl
 |cons k s i=>intro H j h;dsimp only [gF];rw[i _ j<|by show j<ak H+1;exact W0 ‹_›,aL,Xd<|by show ak H≠j;exact Za ‹_›]
theorem jL:∀(s:List Nat) (H:Hp) (m k:Nat),s[m]?=some k->ac (gF H1 ρ1 s H) (ak H+m)=some (kG ρ1<|(ac H1 k).getD .tab)
 |b::s,H,0,k,h=>by obtain rfl:=W2 h;dsimp only [gF];rw[nC s _ _<|by show ak H+0<ak H+1;exact XA _,aL,Xb<|by show ak H=ak H+0;rfl]
 |b::s,H,m+1,k,h=>by haveI:=jL (H1:=H1) (ρ1:=ρ1) s ((ak H,kG ρ1<|(ac H1 b).getD .tab)::H) m k h;rw[show ak _+m=ak H+(m+1) by show ak H+1+m=_;exact WY _ _ _] at this;exact this
theorem qU:∀(s:List Nat) (H:Hp) (j:Nat),(∀n c,ac H n=some c->n<ak H)->ak H+s.length<=j->ac (gF e d s H) j=none:=by
 intro z;induction z with
 |nil=>
  intro H j w h;cases q:ac H j with
  |none=>exact q
  |some c=>haveI:=w j c q;simp at h;exact absurd ‹_›<|Nat.not_lt.mpr ‹_›
 |cons k s i=>
  refineλH j w h=>i _ j (λn c b=>?_) (by show ak H+1+s.length<=j;exact Wk (WX<|WY _ 1 _) h)
  show n<ak H+1;rw[aL] at b;by_cases q:ak H=n;.lia
  .rw[Xd q] at b;haveI:=w n c b;exact W0 ‹_›
theorem vt (r:bP F Xc cl D) (S:Sub H m b) (he:cl f t m=.ok v0 v)
  (L:∀i c,ac m i=some c->ac v i=some c) (nd:l.Nodup) (w:∀k∈l,ac m k=none/\∃c,ac v k=some c)
  (okp:∀i c,ac v i=some c->(lu m i||(eU i l 0).isSome)->wt (λi=>lu m i||(eU i l 0).isSome) c) (M:dF (lu m) t) (okv:jz (λi=>lu m i||(eU i l 0).isSome) v0)
  (hA:rJ A D) (k:kC F A g s) (R:aG F H g s) (Y:aX F.B s.heap g (eZ b t) G):
  am F Xc eR (λQ E s=>codeAny (MF F) A (.call (.ref<|F.fn f) ⟨G,[]⟩) (rd Q E) s) (.ok (dX (cL m b (ak H) l) v0)<|gF v (cL m b (ak H) l) l H) (jt F) s g:=by
 have O:∀{i p},eU i l 0=some p->l[p]?=some i:=λh=>by haveI:=(lE h).2;rwa [a0R] at this
 haveI N:∀{i p},eU i l 0=some p->ac m i=none:=λh=>(w _<|a0Z<|O h).1;refine jk (σ:=λj=>if ak H<=j then l[j-ak H]? else none) r he S
  ⟨λi c h=>?_,λi h=>?_,λj i h=>?_,λi h J=>?_,λj c h=>?_,λj h=>?_,λj c h=>?_⟩ M okv hA k R Y
 .refine⟨by unfold cL;rw[h],by unfold lu;rw[h];rfl⟩
 .haveI d:∃c,ac v i=some c:=by
   simp only [a0Y] at h;rcases h with h|h;.obtain⟨c,r⟩:=iJ h;exact⟨c,L i c r⟩
   .obtain⟨p,o⟩:=VQ h
    exact(w i<|a0Z<|O o).2
  obtain⟨c,r⟩:=d;exact bK c r<|okp i c r h
 .by_cases q:ak H<=j
  .rw[Xb q] at h
   have o:=ij (j:=0) nd h;rw[a0I] at o;refine G0 (by rw[o];simp) ?_ (N o) ?_;.unfold cL;rw[N o,o];dsimp only;exact Wv q
   .cases e:ac H j with
    |none=>rfl
    |some c=>haveI:=R.lt j c e;exact absurd ‹_›<|Nat.not_lt.mpr ‹_›
  .rw[Xd q] at h;cases h
 .simp only [a0Y] at h
  rcases h with h|h;.unfold lu at h;rw[J] at h;cases h
  .obtain⟨p,o⟩:=VQ h
   haveI:cL m b _ l i=ak H+p:=by unfold cL;rw[J,o]
   rw[this,Xb<|Wp _ _,Ww];exact O o
 .by_cases q:j<ak H
  .rw[nC l H j q] at h
   by_cases z:∃i u,ac m i=some u/\b i=j
   .refine oi z λi u x q3_=>?_;subst q3_
    refine .inl ⟨i,u,by unfold lu;rw[x];rfl,by unfold cL;rw[x],L i u x,?_⟩;obtain⟨e,ok⟩:=S.cell i u x;obtain rfl:=W2<|h.symm.trans e;exact xW u (λn J=>by obtain⟨d,hd⟩:=iJ J;unfold cL;rw[hd]) ok
   .exact .inr ⟨h,λi u x e=>z ⟨i,u,x,e⟩⟩
  .by_cases n:j<ak H+l.length
   .haveI d:l[j-ak H]?=some (l[j-ak H]'(Nat.sub_lt_left_of_lt_add (Nat.not_lt.mp q) n)):=a00 _
    haveI y:=jL (H1:=v) (ρ1:=cL m b (ak H) l) l H _ _ d;rw[Wv<|Nat.not_lt.mp q] at y;obtain rfl:=W2<|y.symm.trans h;obtain⟨u,c,r⟩:=w _<|a0Z d;haveI o:=ij (j:=0) nd d;rw[a0I] at o;refine .inl ⟨_,c,by rw[o];simp,?_,r,by rw[r];rfl⟩;unfold cL;rw[u,o];exact Wv<|Nat.not_lt.mp q
   .exact absurd ((qU l H j R.lt<|Nat.not_lt.mp n).symm.trans h) nofun
 .rcases h with⟨c,r⟩|⟨i,h⟩
  .exact⟨c,by rw[nC l H j<|R.lt j c r];exact r⟩
  .by_cases q:ak H<=j
   .rw[Xb q] at h
    haveI y:=jL (H1:=v) (ρ1:=cL m b (ak H) l) l H _ _ h;rw[Wv q] at y;exact⟨_,y⟩
   .rw[Xd q] at h;cases h
 .rw[As]
  by_cases q:j<ak H+l.length;.exact q
  .exact nomatch ((qU l H j R.lt<|Nat.not_lt.mp q).symm.trans h)
noncomputable def fN:List (List Nat):=[[97,110,100],[111,114],[120,111,114],[110,97,110,100],[110,111,114],[120,110,111,114]]
structure eF where
 ks:List (List Nat)
 tw:Bool
noncomputable def tW (t:Bool):List V:=match t with|true=>[.int 2,.int 2]|false=>[.int 2,.int 3]
def iu (t:Bool):Nat->List (List Nat)->List V
 |_,[]=>[]
 |n,k::s=>.tup [.str k,.int<|.ofNat n,.tup<|tW t,.non]::iu t (n+1) s
noncomputable def l6:Nat->List (List Nat)->List V
 |_,[]=>[]
 |n,_::k=>.int (.ofNat n)::l6 (n+1) k
def da (c:eF):Hp:=[(7,.ins 2 6),(6,.ns [(9,.str [103,97,116,101,115]),(10,.int<|.ofNat<|4+c.ks.length),(11,.ref 5),(12,.ref 4),(13,.ref 3)]),
 (5,.lst [.tup [.str [97],.ref 1]]),(4,.lst [.tup [.str [121],.ref 2]]),(3,.lst<|iu c.tw 4 c.ks),(2,.lst<|l6 4 c.ks),(1,.lst [.int 2,.int 3]),(0,.tab)]
noncomputable abbrev iQ:=List<|Option<|Nat×Nat
noncomputable def Fu (p:Nat×Nat):iQ->Nat->Option Nat
 |[],_=>none
 |o::l,i=>match o with
  |some q=>(match Nat.beq p.1 q.1&&Nat.beq p.2 q.2 with|true=>some i|false=>Fu p l<|i+1)
  |none=>Fu p l<|i+1
noncomputable def pD (l:Nat):Nat:=Nat.xor l 1
def Jx (n:iQ) (l r:Nat):iQ×Nat:=match Nat.beq l 0||Nat.beq l (pD r) with
 |true=>(n,0)
 |false=>match Nat.beq l 1||Nat.beq l r with
  |true=>(n,r)
  |false=>match Fu (l,r) n 0 with
   |some i=>(n,2*i)
   |none=>(n++[some (l,r)],2*n.length)
def zi (n:iQ) (l r:Nat):iQ×Nat:=match Nat.blt r l with|true=>Jx n r l|false=>Jx n l r
def Pt (n:iQ) (l r:Nat):iQ×Nat:=let p:=zi n (pD l)<|pD r;(p.1,pD p.2)
def O0 (n:iQ) (l r:Nat):iQ×Nat:=let a:=zi n l<|pD r;let b:=zi a.1 (pD l) r;Pt b.1 a.2 b.2
def seqs (k:List Nat):List (List Nat)->Bool
 |[]=>false
 |x::l=>seq k x||seqs k l
def Pd (k:List Nat):Bool:=seqs k [[97,110,100],[110,97,110,100]]
def SM (k:List Nat):Bool:=seqs k [[111,114],[110,111,114]]
def Nj (k:List Nat):Bool:=seqs k [[110,97,110,100],[110,111,114],[120,110,111,114]]
def Ni (k:List Nat) (n:iQ) (l r:Nat):iQ×Nat:=
 let p:=match Pd k with|true=>zi n l r|false=>match SM k with|true=>Pt n l r|false=>O0 n l r
 match Nj k with|true=>(p.1,pD p.2)|false=>p
def Ps (t:Bool) (n:iQ):List (List Nat)->iQ×List Nat
 |[]=>(n,[])
 |k::s=>let p:=Ni k n 2<|match t with|true=>2|false=>4;let q:=Ps t p.1 s;(q.1,p.2::q.2)
def Nk (c:eF):iQ×List Nat:=Ps c.tw [none,none,none] c.ks
noncomputable def bl (l:List Nat):List V:=l.map λn=>.int<|.ofNat n
noncomputable def JQ (o:Option<|Nat×Nat):V:=match o with|none=>.non|some p=>.tup [.int<|.ofNat p.1,.int<|.ofNat p.2]
noncomputable def rv:iQ->Nat->List (V×V)
 |[],_=>[]
 |o::l,i=>match o with|none=>rv l (i+1)|some p=>(.tup [.int<|.ofNat p.1,.int<|.ofNat p.2],.int<|.ofNat i)::rv l (i+1)
noncomputable def wp (n i o t:Nat):Sg:=[(37,.ref n),(11,.ref i),(12,.ref o),(38,.ref t)]
structure pq where
 ns:iQ
 outs:List Nat
def pq.H (a:pq):Hp:=[(6,.ins 3 5),(5,.ns<|wp 4 3 2 1),(4,.lst<|a.ns.map JQ),(3,.lst [.int 1,.int 2]),(2,.lst<|bl a.outs),(1,.dct<|rv a.ns 0),(0,.tab)]
def eF.aig (c:eF):pq:=⟨(Nk c).1,(Nk c).2⟩
noncomputable def Jz (l:Nat) (t:Nat):Nat:=match Nat.beq (l%2) 1 with|true=>15-t|false=>t
def JM (l r:Nat):Nat:=Nat.land (Jz l 10)<|Jz r 12
def cy (o:Option<|Nat×Nat):List (List Nat×Nat):=match o with
 |none=>[]
 |some p=>match Nat.blt (p.1/2) 3 with
  |true=>[([p.1/2,p.2/2],JM p.1 p.2)]
  |false=>[([1,2],9),([p.1/2,p.2/2],JM p.1 p.2)]
def xx (i:Nat) (o:Option<|Nat×Nat):List (List Nat):=match Nat.beq i 0 with|true=>[[]]|false=>(cy o).map (·.1)++[[i]]
def fT:iQ->Nat->List (List<|List Nat)
 |[],_=>[]
 |o::l,i=>xx i o::fT l (i+1)
def bw:List eF:=[false,true].flatMap λt=>(fN.map λk=>⟨[k],t⟩)++fN.flatMap λk=>fN.map λb=>⟨[k,b],t⟩
noncomputable def kind (f:Nat):Nat:=match f with|38=>1|42=>1|53=>1|76=>1|78=>1|80=>1|41=>2|75=>2|58=>3|59=>3|12=>4|26=>4|31=>4|39=>4|48=>4|51=>4|_=>0
inductive Ou (k:List Nat):Hp->List V->V->Hp->List Nat->Prop
 |mk {c:eF} {v:V} {H1:Hp} (m:c∈bw):Ou k (da c) [.ref 7] v H1 k
inductive Tw:Hp->List V->V->Hp->List Nat->Prop
 |mk {c:eF} {v:V} {H1:Hp} (m:c∈bw):Tw c.aig.H [.ref 6] v H1 [8]
inductive QU:Hp->List V->V->Hp->List Nat->Prop
 |mk {c:eF} {m:Nat} {rs:List Nat} {H1:Hp} (mm:c∈bw) (g:ac H1 m=some (.lst<|rs.map V.ref)):QU c.aig.H [.ref 6,.int 2,.int 4] (.ref m) H1 (m::rs)
inductive P4:Hp->List V->V->Hp->List Nat->Prop
 |mk {c:eF} {n:Nat} {cut:List Nat} {v:V} {H1:Hp} (m:c∈bw):P4 c.aig.H [.ref 6,.int<|.ofNat n,.tup<|bl cut] v H1 []
inductive Tm:Hp->List V->V->Hp->List Nat->Prop
 |mk {t:Int} {v:V} {H1:Hp}:Tm [] [.int t,.int 2] v H1 [0]
noncomputable def EC (f:Nat):Hp->List V->V->Hp->List Nat->Prop:=cond (Nat.beq f 31) (Ou [8,9,10,11,12,13])<|cond (Nat.beq f 12) (Ou [8])<|cond (Nat.beq f 26) Tw<|cond (Nat.beq f 48) QU<|cond (Nat.beq f 51) P4<|cond (Nat.beq f 39) Tm λU U U U U=>False
structure gY (f:Nat) (H0:Hp) (args0:List V) (v0:V) (H1:Hp) (ks:List Nat):Prop where
 e:run prog kI 30 f args0 H0=.ok v0 H1
 old:∀i c,ac H0 i=some c->ac H1 i=some c
 nd:ks.Nodup
 new:∀k∈ks,ac H0 k=none/\∃c,ac H1 k=some c
 okp:∀i c,ac H1 i=some c->(lu H0 i||(eU i ks 0).isSome)=true->wt (λi=>lu H0 i||(eU i ks 0).isSome) c=true
 oka:dF (lu H0) args0=true
 okv:jz (λi=>lu H0 i||(eU i ks 0).isSome) v0=true
inductive FE (f:Nat) (args:List V) (H:Hp):R V->Prop
 |mk {H':Hp} {v:V} (a:bV args=true) (e:run prog kI 30 f args []=.ok v H') (o:lH v=true):FE f args H (.ok v H)
inductive zZ (f:Nat) (args:List V) (H:Hp):R V->Prop
 |mk {H':Hp} {m:Nat} {l:List V} (a:bV args=true) (e:run prog kI 30 f args []=.ok (.ref m) H') (g:ac H' m=some (.lst l)) (o:bV l=true):zZ f args H (.ok (.ref<|ak H)<|(ak H,.lst l)::H)
inductive DH (f:Nat) (H:Hp):List V->R V->Prop
 |mk {rest:List V} {H':Hp} {c d:Nat} {fs:Sg} {v:V} (g1:ac H c=some (.ins 4 d)) (g2:ac H d=some (.ns fs)) (af:D5 fs=true) (a:bV rest=true)
   (e:run prog kI 30 f (.ref 1::rest) (hp2 fs)=.ok v H') (b1:ac H' 1=some (.ins 4 0)) (b2:ac H' 0=some (.ns fs)) (o:jz (λi=>Nat.beq i 1) v=true):DH f H (.ref c::rest) (.ok (dX (λU=>c) v) H)
inductive MP (f:Nat) (args:List V) (H:Hp):R V->Prop
 |mk {H0 H1:Hp} {args0:List V} {v0:V} {ks:List Nat} {π:Nat->Nat} (sh:EC f H0 args0 v0 H1 ks) (S:Sub H H0 π) (R:gY f H0 args0 v0 H1 ks) (ea:args=eZ π args0):
   MP f args H (.ok (dX (cL H0 π (ak H) ks) v0)<|gF H1 (cL H0 π (ak H) ks) ks H)
noncomputable def Iv (k:Nat) (p l c r:Prop):Prop:=cond (Nat.beq k 1) p<|cond (Nat.beq k 2) l<|cond (Nat.beq k 3) c<|cond (Nat.beq k 4) r False
theorem y4 {P:Prop} {b:Prop} {k n:Nat} (h:cond (Nat.beq k n) a b) (H:k=n->a->P) (c:b->P):P:=by
 cases q:Nat.beq k n with
 |true=>rw[q] at h;exact H (W3 q) h
 |false=>rw[q] at h;exact c h
theorem vT {P:Prop} (h:Iv k p l c r) (b:k=1->p->P) (L:k=2->l->P) (H:k=3->c->P) (d:k=4->r->P):P:=
 y4 h b λh=>y4 h L λh=>y4 h H λh=>y4 h d False.elim
def pH:TN:=λf A H r=>Iv (kind f) (FE f A H r) (zZ f A H r) (DH f H A r)<|MP f A H r
theorem fS (e:k=n) (h:Iv n p l c r):Iv k p l c r:=e▸h
noncomputable def Pz (r:R V):V:=r.casesOn (λv U=>v) (λv U=>v) λU=>.non
noncomputable def Vk (r:R V):Hp:=r.casesOn (λU h=>h) (λU h=>h) λU=>[]
def UX (H:Hp) (v:V):List V:=(v.ref?.bind λn=>(ac H n).bind aB.lst?).getD []
noncomputable def QI (A:List V):Nat:=(A.head?.bind V.ref?).getD 0
def Uh (H:Hp) (c:Nat):Sg:=((Bp H<|.ref c).getD (0,[])).2
theorem FE.eq (x:FE f A H r):r=.ok (Pz<|run prog kI 30 f A []) H:=by induction x with|mk a e o=>simp only [e];rfl
theorem zZ.eq (x:zZ f A H r):r=.ok (.ref<|ak H) ((ak H,.lst<|UX (Vk<|run prog kI 30 f A [])<|Pz<|run prog kI 30 f A [])::H):=by induction x with|mk a e g o=>simp only [e];exact Wh (λo:Option aB=>R.ok (V.ref _)<|(ak H,aB.lst<|(o.bind aB.lst?).getD [])::H) g.symm
theorem DH.eq (x:DH f H A r):r=.ok (dX (λU=>QI A)<|Pz<|run prog kI 30 f (.ref 1::A.tail)<|hp2<|Uh H<|QI A) H:=by
 induction x with
 |@mk h _ c d j _ G p u a e y D o=>
  haveI q:Uh H (QI<|.ref c::h)=j:=by show(((ac H c).bind _).getD (0,[])).2=j;simp only [G];show(((ac H d).bind _).getD (0,[])).2=j;simp only [p];rfl
  simp only [q];exact Wh (λr=>R.ok (dX (λU=>c)<|Pz r) H) e.symm
theorem pH.uniq (N:kind f≠4) (x:pH f A H r) (y:pH f A H h):r=h:=
 vT x (λk x=>x.eq.trans (FE.eq<|fS k.symm y).symm) (λk x=>x.eq.trans (zZ.eq<|fS k.symm y).symm) (λk x=>x.eq.trans (DH.eq<|fS k.symm y).symm) λk=>(N k).elim
theorem pH.none (k:kind f=0):∀r,¬pH f A H r:=λr x=>fS k.symm x
def AL:Nc:=nW pH
theorem ax (k:kind f=0):AL f A H=none:=wB<|pH.none k
theorem m7 (n:kind f≠4) (h:pH f A H r):AL f A H=some r:=by obtain⟨b,e⟩:=uM ⟨r,h⟩;show nW pH f A H=some r;exact qL e<|qL (pH.uniq n (na e) h) rfl
noncomputable def Cr (o:Nc) (m:Nat):Prop:=∀(w:World) (c:Shared) (h:z7 w c) D f d v H s b A r,m<=D->o f d H=some r->rJ A (D+1)->kC (FX w c h) A b s->aG (FX w c h) H b s->aX (FX w c h).B s.heap b d v->
 am (FX w c h) (eT<|FX w c h) eR (λQ E s=>codeAny (MF<|FX w c h) A (.call (.ref<|(FX w c h).fn f) ⟨v,[]⟩) (rd Q E) s) r (jt<|FX w c h) s b
theorem nT (M:1<=m) (O:Cr o m) (n:Nat):zh (run prog o n) (n+m):=λw k Y=>Bt Kb (λf N h=>by refine oi (Oa Y f N h) λfd b T H=>?_;exact yu fd b T  λD d=>H D<|Wk M d) (λD f c v H s b A r h d e g i j=>O w k Y D f c v H s b A r h d e g i j) n
theorem KW:Cr kI 1:=λU U U U U U U U U U U U U h=>by cases h
theorem kj:zh (run prog kI 30) 31:=nT (XA 1) KW 30
set_option tactic.hygienic true in
theorem Ik:Cr AL 30:=by
 intro w c y D f d v H s b A r t e q k R Y;have h:=q.le<|a0e ‹_›;have x:=na e;clear e;refine vT x (λU x=>?_) (λU x=>?_) (λU x=>?_) λU x=>?_<;>cases x;.rename_i a e o;exact zX (kj w c y) e a o h k R Y
 .rename_i a e g o;exact z5 (kj w c y) e a g o h k R Y
 .rename_i n p i a e j l o;exact Ah (kj w c y) n p i a e j l o h k R Y
 .rename_i u S G m;subst m;exact vt (kj w c y) S G.e G.old G.nd G.new G.okp G.oka G.okv h k R Y
abbrev bG (n:Nat):Cl:=run prog AL n
theorem Bk (n:Nat):zh (bG n) (n+30):=nT (by decide) Ik n
noncomputable def W {b:Type} (r:R b) (Q:b->Hp->Prop) (X:V->Hp->Prop):Prop:=match r with|.ok a h=>Q a h|.ex x h=>X x h|.no _=>False
noncomputable def WC (r:R Bool) (T F:Hp->Prop) (X:V->Hp->Prop):Prop:=W r (λb H=>match b with|true=>T H|false=>F H) X
noncomputable def WS (r:R<|Fl×Sg) (N B C:Sg->Hp->Prop) (T:V->Hp->Prop) (X:V->Hp->Prop):Prop:=
 W r (λp H=>match p.1 with|.next=>N p.2 H|.brk=>B p.2 H|.cont=>C p.2 H|.ret v=>T v H) X
section
variable (c:Cl) (b:Sg) (Q:V->Hp->Prop) (q:List V->Hp->Prop) (X:V->Hp->Prop) (T F:Hp->Prop)
noncomputable abbrev OR (o:Op) (x:V):V->Hp->Prop:=λy H=>W (ym o x y H) Q X
noncomputable abbrev Tq (o:Op) (d:E):V->Hp->Prop:=λx H=>W (d c b H) (OR Q X o x) X
noncomputable abbrev Tz:V->Hp->Prop:=λx H=>W (JZ x H) Q X
noncomputable abbrev Ph:Bool->Hp->Prop:=λr H=>Q (.bool r) H
noncomputable abbrev NQ (o:Cm) (x:V):V->Hp->Prop:=λy H=>W (rI o x y H) (Ph Q) X
noncomputable abbrev Tb (o:Cm) (d:E):V->Hp->Prop:=λx H=>W (d c b H) (NQ Q X o x) X
noncomputable abbrev kE (a:E):Hp->Prop:=λH=>W (a c b H) Q X
noncomputable abbrev N8 (f:Nat):V->Hp->Prop:=λx H=>W (getAttr x f H) Q X
noncomputable abbrev Pi (a:V):V->Hp->Prop:=λi H=>W (getItem a i H) Q X
noncomputable abbrev RQ (i:E):V->Hp->Prop:=λa H=>W (i c b H) (Pi Q X a) X
noncomputable abbrev LF (v:V):List V->Hp->Prop:=λs H=>q (v::s) H
noncomputable abbrev Oj (l:List E):V->Hp->Prop:=λv H=>W (lQ l c b H) (LF q v) X
noncomputable abbrev SY:List V->Hp->Prop:=λv H=>W (ow v H) Q X
noncomputable abbrev Ru:List V->Hp->Prop:=λv H=>W (fU v H) Q X
noncomputable abbrev Ml (f:Nat):List V->Hp->Prop:=λv H=>W (c f v H) Q X
noncomputable abbrev LC (d:Bi):List V->Hp->Prop:=λv H=>W (cM d v H) Q X
noncomputable abbrev UB (t:Tg) (a:V):List V->Hp->Prop:=λv H=>W (ug c t a v H) Q X
noncomputable abbrev tE (mt:MT) (m:Nat) (l:List E):V->Hp->Prop:=λa H=>∃t,target mt a m H=some t/\W (lQ l c b H) (UB c Q X t a) X
noncomputable abbrev VK (f n:Nat):List V->Hp->Prop:=λv H=>W (c f (.ref n::v) H) Q X
noncomputable abbrev PQ (m:Me) (n:Nat):V->Hp->Prop:=λy H=>W (pk m (.ref n) [y] H) Q X
noncomputable abbrev NP:List V->Hp->Prop:=λv H=>W (ro 91 (qJ v) λp=>HO (jx p) H) Q X
noncomputable abbrev Ki (d:Nat):List V->Hp->Prop:=λv H=>W (ro 102 (zF d v) λx=>.ex x H) (λ(_:V) _=>False) X
noncomputable abbrev QN (d f:Nat):List V->Hp->Prop:=λv H=>W (wb d f c v H) Q X
noncomputable abbrev Lm (o:Cm) (x:V):V->Hp->Prop:=λy H=>WC (rI o x y H) T F X
noncomputable abbrev N9 (o:Cm) (d:E):V->Hp->Prop:=λx H=>W (d c b H) (Lm X T F o x) X
noncomputable abbrev LE:V->Hp->Prop:=λv H=>WC (jl v H) T F X
noncomputable abbrev Rc (l:List C):Hp->Prop:=λH=>WC (gX l c b H) T F X
noncomputable abbrev UQ (l:List C):Hp->Prop:=λH=>WC (oG l c b H) T F X
end
section
variable (c:Cl) (b:Sg) (N B d:Sg->Hp->Prop) (T:V->Hp->Prop) (X:V->Hp->Prop)
noncomputable abbrev Sf (l:List S):Sg->Hp->Prop:=λb H=>WS (ad l c b H) N B d T X
noncomputable abbrev Tx (t:PT):V->Hp->Prop:=λv H=>WS (ue t b v H) N B d T X
noncomputable abbrev kS (a:S):Hp->Prop:=λH=>WS (a c b H) N B d T X
noncomputable abbrev Ub:Unit->Hp->Prop:=λU H=>N b H
noncomputable abbrev Qs (x:Nat):V->Hp->Prop:=λr H=>N (put b x r) H
noncomputable abbrev Tf (x:Nat) (o:Op) (a:V):V->Hp->Prop:=λc H=>W (x5 o a c H) (Qs b N x) X
noncomputable abbrev Jb:V->Hp->Prop:=λv H=>v=.non/\N b H
noncomputable abbrev Kg (f:Nat) (v:V):V->Hp->Prop:=λo H=>W (setAttr o f v H) (Ub b N) X
noncomputable abbrev Nm (o:E) (f:Nat):V->Hp->Prop:=λv H=>W (o c b H) (Kg b N X f v) X
noncomputable abbrev Ly (o v:V):V->Hp->Prop:=λi H=>W (setItem o i v H) (Ub b N) X
noncomputable abbrev J9 (i:E) (v:V):V->Hp->Prop:=λo H=>W (i c b H) (Ly b N X o v) X
noncomputable abbrev OZ (o i:E):V->Hp->Prop:=λv H=>W (o c b H) (J9 c b N X i v) X
noncomputable abbrev RY (t:PT) (e:S):V->Hp->Prop:=λv H=>WS (jB t e v c cS 0 b H) N B d T X
noncomputable abbrev LD (Q:V->Hp->Prop):Sg->Hp->Prop:=λU H=>Q .non H
end
section
theorem W.mono (h:W r Q X) (p:∀a h,Q a h->q a h) (j:∀a h,X a h->x a h):W r q x:=by cases r<;>first|exact p _ _ h|exact j _ _ h|exact h.elim
theorem W.imp (h:W r Q X) (j:∀a h,Q a h->q a h):W r q X:=h.mono j λU U h=>h
theorem W.bind (h:W r (λa h=>W (f a h) Q X) X):W (r.bind f) Q X:=by cases r<;>exact h
theorem W.bind0 (h:W r (λa h=>W (f a h) Q X)  λU U=>False):W (r.bind0 f) Q X:=by cases r<;>first|exact h|exact h.elim
theorem W.eq (e:r=.ok a H) (h:Q a H):W r Q X:=e▸h
theorem W.lift (e:o=some a) (h:Q a H):W (Internal.lift w o H) Q X:=by exact e▸h
theorem W.got (h:W r Q λU U=>False):∃a H,r=.ok a H/\Q a H:=by cases r<;>first|exact yu _ _ rfl h|exact False.elim h
end
theorem UE {c d:Sort _} {A e f g h i j k:c->d->Prop} (x:c) (b:d) (h0:A x b) (H:e x b) (l:f x b) (m:g x b) (n:h x b) (o:i x b) (p:j x b) (q:k x b):∃x b,A x b/\e x b/\f x b/\g x b/\h x b/\i x b/\j x b/\k x b:=⟨x,b,h0,H,l,m,n,o,p,q⟩
theorem T7 {c d:Sort _} {A e f g i j l m:c->d->Prop} {R:Prop} (h:∃x b,A x b/\e x b/\f x b/\g x b/\i x b/\j x b/\l x b/\m x b) (k:∀x b,A x b->e x b->f x b->g x b->i x b->j x b->l x b->m x b->R):R:=h.elim λx h=>h.elim λb h=>k x b h.1 h.2.1 h.2.2.1 h.2.2.2.1 h.2.2.2.2.1 h.2.2.2.2.2.1 h.2.2.2.2.2.2.1 h.2.2.2.2.2.2.2
theorem Vv {f g i j l:Sort _} {A m n o p q:f->g->i->j->l->Prop} {R:Prop} (h:∃x b c d e,A x b c d e/\m x b c d e/\n x b c d e/\o x b c d e/\p x b c d e/\q x b c d e) (k:∀x b c d e,A x b c d e->m x b c d e->n x b c d e->o x b c d e->p x b c d e->q x b c d e->R):R:=h.elim λx h=>h.elim λb h=>h.elim λc h=>h.elim λd h=>h.elim λe h=>k x b c d e h.1 h.2.1 h.2.2.1 h.2.2.2.1 h.2.2.2.2.1 h.2.2.2.2.2
theorem T4 {d e f:Sort _} {A g i j l m n o:d->e->f->Prop} {R:Prop} (h:∃x b c,A x b c/\g x b c/\i x b c/\j x b c/\l x b c/\m x b c/\n x b c/\o x b c) (k:∀x b c,A x b c->g x b c->i x b c->j x b c->l x b c->m x b c->n x b c->o x b c->R):R:=h.elim λx h=>h.elim λb h=>h.elim λc h=>k x b c h.1 h.2.1 h.2.2.1 h.2.2.2.1 h.2.2.2.2.1 h.2.2.2.2.2.1 h.2.2.2.2.2.2.1 h.2.2.2.2.2.2.2
section
theorem Jj (h:Q v H):W (eK v c b H) Q X:=h
theorem aO (e:look b x=some v) (h:Q v H):W (ab x c b H) Q X:=W.lift e h
theorem Pm (h:W (a l c H) (Tq l c Q X o b) X):W (ap o a b l c H) Q X:=
 W.bind (h.imp λU U h=>W.bind h)
theorem gh (e:js o x y=some z) (h:Q (.int z) H):W (ym o (.int x) (.int y) H) Q X:=by show W (Internal.lift 2 ((js o x y).map V.int) H) Q X;exact e▸h
theorem vD (h:W (a c b H) (Tz Q X) X):W (mR a c b H) Q X:=W.bind h
theorem QB (h:W (a l c H) (Tb l c Q X o b) X):W (jI o a b l c H) Q X:=
 W.bind (W.bind<|h.imp λU U h=>W.bind h)
theorem Jl (h:WC (c l d H) (kE l d Q X a) (kE l d Q X b) X):W (ta c a b l d H) Q X:=
 W.bind (W.imp h λr U h=>by cases r<;>exact h)
theorem wM (h:W (a c b H) (N8 Q X f) X):W (al a f c b H) Q X:=W.bind h
theorem Jr (h:ac H n=some (.ins c d)) (b:ac H d=some (.ns f)):Bp H (.ref n)=some (d,f):=by show(ac H n).bind _=_;rw[h];show(ac H d).bind _=_;rw[b];rfl
theorem kZ (h:ac H n=some (.lst l)):im H (.ref n)=some l:=Wh (·.bind aB.lst?) h
theorem pO (h:ac H n=some c):gW H (.ref n) i=So i c:=Wh (·.bind (So i)) h
theorem Jy (h:ac H n=some c):NF H (.ref n)=JU c:=Wh (·.bind JU) h
theorem CM (h:ac H n=some c):Ja H i (.ref n)=Qv i c:=Wh (·.bind (Qv i)) h
theorem xR {mt:MT} (h:ac H n=some (.lst l)):target mt (.ref n) m H=(yf m).bind λk=>cond k.get? none (some<|.me k):=by show(ac H n).bind _=_;rw[h];rfl
theorem wQ (h:ac H n=some (.lst l)):pk m (.ref n) A H=ro 60 (JC m l A H) λp=>.ok p.1 (bj H n<|.lst p.2):=by show ro 62 _ _=_;simp only [h];rfl
theorem qS (h:ac H a=some (.lst l)) (k:ac H b=some (.lst m)):Mr H (.ref a) (.ref b)=ot l m:=by unfold Mr;rw[kZ h,kZ k];rfl
theorem B6 (h:jE l):Gm v l=some (v,l):=by unfold Gm;rw[h];rfl
theorem bJ (b:ac H n=some (.ins c d)) (e:ac H d=some (.ns s)) (g:look s f=some v) (h:Q v H):W (getAttr (.ref n) f H) Q X:=
 W.lift ((Jr b e)▸g) h
theorem Om (h:W (a c b H) (RQ c b Q X i) X):W (aq a i c b H) Q X:=
 W.bind (h.imp λU U h=>W.bind h)
theorem az (e:gW H a i=some v) (h:Q v H):W (getItem a i H) Q X:=W.lift e h
theorem lY {Q:List V->Hp->Prop} (h:Q [] H):W (lQ [] c b H) Q X:=h
theorem lK {Q:List V->Hp->Prop} (h:W (a c b H) (Oj c b Q X l) X):W (lQ (a::l) c b H) Q X:=
 W.bind (h.imp λU U h=>W.bind h)
theorem Dx (e:jE l) (h:Q (.tup l) H):W (ow l H) Q X:=by unfold ow;exact e▸h
theorem T8 (h:W (lQ l c b H) (SY Q X) X):W (bq l c b H) Q X:=W.bind h
theorem T2 (h:W (lQ l c b H) (Ru Q X) X):W (aT l c b H) Q X:=W.bind h
theorem Hi (h:W (lQ l c b H) (Ml c Q X f) X):W (ag f l c b H) Q X:=W.bind h
theorem PE (h:W (lQ l L c H) (LC Q X b) X):W (ah b l L c H) Q X:=W.bind h
theorem aF {mt:MT} (h:W (a c b H) (tE c b Q X mt m l) X):W (aj mt a m l c b H) Q X:=
 W.bind (h.imp λa U h=>by refine aI h λt e h=>?_;exact e▸(W.bind h))
theorem mc (h:W (lQ l L b H) (QN L Q X c f) X):W (mF c f l L b H) Q X:=W.bind h
theorem fF {mt:MT} (e:ac H n=some (.ins c d)) (g:ac H d=some (.ns s)) (i:look s m=none) (j:pQ mt c m=some f) (h:W (lQ l L b H) (VK L Q X f n) X):tE L b Q X mt m l (.ref n) H:=by refine bK (.fn f) ?_ h;show(ac H n).bind _=_;simp only [e];show(ac H d).bind _=_;simp only [g];show@Option.casesOn V (λU=>Option Tg) _ _ _=_;simp only [i];show(pQ mt c m).map _=_;simp only [j];rfl
theorem eL {mt:MT} (e:ac H n=some (.lst l)) (h:W (x c b H) (PQ Q X .append n) X):tE c b Q X mt 0 [x] (.ref n) H:=bK _ (xR e)<|lK h
theorem CK {mt:MT} (e:ac H n=some (.lst l)) (h:W (x c b H) (PQ Q X .extend n) X):tE c b Q X mt 1 [x] (.ref n) H:=bK _ (xR e)<|lK h
theorem zm {l:List V} (h:l.length<100000):jE l:=(a0T).mpr h
theorem eC (e:ac H n=some (.lst l)) (h:l.length<99999) (q:Q .non<|bj H n<|.lst<|l++[y]):PQ Q X .append n y H:=by refine W.eq ?_ q;rw[wQ e];show ro 60 (Gm .non _) _=_;rw[B6<|zm<|by rw[Yb];exact a0e h];rfl
theorem Db (e:ac H n=some (.lst l)) (b:eO H y=some L) (h:(l++L).length<99999) (q:Q .non<|bj H n<|.lst<|l++L):PQ Q X .extend n y H:=by refine W.eq ?_ q;refine .trans (wQ e) ?_;show ro 60 ((eO H y).bind λx=>Gm .non _) _=_;rw[b];show ro 60 (Gm .non _) _=_;rw[B6<|zm<|W0 h];rfl
theorem C6 (h:W (lQ l c b H) (NP Q X) X):W (iU l c b H) Q X:=W.bind h
theorem xj (e:qJ vs=some p) (b:oC p []=some m) (q:Q (.ref<|ak H)<|(ak H,.dct m)::H):NP Q X vs H:=by show W (ro 91 _ λp=>HO _ H) Q X;rw[e];show W (HO ((oC p []).map .dct) H) Q X;exact b▸q
end
section
theorem ni (h:W (a l c H) (N9 l c X T F o b) X):WC (aw o a b l c H) T F X:=
 W.bind (h.imp λU U h=>W.bind h)
theorem t7 (e:gU o x y H=some true) (h:T H):WC (rI o x y H) T F X:=W.lift e h
theorem i3 (e:gU o x y H=some false) (h:F H):WC (rI o x y H) T F X:=W.lift e h
theorem kH (e:gU o x y H=some r) (h:r->T H) (b:r=false->F H):WC (rI o x y H) T F X:=
 W.lift e (by cases r<;>first|exact h rfl|exact b rfl)
theorem Qf (h:WC (c l d H) F T X):WC (pK c l d H) T F X:=W.bind (W.imp h λb U h=>by cases b<;>exact h)
theorem jN (h:W (e c b H) (LE X T F) X):WC (aW e c b H) T F X:=W.bind h
theorem kY (e:truth v=some true) (h:T H):WC (jl v H) T F X:=W.lift e h
theorem nZ (e:truth v=some false) (h:F H):WC (jl v H) T F X:=W.lift e h
theorem mD (e:truth v=some r) (h:r->T H) (b:r=false->F H):WC (jl v H) T F X:=
 W.lift e (by cases r<;>first|exact h rfl|exact b rfl)
theorem y9 (h:T H):WC (gX [] c b H) T F X:=h
theorem Re (h:WC (c L d H) (Rc L d X T F l) F X):WC (gX (c::l) L d H) T F X:=
 W.bind (W.imp h λb U h=>by cases b<;>exact h)
theorem Rm (h:F H):WC (oG [] c b H) T F X:=h
theorem Uj (h:WC (c L d H) T (UQ L d X T F l) X):WC (oG (c::l) L d H) T F X:=
 W.bind (W.imp h λb U h=>by cases b<;>exact h)
end
noncomputable def HF (p:Nat×V) (o:Option Sg):Option Sg:=o.casesOn none λb=>some<|p::b
theorem zO (p:Nat×V) (o:Option Sg):HF p o=o.map (p::·):=by cases o<;>rfl
def DX (D:List V) (s:List Nat):Option Sg:=s.rec (some []) λp s i=>cond (Nat.blt D.length<|s.length+1) none<|(nth D<|D.length-(s.length+1)).casesOn none λd=>HF (p,d) i
def JK (d:List V) (s:List Nat) (A:List V):Option Sg:=s.rec (λA=>A.casesOn (some []) λU U=>none) (λp s i A=>A.casesOn (DX d<|p::s) λa A=>HF (p,a)<|i A) A
theorem DS (D:List V):∀s:List Nat,DX D s=zA D s:=by
 intro z;induction z with
 |nil=>exact rfl
 |cons p s i=>
  show cond _ none ((nth D _).casesOn none λd=>HF (p,d)<|DX D s)=cond _ none ((nth D _).bind λd=>(zA D s).map _);refine i▸?_;cases nth D _ with
  |none=>rfl
  |some d=>exact Wh _<|zO _ _
theorem u6:∀{s:List Nat} {A:List V},JK d s A=bindArgs d s A
 |[],_=>rfl
 |p::s,[]=>DS d<|p::s
 |p::s,a::A=>(zO _ _).trans<|Wh (λo:Option Sg=>o.map _)  u6
section
theorem cH (h:N b H):WS (ad [] l b H) N B c T X:=h
theorem aE (h:WS (x L b H) (Sf L N B d T X l) B d T X):WS (ad (x::l) L b H) N B d T X:=
 W.bind (W.imp h λr U h=>by obtain⟨f,c⟩:=r;cases f<;>exact h)
theorem bf (e:cU b t v=some c) (h:N c H):WS (ue t b v H) N B d T X:=by show WS (ro 100 _ _) N B d T X;exact e▸h
theorem fe (h:W (e l b H) (Tx b N B c T X t) X):WS (ai t e l b H) N B c T X:=W.bind h
theorem t9 (h:W (e c b H) T X):WS (ay e c b H) N B d T X:=W.bind<|W.imp h λU U h=>h
theorem lP (h:WC (c l d H) (kS l d N B e T X a) (kS l d N B e T X b) X):WS (br c a b l d H) N B e T X:=
 W.bind (W.imp h λr U h=>by cases r<;>exact h)
theorem SO (h:B b H):WS (CY l b H) N B c T X:=h
theorem PL (h:c b H):WS (mh l b H) N B c T X:=h
theorem PV (h:N b H):WS (FB l b H) N B c T X:=h
theorem Tc (A:look b x=some a) (h:W (e c b H) (Tf b N X x o a) X):WS (cE x o e c b H) N B d T X:=
 W.bind (W.lift A<|W.bind<|h.imp λU U h=>W.bind h)
theorem Tj (e:js o x y=some z) (h:Q (.int z) H):W (x5 o (.int x) (.int y) H) Q X:=by show W (Internal.lift 2 ((js o x y).map V.int) H) Q X;exact e▸h
theorem bx (h:W (e c b H) (Jb b N) X):WS (aM e c b H) N B d T X:=
 W.bind (h.imp λU U h=>by obtain⟨rfl,h⟩:=h;exact h)
theorem wu (h:N b H):Jb b N .non H:=⟨rfl,h⟩
theorem pP (h:W (lQ l L b H) (Ki X c) X):WS (jg c l L b H) N B d T X:=W.bind (h.imp λv H h=>by
 haveI h:W (ro 102 _ λx=>.ex x H) (λU U=>False) X:=h;cases q:zF c v with
 |none=>rw[q] at h;exact h.elim
 |some x=>rw[q] at h;exact h)
theorem cj (h:W (e c b H) (Nm c b N X o f) X):WS (cD o f e c b H) N B d T X:=
 W.bind (h.imp λU U h=>W.bind<|h.imp λU U h=>W.bind h)
theorem cW (h:W (e c b H) (OZ c b N X o i) X):WS (bN o i e c b H) N B d T X:=
 W.bind (h.imp λU U h=>W.bind<|h.imp λU U h=>W.bind<|h.imp λU U h=>W.bind h)
theorem HQ (h:W (b l c H) (λb H=>W (getAttr b f H) (λa H=>W (e l c H) (λv H=>W (x5 o a v H) (λr H=>W (setAttr b f r H) (λU H=>N c H) X) X) X) X) X):WS (zf b f o e l c H) N B d T X:=
 W.bind (h.imp λU U h=>W.bind<|h.imp λU U h=>W.bind<|h.imp λU U h=>W.bind<|h.imp λU U h=>W.bind h)
theorem oQ (I:Nat->Sg->Hp->Prop) (m:∀i c H,I i c H->i<=4000) (p:∀i c H,I i c H->match bT H v i with
  |none=>False
  |some none=>N c H
  |some (some x)=>∃d,cU c t x=some d/\WS (b l d H) (I<|i+1) N (I<|i+1) T X):
  ∀(n i:Nat) (c:Sg) (H:Hp),I i c H->4001<=n+i->WS (jB t b v l n i c H) N B j T X:=by
 intro z;induction z with
 |zero=>intro i c H h g;exact absurd (m i c H h)<|a01<|a0I i▸g
 |succ n k=>
  intro i c H h g;haveI:=p i c H h;show WS (ro 112 (bT H v i) λo=>o.casesOn _ λx=>ro 113 (cU c t x) λc=>(b l c H).bind<|again<|jB t b v l n<|i+1) N B j T X;cases q:bT H v i with
  |none=>rw[q] at this;exact this.elim
  |some o=>
   induction o with
   |none=>rw[q] at this;exact this
   |some x=>
    rw[q] at this;refine aI this λd e s=>?_;show WS (ro 113 _ _) N B j T X;refine qL e ?_;refine W.bind<|W.imp s λr H h=>?_;obtain⟨L,f⟩:=r;induction L with
    |next=>exact k (i+1) f H h<|Wk g<|WX<|WY n 1 i
    |cont=>exact k (i+1) f H h<|Wk g<|WX<|WY n 1 i
    |brk=>exact h
    |ret v=>exact h
theorem WS.on (h:WS r N' (λU U=>False) (λU U=>False) (λU U=>False) X) (u:∀j H,N' j H->N j H):WS r N B x T X:=
 W.imp h λp H h=>by obtain⟨L,q⟩:=p;cases L<;>first|exact u _ _ h|exact False.elim h
theorem Tu (h:W (i l c H) (RY l c N B d T X t b) X):WS (aP t i b l c H) N B d T X:=W.bind h
theorem cK (e:JK d p A=some b) (h:WS (o cl b H) (LD Q) (LD Q) (LD Q) Q X):W (je ⟨p,d,o⟩ cl A H) Q X:=by unfold je;rw[<-u6,e];refine W.bind<|W.imp h λr U h=>?_;obtain⟨f,_⟩:=r;cases f<;>exact h
end
noncomputable def uE (N n:Sg->Hp->Prop):Prop:=∀b H,N b H->n b H
theorem uE.go (h:uE N p) (x:N j H):p j H:=h j H x
theorem WS.gen {C:Sg->Hp->Prop} (h:∀q j p:Sg->Hp->Prop,uE N q->uE B j->uE C p->WS r q j p T X):WS r N B C T X:=h N B C (λU U h=>h) (λU U h=>h) λU U h=>h
theorem bE (O:o f A H=none) (p:P.get f=some N) (h:W (je N (run P o n) A H) Q X):W (run P o (n+1) f A H) Q X:=by show W ((o f A H).casesOn (ro 111 _ λN=>je N (run P o n) A H) id) Q X;rw[O,p];exact h
theorem zc (O:o f A H=some r) (h:W r Q X):W (run P o (n+1) f A H) Q X:=by show W ((o f A H).casesOn (ro 111 _ λN=>je N (run P o n) A H) id) Q X;exact O▸h
theorem UH (a b:Nat):Nat.beq a b=decide (a=b):=by
 by_cases h:a=b;.subst h;simp[W9]
 .simp only [Xa h]
  cases q:Nat.beq a b with
  |false=>rfl
  |true=>exact(h<|W3 q).elim
theorem jh (x:Nat) (v:V):∀b:Sg,look (put b x v) x=some v:=by
 intro z;induction z with
 |nil=>show cond (Nat.beq x x) (some v) none=_;rw[W9];rfl
 |cons p b i=>
  show look (cond _ _<|p::put b x v) x=_;cases q:Nat.beq p.1 x with
  |true=>show cond _ (some v) (look b x)=_;rw[W9];rfl
  |false=>show cond _ _ (look _ x)=_;exact q▸i
theorem DO {x y:Nat} (h:Nat.beq x y=false):∀b:Sg,look (put b x v) y=look b y:=by
 intro z;induction z with
 |nil=>show cond _ (some v) none=_;rw[h];rfl
 |cons p b i=>
  show look (cond _ _<|p::put b x v) y=_;cases q:Nat.beq p.1 x with
  |true=>haveI e:=W3 q;show cond _ _ (look b y)=cond _ _ (look b y);rw[e,h];rfl
  |false=>show cond _ _ (look _ y)=cond _ _ (look b y);rw[i]
theorem DK {x y:Nat} (h:Nat.beq x y=false) (e:look b y=o):look (put b x v) y=o:=(DO h b).trans e
noncomputable def Pb (L:Sg):Nat->Option V:=L.rec (λU=>none) λp U i x=>p.casesOn λk v=>cond (Nat.beq k x) (some v)<|i x
noncomputable def iz (b L:Sg):Prop:=∀x v,Pb L x=some v->look b x=some v
theorem iz.get (h:iz j L) (e:Pb L x=some v):look j x=some v:=h x v e
theorem iz.nil:iz h []:=nofun
theorem iz.cons (e:look j x=some v) (h:iz j L):iz j ((x,v)::L):=λy w q=>by
 haveI q:cond _ _ _=some w:=q;cases z:Nat.beq x y with
 |true=>rw[z] at q;exact(W3 z)▸(e.trans q)
 |false=>rw[z] at q;exact h y w q
theorem iz.tail {L:Sg} (h:iz j<|(x,v)::L) (e:Pb L x=none):iz j L:=λy w q=>h y w (by
 show cond _ _ _=some w;cases z:Nat.beq x y with
 |true=>rw[<-W3 z,e] at q;cases q
 |false=>exact q)
theorem iz.put (h:iz j L) (e:Pb L x=none):iz (put j x v) L:=λy w q=>by
 cases z:Nat.beq x y with
 |true=>rw[<-W3 z,e] at q;cases q
 |false=>exact DK z<|h y w q
theorem HT:∀{L:Sg},Pb L y=some w->(y,w)∈L:=@λb=>by
 induction b with
 |nil=>exactλh=>dj rfl h
 |cons q L i=>
  obtain⟨x,v⟩:=q;intro h;haveI h:cond _ _ _=some w:=h;cases z:Nat.beq x y with
  |true=>rw[z] at h;simp only [<-W3 z,<-W2 h];exact .head _
  |false=>rw[z] at h;exact .tail _<|i h
theorem iz.agree {p:Nat->Bool} (h:iz j L) (u:∀y,p y=false->look r y=look j y) (d:(L.all λq=>!p q.1)):iz r L:=λy w q=>(u y (by
 have:=VU d _<|HT q;cases z:p y with
 |false=>rfl
 |true=>rw[z] at this;cases this)).trans<|h y w q
theorem aK {s:List Nat} (h:∀y,s.contains y=false->look c y=look b y) (d:s.contains x):∀y,s.contains y=false->look (put c x v) y=look b y:=λy H=>(DO (by
 cases q:Nat.beq x y with
 |false=>rfl
 |true=>exact NS (W3 q▸d) H) c).trans<|h y H
theorem mS {b:Type}:∀(l:List b) (i:Nat),nth l i=l[i]?
 |[],_=>rfl
 |_::_,0=>rfl
 |_::l,i+1=>by show nth l i=_;simp only [mS l i];simp
theorem CL (h:i<n):idx (.ofNat i) n=some i:=by show cond _ _ _=_;rw[(a0T).mpr h];rfl
theorem Bc {b:Type} {l:List b} {v:b} (e:l[i]?=some v):i<l.length:=(List.getElem?_eq_some_iff.mp e).1
theorem yU (e:l[i]?=some v):MZ l (.int<|.ofNat i)=some v:=by show(idx _ l.length).bind (nth l)=_;exact(CL<|Bc e)▸(mS l i).trans e
theorem aQ (h:ac H n=some (.lst l)) (e:l[i]?=some v):gW H (.ref n) (.int<|.ofNat i)=some v:=(pO h).trans<|yU e
theorem qG (e:l[i]?=some v):gW H (.tup l) (.int<|.ofNat i)=some v:=yU e
theorem zp (h:l.length<100000) (q:Q (.ref<|ak H)<|(ak H,.lst l)::H):W (fU l H) Q X:=by unfold fU;exact(show jE l=true from(a0T).mpr h)▸q
theorem dE (h:ac H n=some (.lst l)):bT H (.ref n) i=some l[i]?:=by show(ac H n).bind _=_;rw[h,<-mS];rfl
theorem ON {c:Type} {Q:c->Hp->Prop} {a b:c} (e:a=b) (h:Q b H):Q a H:=e▸h
theorem US {b:Sort _} {P:b->Prop} (a:b) (h:∀x,a=x->P x):P a:=h a rfl
theorem U9 {b:Sort _} {P:b->Prop} (a:b) (h:∀x,P x):P a:=h a
theorem WC.share (t:T H) (h:∀j:Hp->Prop,j H->WC r j F X):WC r T F X:=h T t
theorem WC.shareF (t:F H) (h:∀j:Hp->Prop,j H->WC r T j X):WC r T F X:=h F t
noncomputable abbrev wL (t:PT) (v:V) (b:S) (l:Cl) (c:Sg) (H:Hp) (N B e:Sg->Hp->Prop) (T X:V->Hp->Prop):Prop:=∃d,cU c t v=some d/\WS (b l d H) N B e T X
theorem hH (e:cU c t v=some d) (h:∀n f g:Sg->Hp->Prop,uE N n->uE B f->uE i g->WS (b l d H) n f g T X):wL t v b l c H N B i T X:=bK d e<|WS.gen h
theorem eM {c:Type} {f:c->V} {l:List c} (I:Nat->Sg->Hp->Prop) (u:l.length<=4000)
  (h0:I 0 d H) (o:∀i d H,I i d H->ac H n=some (.lst<|l.map f)) (k:∀d H,I l.length d H->N d H)
  (m:∀i (s:i<l.length) d H,I i d H->wL t (f l[i]) b L d H (I<|i+1) N (I<|i+1) T X):
  WS (jB t b (.ref n) L cS 0 d H) N B w T X:=by
 refine oQ (λi d H=>i<=l.length/\I i d H) (λi U U h=>by haveI:=h.1;exact Wk this u) (λi d H h=>?_) cS 0 d H ⟨VY _,h0⟩ (by decide);obtain⟨s,h⟩:=h;refine qL (dE<|o i d H h)<|qL  a0c  ?_;by_cases q:i<l.length
 .simp only [a00 q]
  refine aI (m i q d H h) λg e p=>bK g e<|W.imp p λr H h=>?_;obtain⟨j,v⟩:=r;cases j<;>first|exact⟨q,h⟩|exact h
 .obtain rfl:i=l.length:=a02 ‹_› (Nat.not_lt.mp<|by assumption)
  exact(a0d<|XA _)▸(k d H h)
theorem iS {c:Type} {f:c->V} {l:List c} (I:Nat->Sg->Hp->Prop) (k:l.length<=4000)
  (h0:I 0 d H) (j:∀i d H,I i d H->ac H n=some (.lst<|l.map f)) (e:∀d H,I l.length d H->N d H)
  (g:∀i x,i<l.length->l[i]?=some x->x∈l->l.take (i+1)=l.take i++[x]->∀d H,I i d H->wL t (f x) b L d H (I<|i+1) N (I<|i+1) T X):
  WS (jB t b (.ref n) L cS 0 d H) N B m T X:=eM I k h0 j e λi h=>g i _ h (a00 h) (a03 h) (a04 h)
local macro_rules |`(tactic|walk_at$x)=>do
 let i:=Lean.SourceInfo.fromRef x;let s:=("`w`~first [aE#fe#bf$<&lP#t9#cH#SO#PL#PV#Tu#Tc$Glk,&Tj$<&Jj#aO$Glk,&Pm#wM#Om#Hi#lY#lK#T8#QB#Jl#T2#PE#Dx$<&ni#Re#y9#Uj#Rm#Qf#jN#t7$<&i3$<&kY$<&nZ$<&gh$<&Ce.At.attr:: ? e0:::/? e1:::/? _/^3*+}; case e1]<}^5-[uE.go$+&hH$<}; intros ^0 T.intros:2 ^5-^41 T.first:2%`lk`~first | exact jh:: _ M.hole:1 _ M.hole:1 _ M.hole:1 ^3 M.app:2 T.exact{| +{[DK:: rfl:: ? e1:::/^2F:2 ; case e1]Glk,}^3-| exact iz.getX| <{^5 T.first:2%`ls`~first | +{[iz.put:: ? e0:::/rfl:: ^2*Gls,}^3-| exact iz.tailX^3 T.first:2%`lc`~first | exact iz.nil:: T.exact{[iz.cons:: ? e0:::/? e1:::/^2*Glk,}; case e1]Glc,}^5-^2 T.first:2%`lq`~first | Gls,{| Glc,{^2 T.first:2%`cs`~first [kH:: ? e0:::/? h1:::/? h2:::/^3*<}^3-^1 T.first:2%`W`~repeat Gw,:2!T.tacticRepeat_:2%#~:: ? _/^1F{[%$~:: ? e0:::/? _/^2*%&~}^3-[%*~F:2 ; case e0]%,~\" str:1 PyProof.Rows.tacticWalk_at_%-~ T.tacticSeq1Indented:1 T.tacticSeq:1 group:2 %/~ M.syntheticHole:2 %<~exact rfl:: T.exact%[~| with_reducible refine' %]~::: Lean.binderIdent:1 ^0 T.caseArg:2 ^1 => %}~:2!T.case:4 %F~ M.app:2 T.refine':2!T.withReducible%G~walk_at \"%X~:: by +:2!M.byTactic:2 rfl:: ^2 M.app:2 T.exact{%+~with_reducible assumption T.assumption:1!T.withReducible%{~:2!group:2 %!~ ^1 T.tacticSeq1Indented:1 T.tacticSeq:1 %^~null:".splitOn "%").foldl (λs r=>let p:=r.splitOn "~";s.replace p.head! p.getLast!) s!"`{x.getString}`";let n<-Lean.getCurrMacroScope;let h<-Lean.MonadQuotation.getContext;let z:List Lean.Syntax:=(s.splitOn " ").foldl (λz w=>match w.splitOn ":" with
  |[k,m]=>.node i ((k.replace "T." "Lean.Parser.Tactic.").replace "M." "Lean.Parser.Term.").toName (z.take m.toNat!).reverse.toArray::z.drop m.toNat!
  |[k,_,_]=>.ident i k.toRawSubstring k.toName []::z
  |[k,_,_,_]=>.ident i k.toRawSubstring (Lean.addMacroScope h k.toName n) []::z
  |_=>.atom i w::z) []
 pure z.head!
structure Ce where
 ref:Nat
 nm:List Nat
 tb:Int
 ins:Int
 ar:Int
 dl:Int
noncomputable def Ce.fs (c:Ce):List (Nat×V):=[(9,.str c.nm),(38,.int c.tb),(11,.int c.ins),(97,.int c.ar),(98,.int c.dl)]
noncomputable def Ce.At (H:Hp) (c:Ce):Prop:=∃d,ac H c.ref=some (.ins 4 d)/\ac H d=some (.ns c.fs)
noncomputable abbrev Ce.v (c:Ce):V:=.ref c.ref
structure bp (H:Hp) (l:Nat) (cs:List Ce):Prop where
 lst:ac H l=some (.lst<|cs.map Ce.v)
 cell:∀c∈cs,c.At H
 len:cs.length<=8
theorem Ce.At.attr {c:Ce} (h:c.At H) {v:V} (e:look c.fs f=some v) (q:Q v H):W (getAttr (.ref c.ref) f H) Q X:=by exact aI h λd j p=>bJ j p e q
def bz (c:Ce):Bool:=ieq c.ins 1&&ieq c.tb 1
theorem um (L:bp H l c) (q:Q (.bool<|c.any bz) H):W (je PH m [.ref l] H) Q X:=by
 refine cK rfl ?_;walk_at"W";let g:Nat->Sg->Hp->Prop:=λi b d=>d=H/\(c.take i).any bz=false;refine eM (I:=g) (by haveI:=L.len;exact Wk ‹_›<|by decide) ⟨rfl,rfl⟩ (λi b d h=>h.1▸L.lst) (λb d h=>?_) λi k b d h=>?_
 .obtain⟨rfl,h⟩:=h
  replace h:=a05▸h;walk_at"W";simp only [h] at q;exact q
 .obtain⟨rfl,h⟩:=h
  haveI o:=L.cell c[i]<|a03 k;have n:bz c[i]=false->(List.take (i+1) c).any bz=false:=λe=>by simp only [a04 k,a06,h,Xv,e];rfl
  walk_at"w";walk_at"W";walk_at"cs"
  case h1=>
   intro f;walk_at"W";walk_at"cs";case h1=>intro j;walk_at"W";rw[a1Y.mpr ⟨c[i],a03 k,by unfold bz;simp only [f,j];rfl⟩] at q;exact q
   case h2=>intro j;walk_at"W";exact⟨rfl,n<|by unfold bz;simp only [f,j];rfl⟩
  case h2=>intro f;walk_at"W";exact⟨rfl,n<|by unfold bz;simp only [f];rfl⟩
structure Pl (f:Nat) (args:List V) (v:V):Prop where
 k:kind f=1
 a:bV args=true
 o:lH v=true
 e:∃H',run prog kI 30 f args []=.ok v H'
theorem Pl.w (p:Pl f A v) (q:Q v H):W (bG (n+1) f A H) Q X:=by obtain⟨h,e⟩:=p.e;exact zc (m7 (by rw[p.k];decide)<|fS p.k<|.mk p.a e p.o) q
structure CA (f:Nat) (c:Ce) (rest:List V) (v:V):Prop where
 k:kind f=3
 a:bV rest=true
 o:jz (λi=>Nat.beq i 1) v=true
 e:∃H',run prog kI 30 f (.ref 1::rest) (hp2 c.fs)=.ok v H'/\ac H' 1=some (.ins 4 0)/\ac H' 0=some (.ns c.fs)
theorem CA.w (p:CA f c r v) (x:c.At H) (q:Q (dX (λU=>c.ref) v) H):W (bG (n+1) f (.ref c.ref::r) H) Q X:=by refine e7 p.e λy e h j=>aI x λd G u=>?_;exact zc (m7 (by rw[p.k];decide)<|fS p.k<|.mk G u rfl p.a e h j p.o) q
theorem Br (L:bp H l c) (q:Q (.bool<|c.any bz) H):W (bG (n+1) 55 [.ref l] H) Q X:=
 bE (ax rfl) rfl (um L q)
theorem Af {c:List Ce} (H:i<c.length) (h:(c.take i).find? bz=none) (e:bz c[i]):c.find? bz=some c[i]:=by
 haveI:c=c.take i++c[i]::c.drop (i+1):=by simp
 refine(Wh _ this).trans ?_;simp only [a07,h,Option.none_or,a08,e]
theorem DP (L:bp H l s) (m:s.find? bz=some c) (q:Q (.ref c.ref) H):W (bG (n+1) 54 [.ref l] H) Q X:=by
 refine bE (ax rfl) rfl (let f:=bG n;cK (cl:=f) rfl ?_);walk_at"W";let g:Nat->Sg->Hp->Prop:=λi b d=>d=H/\(s.take i).find? bz=none;refine eM (I:=g) (by haveI:=L.len;exact Wk ‹_›<|by decide) ⟨rfl,rfl⟩ (λi b d h=>h.1▸L.lst) (λb d h=>?_) λi k b d h=>?_
 .obtain⟨rfl,h⟩:=h
  replace h:=a05▸h;exact nomatch (h.symm.trans m)
 .obtain⟨rfl,h⟩:=h
  haveI o:=L.cell s[i]<|a03 k;have N:bz s[i]=false->(List.take (i+1) s).find? bz=none:=λe=>by simp only [a04 k,a07,h,a08,e];rfl
  walk_at"w";walk_at"W";walk_at"cs"
  case h1=>
   intro f;walk_at"W";walk_at"cs";case h1=>intro j;walk_at"W";haveI:=Af k h (by unfold bz;simp only [f,j];rfl);obtain rfl:=W2<|m.symm.trans this;exact q
   case h2=>intro j;walk_at"W";exact⟨rfl,N<|by unfold bz;simp only [f,j];rfl⟩
  case h2=>intro f;walk_at"W";exact⟨rfl,N<|by unfold bz;simp only [f];rfl⟩
def eV (c:List Ce) (A t:Int):Option Int:=match ieq t 0 with
 |true=>some A
 |false=>match c.find? bz with|some v=>some (A+t*v.ar)|none=>none
noncomputable def oV (o:Option Int):V:=match o with|some i=>.int i|none=>.non
theorem wo {c:List Ce}:c.any bz=(c.find? bz).isSome:=by
 induction c with
 |nil=>rfl
 |cons a l i=>simp only [Xv,a08];cases bz a<;>simp[i]
theorem l4 {c:Ce} (L:bp H l s) (g:c.At H) (P:Pl 53 [.int m]<|.int O) (M:small<|O+o)
  (q:Q (oV<|eV s c.ar<|O+o) H):W (bG (n+2) 56 [.ref l,.tup [.ref c.ref,D,.int m,.int o]] H) Q X:=by
 refine bE (ax rfl) rfl (let f:=bG<|n+1;cK (cl:=f) rfl ?_);walk_at"W";refine P.w ?_;walk_at"W";walk_at"cs";case h1=>intro d;walk_at"W";unfold eV at q;rw[d] at q;exact q
 case h2=>
  intro d;unfold eV at q;rw[d] at q;walk_at"W";refine Br L<|mD rfl ?_ ?_
  .intro e
   rw[wo] at e;obtain⟨v,b⟩:=VQ e;haveI h:=L.cell v<|a09 b;rw[b] at q;walk_at"W";refine DP L b ?_;walk_at"W";refine gh (show(match small _ with|true=>some _|false=>none)=some _ by rw[M]) ?_;walk_at"W";exact q
  .intro e
   rw[wo] at e;have b:s.find? bz=none:=by cases h:s.find? bz with|none=>rfl|some v=>rw[h] at e;cases e
   replace q:=b▸q;walk_at"W";exact q
structure DY where
 c:Ce
 l:Int
 f:V
 od:V
 m:Int
 o:Int
 om:Int
 pm:Option V
noncomputable def DY.v (r:DY):V:=.tup [.ref r.c.ref,.int r.l,r.f]
noncomputable def PF (p:Option V):V:=match p with|none=>.non|some d=>.tup [.ref 1,d,.int 0,.int 0]
structure DY.Ok (w lw:Int) (fw:V) (r:DY):Prop where
 jm:r.l=lw->CA 58 r.c [r.f,fw] (.tup [.ref 1,r.od,.int r.m,.int r.o])
 od:lH r.od=true
 one:r.l=lw->Pl 53 [.int r.m] (.int r.om)
 sm:small (r.om+r.o)=true
 pl:r.l=lw->ieq (r.om+r.o) 0=false->CA 59 r.c [.int w] (PF r.pm)
 pd:∀d,r.pm=some d->lH d=true
def out (c:List Ce) (l:Int) (r:DY):Option (List V×Int):=match ieq r.l l with
 |false=>none
 |true=>match eV c r.c.ar (r.om+r.o) with
  |some k=>some ([.ref r.c.ref,r.od,.int r.m,.int r.o],k)
  |none=>match r.pm with
   |none=>none
   |some d=>some ([.ref r.c.ref,d,.int 0,.int 0],r.c.ar)
def ju (b x:Option<|List V×Int):Option (List V×Int):=match x with
 |none=>b
 |some p=>match b with
  |none=>some p
  |some q=>match iH p.2 q.2 with|true=>some p|false=>some q
def gx (c:List Ce) (l:Int) (s:List DY):Option (List V×Int):=s.foldl (λb r=>ju b<|out c l r) none
noncomputable def pR (b:Option<|List V×Int):V:=match b with|none=>.non|some p=>.tup p.1
noncomputable def Oq (b:Option<|List V×Int):V:=match b with|none=>.int 0|some p=>.int p.2
theorem ul (L:bp H l s) (hr:ac H rw_=some (.lst<|m.map DY.v)) (hl:m.length<=8)
  (hC:∀r∈m,r.c.At H) (hR:∀r∈m,r.Ok w g fw) (P:Pl 42 [.int w,.int k]<|.tup [.int g,fw])
  (q:Q (pR<|gx s g m) H):W (bG (n+3) 60 [.ref rw_,.ref l,.int w,.int k] H) Q X:=by
 refine bE (ax rfl) rfl (let b:=bG<|n+2;cK (cl:=b) rfl ?_);walk_at"W";refine P.w ?_;walk_at"W";let J:Sg:=[(99,.ref l),(38,.int w),(82,.int g),(83,fw)]
 let t:Nat->Sg->Hp->Prop:=λi c u=>u=H/\iz c J/\look c 105=some (pR<|gx s g<|m.take i)/\look c 106=some (Oq<|gx s g<|m.take i);refine iS (I:=t) (Wk ‹_›<|by decide)
  ⟨rfl,by walk_at"lq",by walk_at"lk",by walk_at"lk"⟩ (λi c u h=>h.1▸hr) (λc u h=>?_) λi r U U hm htk c u h=>?_
 .obtain⟨rfl,_,h,_⟩:=h
  rw[a05] at h;walk_at"W";exact q
 .obtain⟨rfl,K,A,D⟩:=h
  haveI N:=hC _ hm;haveI O:=hR _ hm;have Y:gx s g (m.take<|i+1)=ju (gx s g<|m.take i) (out s g r):=by delta gx;simp only [htk,a0z];rfl
  obtain⟨b,eb⟩:∃b,gx s g (m.take i)=b:=⟨_,rfl⟩
  rw[eb] at A D Y;refine hH rfl λN1 B1 C1 gN gB gC=>?_;have same:out s g r=none->ju b (out s g r)=b:=λh=>by simp only [h];rfl
  have fin:∀{x:Option _} {f:Sg},ju b (out s g r)=x->iz f J->look f 105=some _->look f 106=some _->t (i+1) f u:=λe K a b=>⟨rfl,K,by simp only [Y,e];exact a,by simp only [Y,e];exact b⟩
  walk_at"W";walk_at"cs";case h2=>intro v;walk_at"W";exact fin (same<|by unfold out;simp only [v]) (by walk_at"lq") (by(repeat with_reducible refine DK rfl ?_);assumption) (by(repeat with_reducible refine DK rfl ?_);assumption)
  case h1=>
   intro v;haveI M:=aD v;walk_at"W";refine(O.jm M).w N (ON (b:=V.tup [.ref r.c.ref,r.od,.int r.m,.int r.o]) (by show V.tup [.ref r.c.ref,dX (λU=>r.c.ref) r.od,.int r.m,.int r.o]=_;simp only [mj r.od _ O.od]) ?_);walk_at"W";refine l4 L N (O.one M) O.sm ?_;walk_at"W";have last:∀(G:List V) (j:Int) (f:Sg),out s g r=some (G,j)->look f 101=some (.tup G)->look f 108=some (.int j)->iz f J->look f 105=some (pR b)->look f 106=some (Oq b)->
     WS (br (gX [aw LV.isnn (ab 108)<|eK V.non,oG [aw LV.isn (ab 105)<|eK V.non,aw LV.lt (ab 108)<|ab 106]]) (ad [ai (PT.loc 105)<|ab 101,ai (PT.loc 106)<|ab 108]) (ad []) (bG<|n+2) f u) (t<|i+1) (λU U=>False) (λU U=>False) (λU U=>False) X:=by
    intro G j f o a101 a108 K a105 a106;induction b with
    |none=>walk_at"W";exact fin (by simp only [o];rfl) (by walk_at"lq") (by walk_at"lk") (by walk_at"lk")
    |some p=>
     walk_at"W";walk_at"cs";case h1=>intro d;walk_at"W";exact fin (x:=some (G,j)) (by simp only [o];show(match iH j p.2 with|true=>_|false=>_)=_;simp only [d]) (by walk_at"lq") (by walk_at"lk") (by walk_at"lk")
     case h2=>intro d;walk_at"W";exact fin (x:=some p) (by simp only [o];show(match iH j p.2 with|true=>_|false=>_)=_;simp only [d]) (by walk_at"lq") (by walk_at"lk") (by walk_at"lk")
   cases y:eV s r.c.ar _ with
   |some j=>
    haveI o:out s g r=some ([.ref r.c.ref,r.od,.int r.m,.int r.o],j):=by unfold out;simp only [v,y]
    refine i3 rfl ?_;repeat (first|refine cH ?_|refine aE ?_)
    refine WS.on (last _ j _ o ?_ ?_ (by walk_at"lq") ?_ ?_) gN;all_goals first|assumption|walk_at"lk"
   |none=>
    refine t7 rfl ?_;walk_at"W";refine(O.pl M (by unfold eV at y;cases z:ieq _ 0 with|false=>rfl|true=>rw[z] at y;cases y)).w N ?_;cases p:r.pm with
    |none=>
     have o:out s g r=none:=by unfold out;rw[v,y];dsimp only;rw[p]
     walk_at"W";exact fin (same o) (by walk_at"lq") (by walk_at"lk") (by walk_at"lk")
    |some d=>
     haveI o:out s g r=some _:=by unfold out;rw[v,y];dsimp only;rw[p]
     refine qL (show dX (λU=>r.c.ref) (PF _)=V.tup [.ref r.c.ref,dX (λU=>r.c.ref) d,.int 0,.int 0] from rfl)<|qL (mj d _<|O.pd d p) ?_;repeat (first|refine cH ?_|refine aE ?_|(refine WS.on (last _ r.c.ar _ o ?_ ?_ (by walk_at"lq") ?_ ?_) gN)|walk_at"w")
     all_goals first|assumption|walk_at"lk"
noncomputable def WF (H:Hp):Prop:=∀n c,ac H n=some c->n<ak H
structure aJ (H H':Hp):Prop where
 get:∀n c,ac H n=some c->ac H' n=some c
 wf:WF H'
theorem aJ.refl (w:WF H):aJ H H:=⟨λU U h=>h,w⟩
theorem aJ.trans (a:aJ H p) (b:aJ p j):aJ H j:=⟨λn c h=>b.get n c<|a.get n c h,b.wf⟩
theorem WF.none (w:WF H):ac H (ak H)=none:=by
 cases q:ac H _ with
 |none=>rfl
 |some c=>haveI:=w _ _ q;exact((XM _) ‹_›).elim
theorem bA (H:Hp) (c:aB):ac ((ak H,c)::H) (ak H)=some c:=by rw[aL,Xb rfl]
theorem ba (w:WF H) (c:aB):aJ H ((ak H,c)::H):=by
 haveI g:∀n x,ac H n=some x->ac ((ak H,c)::H) n=some x:=λn x h=>by have:=w n x h;rw[aL,Xd<|by show ak H≠n;exact Za ‹_›];exact h
 refine⟨g,λn x h=>?_⟩;show n<ak H+1;rw[aL] at h;by_cases q:ak H=n;.lia
 .rw[Xd q] at h;haveI:=w n x h;exact W0 ‹_›
theorem aV (h:ac H n=some c):ac (bj H n b) n=some b:=by rw[fX,Xb rfl,h];rfl
theorem jJ (h:n≠m):ac (bj H n c) m=ac H m:=by rw[fX,Xd h]
theorem de (w:WF H) (n:Nat) (c:aB):WF (bj H n c):=λm x h=>by
 simp only [sL];rw[fX] at h;by_cases q:n=m
 .subst q
  replace h:=(Xb rfl).symm.trans h;cases e:ac H n with
  |none=>rw[e] at h;cases h
  |some y=>exact w n y e
 .rw[Xd q] at h;exact w m x h
theorem au (h:n≠m) (e:ac H m=some c):ac (bj H n b) m=some c:=(jJ h).trans e
theorem BC (h:ac H n=o) (b:ac H m=O) (N:o≠O):n≠m:=λe=>N (by simp only [<-h,e];exact b)
theorem iw (h:ac H n=none) (b:ac H m=some c):n≠m:=BC h b nofun
theorem fZ (h:ac H n=some c) (b:ac H m=none):n≠m:=BC h b nofun
theorem cq (h:ac H n=some c) (d:ac H m=some b) (N:b≠c):n≠m:=BC h d λe=>N (W2 e).symm
theorem aJ.set (g:aJ H p) (h:ac H n=none):aJ H (bj p n c):=⟨λx U j=>au (iw h j)<|g.get x _ j,de g.wf _ _⟩
theorem aJ.old (g:aJ H j) (h:ac j x=none):ac H x=none:=by
 cases z:ac H x with
 |none=>rfl
 |some c=>exact nomatch ((g.get _ _ z).symm.trans h)
theorem Ce.At.grow {c:Ce} (h:c.At H) (g:aJ H j):c.At j:=let⟨d,a,b⟩:=h;⟨d,g.get _ _ a,g.get _ _ b⟩
theorem bp.grow (h:bp H l p) (g:aJ H j):bp j l p:=⟨g.get _ _ h.lst,λc q=>(h.cell c q).grow g,h.len⟩
theorem gJ (e:jE l) (h:Q (.ref<|ak H)<|(ak H,.lst l)::H):W (fU l H) Q X:=by unfold fU;exact e▸h
theorem fy (w:WF H) {K:V->Hp->Prop} (h:∀r b,aJ H b->ac b r=some c->ac H r=none->K (.ref r) b):K (.ref<|ak H) ((ak H,c)::H):=h _ _ (ba w c) (bA H c) w.none
theorem bg (w:WF H) (e:jE l) (h:∀r b,aJ H b->ac b r=some (.lst l)->ac H r=none->Q (.ref r) b):W (fU l H) Q X:=gJ e<|fy w h
noncomputable def qy (n:Int->Int×V) (c:Ce):V:=.tup [.ref c.ref,.int (n c.tb).1,(n c.tb).2]
def fI (n:Int->Int×V) (k:Int) (s:List Ce):List V:=(s.filter λc=>ieq c.ins k).map<|qy n
theorem wg (w:WF H) (L:bp H l s) (P:∀c∈s,ieq c.ins k->Pl 42 [.int c.tb,.int k] (.tup [.int (cn c.tb).1,(cn c.tb).2]))
  (q:∀m d,aJ H d->ac H m=none->ac d m=some (.lst<|fI cn k s)->Q (.ref m) d):W (bG (n+2) 57 [.ref l,.int k] H) Q X:=by
 refine bE (ax rfl) rfl (let f:=bG<|n+1;cK (cl:=f) rfl ?_);walk_at"W";refine gJ rfl ?_;walk_at"W";let o:Nat->Sg->Hp->Prop:=λi b d=>aJ H d/\look b 51=some (.ref<|ak H)/\look b 4=some (.int k)/\ac d (ak H)=some (.lst<|fI cn k<|s.take i);refine eM (I:=o) (by haveI:=L.len;exact Wk ‹_›<|by decide)
  ⟨ba w _,by walk_at"lk",by walk_at"lk",bA H _⟩ (λi b d h=>h.1.get _ _ L.lst) (λb d h=>?_) λi r b d h=>?_
 .refine Mu h λg p U h=>?_
  rw[a05] at h;walk_at"W";exact q _ _ g w.none h
 .refine Mu h λg p v h=>?_
  have D:=(L.cell s[i]<|a03 r).grow g;haveI y:=P _<|a03 r;haveI t:fI cn k (s.take<|i+1)=cond (ieq s[i].ins k) (fI cn k (s.take i)++[qy cn s[i]]) (fI cn k<|s.take i):=by delta fI;simp only [a04 r,a1a,ZE];cases ieq s[i].ins k<;>simp
  haveI f:(fI cn k<|s.take i).length<99999:=by
   haveI z:(fI cn k _).length<=(s.take i).length:=by unfold fI;simp only [XK];exact a1b _ _
   haveI A:=L.len;haveI v:(s.take i).length<=s.length:=by simp only [Zo];exact Zp i s.length
   exact fQ (Wk ‹_›<|Wk ‹_›<|by assumption) (by decide)
  walk_at"w";walk_at"W";walk_at"cs"
  case h1=>
   intro j;walk_at"W";refine(y j).w ?_;walk_at"W";refine bx<|aF ?_;walk_at"W";refine eL h ?_;walk_at"W";refine eC h f<|wu ?_;walk_at"W";refine G0 ⟨λx c u=>?_,de g.wf _ _⟩ (by walk_at"lk") (by walk_at"lk") ?_;.rw[jJ  λe=>by subst e;exact nomatch (w.none.symm.trans u)];exact g.get x c u
   .simp only [t,j];exact aV h
  case h2=>intro j;walk_at"W";refine G0 g (by walk_at"lk") (by walk_at"lk") ?_;simp only [t,j];exact h
noncomputable def bD (l:List Int):List V:=l.map V.int
structure kD (s:Nat) (st:List Int) (H:Hp):Prop where
 at':ac H s=some (.lst<|bD st)
 ok:∀x∈st,0<=x/\x<96
 len:st.length<=60
structure bH (s:Nat) (H H':Hp):Prop where
 get:∀n c,n≠s->ac H n=some c->ac H' n=some c
 wf:WF H'
theorem bH.refl (w:WF H):bH s H H:=⟨λU U U h=>h,w⟩
theorem bH.trans (a:bH s H p) (b:bH s p j):bH s H j:=⟨λn c e h=>b.get n c e<|a.get n c e h,b.wf⟩
theorem aJ.s {s:Nat} (a:aJ H j):bH s H j:=⟨λn c U h=>a.get n c h,a.wf⟩
theorem kD.grow {st:List Int} (S:kD s st H) (g:aJ H h):kD s st h:=⟨g.get _ _ S.at',S.ok,S.len⟩
theorem mH (h0:0<=x) (h:0<m):0<=Int.fmod x m/\Int.fmod x m<m:=
 ⟨Int.fmod_nonneg_of_pos x h,Int.fmod_lt_of_pos x h⟩
theorem cF {st:List Int} (w:WF H) (S:kD s st H) (M:0<m)
  (q:∀d t i,0<=d->d<m->bH s H i->kD s t i->Q (.int d) i):W (bG (n+1) 74 [.ref s,.int m] H) Q X:=by
 refine bE (ax rfl) rfl (let c:=bG n;cK rfl ?_);walk_at"W";refine bg w rfl λr b g N U=>?_;have f:=g.get _ _ S.at';cases st with
 |nil=>refine i3 (show neg (Mr b _ _)=some false by rw[qS f N];rfl) ?_;walk_at"W";exact q 0 [] b (a1c 0) M g.s<|S.grow g
 |cons x st=>
  refine t7 (show neg (Mr b _ _)=some true by rw[qS f N];rfl) ?_;walk_at"W";refine aF (aO (by walk_at"lk") ⟨.me .pop,by exact xR f,?_⟩);walk_at"W";haveI e:ug (run prog AL n) (.me .pop) _ [.int 0] b=.ok (.int x) (bj b s<|.lst<|bD st):=by show pk .pop _ [.int 0] b=_;rw[wQ f];rfl
  refine W.eq e ?_;walk_at"W";refine gh (show qc Int.fmod x m=some (Int.fmod x m) from ?_) ?_
  .delta qc
   cases h:ieq m 0 with
   |true=>haveI:=aD h;lia
   |false=>rfl
  .haveI h:=S.ok x Xz
   haveI j:=(mH h.1 M).1;haveI l:=(mH h.1 M).2;refine q _ st _ j l ⟨λk c p o=>?_,de g.wf _ _⟩ ⟨aV f,λy Y=>S.ok y<|Xw _ Y,by haveI:=S.len;simp only [ZF] at this;exact WO ‹_›⟩;exact au (Xf p)<|g.get k c o
theorem Ce.At.growS {c:Ce} (h:c.At H) (j:ac H s=some (.lst l)) (g:bH s H p):c.At p:=by exact aI h λd a b=>bK d (g.get _ _ (λe=>by rw[e,j] at a;cases a) a) (g.get _ _ (λe=>by rw[e,j] at b;cases b) b)
theorem bp.growS (h:bp H l p) (r:ac H s=some (.lst v)) (L:l≠s) (g:bH s H j):bp j l p:=
 ⟨g.get _ _ L h.lst,λc q=>(h.cell c q).growS r g,h.len⟩
theorem rR {s:Sg} (b:ac H n=some (.ins c d)) (e:ac H d=some (.ns s)) (g:Nat.blt s.length 100) (h:Q ()<|bj H d<|.ns<|put s f v):W (setAttr (.ref n) f v H) Q X:=by unfold setAttr;simp only [Jr b e];show W (cond _ _ _) Q X;exact g▸h
def Fp (c:Nat) (H:Hp):Hp:=(ak H+1,.ins c<|ak H)::(ak H,.ns [])::H
theorem z4 (w:WF H):aJ H (Fp c H):=(ba w _).trans<|ba (ba w _).wf<|.ins c _
theorem Fg (c:Nat) (H:Hp):ac (Fp c H) (ak H+1)=some (.ins c<|ak H):=by unfold Fp;rw[aL,Xb rfl]
theorem F0 (c:Nat) (H:Hp):ac (Fp c H) (ak H)=some (.ns []):=by unfold Fp;rw[aL,Xd<|by show ak H+1≠ak H;exact Xf<|Nat.ne_add_one<|ak H,aL,Xb rfl]
structure Ob (H0 H:Hp) (c d r:Nat) (fs:Sg):Prop where
 g:aJ H0 H
 i:ac H r=some (.ins c d)
 n:ac H d=some (.ns fs)
 d0:ac H0 d=none
 r0:ac H0 r=none
theorem Ob.grow (o:Ob j H c d r p) (g:aJ H h):Ob j h c d r p:=⟨o.g.trans g,g.get _ _ o.i,g.get _ _ o.n,o.d0,o.r0⟩
theorem kF (o:Ob g H c d r s) (i:Nat.blt s.length 100) (h:∀b,bH d H b->Ob g b c d r (put s f v)->Q () b):W (setAttr (.ref r) f v H) Q X:=
 rR o.i o.n i (h _ ⟨λU U x e=>au (Xf x) e,de o.g.wf _ _⟩ ⟨aJ.set o.g o.d0,au (cq o.n o.i nofun) o.i,aV o.n,o.d0,o.r0⟩)
theorem uc (w:WF H) (o:∀a H,AL f a H=none) (p:prog.get f=some N)
  (h:∀d r g,Ob H g c d r []->W (je N (bG n) (.ref r::A) g) (λv b=>v=.non/\Q (.ref r) b) X):W (wb c f (bG<|n+1) A H) Q X:=by
 refine W.bind<|bE (o _ _) p<|W.imp (h _ _ _ ⟨z4 w,Fg c H,F0 c H,w.none,?_⟩) λv b e=>?_
 .cases q:ac H _ with
  |none=>rfl
  |some c=>haveI:=w _ _ q;exact((Nat.not_lt.mpr<|XD _) ‹_›).elim
 .obtain⟨rfl,q⟩:=e;exact q
theorem mC {dl:Int} (w:WF H) (q:∀r h,aJ H h->Ce.At h ⟨r,N,t,ins,A,dl⟩->Q (.ref r) h):
  W (wb 4 52 (bG<|n+1) [.str N,.int t,.int ins,.int A,.int dl] H) Q X:=by
 refine uc w (λU U=>ax rfl) rfl λd r c b=>cK rfl ?_;repeat (first|walk_at"w"|refine cj ?_)
 refine kF b rfl λe U b=>?_;repeat (first|walk_at"w"|refine cj ?_)
 refine kF b rfl λf U b=>?_;repeat (first|walk_at"w"|refine cj ?_)
 refine kF b rfl λg U b=>?_;repeat (first|walk_at"w"|refine cj ?_)
 refine kF b rfl λi U b=>?_;repeat (first|walk_at"w"|refine cj ?_)
 refine kF b rfl λj U b=>?_;walk_at"W";exact⟨rfl,q r _ b.g ⟨d,b.i,b.n⟩⟩
theorem dG:bT H (.rng 0 (.ofNat n) 1) i=some (if i<n then some (.int<|.ofNat i) else none):=by
 show some (cond (Nat.blt i<|gA 0 _ 1) (some<|V.int _) none)=_;haveI e:gA 0 (.ofNat n) 1=n:=by show(Int.ofNat n-0).toNat=n;rw[Int.sub_zero];rfl
 refine qL e ?_;by_cases h:i<n
 .rw[Xb h,(a0T).mpr h]
  show some (some<|V.int _)=_;rw[WQ,a1d]
 .rw[Xd h,show Nat.blt i n=false by cases q:Nat.blt i n with|false=>rfl|true=>exact(h<|(a0T).mp q).elim];rfl
theorem eA (I:Nat->Sg->Hp->Prop) (L:n<=4000)
  (h0:I 0 c H) (g:∀c H,I n c H->N c H)
  (j:∀i (_:i<n) c H,I i c H->wL t (.int<|.ofNat i) b l c H (I<|i+1) N (I<|i+1) T X):
  WS (jB t b (.rng 0 (.ofNat n) 1) l cS 0 c H) N B o T X:=by
 refine oQ (λi c H=>i<=n/\I i c H) (λi U U h=>by haveI:=h.1;exact Wk ‹_› ‹_›) (λi c H h=>?_) cS 0 c H ⟨VY _,h0⟩ (by decide);obtain⟨d,h⟩:=h;refine qL dG ?_;by_cases q:i<n
 .refine(Xb q)▸?_
  refine aI (j i q c H h) λd e k=>bK d e<|W.imp k λr H h=>?_;obtain⟨f,m⟩:=r;cases f<;>first|exact⟨q,h⟩|exact h
 .obtain rfl:i=n:=a02 ‹_› (Nat.not_lt.mp<|by assumption)
  exact(Xd q)▸(g c H h)
noncomputable abbrev XF:V->Hp->Prop:=λU U=>False
theorem ci (h:W (e c b H) (λv H=>Q [v] H) XF):W (cr e c b H) Q XF:=W.bind0 h
theorem nw (h:WC (c l d H) (λH=>W (b l d H) Q XF) (λH=>Q [] H) XF):W (l9 c b l d H) Q XF:=
 W.bind0 (W.imp h λb U h=>by cases b<;>exact h)
theorem BZ {c:Type} {f:c->V} {g:c->List V} {L:List c} (J:Hp->Prop) (y:∀i H,J H->bT H v i=some (L[i]?.map f))
  (u:∀x∈L,∃d,cU σ t (f x)=some d/\∀H,J H->W (body cl d H) (λa j=>a=g x/\J j) XF):∀(k i:Nat) (H:Hp),J H->i<=L.length->L.length<k+i->∃j,dW t body v cl σ k i H=.ok ((L.drop i).flatMap g) j/\J j:=by
 intro z;induction z with
 |zero=>exactλi H U n m=>absurd n<|a01<|a0I i▸m
 |succ k A=>
  intro i H h n m;show∃j,(ro 114 (bT H v i) λo=>o.casesOn _ λx=>ro 115 (cU σ t x) λd=>(body cl d H).bind0 λa H=>(dW t body v cl σ k (i+1) H).bind0 λb H=>.ok (a++b) H)=_/\_;refine(y i H h)▸?_;by_cases q:i<L.length
  .refine aI (u L[i]<|a03 q) λd e w=>du (w H h).got λa j o p s=>?_;subst p
   refine aI (A (i+1) j s q<|a1e m<|WY k 1 i) λb r l=>bK b ?_ l;refine qL (a00 q) ?_;show ro 115 _ _=_;rw[e];show(body cl d H).bind0 _=_;rw[o];show(dW t body v cl σ k (i+1) j).bind0 _=_;rw[r,a1f q];rfl
  .rw[a0d<|a1g q,Zr<|a1g q]
   exact bK H rfl h
theorem yq {b:Type} {f:b->V} {g:b->List V} {L:List b} {t:PT} {o:Cs} {k:Cl} {c:Sg} {H:Hp} (J:Hp->Prop) (m:J H) (s:∀i H,J H->bT H v i=some (L[i]?.map f))
  (p:fE c t) (r:L.length<=4000) (l:(L.flatMap g).length<=4000) (n:∀x∈L,∃d,cU c t (f x)=some d/\∀H,J H->W (o k d H) (λa h=>a=g x/\J h) XF)
  (q:∀h,J h->Q (.ref<|ak h) ((ak h,.lst<|L.flatMap g)::h)):W (kX cZ t o v k c H) Q X:=by
 refine aI (BZ J s n cS 0 H m (VY _)<|VW r<|by decide) λh e j=>?_;delta kX;refine p▸?_;refine qL e ?_;show W (HO (cond (jE _) _ none) h) Q X;exact(show jE _=true from(a0T).mpr<|VW l<|by decide)▸(q h j)
theorem jn {b:Type} {f:b->V} {l:List b} (h:ac H n=some (.lst<|l.map f)):bT H (.ref n) i=some (l[i]?.map f):=(dE h).trans<|Wh some a0c
noncomputable abbrev E3 (c:Cl) (b:Sg) (Q X:V->Hp->Prop) (f:List Nat) (t:PT) (o:Cs):V->Hp->Prop:=λv H=>W (kX cZ t o v c (pick b f) H) Q X
theorem iq (h:W (i c b H) (E3 c b Q X f t o) X):W (bQ f t i o c b H) Q X:=W.bind h
section
variable {b:Type} {l:List b}
theorem nV (u:pick c v=d) (N:ac H n=some (.lst<|l.map f)) (p:fE d t) (s:l.length<=4000) (k:l.flatMap g=r) (y:r.length<=4000) (m:∀x∈l,∃h,cU d t (f x)=some h/\W (o L h H) (λa j=>a=g x/\j=H) XF)
  (q:Q (.ref<|ak H)<|(ak H,.lst r)::H):E3 L c Q X v t o (.ref n) H:=by
 subst u k;exact yq (λj=>j=H) rfl (λi j e=>jn<|e▸N) p s y (λx b=>aI (m x b) λh e w=>bK h e λj e=>e▸w) λj e=>e▸q
theorem DE (z:pick c v=d) (N:ac H n=some (.lst<|l.map f)) (D:WF H) (u:fE d t) (y:l.length<=4000) (p:l.flatMap g=r) (A:r.length<=4000) (s:∀x∈l,∃k,cU d t (f x)=some k/\∀j,aJ H j->W (o L k j) (λa m=>a=g x/\aJ j m) XF)
  (q:∀j,aJ H j->Q (.ref<|ak j) ((ak j,.lst r)::j)):E3 L c Q X v t o (.ref n) H:=by
 subst z p;exact yq _ (aJ.refl D) (λi j G=>jn<|G.get _ _ N) u y A (λx b=>aI (s x b) λk e w=>bK k e λj G=>(w j G).imp λa m h=>⟨h.1,G.trans h.2⟩) q
end
theorem w9 (a b:Int):iH a b↔a<b:=by rw[il,decide_eq_true_eq]
theorem dc (a b:Int):ieq a b↔a=b:=by refine⟨aD,λh=>?_⟩;subst h;cases a<;>simp[ieq]
def pN:List Ce->Option Ce:=λl=>l.foldl (λb c=>match b with|none=>some c|some q=>match iH c.ar q.ar with|true=>some c|false=>some q) none
noncomputable def wN (l:List Ce):Prop:=match pN l with
  |none=>l=[]
  |some p=>p∈l/\(∀c∈l,p.ar<=c.ar)/\(l.filter λc=>ieq c.ar p.ar).head? =some p
theorem CB:∀(n:Nat) (l:List Ce),l.length=n->wN l:=by
 intro n;induction n with
 |zero=>intro l h;have:=ZH h;subst this;rfl
 |succ n g=>
  intro j h0;obtain⟨l,x,rfl⟩:∃l x,j=l++[x]:=by
   rcases a1h j with rfl|⟨L,b,rfl⟩;.cases h0
   .exact PK L b a1i
  have i:=g l (by simpa using h0);unfold wN at i⊢;have e:pN (l++[x])=(match pN l with|none=>some x|some q=>match iH x.ar q.ar with|true=>some x|false=>some q):=by unfold pN;simp only [a0z];rfl
  refine qL e ?_;cases h:pN l with
  |none=>rw[h] at i;subst i;have:ieq x.ar x.ar=true:=(dc _ _).mpr rfl;refine mP (.head _) (λc H=>by simp at H;subst H;exact a1c _) ?_;simp only [a0J,ZE,this];rfl
  |some q=>
   rw[h] at i;refine kh i λk d m=>?_;dsimp only;cases z:iH x.ar q.ar with
   |true=>
    have f:=(w9 _ _).mp z;refine mP (by simp) (λc H=>?_) ?_
    .rw[a0P,a0o] at H
     rcases H with H|rfl;.exact Wy (WB f)<|d c H
     .exact a1c _
    .rw[a1a,List.filter_eq_nil_iff.mpr  λc H=>?_,ZE,(dc _ _).mpr rfl]
     .rfl
     .intro e
      haveI:=(dc _ _).mp e;haveI:=d c H;exact absurd f<|Int.not_lt.mpr<|(dc _ _).mp e▸d c H
   |false=>
    have f:¬x.ar<q.ar:=λe=>by rw[(w9 _ _).mpr e] at z;cases z
    refine mP (a1j _ k) (λc H=>?_) ?_
    .rw[a0P,a0o] at H
     rcases H with H|rfl;.exact d c H
     .exact Int.not_lt.mp f
    .simp only [a1a,List.head?_append,m];rfl
theorem Mm:∀(l:List Int) (a:Int),∃m,yQ (λi j=>iH j i) a (l.map V.int)=some (.int m)/\m∈a::l/\∀x∈a::l,m<=x:=by
 intro f;induction f with
 |nil=>exactλa=>⟨a,rfl,by simp,by simp⟩
 |cons b l g=>
  intro a;show∃m,(yQ (λi j=>iH j i) (cond (iH b a) b a) _)=some _/\_;cases z:iH b a with
  |true=>
   refine e7 (g b) λm d H c=>?_;have:=(w9 _ _).mp z;have k:=c b<|.head _;refine jy m d (Xw _ H)  λx h=>?_;rcases VO h with rfl|h
   .exact Wy ‹_› (WB<|by assumption)
   .exact c x h
  |false=>
   refine e7 (g a) λm d H c=>?_;have L:¬b<a:=λe=>by exact Bool.noConfusion<|((w9 _ _).mpr e).symm.trans z
   have A:=c a<|.head _;refine jy m d ?_  λx h=>?_
   .rcases VO H with rfl|H
    .simp
    .simp[H]
   .rcases VO h with rfl|h
    .exact A
    .rcases VO h with rfl|h
     .exact Wy ‹_› (Int.not_lt.mp<|by assumption)
     .exact c x<|.tail _ h
def ig (k:Int):List Int:=match ieq k 2 with|true=>[1,7,6,2,14,8,9,4]|false=>[127,1,228,31,7,128,150,2]
def fK (k:Int):List (List Int):=match ieq k 2 with|true=>[[0,1],[1,0]]|false=>[[0,1,2],[0,2,1],[1,0,2],[1,2,0],[2,0,1],[2,1,0]]
def qW (k:Int):List Int:=match ieq k 2 with|true=>[0,1]|false=>[0,1,2]
def cT (k:Int):List Int:=match ieq k 2 with|true=>[1,7,6,2,14,8,9,4,11]|false=>ig k
theorem gD (h:t∈ig k):t∈cT k:=by
 delta cT;cases q:ieq k 2 with
 |false=>exact h
 |true=>delta ig at h;rw[q] at h;exact a1j [11] h
noncomputable abbrev DG:=Int->List Int->Int
def bI (fd:DG) (k t w:Int):Bool:=(fK k).any λy=>ieq (fd t y) w
structure PR (k w t:Int) (d:V):Prop where
 is:∃l,d=.tup (bD l)/\jT l=qW k
 fed:Pl 76 [.int t,d,.int 0,.int 0] (.int w)
structure TD where
 l:Int
 f:V
 od:V
 m:Int
 o:Int
 om:Int
 pm:Option V
 sb:Bool
noncomputable def TD.row (x:TD) (c:Ce):DY:=⟨c,x.l,x.f,x.od,x.m,x.o,x.om,x.pm⟩
structure TD.Ok (fd:DG) (k w lw:Int) (fw:V) (t:Int) (x:TD):Prop where
 cn:Pl 42 [.int t,.int k] (.tup [.int x.l,x.f])
 row:∀c:Ce,c.tb=t->c.ins=k->(x.row c).Ok w lw fw
 st:bI fd k t w=x.sb
 no:x.sb=false->x.l≠lw\/(x.om+x.o≠0/\x.pm=none)
 yes:x.sb=true->x.l=lw/\((x.om+x.o=0/\x.m=0/\x.o=0/\PR k w t x.od)\/(x.om+x.o≠0/\∃d,x.pm=some d/\PR k w t d))
structure oo (fd:DG) (k w lw:Int) (fw:V) (td:Int->TD):Prop where
 cn:Pl 42 [.int w,.int k] (.tup [.int lw,fw])
 ok:∀t∈cT k,(td t).Ok fd k w lw fw t
def TD.way (x:TD):V:=match ieq (x.om+x.o) 0 with|true=>x.od|false=>match x.pm with|some d=>d|none=>.non
theorem TD.Ok.way {fd:DG} {x:TD} (h:x.Ok fd k w L y t) (e:x.sb):PR k w t x.way:=by
 haveI h:=(h.yes e).2;delta TD.way;rcases h with⟨j,_,_,u⟩|⟨j,d,p,r⟩;.rw[j];exact u
 .rw[show ieq _ 0=false by cases q:ieq _ 0 with|false=>rfl|true=>exact(j<|aD q).elim,p];exact r
theorem Jv {s:List Ce} (b:2<=k) (h:∀c∈s,c.ins=k):s.find? bz=none:=by rw[a1k];intro c H e;delta bz at e;simp only [XR] at e;haveI:=aD e.1;haveI:=h c H;lia
theorem B5 {fd:DG} {x:TD} (n:s.find? bz=none) (h:x.Ok fd k w l m t):
  out s l (x.row c)=match x.sb with|true=>some ([.ref c.ref,x.way,.int 0,.int 0],c.ar)|false=>none:=by
 have i:∀b,eV s c.ar b=match ieq b 0 with|true=>some c.ar|false=>none:=λb=>by unfold eV;rw[n]<;>cases ieq b 0<;>rfl
 delta out;cases e:x.sb with
 |true=>
  haveI H:=(h.yes e).1;haveI g:=(h.yes e).2;refine qL (show ieq (x.row c).l l=true from(dc _ _).mpr H) ?_;dsimp only;refine qL (show eV s (x.row c).c.ar _=_ from i _) ?_;delta TD.way;rcases g with⟨A,f,j,_⟩|⟨A,d,f,_⟩
  .rw[show ieq ((x.row c).om+(x.row c).o) 0=true from(dc _ _).mpr A,(dc _ _).mpr A]
   show some ([V.ref c.ref,x.od,.int x.m,.int x.o],c.ar)=_;exact qL f<|qL j rfl
  .haveI z:ieq _ 0=false:=by cases q:ieq _ 0 with|false=>rfl|true=>exact(A<|aD q).elim
   rw[show ieq ((x.row c).om+(x.row c).o) 0=false from z,z];show(match x.pm with|none=>none|some d=>some ([V.ref c.ref,d,.int 0,.int 0],c.ar))=_;exact qL f rfl
 |false=>
  rcases h.no e with H|⟨H,g⟩;.exact qL (show ieq (x.row c).l l=false by cases q:ieq (x.row c).l l with|false=>rfl|true=>exact absurd (aD q) H) rfl
  .cases q:ieq (x.row c).l l with
   |false=>rfl
   |true=>
    have z:ieq (x.om+x.o) 0=false:=by cases q:ieq _ 0 with|false=>rfl|true=>exact(H<|aD q).elim
    dsimp only;refine qL (show eV s (x.row c).c.ar _=_ from i _)<|qL (show ieq ((x.row c).om+(x.row c).o) 0=false from z) ?_;show(match x.pm with|none=>none|some d=>some _)=_;exact qL g rfl
theorem ww {fd:DG} (G:oo fd k w l j t) (n:f.find? bz=none) (g:Ce->List V×Int) (h:∀c,g c=([.ref c.ref,(t c.tb).way,.int 0,.int 0],c.ar)):
  ∀(s:List Ce) (d:Option<|List V×Int) (A:Option Ce),(∀c∈s,c.tb∈cT k)->d=A.map g->
   (s.map λc=>(t c.tb).row c).foldl (λb r=>ju b<|out f l r) d=((s.filter λc=>(t c.tb).sb).foldl (λb c=>match b with|none=>some c|some q=>match iH c.ar q.ar with|true=>some c|false=>some q) A).map g:=by
 intro z;induction z with
 |nil=>exactλd A U e=>e
 |cons c s i=>
  intro d A m e;refine qL Xy<|qL Yf<|qL (B5 n<|G.ok c.tb<|m c Xz)<|qL ZE ?_;cases q:(t c.tb).sb with
  |false=>exact i d A (λc H=>m c<|Xw _ H) e
  |true=>
   refine i _ _ (λc H=>m c<|Xw _ H) ?_;subst e;induction A with
   |none=>show some _=some (g c);rw[h]
   |some q=>
    show(match iH c.ar (g q).2 with|true=>some _|false=>some<|g q)=_;refine(h q)▸?_;dsimp only;cases iH c.ar q.ar with
    |true=>show some _=some (g c);rw[h]
    |false=>show some _=some (g q);rw[h]
noncomputable def Pe (t:Int->TD) (c:Ce):List V×Int:=([.ref c.ref,(t c.tb).way,.int 0,.int 0],c.ar)
theorem wC {fd:DG} (G:oo fd k w l f t) (H:s.find? bz=none) (h:∀c∈s,c.tb∈cT k):
  gx s l (s.map λc=>(t c.tb).row c)=(pN<|s.filter λc=>(t c.tb).sb).map (Pe t):=
 ww G H _ (λU=>rfl) s none none h rfl
structure yn (k:Int) (cs:List Ce):Prop where
 tb:∀c∈cs,c.tb∈ig k
 ins:∀c∈cs,c.ins=k
 dl:∀c∈cs,c.dl=1
structure Drawn (s sh:Nat) (k:Int) (cs:List Ce) (st:List Int) (H:Hp):Prop where
 wf:WF H
 stk:kD s st H
 lib:bp H sh cs
 ne:sh≠s
 ok:yn k cs
theorem B9:(ig k).length=8:=by unfold ig;cases ieq k 2<;>rfl
theorem rY (h:ac H m=some (.lst<|bD<|ig k)) (h0:0<=d) (b:d<8):∃t,t∈ig k/\gW H (.ref m) (.int d)=some (.int t):=by
 obtain⟨j,rfl⟩:=a1l h0;have J:j<(ig k).length:=by simp only [B9];exact Int.ofNat_lt.mp b
 exact bK _ (a03 J) (aQ h<|by unfold bD;simp only [a0c,a00 J];rfl)
theorem bW (h:N<100000) (q:Q (.rng 0 (.ofNat N) 1) H):W (cM .range [.int<|.ofNat N] H) Q X:=by
 haveI:cM .range [.int _] H=.ok (.rng 0 _ 1) H:=by show EB 0 (.ofNat N) 1 H=_;delta EB;rw[show Kw (.ofNat N)=true from(a0T).mpr h];rfl
 exact W.eq this q
theorem CO (e:jE<|a++b) (q:Q (.str<|a++b) H):W (ym .add (.str a) (.str b) H) Q X:=by show W (cond (true&&jE _) (R.ok (V.str _) H) _) Q X;rw[e];exact q
theorem wE (h:i<3):∃c,gW H (.str [48,49,50]) (.int<|.ofNat i)=some (.str [c]):=by haveI:i=0\/i=1\/i=2:=yz ‹_›;rcases this with rfl|rfl|rfl<;>exact⟨_,rfl⟩
theorem EQ {c:Ce} (h:c.At H) (N:ac H n=some (.lst l)):c.At (bj H n<|.lst L):=by refine aI h λd a b=>?_;exact bK d (au (BC N a nofun) a)<|au (BC N b nofun) b
theorem sd (L:bp H d s) (h:c.At H) (l:s.length<8):bp (bj H d<|.lst<|s.map Ce.v++[.ref c.ref]) d (s++[c]):=by
 refine⟨?_,λx b=>?_,by simp only [Yb];exact l⟩;.exact a0n▸(aV L.lst)
 .rw[a0P,a0o] at b
  rcases b with b|rfl;.exact EQ (L.cell x b) L.lst
  .exact EQ h L.lst
theorem z3 (d:k=2\/k=3) (w:WF h) (q:∀m c,aJ h c->ac h m=none->ac c m=some (.lst<|bD<|ig k)->Q (.ref m) c):
  WC (rI LV.eq (V.int k) (V.int 2) h) (λH=>W (aT [eK<|.int 1,eK<|.int 7,eK<|.int 6,eK<|.int 2,eK<|.int 14,eK<|.int 8,eK<|.int 9,eK<|.int 4] l b H) Q X)
   (λH=>W (aT [eK<|.int 127,eK<|.int 1,eK<|.int 228,eK<|.int 31,eK<|.int 7,eK<|.int 128,eK<|.int 150,eK<|.int 2] l b H) Q X) X:=by
 rcases d with rfl|rfl
 .walk_at"W"
  refine gJ rfl ?_;exact q _ _ (ba w _) w.none<|bA _ _
 .walk_at"W"
  refine gJ rfl ?_;exact q _ _ (ba w _) w.none<|bA _ _
structure Of (f:Nat) (args:List V) (l:List V):Prop where
 k:kind f=2
 a:bV args=true
 o:bV l=true
 e:∃m H',run prog kI 30 f args []=.ok (.ref m) H'/\ac H' m=some (.lst l)
theorem Of.w (p:Of f A l) (q:Q (.ref<|ak H)<|(ak H,.lst l)::H):W (bG (n+1) f A H) Q X:=by refine oi p.e λm h e g=>?_;exact zc (m7 (by rw[p.k];decide)<|fS p.k (.mk p.a e g p.o:zZ _ _ _ _)) q
def ja (w:List Int):V:=.tup<|bD w
structure yc (fd:DG):Prop where
 ways:∀k:Int,k=2\/k=3->Of 75 [.int k] ((fK k).map ja)
 menu:∀k:Int,k=2\/k=3->∀t∈ig k,∃lw fw td,oo fd k t lw fw td
 fed:∀k:Int,k=2\/k=3->∀t∈cT k,∀w∈fK k,Pl 76 [.int t,ja w,.int 0,.int 0] (.int<|fd t w)
 fedW:∀k:Int,k=2\/k=3->∀t∈ig k,∀w∈fK k,∃lw fw td,oo fd k (fd t w) lw fw td
 one1:Pl 53 [.int 1] (.int 1)
 one0:Pl 53 [.int 0] (.int 0)
theorem AK (L:bp H b s) (h:0<s.length):∃c∈s,gW H (.ref b) (.int (-1))=some (.ref c.ref):=by refine bK (s[s.length-1]) (a03 _) ?_;refine qL (pO L.lst) ?_;show(idx _ (s.map Ce.v).length).bind (nth _)=_;rw[XK,show idx _ s.length=some _ by show cond _ _ _=_;rw[(a0T).mpr h];rfl];show nth _ _=_;rw[mS,a0c,a00 _];rfl
theorem qX (h:ac H n=some (.lst l)) (h0:0<=d) (b:d<.ofNat l.length):∃v∈l,gW H (.ref n) (.int d)=some v:=by obtain⟨j,rfl⟩:=a1l h0;have J:j<l.length:=Int.ofNat_lt.mp b;refine bK (l[j]) (a03 J) ?_;exact aQ h<|a00 J
theorem j4 (h:ac H n=some (.lst l)) (q:Q (.int<|.ofNat l.length) H):W (cM .len [.ref n] H) Q X:=by exact W.lift (Jy h) q
theorem jj {b:Type} {f:b->V} {l:List b} (h:ac H n=some (.lst<|l.map f)) (q:Q (.int<|.ofNat l.length) H):W (cM .len [.ref n] H) Q X:=j4 h (by rw[XK];exact q)
theorem qv (q:Q (.int (-i)) H):W (JZ (.int i) H) Q X:=q
theorem yg {d:Int->TD} (h:∀c∈s,c.ins=k):fI (λt=>((d t).l,(d t).f)) k s=(s.map λc=>(d c.tb).row c).map DY.v:=by delta fI;simp only [List.filter_eq_self.mpr λc H=>(dc _ _).mpr<|h c H,XJ];rfl
theorem jV (p:Ce->Bool) (s:List Ce):(s.flatMap λc=>cond (p c) [Ce.v c] [])=(s.filter p).map Ce.v:=by
 induction s with
 |nil=>rfl
 |cons c s i=>simp only [a1m,ZE,i];cases p c<;>rfl
theorem nA (l:List Nat) (h:look b x=some a):pick b (x::l)=(x,a)::pick b l:=by show@Option.casesOn V (λU=>Sg) _ (pick b l) (λv=>(x,v)::pick b l)=_;exact qL h rfl
theorem zW (h:look c x=some a) (H:look c y=some b):pick c [x,y]=[(x,a),(y,b)]:=by rw[nA _ h,nA _ H];rfl
theorem wa (h:look b x=some a):pick b [x]=[(x,a)]:=by rw[nA _ h];rfl
theorem i6 (e:gU o x y H=some r) (h:Q r H):W (rI o x y H) Q X:=W.lift e h
theorem Cn (e:gU o x y H=some r) (h:∀r,Q r H):W (rI o x y H) Q X:=W.lift e<|h r
theorem DJ (x:Int):∀l:List Int,(ub x l).length=l.length+1:=by
 intro z;induction z with
 |nil=>exact rfl
 |cons y l i=>
  show(cond _ _<|y::ub x l).length=_;cases iH x y with
  |true=>rfl
  |false=>show(ub x l).length+1=_;rw[i];rfl
theorem r7:∀l:List Int,(jT l).length=l.length:=by
 intro z;induction z with
 |nil=>exact rfl
 |cons x l i=>show(ub x<|jT l).length=_;simp only [DJ,i];rfl
theorem pV:∀l:List Int,cG (bD l)=some l:=by
 intro z;induction z with
 |nil=>exact rfl
 |cons x l i=>show(cG<|bD l).map _=_;rw[i];rfl
theorem Fw (h:i.length<64) (q:Q (.ref<|ak H)<|(ak H,.lst<|bD<|jT i)::H):W (cM .sorted [.tup<|bD i] H) Q X:=by show W (ro 50 (cG _) λn=>JL n H) Q X;rw[pV];show W (cond _ (fU _ H) _) Q X;refine qL ((a0T).mpr h) ?_;exact zp (by rw[XK,r7];exact Xk h<|by decide) q
theorem wk (c:k=2\/k=3) (h:look b 136=some (.int k)) (q:Q (.ref<|ak H)<|(ak H,.lst<|bD<|qW k)::H):
  W (ah .list [ah .range [ab 136]] l b H) Q X:=by
 rcases c with rfl|rfl
 .walk_at"W"
  refine bW (by decide) ?_;exact q
 .walk_at"W"
  refine bW (by decide) ?_;exact q
theorem EF:∀n,(∀j,j<n->p j=some true)->GV p n=some true:=by
 intro z;induction z with
 |zero=>exactλU=>rfl
 |succ n i=>intro h;show Am and (GV p n) (p n)=_;simp only [i λj q=>h j<|W0 q,h n<|W1 n];rfl
theorem Hk (l:List Int):Ol (Cf Bj) (bD l) (bD l)=some true:=by unfold Ol;rw[Xs];refine EF _ λj q=>?_;unfold bD at q⊢;rw[XK] at q;rw[mS,a0c,a00 q];show some _=_;exact qL ((dc _ _).mpr rfl) rfl
theorem Dm (h:ac H a=some (.lst<|bD l)) (c:ac H b=some (.lst<|bD l)):gU .ne (.ref a) (.ref b) H=some false:=by show neg (Mr H _ _)=_;refine qL (qS h c) ?_;delta ot;rw[W9,Hk];rfl
theorem qB (h:c.find? bz=none) (H:ieq t 0=false):eV c A t=none:=by unfold eV;rw[H,h]
theorem Cx (h:ieq t 0):eV c A t=some A:=by unfold eV;simp only [h]
theorem Dc (f:List Ce):(f.flatMap λc=>[V.int c.ar])=(f.map Ce.ar).map V.int:=by
 induction f with
 |nil=>rfl
 |cons c s i=>simp only [a1m,i];rfl
theorem N7 {f:List Ce} (N:ac H n=some (.lst<|(f.map Ce.ar).map V.int)) (g:p∈f) (k:∀c∈f,p.ar<=c.ar) (q:Q (.int p.ar) H):W (cM .min [.ref n] H) Q X:=by
 show W (lift 52 ((im H _).bind<|wd λi j=>iH j i) H) Q X;refine qL (kZ N) ?_;induction f with
 |nil=>cases g
 |cons c f=>refine e7 (Mm _ c.ar) λm e M l=>W.lift e ?_;haveI j:=l p.ar<|Xy▸(XC g);rw[<-Xy] at M;refine aI (VT M) λd h b=>?_;subst b;haveI o:=k d h;exact(ZL ‹_› ‹_›:d.ar=p.ar)▸q
theorem AE {l:List Ce} (h:ac H n=some (.lst<|l.map Ce.v)) (b:l.head? =some p):gW H (.ref n) (.int 0)=some (.ref p.ref):=by
 induction l with
 |nil=>cases b
 |cons c l=>obtain rfl:=W2 b;exact(pO h).trans rfl
theorem mE:∀l:List Nat,seq l l:=by
 intro z;induction z with
 |nil=>exact rfl
 |cons x l i=>show cond _ (seq l l) false=true;rw[W9];exact i
theorem AM:(fK k).length<=6:=by unfold fK;cases ieq k 2<;>decide
theorem nH {fd:DG} (g:yc fd) (j:k=2\/k=3) (m:t∈cT k) (o:WF H) (q:∀c,aJ H c->Q (.bool<|bI fd k t w) c):
  W (bG (n+2) 77 [.int t,.int w,.int k] H) Q X:=by
 refine bE (ax rfl) rfl (let L:=bG<|n+1;cK (cl:=L) rfl ?_);walk_at"W";refine(g.ways k j).w<|fy o λy l G Y U=>?_;have s:∀i (d:i<(fK k).length),((fK k).take<|i+1).any (λy=>ieq (fd t y) w)=(((fK k).take i).any (λy=>ieq (fd t y) w)||ieq (fd t (fK k)[i]) w):=λi d=>by simp only [a04 d,a06,Xv,a1n,a1o]
 let f:Nat->Sg->Hp->Prop:=λi b c=>c=l/\iz b [(38,.int t),(123,.int w)]/\((fK k).take i).any (λy=>ieq (fd t y) w)=false;refine eM (I:=f) (by haveI:=AM (k:=k);exact Wk ‹_›<|by decide)
  ⟨rfl,by walk_at"lq",rfl⟩ (λi b c h=>h.1▸Y) (λb c h=>?_) λi d b c h=>?_
 .obtain⟨rfl,_,h⟩:=h
  rw[a05] at h;walk_at"W";haveI:=q _ G;unfold bI at this;rw[h] at this;exact this
 .obtain⟨rfl,z,h⟩:=h
  haveI p:=g.fed k j t m _[i]<|a03 d;walk_at"w";walk_at"W";refine p.w ?_;walk_at"w";walk_at"cs";case h1=>intro e;walk_at"W";haveI:=q _ G;unfold bI at this;rw[a1Y.mpr ⟨_,a03 d,e⟩] at this;exact this
  case h2=>intro e;walk_at"W";exact mP rfl (by walk_at"lq") (by simp only [s i d,h,e];rfl)
theorem wP {fd:DG} {st:List Int} (TB:yc fd) (w:WF H) (S:kD s st H)
  (q:∀st' J,bH s H J->kD s st' J->Q (.bool true) J):W (bG (n+6) 79 [.ref s] H) Q X:=by
 refine bE (ax rfl) rfl (let l:=bG<|n+5;cK (cl:=l) rfl ?_);walk_at"W";refine cF w S (by decide) λd1 st1 H1 d10 d11 G1 S1=>?_;walk_at"W";obtain⟨k,hk,o⟩:∃k:Int,2+d1=k/\(k=2\/k=3):=⟨_,rfl,(Q9 d10 d11).imp (λe=>by rw[e];rfl)  λe=>by rw[e];rfl⟩
 refine qL hk ?_;refine z3 o G1.wf λme H2 G2 me1 hme=>?_;walk_at"W";refine gJ rfl ?_;walk_at"W";haveI G3:=ba G2.wf<|.lst [];haveI hsh:=bA H2<|.lst [];haveI sh2:=G2.wf.none;haveI S3:=(S1.grow G2).grow G3;haveI hme3:=G3.get _ _ hme;haveI hG:=G1.trans<|G2.s.trans G3.s;have f:ak H2≠s:=λe=>by rw[e] at sh2;exact nomatch (((S1.grow G2).at').symm.trans sh2)
 have M:me≠s:=λe=>by rw[e] at me1;exact nomatch (S1.at'.symm.trans me1)
 haveI hmsh:me≠ak H2:=λe=>by rw[<-e] at sh2;exact absurd (hme.symm.trans sh2)<|W8 _
 haveI sh0:ac H _=none:=by
  cases q:ac H _ with
  |none=>rfl
  |some c=>exact absurd (((G1.trans G2.s).get _ _ f q).symm.trans sh2)<|W8 _
 generalize ak H2=sh at*;haveI w3:=G3.wf;refine cF w3 S3 (by decide) λd2 st2 H4 d20 d21 G4 S4=>?_;walk_at"W";obtain⟨N,hN,j⟩:∃N:Nat,1+d2=.ofNat N/\N<=3:=⟨(1+d2).toNat,JE<|by assumption,Cy<|by assumption⟩
 refine qL hN ?_;refine bW (VW ‹_›<|by decide) ?_;let I2_:Nat->Sg->Hp->Prop:=λi b J=>∃cs st',cs.length=i/\WF J/\bH s H J/\kD s st' J/\bp J sh cs/\yn k cs/\ac J me=some (.lst<|bD<|ig k)/\iz b [(134,.ref s),(136,.int k),(142,.ref me),(143,.ref sh)];refine eA (I:=I2_) (Wk ‹_›<|by decide)
  ⟨[],st2,rfl,G4.wf,hG.trans G4,S4,⟨G4.get _ _ f hsh,(λc d=>nomatch d),by decide⟩,⟨(λc d=>nomatch d),(λc d=>nomatch d),λc d=>nomatch d⟩,G4.get _ _ M hme3,by walk_at"lq"⟩
  (λb J h=>?_) λi hi b J h=>?_
 .refine T7 h λcs st5 hlen wf' GG SS LL O hm' Kz=>?_
  haveI hpos:0<cs.length:=Int.ofNat_lt.mp (WU (by decide:(0:Int)<1)<|Wy (a1p d20)<|ZK<|hN.trans<|Wh Int.ofNat hlen.symm);walk_at"W";refine cF wf' SS (by decide) λd5 st6 H5 d50 d51 G5 S5=>?_;walk_at"W";haveI a1:=(mH (x:=d5+5) (m:=8) (Wb d50<|by decide)<|by decide).1;haveI a2:=(mH (x:=d5+5) (m:=8) (Wb d50<|by decide)<|by decide).2;refine aI (rY (G5.get _ _ M hm') a1 a2) λt0 ht0 hti=>?_;refine az hti ?_;haveI L5:=LL.growS SS.at' f G5;haveI GG5:=GG.trans G5;haveI wf5:=G5.wf;refine bf rfl ?_;refine aE ?_;refine WS.on (N':=λb H8=>∃w lw fw D z,oo fd k w lw fw D/\WF H8/\bH s H H8/\kD s z H8/\bp H8 sh cs/\iz b [(123,.int w),(136,.int k),(143,.ref sh)]) ?_ λb H8 h=>?_
  .walk_at"W"
   refine cF wf5 S5 (by decide) λd6 st7 H6 d60 d61 G6 S6=>?_;walk_at"W";haveI L6:=L5.growS S5.at' f G6;haveI G:=GG5.trans G6;haveI p:=G6.wf;walk_at"cs";case h2=>intro _;walk_at"W";refine M4 (TB.menu k o t0 ht0) λlw fw D g=>?_;exact TZ t0 lw fw D st7 g p G S6 L6 (by walk_at"lq")
   case h1=>
    intro _;walk_at"W";refine(TB.ways k o).w<|fy p λwy H7 G7 l w6n=>?_;have hwn:=iw w6n S6.at';haveI S7:=S6.grow G7;have Y:=L6.grow G7;haveI L:=G.trans G7.s;haveI wf7:=G7.wf;walk_at"W";refine vD ?_;walk_at"W";refine qv ?_;refine aI (AK Y hpos) λc d hci=>?_;refine az hci ?_;haveI hca:=Y.cell c d;walk_at"W";refine j4 l ?_;walk_at"W";haveI hl0:(0:Int)<.ofNat ((fK k).map ja).length:=by rcases o with rfl|rfl<;>decide
    refine cF wf7 S7 hl0 λd7 z H8 d70 d71 A S8=>?_;refine aI (qX (A.get _ _ hwn l) d70 d71) λv hv hvi=>?_;refine aI (VT hv) λy j u=>?_;subst u;refine az hvi ?_;walk_at"W";refine M4 (TB.fedW k o c.tb (O.tb c d) y j) λlw fw D g=>?_;refine(TB.fed k o c.tb (gD<|O.tb c d) y j).w ?_;walk_at"W";exact TZ _ lw fw D z g A.wf (L.trans A) S8 (Y.growS S7.at' f A) (by walk_at"lq")
  .refine Vv h λw' lw fw D z g wf8 GG8 S8 L8 Kz=>?_
   walk_at"W";refine wg (cn:=λt=>((D t).l,(D t).f)) wf8 L8 (λc d U=>(g.ok c.tb<|gD<|O.tb c d).cn) λmr H9 G9 mr8 hmr=>?_;rw[yg O.ins] at hmr;have L9:=L8.grow G9;haveI hlen8:=L8.len;have hnI:=Jv (Wy (a1p d10)<|ZK hk) O.ins;walk_at"W";refine ul L9 hmr (by rw[XK];exact hlen8) (λr hr=>?_) (λr hr=>?_) g.cn ?_
   .refine aI (VT hr) λc d u=>?_;subst u
    exact L9.cell c d
   .refine aI (VT hr) λc d u=>?_;subst u
    exact(g.ok c.tb<|gD<|O.tb c d).row c rfl<|O.ins c d
   refine qL (wC g hnI λc d=>gD<|O.tb c d) ?_;haveI S9:=S8.grow G9;haveI GG9:=GG8.trans G9.s;haveI wf9:=G9.wf;generalize l:(cs.filter λc=>(D c.tb).sb)=j at*;walk_at"W";refine iq ?_;walk_at"W";have hfl:(cs.flatMap λc=>cond (D c.tb).sb [Ce.v c] [])=j.map Ce.v:=by rw[jV  λc=>(D c.tb).sb,l]
   have hfl2:j.length<=8:=by rw[<-l];exact Wk (a1b _ _) hlen8
   refine DE (zW (by walk_at"lk")<|by walk_at"lk") L9.lst wf9 rfl (Wk ‹_›<|by decide) hfl (by rw[XK];exact Wk ‹_›<|by decide) (λc d=>⟨_,rfl,λHc Gc=>?_⟩)  λHc Gc=>fy Gc.wf λp H10 G10 hft U=>?_
   .haveI hca:=(L9.cell c d).grow Gc
    haveI p:=(g.ok c.tb<|gD<|O.tb c d).st;refine nw ?_;walk_at"W";refine nH TB o (gD<|O.tb c d) Gc.wf λHd v=>?_;refine qL p ?_;refine mD rfl ?_ ?_
    .intro e
     refine ci ?_;walk_at"W";rw[e];exact⟨rfl,v⟩
    .intro e
     rw[e];exact⟨rfl,v⟩
   haveI L10:=(L9.grow Gc).grow G10;haveI S10:=(S9.grow Gc).grow G10;haveI GG10:=GG9.trans (Gc.trans G10).s;haveI wf10:=G10.wf;haveI hB:=CB j.length j rfl;unfold wN at hB;cases hb:pN j with
   |none=>rw[hb] at hB;subst hB;walk_at"W";refine gJ rfl ?_;haveI G:=ba wf10<|.lst [];refine i6 (show gU .eq _ (.ref _) _=some true by show Mr _ _ (.ref _)=_;rw[qS (G.get _ _ hft)<|bA H10 _];rfl) ?_;exact q z _ (GG10.trans G.s)<|S10.grow G
   |some p=>
    rw[hb] at hB;refine kh hB λp1 p2 p3=>?_;have pcs:p∈cs/\(D p.tb).sb=true:=by rw[<-l,a1q] at p1;exact p1
    haveI pok:=g.ok p.tb<|gD<|O.tb p pcs.1;haveI hway:=pok.way pcs.2;obtain⟨⟨is,hdis,hsort⟩,hfed⟩:=hway;rw[a0W,show pR (some _)=V.tup [.ref p.ref,(D p.tb).way,.int 0,.int 0] from rfl,hdis];rw[hdis] at hfed;haveI hil:is.length<64:=by rw[<-r7,hsort];unfold qW;cases ieq k 2<;>decide
    walk_at"W";refine Fw hil<|fy wf10 λso H11 G hso U=>?_;have L11:=L10.grow G;haveI S11:=S10.grow G;haveI GG11:=GG10.trans G.s;have wf11:=G.wf;haveI hft11:=G.get _ _ hft;rw[hsort] at hso;refine wk o (by walk_at"lk") ?_;haveI v:=ba wf11<|.lst<|bD<|qW k;refine i3 (Dm (v.get _ _ hso)<|bA _ _) ?_;haveI L:=L11.grow v;haveI S12:=S11.grow v;haveI GG12:=GG11.trans v.s;haveI wf12:=v.wf;haveI Y:=v.get _ _ hft11;haveI y:=L.cell p pcs.1;walk_at"W";refine hfed.w ?_;walk_at"W";refine i3 (show neg (some _)=some false by rw[(dc w' w').mpr rfl];rfl) ?_;walk_at"W";refine l4 L y TB.one0 rfl ?_;walk_at"W";refine i3 (show neg (some _)=some false by rw[(dc p.ar p.ar).mpr rfl];rfl) ?_;walk_at"W";refine l4 L y TB.one1 rfl ?_;refine qL (qB hnI rfl) ?_;walk_at"W";refine l4 L y TB.one0 rfl ?_;refine qL (qB hnI rfl) ?_;walk_at"W";refine iq ?_;walk_at"W";refine nV rfl Y rfl (Wk ‹_›<|by decide) (Dc j) (by rw[XK,XK];exact Wk ‹_›<|by decide) (λc d=>⟨_,rfl,?_⟩)<|fy wf12 λan H13 A har U=>?_
    .haveI hca:=L.cell c (by rw[<-l,a1q] at d;exact d.1)
     refine ci ?_;walk_at"W";exact⟨rfl,rfl⟩
    have L13:=L.grow A;haveI S13:=S12.grow A;haveI GG13:=GG12.trans A.s;haveI wf13:=A.wf;haveI hft13:=A.get _ _ Y;refine N7 har p1 p2 ?_;haveI y:=L13.cell p pcs.1;walk_at"W";refine iq ?_;walk_at"W";refine nV (wa<|by walk_at"lk") hft13 rfl (Wk ‹_›<|by decide) (jV (λc=>ieq c.ar p.ar) j) (by rw[XK];exact Wk (a1b _ _)<|Wk ‹_›<|by decide) (λc d=>⟨_,rfl,?_⟩) ?_
    .haveI hca:=L13.cell c (by rw[<-l,a1q] at d;exact d.1)
     refine nw ?_;walk_at"W";refine kH rfl ?_ ?_
     .intro e
      refine ci ?_;walk_at"W";rw[e];exact⟨rfl,rfl⟩
     .intro e
      rw[e];exact⟨rfl,rfl⟩
    haveI G14:=ba wf13<|.lst<|(j.filter λc=>ieq c.ar p.ar).map Ce.v;walk_at"W";refine az (AE (bA _ _) p3) ?_;haveI y:=y.grow G14;walk_at"W";refine i6 (show some _=some true by rw[mE]) ?_;exact q z _ (GG13.trans G14.s)<|S13.grow G14
 .refine T7 h λcs st' u wf' GG SS LL O hm' Kz=>?_;subst u
  walk_at"w";walk_at"W";refine cF wf' SS (by decide) λd3 L H5 D l G5 S5=>?_;refine aI (rY (G5.get _ _ M hm') D l) λt G hti=>?_;refine az hti ?_;walk_at"W";haveI L5:=LL.growS SS.at' f G5;refine bx<|aF ?_;walk_at"W";refine eL L5.lst ?_;refine mc ?_;walk_at"W";obtain⟨Y,p⟩:=wE<|WR ‹_› ‹_›;refine az p ?_;refine CO rfl ?_;walk_at"W";refine cF G5.wf S5 (by decide) λd4 y H6 z A G6 S6=>?_;walk_at"W";refine mC G6.wf λrC H7 G7 d=>?_;have L6:=(L5.growS S5.at' f G6).grow G7;refine eC L6.lst (by rw[XK];haveI:=L6.len;exact VW ‹_›<|by decide)<|wu ?_;walk_at"W";haveI v:=G7.get _ _<|G6.get _ _ M<|G5.get _ _ M hm';refine UE _ y (by simp) (de G7.wf _ _) ?_ ?_ (sd L6 d<|WR ‹_<N› (Wk (show(Int.ofNat N).toNat<=3 from hN▸Cy d21)<|by decide)) ?_ ?_ (by walk_at"lq")
  .have g:=(GG.trans G5).trans (G6.trans G7.s)
   exact⟨λx c j d=>au (iw sh0 d)<|g.get x c j d,de g.wf _ _⟩
  .exact⟨au f<|(S6.grow G7).at',S6.ok,S6.len⟩
  .refine⟨λc j=>?_,λc j=>?_,λc j=>?_⟩<;>rw[a0P,a0o] at j<;>rcases j with j|rfl
   .exact O.tb c j
   .exact G
   .exact O.ins c j
   .rfl
   .exact O.dl c j
   .rfl
  .exact au (Xf hmsh) v
noncomputable def pu (r:R V):Option V:=r.casesOn (λv U=>some v) (λU U=>none) λU=>none
theorem Pl.of (k:kind f=1) (a:bV A) (o:lH v) (e:pu (run prog kI 30 f A [])=some v):Pl f A v:=by
 refine⟨k,a,o,?_⟩;cases q:run prog kI 30 f A [] with
 |ok j h=>rw[q] at e;exact⟨h,Wh (R.ok · h)<|W2 e⟩
 |ex=>rw[q] at e;cases e
 |no=>rw[q] at e;cases e
def Ei (r:R V):Option V×Option aB×Option aB:=r.casesOn (λv H=>(some v,ac H 1,ac H 0)) (λU U=>(none,none,none)) λU=>(none,none,none)
theorem CA.of {v:V} (k:kind f=3) (a:bV r) (o:jz (λi=>Nat.beq i 1) v) (e:Ei (run prog kI 30 f (.ref 1::r)<|hp2 c.fs)=(some v,some<|.ins 4 0,some<|.ns c.fs)):CA f c r v:=by
 refine⟨k,a,o,?_⟩;cases q:run prog kI 30 f _ _ with
 |ok j h=>rw[q] at e;exact⟨h,Wh (R.ok · h)<|W2<|Wh (·.1) e,Wh (·.2.1) e,Wh (·.2.2) e⟩
 |ex=>rw[q] at e;cases e
 |no=>rw[q] at e;cases e
structure TR where
 t:Int
 od:List Int
 m:Int
 o:Int
 om:Int
 pm:Option (List Int)
 sb:Bool
structure TW where
 k:Int
 w:Int
 lw:Int
 fp:List Int
 fm:Int
 fo:Int
 rows:List TR
def TW.f (x:TW):V:=.tup [ja x.fp,.int x.fm,.int x.fo]
noncomputable def TS:List TW:=[
 ⟨2,1,1,[0,1],0,0,[⟨1,[0,1],0,0,0,none,true⟩,⟨7,[0,1],3,1,2,none,false⟩,⟨6,[],0,0,0,none,false⟩,⟨2,[0,1],1,0,1,none,false⟩,⟨14,[0,1],0,1,0,none,false⟩,⟨8,[0,1],3,0,2,none,false⟩,⟨9,[],0,0,0,none,false⟩,⟨4,[0,1],2,0,1,none,false⟩,⟨11,[0,1],2,1,1,none,false⟩]⟩,
 ⟨2,7,1,[0,1],3,1,[⟨1,[0,1],3,1,2,none,false⟩,⟨7,[0,1],0,0,0,none,true⟩,⟨6,[],0,0,0,none,false⟩,⟨2,[0,1],2,1,1,none,false⟩,⟨14,[0,1],3,0,2,none,false⟩,⟨8,[0,1],0,1,0,none,false⟩,⟨9,[],0,0,0,none,false⟩,⟨4,[0,1],1,1,1,none,false⟩,⟨11,[0,1],1,0,1,none,false⟩]⟩,
 ⟨2,6,6,[0,1],0,0,[⟨1,[],0,0,0,none,false⟩,⟨7,[],0,0,0,none,false⟩,⟨6,[0,1],0,0,0,none,true⟩,⟨2,[],0,0,0,none,false⟩,⟨14,[],0,0,0,none,false⟩,⟨8,[],0,0,0,none,false⟩,⟨9,[0,1],0,1,0,none,false⟩,⟨4,[],0,0,0,none,false⟩,⟨11,[],0,0,0,none,false⟩]⟩,
 ⟨2,2,1,[0,1],1,0,[⟨1,[0,1],1,0,1,none,false⟩,⟨7,[0,1],2,1,1,none,false⟩,⟨6,[],0,0,0,none,false⟩,⟨2,[0,1],0,0,0,none,true⟩,⟨14,[0,1],1,1,1,none,false⟩,⟨8,[0,1],2,0,1,none,false⟩,⟨9,[],0,0,0,none,false⟩,⟨4,[0,1],3,0,2,some [1,0],true⟩,⟨11,[0,1],3,1,2,none,false⟩]⟩,
 ⟨2,14,1,[0,1],0,1,[⟨1,[0,1],0,1,0,none,false⟩,⟨7,[0,1],3,0,2,none,false⟩,⟨6,[],0,0,0,none,false⟩,⟨2,[0,1],1,1,1,none,false⟩,⟨14,[0,1],0,0,0,none,true⟩,⟨8,[0,1],3,1,2,none,false⟩,⟨9,[],0,0,0,none,false⟩,⟨4,[0,1],2,1,1,none,false⟩,⟨11,[0,1],2,0,1,none,false⟩]⟩,
 ⟨2,8,1,[0,1],3,0,[⟨1,[0,1],3,0,2,none,false⟩,⟨7,[0,1],0,1,0,none,false⟩,⟨6,[],0,0,0,none,false⟩,⟨2,[0,1],2,0,1,none,false⟩,⟨14,[0,1],3,1,2,none,false⟩,⟨8,[0,1],0,0,0,none,true⟩,⟨9,[],0,0,0,none,false⟩,⟨4,[0,1],1,0,1,none,false⟩,⟨11,[0,1],1,1,1,none,false⟩]⟩,
 ⟨2,9,6,[0,1],0,1,[⟨1,[],0,0,0,none,false⟩,⟨7,[],0,0,0,none,false⟩,⟨6,[0,1],0,1,0,none,false⟩,⟨2,[],0,0,0,none,false⟩,⟨14,[],0,0,0,none,false⟩,⟨8,[],0,0,0,none,false⟩,⟨9,[0,1],0,0,0,none,true⟩,⟨4,[],0,0,0,none,false⟩,⟨11,[],0,0,0,none,false⟩]⟩,
 ⟨2,4,1,[0,1],2,0,[⟨1,[0,1],2,0,1,none,false⟩,⟨7,[0,1],1,1,1,none,false⟩,⟨6,[],0,0,0,none,false⟩,⟨2,[0,1],3,0,2,some [1,0],true⟩,⟨14,[0,1],2,1,1,none,false⟩,⟨8,[0,1],1,0,1,none,false⟩,⟨9,[],0,0,0,none,false⟩,⟨4,[0,1],0,0,0,none,true⟩,⟨11,[0,1],0,1,0,none,false⟩]⟩,
 ⟨2,11,1,[0,1],2,1,[⟨1,[0,1],2,1,1,none,false⟩,⟨7,[0,1],1,0,1,none,false⟩,⟨6,[],0,0,0,none,false⟩,⟨2,[0,1],3,1,2,none,false⟩,⟨14,[0,1],2,0,1,none,false⟩,⟨8,[0,1],1,1,1,none,false⟩,⟨9,[],0,0,0,none,false⟩,⟨4,[0,1],0,1,0,none,false⟩,⟨11,[0,1],0,0,0,none,true⟩]⟩,
 ⟨3,127,1,[0,1,2],7,1,[⟨127,[0,1,2],0,0,0,none,true⟩,⟨1,[0,1,2],7,1,3,none,false⟩,⟨228,[],0,0,0,none,false⟩,⟨31,[],0,0,0,none,false⟩,⟨7,[],0,0,0,none,false⟩,⟨128,[0,1,2],0,1,0,none,false⟩,⟨150,[],0,0,0,none,false⟩,⟨2,[0,1,2],6,1,2,none,false⟩]⟩,
 ⟨3,1,1,[0,1,2],0,0,[⟨127,[0,1,2],7,1,3,none,false⟩,⟨1,[0,1,2],0,0,0,none,true⟩,⟨228,[],0,0,0,none,false⟩,⟨31,[],0,0,0,none,false⟩,⟨7,[],0,0,0,none,false⟩,⟨128,[0,1,2],7,0,3,none,false⟩,⟨150,[],0,0,0,none,false⟩,⟨2,[0,1,2],1,0,1,none,false⟩]⟩,
 ⟨3,228,27,[0,1,2],0,1,[⟨127,[],0,0,0,none,false⟩,⟨1,[],0,0,0,none,false⟩,⟨228,[0,1,2],0,0,0,none,true⟩,⟨31,[],0,0,0,none,false⟩,⟨7,[],0,0,0,none,false⟩,⟨128,[],0,0,0,none,false⟩,⟨150,[],0,0,0,none,false⟩,⟨2,[],0,0,0,none,false⟩]⟩,
 ⟨3,31,7,[0,1,2],7,1,[⟨127,[],0,0,0,none,false⟩,⟨1,[],0,0,0,none,false⟩,⟨228,[],0,0,0,none,false⟩,⟨31,[0,1,2],0,0,0,none,true⟩,⟨7,[0,1,2],7,1,3,none,false⟩,⟨128,[],0,0,0,none,false⟩,⟨150,[],0,0,0,none,false⟩,⟨2,[],0,0,0,none,false⟩]⟩,
 ⟨3,7,7,[0,1,2],0,0,[⟨127,[],0,0,0,none,false⟩,⟨1,[],0,0,0,none,false⟩,⟨228,[],0,0,0,none,false⟩,⟨31,[0,1,2],7,1,3,none,false⟩,⟨7,[0,1,2],0,0,0,none,true⟩,⟨128,[],0,0,0,none,false⟩,⟨150,[],0,0,0,none,false⟩,⟨2,[],0,0,0,none,false⟩]⟩,
 ⟨3,128,1,[0,1,2],7,0,[⟨127,[0,1,2],0,1,0,none,false⟩,⟨1,[0,1,2],7,0,3,none,false⟩,⟨228,[],0,0,0,none,false⟩,⟨31,[],0,0,0,none,false⟩,⟨7,[],0,0,0,none,false⟩,⟨128,[0,1,2],0,0,0,none,true⟩,⟨150,[],0,0,0,none,false⟩,⟨2,[0,1,2],6,0,2,none,false⟩]⟩,
 ⟨3,150,105,[0,1,2],0,1,[⟨127,[],0,0,0,none,false⟩,⟨1,[],0,0,0,none,false⟩,⟨228,[],0,0,0,none,false⟩,⟨31,[],0,0,0,none,false⟩,⟨7,[],0,0,0,none,false⟩,⟨128,[],0,0,0,none,false⟩,⟨150,[0,1,2],0,0,0,none,true⟩,⟨2,[],0,0,0,none,false⟩]⟩,
 ⟨3,2,1,[0,1,2],1,0,[⟨127,[0,1,2],6,1,2,none,false⟩,⟨1,[0,1,2],1,0,1,none,false⟩,⟨228,[],0,0,0,none,false⟩,⟨31,[],0,0,0,none,false⟩,⟨7,[],0,0,0,none,false⟩,⟨128,[0,1,2],6,0,2,none,false⟩,⟨150,[],0,0,0,none,false⟩,⟨2,[0,1,2],0,0,0,none,true⟩]⟩,
 ⟨3,216,27,[0,1,2],1,1,[⟨127,[],0,0,0,none,false⟩,⟨1,[],0,0,0,none,false⟩,⟨228,[0,1,2],1,0,1,some [0,2,1],true⟩,⟨31,[],0,0,0,none,false⟩,⟨7,[],0,0,0,none,false⟩,⟨128,[],0,0,0,none,false⟩,⟨150,[],0,0,0,none,false⟩,⟨2,[],0,0,0,none,false⟩]⟩,
 ⟨3,226,27,[1,0,2],0,1,[⟨127,[],0,0,0,none,false⟩,⟨1,[],0,0,0,none,false⟩,⟨228,[1,0,2],0,0,0,none,true⟩,⟨31,[],0,0,0,none,false⟩,⟨7,[],0,0,0,none,false⟩,⟨128,[],0,0,0,none,false⟩,⟨150,[],0,0,0,none,false⟩,⟨2,[],0,0,0,none,false⟩]⟩,
 ⟨3,184,27,[1,0,2],1,1,[⟨127,[],0,0,0,none,false⟩,⟨1,[],0,0,0,none,false⟩,⟨228,[1,0,2],1,0,1,some [1,2,0],true⟩,⟨31,[],0,0,0,none,false⟩,⟨7,[],0,0,0,none,false⟩,⟨128,[],0,0,0,none,false⟩,⟨150,[],0,0,0,none,false⟩,⟨2,[],0,0,0,none,false⟩]⟩,
 ⟨3,202,27,[2,0,1],0,1,[⟨127,[],0,0,0,none,false⟩,⟨1,[],0,0,0,none,false⟩,⟨228,[2,0,1],0,0,0,none,true⟩,⟨31,[],0,0,0,none,false⟩,⟨7,[],0,0,0,none,false⟩,⟨128,[],0,0,0,none,false⟩,⟨150,[],0,0,0,none,false⟩,⟨2,[],0,0,0,none,false⟩]⟩,
 ⟨3,172,27,[2,0,1],1,1,[⟨127,[],0,0,0,none,false⟩,⟨1,[],0,0,0,none,false⟩,⟨228,[2,0,1],1,0,1,some [2,1,0],true⟩,⟨31,[],0,0,0,none,false⟩,⟨7,[],0,0,0,none,false⟩,⟨128,[],0,0,0,none,false⟩,⟨150,[],0,0,0,none,false⟩,⟨2,[],0,0,0,none,false⟩]⟩,
 ⟨3,55,7,[0,2,1],7,1,[⟨127,[],0,0,0,none,false⟩,⟨1,[],0,0,0,none,false⟩,⟨228,[],0,0,0,none,false⟩,⟨31,[0,2,1],0,0,0,none,true⟩,⟨7,[0,2,1],7,1,3,none,false⟩,⟨128,[],0,0,0,none,false⟩,⟨150,[],0,0,0,none,false⟩,⟨2,[],0,0,0,none,false⟩]⟩,
 ⟨3,87,7,[1,2,0],7,1,[⟨127,[],0,0,0,none,false⟩,⟨1,[],0,0,0,none,false⟩,⟨228,[],0,0,0,none,false⟩,⟨31,[1,2,0],0,0,0,none,true⟩,⟨7,[1,2,0],7,1,3,none,false⟩,⟨128,[],0,0,0,none,false⟩,⟨150,[],0,0,0,none,false⟩,⟨2,[],0,0,0,none,false⟩]⟩,
 ⟨3,19,7,[0,2,1],0,0,[⟨127,[],0,0,0,none,false⟩,⟨1,[],0,0,0,none,false⟩,⟨228,[],0,0,0,none,false⟩,⟨31,[0,2,1],7,1,3,none,false⟩,⟨7,[0,2,1],0,0,0,none,true⟩,⟨128,[],0,0,0,none,false⟩,⟨150,[],0,0,0,none,false⟩,⟨2,[],0,0,0,none,false⟩]⟩,
 ⟨3,21,7,[1,2,0],0,0,[⟨127,[],0,0,0,none,false⟩,⟨1,[],0,0,0,none,false⟩,⟨228,[],0,0,0,none,false⟩,⟨31,[1,2,0],7,1,3,none,false⟩,⟨7,[1,2,0],0,0,0,none,true⟩,⟨128,[],0,0,0,none,false⟩,⟨150,[],0,0,0,none,false⟩,⟨2,[],0,0,0,none,false⟩]⟩,
 ⟨3,4,1,[0,1,2],2,0,[⟨127,[0,1,2],5,1,2,none,false⟩,⟨1,[0,1,2],2,0,1,none,false⟩,⟨228,[],0,0,0,none,false⟩,⟨31,[],0,0,0,none,false⟩,⟨7,[],0,0,0,none,false⟩,⟨128,[0,1,2],5,0,2,none,false⟩,⟨150,[],0,0,0,none,false⟩,⟨2,[0,1,2],3,0,2,some [1,0,2],true⟩]⟩,
 ⟨3,16,1,[0,1,2],4,0,[⟨127,[0,1,2],3,1,2,none,false⟩,⟨1,[0,1,2],4,0,1,none,false⟩,⟨228,[],0,0,0,none,false⟩,⟨31,[],0,0,0,none,false⟩,⟨7,[],0,0,0,none,false⟩,⟨128,[0,1,2],3,0,2,none,false⟩,⟨150,[],0,0,0,none,false⟩,⟨2,[0,1,2],5,0,2,some [2,0,1],true⟩]⟩]
def iP (k t:Int):Int×V:=match TS.find? (λx=>ieq x.k k&&ieq x.w t) with|some x=>(x.lw,x.f)|none=>(0,.non)
def QS:List (TW×TR):=TS.flatMap λx=>x.rows.map λr=>(x,r)
def PS:List (TW×TR):=QS.filter λp=>ieq (iP p.1.k p.2.t).1 p.1.lw
def TC:List (TW×TR):=PS.filter λp=>!ieq (p.2.om+p.2.o) 0
noncomputable def vI (n:List Nat) (t k A dl:Int):Ce:=⟨0,n,t,k,A,dl⟩
theorem TA:TS.map (λx=>pu<|run prog kI 30 42 [.int x.w,.int x.k] [])=TS.map (λx=>some<|.tup [.int x.lw,x.f]):=by kernel_rfl
noncomputable def eY (n k:Nat):Nat:=(n/2^k)%2
def IX (r:Nat):List Nat->Nat->Nat
 |[],_=>0
 |w::l,p=>eY r w*2^p+IX r l (p+1)
def NU (t:Nat) (w:List Nat):Nat->Nat
 |0=>0
 |r+1=>NU t w r+eY t (IX r w 0)*2^r
def uk:DG:=λt w=>.ofNat<|NU t.toNat (w.map Int.toNat)<|2^w.length
def FS:List (Int×Int×List Int):=[2,3].flatMap λk=>(cT k).flatMap λt=>(fK k).map λw=>(k,t,w)
theorem Sd:FS.map (λp=>pu<|run prog kI 30 76 [.int p.2.1,ja p.2.2,.int 0,.int 0] [])=FS.map (λp=>some<|.int<|uk p.2.1 p.2.2):=by kernel_rfl
theorem Su (n:List Nat) (A dl:Int):PS.map (λp=>Ei<|run prog kI 30 58 [.ref 1,(iP p.1.k p.2.t).2,p.1.f]<|hp2 (vI n p.2.t p.1.k A dl).fs)=
  PS.map (λp=>(some<|.tup [.ref 1,ja p.2.od,.int p.2.m,.int p.2.o],some<|.ins 4 0,some<|.ns (vI n p.2.t p.1.k A dl).fs)):=by kernel_rfl
theorem RL:PS.map (λp=>pu<|run prog kI 30 53 [.int p.2.m] [])=PS.map (λp=>some<|.int p.2.om):=by kernel_rfl
theorem Q5 (n:List Nat) (A dl:Int):TC.map (λp=>Ei<|run prog kI 30 59 [.ref 1,.int p.1.w]<|hp2 (vI n p.2.t p.1.k A dl).fs)=
  TC.map (λp=>(some<|PF<|p.2.pm.map ja,some<|.ins 4 0,some<|.ns (vI n p.2.t p.1.k A dl).fs)):=by kernel_rfl
def Oe (r:R V):Option aB:=r.casesOn (λv H=>v.ref?.bind<|ac H) (λU U=>none) λU=>none
theorem Of.of (k:kind f=2) (a:bV A) (o:bV l) (e:Oe (run prog kI 30 f A [])=some (.lst l)):Of f A l:=by
 refine⟨k,a,o,?_⟩;cases q:run prog kI 30 f A [] with
 |ok p h=>rw[q] at e;exact ao e λm j e=>yu m h (Wh (R.ok · h)<|nz j) e
 |ex=>rw[q] at e;cases e
 |no=>rw[q] at e;cases e
theorem AB:∀l:List Int,bV (bD l):=by
 intro z;induction z with
 |nil=>exact rfl
 |cons _ l i=>show(true&&bV (bD l))=true;rw[i];rfl
theorem j3 (l:List Int):lH (ja l):=AB l
def I8 (x:TW) (t:Int):TD:=match x.rows.find? (λr=>ieq r.t t) with
 |some r=>⟨(iP x.k t).1,(iP x.k t).2,ja r.od,r.m,r.o,r.om,r.pm.map ja,r.sb⟩
 |none=>⟨0,.non,.non,0,0,0,none,false⟩
def hasI' (l:List Int):List (List Int)->Bool
 |[]=>false
 |x::r=>u8 x l||hasI' l r
theorem sX:∀{a b:List Int},u8 a b->a=b
 |[],[],_=>rfl
 |[],_::_,h=>by cases h
 |_::_,[],h=>by cases h
 |x::a,y::b,h=>by
  haveI h:(match ieq x y with|true=>u8 a b|false=>false)=true:=h;cases q:ieq x y<;>rw[q] at h;.cases h
  .exact qL (aD q)<|qL (sX h) rfl
theorem AV:∀{r:List<|List Int},hasI' l r->l∈r:=@λz=>by
 induction z with
 |nil=>intro h;cases h
 |cons x r i=>intro h;haveI h:(u8 x l||hasI' l r)=true:=h;simp only [a0Y] at h;exact h.elim (λh=>(sX h)▸Xz) λh=>Xw _<|i h
def IQ (k w t:Int) (d:List Int):Bool:=hasI' d (fK k)&&ieq (uk t d) w&&u8 (jT d) (qW k)
def NH (p:TW×TR):Bool:=
 (ieq p.1.k 2||ieq p.1.k 3)&&small (p.2.om+p.2.o)&&(match bI uk p.1.k p.2.t p.1.w with|true=>p.2.sb|false=>!p.2.sb)&&
 match p.2.sb with
 |false=>!ieq (iP p.1.k p.2.t).1 p.1.lw||(!ieq (p.2.om+p.2.o) 0&&p.2.pm.isNone)
 |true=>ieq (iP p.1.k p.2.t).1 p.1.lw&&match ieq (p.2.om+p.2.o) 0 with
  |true=>ieq p.2.m 0&&ieq p.2.o 0&&IQ p.1.k p.1.w p.2.t p.2.od
  |false=>match p.2.pm with|some d=>IQ p.1.k p.1.w p.2.t d|none=>false
theorem Id:QS.all NH:=by decide+kernel
theorem MB:TS.all (λx=>lH x.f):=rfl
theorem SU:TS.all (λx=>(cT x.k).all λt=>(x.rows.find?  λr=>ieq r.t t).isSome&&(TS.find?  λy=>ieq y.k x.k&&ieq y.w t).isSome):=rfl
theorem NW:([2,3]:List Int).all (λk=>(ig k).all λt=>(TS.find?  λy=>ieq y.k k&&ieq y.w t).isSome&&(fK k).all λw=>(TS.find?  λy=>ieq y.k k&&ieq y.w (uk t w)).isSome):=rfl
theorem mZ {b c:Type} {f g:b->c} {l:List b} (h:l.map f=l.map g):∀x∈l,f x=g x:=List.map_inj_left.mp h
theorem ND (h:x∈TS):Pl 42 [.int x.w,.int x.k] (.tup [.int x.lw,x.f]):=
 by
 exact Pl.of rfl rfl (by show(true&&(lH x.f&&true))=true;rw[VU MB x h];rfl)<|mZ TA x h
theorem Ey (h:(TS.find?  λy=>ieq y.k k&&ieq y.w t).isSome):Pl 42 [.int t,.int k] (.tup [.int (iP k t).1,(iP k t).2])/\lH (iP k t).2:=by obtain⟨y,Y⟩:=VQ h;haveI b:=a09 Y;haveI H:=a1r Y;simp only [XR] at H;haveI e:=aD H.1;delta iP;refine Y▸?_;haveI:=ND b;rw[e,aD H.2] at this;exact⟨this,VU MB y b⟩
theorem CJ (k:Int) (H:k=2\/k=3) (t:Int) (b:t∈cT k) (w:List Int) (c:w∈fK k):Pl 76 [.int t,ja w,.int 0,.int 0] (.int<|uk t w):=by
 haveI m:(k,t,w)∈FS:=by delta FS;rw[a1s];refine bK k (by rcases H with rfl|rfl<;>decide) ?_;rw[a1s];exact bK t b<|List.mem_map.mpr ⟨w,c,rfl⟩
 haveI e:=mZ Sd _ m;haveI h:bV [.int t,ja w,.int 0,.int 0]=true:=by show(true&&(lH _&&(true&&(true&&true))))=true;rw[j3];rfl
 exact Pl.of rfl h rfl e
theorem Ft (e:k=2\/k=3) (f:t∈cT k) (h:IQ k w t d):PR k w t (ja d):=by delta IQ at h;rw[XR,XR] at h;obtain⟨⟨H,b⟩,c⟩:=h;refine⟨⟨d,rfl,sX c⟩,?_⟩;haveI:=CJ k e t f d<|AV H;rw[aD b] at this;exact this
theorem Ov (j:x∈TS):oo uk x.k x.w x.lw x.f (I8 x):=by
 refine⟨ND j,λt u=>?_⟩;haveI v:=VU (VU SU x j) t u;simp only [XR] at v;obtain⟨m,b⟩:=v;obtain⟨r,o⟩:=VQ m;haveI s:=a09 o;haveI i:=a1r o;haveI g:=aD i;haveI J:=(Ey b).1;haveI L:=(Ey b).2;have y:(x,r)∈QS:=a1s.mpr ⟨x,j,List.mem_map.mpr ⟨r,s,rfl⟩⟩;haveI l:=VU Id _ y;unfold NH at l;rw[XR,XR,XR] at l;obtain⟨⟨⟨A,G⟩,Q⟩,q⟩:=l;have w:x.k=2\/x.k=3:=by rw[a0Y] at A;exact A.imp aD aD
 have n:(iP x.k t).1=x.lw->(x,r)∈PS:=λe=>a1q.mpr ⟨y,by show ieq (iP x.k r.t).1 x.lw=true;exact g▸(dc _ _).mpr e⟩;haveI hp2:(iP x.k t).1=x.lw->ieq (r.om+r.o) 0=false->(x,r)∈TC:=λe z=>a1q.mpr ⟨n e,by show(!ieq _ 0)=true;simp only [z];rfl⟩;delta I8;refine qL o ?_;dsimp only at G Q q⊢;subst g;refine⟨J,λc N O=>?_,?_,λe=>?_,λe=>?_⟩
 .have f:c.fs=(vI c.nm r.t x.k c.ar c.dl).fs:=by show[_,_,_,_,_]=[_,_,_,_,_];simp only [N,O];rfl
  refine⟨λe=>?_,j3 _,λe=>?_,G,λe z=>?_,λd D=>?_⟩
  .haveI:=mZ (Su c.nm c.ar c.dl) _ (n e)
   dsimp only at this;rw[<-f] at this;exact .of rfl (by show(lH (iP x.k r.t).2&&(lH x.f&&true))=true;simp only [L,VU MB x j];rfl)
    (by show(true&&(jz _ (ja r.od)&&true))=true;rw[iC (λU h=>by cases h) _<|j3 r.od];rfl) this
  .haveI M:=mZ RL _ (n e)
   exact Pl.of rfl rfl rfl M
  .haveI:=mZ (Q5 c.nm c.ar c.dl) _ (hp2 e z)
   dsimp only at this;rw[<-f] at this;refine .of rfl rfl ?_ this;show jz _ (PF<|r.pm.map ja)=true;cases r.pm with
   |none=>rfl
   |some d=>show(true&&(jz _ _&&true))=true;rw[iC (λU h=>by cases h) _<|j3 d];rfl
  .cases p:r.pm with
   |none=>have D:r.pm.map ja=some d:=D;rw[p] at D;cases D
   |some M=>haveI D:r.pm.map ja=some d:=D;rw[p] at D;cases D;exact j3 M
 .cases z:bI uk x.k r.t x.w<;>rw[z] at Q<;>cases f:r.sb<;>rw[f] at Q<;>first|rfl|cases Q
 .have e:r.sb=false:=e
  replace q:=e▸q;simp only [a0Y,XR,Y3,a0K] at q;rcases q with h|⟨k,H⟩;.exact .inl λz=>by exact nomatch (((dc _ _).mpr z).symm.trans h)
  .exact .inr ⟨(λz=>by exact nomatch (((dc _ _).mpr z).symm.trans k)),by show r.pm.map ja=none;simp only [H];rfl⟩
 .have e:r.sb=true:=e
  replace q:=e▸q;rw[XR] at q;haveI k:=q.1;haveI H:=q.2;refine⟨aD k,?_⟩;cases z:ieq _ 0 with
  |true=>replace H:=z▸H;rw[XR,XR] at H;exact .inl ⟨aD z,aD H.1.1,aD H.1.2,Ft w u H.2⟩
  |false=>
   replace H:=z▸H;refine .inr ⟨(λf=>by exact nomatch (((dc _ _).mpr f).symm.trans z)),?_⟩;cases p:r.pm with
   |none=>rw[p] at H;cases H
   |some d=>rw[p] at H;exact bK _ rfl<|Ft w u H
theorem zb (h:(TS.find?  λy=>ieq y.k k&&ieq y.w w).isSome):∃l f t,oo uk k w l f t:=by obtain⟨y,Y⟩:=VQ h;haveI H:=a1r Y;simp only [XR] at H;haveI:=Ov<|a09 Y;rw[aD H.1,aD H.2] at this;exact UV _ _ _ this
theorem tQ:yc uk where
 ways:=λk H=>by
  rcases H with rfl|rfl;.exact .of rfl rfl rfl (by kernel_rfl)
  .exact .of rfl rfl rfl (by kernel_rfl)
 menu:=λk H t b=>by haveI h:=VU (VU NW k<|by rcases H with rfl|rfl<;>decide) t b;simp only [XR] at h;exact zb h.1
 fed:=CJ
 fedW:=λk H t b w c=>by haveI h:=VU (VU NW k<|by rcases H with rfl|rfl<;>decide) t b;simp only [XR] at h;exact zb<|VU h.2 w c
 one1:=.of rfl rfl rfl (by kernel_rfl)
 one0:=.of rfl rfl rfl (by kernel_rfl)
noncomputable def dq:List Int:=[8,1,2,4,9]
def Ul:List TW:=TS.filter λx=>ieq x.k 2&&dq.any λw=>ieq w x.w
def PN:List (TW×TR):=Ul.flatMap λx=>x.rows.map λr=>(x,r)
theorem TH:PN.map (λp=>pu<|run prog kI 30 78 [.int p.2.t,.int p.1.w] [])=PN.map (λp=>some<|.bool<|ieq (iP 2 p.2.t).1 p.1.lw):=by kernel_rfl
noncomputable def vC (x b a m:Nat):Nat:=((match Nat.beq a 0 with|true=>x|false=>b)+m)%2
def JY (t a b m o w:Nat):Bool:=[0,1].all λx=>[0,1].all λc=>Nat.beq ((eY t (vC x c a (eY m 0)*2^0+vC x c b (eY m 1)*2^1)+o)%2) (eY w<|x+2*c)
noncomputable def pe (i:Int):Bool:=match i with|.ofNat _=>true|.negSucc _=>false
def GD (t:Int) (d:List Int) (m o w:Int):Bool:=Gy d λa b=>pe t&&pe w&&((ieq a 0&&ieq b 1)||(ieq a 1&&ieq b 0))&&Mb m (Nat.blt · 4)&&Mb o (Nat.blt · 2)&&JY t.toNat a.toNat b.toNat m.toNat o.toNat w.toNat
noncomputable def PY (t:Int) (d:V) (m o w:Int):Prop:=∃l,d=.tup (bD l)/\GD t l m o w=true
structure TD.Fits (w lw t:Int) (x:TD):Prop where
 hd:Pl 78 [.int t,.int w] (.bool<|ieq x.l lw)
 jf:x.l=lw->PY t x.od x.m x.o w
 pf:∀d,x.l=lw->x.om+x.o≠0->x.pm=some d->PY t d 0 0 w
 on:0<=x.om/\0<=x.o/\(x.om+x.o=0->x.m=0/\x.o=0)
def Lj (t:Int):Bool:=ieq t 6||ieq t 9
def helpedT (t w:Int):Bool:=match Lj w with|true=>Lj t|false=>!Lj t
def NV (p:TW×TR):Bool:=(match helpedT p.2.t p.1.w with|true=>ieq (iP 2 p.2.t).1 p.1.lw|false=>!ieq (iP 2 p.2.t).1 p.1.lw)&&((match ieq (iP 2 p.2.t).1 p.1.lw with|true=>GD p.2.t p.2.od p.2.m p.2.o p.1.w&&(match ieq (p.2.om+p.2.o) 0 with|true=>true|false=>match p.2.pm with|some d=>GD p.2.t d 0 0 p.1.w|none=>true)|false=>true)
 &&pe p.2.om&&pe p.2.o&&(match ieq (p.2.om+p.2.o) 0 with|true=>ieq p.2.m 0&&ieq p.2.o 0|false=>true))
theorem EE:PN.all NV:=rfl
theorem QT:dq.all (λw=>(Ul.find?  λy=>ieq y.w w).isSome):=rfl
theorem fV (h:pe i):0<=i:=by
 induction i with
 |ofNat n=>exact WH n
 |negSucc n=>cases h
structure yZ (w lw:Int) (fw:V) (td:Int->TD):Prop extends oo uk 2 w lw fw td where
 fit:∀t∈cT 2,(td t).Fits w lw t
 cnf:∀t∈cT 2,(td t).l=(iP 2 t).1/\(td t).f=(iP 2 t).2
 hq:∀t∈cT 2,ieq (td t).l lw=helpedT t w
theorem CG (h:w∈dq):∃M L N,yZ w M L N:=by
 obtain⟨x,Y⟩:=VQ<|VU QT w h;have g:=a09 Y;haveI s:=aD (by haveI:=a1r Y;exact this);obtain⟨y,v⟩:=a1q.mp g;simp only [XR] at v;have l:=aD v.1;subst s;haveI G:=Ov y;rw[l] at G;suffices h:∀t∈cT 2,(I8 x t).Fits x.w x.lw t/\((I8 x t).l=(iP 2 t).1/\(I8 x t).f=(iP 2 t).2)/\ieq (I8 x t).l x.lw=helpedT t x.w by exact⟨x.lw,x.f,I8 x,G,λt H=>(h t H).1,λt H=>(h t H).2.1,λt H=>(h t H).2.2⟩
 intro t H;have u:=VU (VU SU x y) t<|qL l H;simp only [XR] at u;obtain⟨r,m⟩:=VQ u.1;haveI n:=a09 m;haveI o:=aD (by haveI:=a1r m;exact this);have Q:(x,r)∈PN:=a1s.mpr ⟨x,g,List.mem_map.mpr ⟨r,n,rfl⟩⟩;haveI j:=VU EE _ Q;haveI f:=mZ TH _ Q;unfold NV at j;dsimp only at j f;rw[XR,XR,XR,XR] at j;obtain⟨k,⟨⟨c,A⟩,D⟩,i⟩:=j;delta I8;refine qL m<|qL l ?_;dsimp only;subst o;refine mP ⟨Pl.of rfl rfl rfl f,λe=>?_,λd e z b=>?_,fV A,fV D,λz=>?_⟩ ⟨rfl,rfl⟩ ?_
 .haveI e:=e
  replace c:=((dc _ _).mpr e)▸c;rw[XR] at c;exact bK r.od rfl c.1
 .haveI e:(iP 2 r.t).1=x.lw:=e
  haveI z:=z;haveI b:r.pm.map ja=some d:=b;rw[(dc _ _).mpr e] at c;rw[XR,show ieq _ 0=false by cases q:ieq _ 0 with|false=>rfl|true=>exact absurd (aD q) z] at c;cases p:r.pm with
  |none=>rw[p] at b;cases b
  |some J=>rw[p] at b c;cases b;exact bK J rfl c.2
 .haveI z:=z
  rw[(dc _ _).mpr z] at i;simp only [XR] at i;exact⟨aD i.1,aD i.2⟩
 .show ieq (iP 2 r.t).1 x.lw=helpedT r.t x.w
  cases q:helpedT r.t x.w<;>rw[q] at k<;>cases p:ieq (iP 2 r.t).1 x.lw<;>rw[p] at k<;>first|rfl|cases k
structure aH (M:List Nat) (H H':Hp):Prop where
 get:∀n c,n∉M->ac H n=some c->ac H' n=some c
 wf:WF H'
theorem aH.refl {M:List Nat} {H:Hp} (w:WF H):aH M H H:=⟨λU U U h=>h,w⟩
theorem aH.trans {M:List Nat} {H p j:Hp} (a:aH M H p) (b:aH M p j):aH M H j:=⟨λn c e h=>b.get n c e<|a.get n c e h,b.wf⟩
theorem aJ.m {M:List Nat} {H j:Hp} (a:aJ H j):aH M H j:=⟨λn c U h=>a.get n c h,a.wf⟩
theorem aH.set {M:List Nat} {H:Hp} (w:WF H) {n:Nat} (h:n∈M) (c:aB):aH M H (bj H n c):=
 ⟨λm x j p=>au (λe:n=m=>j<|e▸h) p,de w n c⟩
theorem aH.fresh {M:List Nat} {j H p:Hp} (g:aJ j H) (q:∀m∈M,ac j m=none) (a:aH M H p):aJ j p:=
 ⟨λn c h=>a.get n c (λr=>by exact nomatch ((q n r).symm.trans h))<|g.get n c h,a.wf⟩
theorem x9 {H:Hp} {n:Nat} {c c':aB} (w:WF H) (h:ac H n=some c) {K:Hp->Prop} (k:∀b,bH n H b->ac b n=some c'->K b):K (bj H n c'):=k _ ⟨λU U x e=>au (Xf x) e,de w _ _⟩<|aV h
theorem aJ.over {h H j:Hp} {n:Nat} (g:aJ h H) (S:bH n H j) (h0:ac h n=none):aJ h j:=⟨λx c p=>S.get x c (Xf<|iw h0 p)<|g.get x c p,S.wf⟩
theorem bH.m {M:List Nat} {n:Nat} {H h:Hp} (S:bH n H h) (N:n∈M):aH M H h:=⟨λx c j=>S.get x c λe=>j<|e▸N,S.wf⟩
structure NL where
 ref:Nat
 d:Nat
 i:Nat
 o:Nat
 c:Nat
 nm:List Nat
 cnt:Nat
 ins:List V
 outs:List V
 cells:List V
noncomputable def NL.ns (N:NL):Sg:=[(9,.str N.nm),(10,.int<|.ofNat N.cnt),(11,.ref N.i),(12,.ref N.o),(13,.ref N.c)]
structure NL.At (H:Hp) (N:NL):Prop where
 ins':ac H N.ref=some (.ins 2 N.d)
 ns':ac H N.d=some (.ns N.ns)
 hi:ac H N.i=some (.lst N.ins)
 ho:ac H N.o=some (.lst N.outs)
 hc:ac H N.c=some (.lst N.cells)
 io:N.i≠N.o
 ic:N.i≠N.c
 oc:N.o≠N.c
noncomputable abbrev NL.M (N:NL):List Nat:=[N.d,N.i,N.o,N.c]
theorem NL.At.grow {H j:Hp} {N:NL} (h:N.At H) (g:aJ H j):N.At j:=⟨g.get _ _ h.ins',g.get _ _ h.ns',g.get _ _ h.hi,g.get _ _ h.ho,g.get _ _ h.hc,h.io,h.ic,h.oc⟩
theorem NL.At.overS {H q:Hp} {N:NL} {p:Nat} (h:N.At H) (S:bH p H q) (u:N.ref≠p) (r:p∉N.M):N.At q:=
 haveI j:∀x∈N.M,x≠p:=λU y z=>r<|z▸y
 ⟨S.get _ _ u h.ins',S.get _ _ (j _<|.head _) h.ns',S.get _ _ (j _<|.tail _<|.head _) h.hi,S.get _ _ (j _<|.tail _<|.tail _<|.head _) h.ho,S.get _ _ (j _<|.tail _<|.tail _<|.tail _<|.head _) h.hc,h.io,h.ic,h.oc⟩
theorem NL.At.attr {H:Hp} {N:NL} (h:N.At H) {f:Nat} {v:V} (e:look N.ns f=some v) {Q:V->Hp->Prop} {X:V->Hp->Prop} (q:Q v H):W (getAttr (.ref N.ref) f H) Q X:=bJ h.ins' h.ns' e q
theorem NL.At.di {H:Hp} {N:NL} (h:N.At H):N.d≠N.i/\N.d≠N.o/\N.d≠N.c/\N.d≠N.ref/\N.ref≠N.i/\N.ref≠N.o/\N.ref≠N.c:=by
 refine Ux (λe=>?_) (λe=>?_) (λe=>?_) (λe=>?_) (λe=>?_) (λe=>?_)  λe=>?_;.have:=h.ns';rw[e,h.hi] at this;cases this
 .have:=h.ns';rw[e,h.ho] at this;cases this
 .have:=h.ns';rw[e,h.hc] at this;cases this
 .have:=h.ns';rw[e,h.ins'] at this;cases this
 .have:=h.ins';rw[e,h.hi] at this;cases this
 .have:=h.ins';rw[e,h.ho] at this;cases this
 .have:=h.ins';rw[e,h.hc] at this;cases this
noncomputable def NL.tick (N:NL):NL:={N with cnt:=N.cnt+1}
theorem NL.At.tick {H:Hp} {N:NL} (h:N.At H):N.tick.At (bj H N.d<|.ns N.tick.ns):=by exact PJ h.di λA j p q r u x=>⟨au q h.ins',aV h.ns',au A h.hi,au j h.ho,au p h.hc,h.io,h.ic,h.oc⟩
theorem ng {n:Nat} {H:Hp} {N:NL} (w:WF H) (h:N.At H) {Q:V->Hp->Prop} {X:V->Hp->Prop} (q:∀b,aH N.M H b->N.tick.At b->Q (.int<|.ofNat N.cnt) b):W (bG (n+1) 4 [.ref N.ref] H) Q X:=by
 refine bE (ax rfl) rfl (let c:=bG n;cK (cl:=c) rfl ?_);repeat (first|walk_at"w"|refine h.attr rfl ?_|refine HQ ?_)
 refine rR h.ins' h.ns' rfl ?_;walk_at"W";exact q _ (.set w (.head _) _) h.tick
theorem vE {l:List V} {H:Hp} {Q:V->Hp->Prop} {X:V->Hp->Prop} (e:jE l=true) (q:Q (.tup l) H):W (cM .tuple [.tup l] H) Q X:=Dx e q
noncomputable def NL.add (N:NL) (x:V):NL:={N with cells:=N.cells++[x]}
theorem NL.At.add {H:Hp} {N:NL} (h:N.At H) (x:V):(N.add x).At (bj H N.c<|.lst<|N.cells++[x]):=by exact PJ h.di λp q A r u y j=>⟨au (Xf j) h.ins',au (Xf A) h.ns',au (Xf h.ic) h.hi,au (Xf h.oc) h.ho,aV h.hc,h.io,h.ic,h.oc⟩
theorem ut {n:Nat} {H:Hp} {N:NL} {out:Int} {k:List Nat} {v:V} {l:List V} {p:V} (w:WF H) (h:N.At H) (L:N.cells.length<1000) (i:∀b,aJ H b->∀(Q:V->Hp->Prop),Q (.tup l) b->W (cM .tuple [v] b) Q λU U=>False)
  {Q:V->Hp->Prop} {X:V->Hp->Prop} (q:∀b,aH N.M H b->(N.add<|.tup [.str k,.int out,.tup l,p]).At b->Q .non b):W (bG (n+1) 9 [.ref N.ref,.int out,.str k,v,p] H) Q X:=by
 refine bE (ax rfl) rfl (let c:=bG n;cK (cl:=c) rfl ?_);walk_at"w";refine bx<|aF ?_;repeat (first|walk_at"w"|refine h.attr rfl ?_)
 refine eL h.hc ?_;walk_at"W";refine(i H (aJ.refl w) _ ?_).mono (λU U h=>h) λU U h=>False.elim h;walk_at"W";refine eC h.hc (Wk ‹_›<|by decide)<|wu ?_;walk_at"W";exact q _ (.set w (.tail _<|.tail _<|.tail _<|.head _) _)<|h.add _
theorem lm {n:Nat} {H:Hp} {N:NL} {k:List Nat} {v:V} {l:List V} {p:V} (w:WF H) (h:N.At H) (j:N.cells.length<1000) (i:∀b,aH N.M H b->∀(Q:V->Hp->Prop),Q (.tup l) b->W (cM .tuple [v] b) Q λU U=>False)
  {Q:V->Hp->Prop} {X:V->Hp->Prop} (q:∀b,aH N.M H b->(N.tick.add<|.tup [.str k,.int<|.ofNat N.cnt,.tup l,p]).At b->Q (.int<|.ofNat N.cnt) b):W (bG (n+2) 8 [.ref N.ref,.str k,v,p] H) Q X:=by
 refine bE (ax rfl) rfl (let L:=bG<|n+1;cK (cl:=L) rfl ?_);walk_at"W";refine aF ?_;walk_at"W";refine fF h.ins' h.ns' rfl rfl ?_;walk_at"W";refine ng w h λm g c=>?_;walk_at"W";refine bx<|aF ?_;walk_at"W";refine fF c.ins' c.ns' rfl rfl ?_;walk_at"W";refine ut g.wf c j (λb G Q q=>i b (g.trans G.m) Q q) λe d f=>?_;refine⟨rfl,?_⟩;walk_at"W";exact q e (g.trans d) f
theorem nu (w:WF H)
  (q:∀N h,aJ H h->NL.At h N->N.nm=x->N.cnt=2->N.ins=[]->N.outs=[]->N.cells=[]->(∀m∈N.ref::N.M,ac H m=none)->Q (.ref N.ref) h):
  W (wb 2 3 (bG<|n+1) [.str x] H) Q X:=by
 refine uc w (λU U=>ax rfl) rfl λd r H1 b=>cK rfl ?_;repeat (first|walk_at"w"|refine cj ?_)
 refine kF b rfl λH2 U b=>?_;repeat (first|walk_at"w"|refine cj ?_)
 refine kF b rfl λH3 U b=>?_;repeat (first|walk_at"w"|refine cj ?_)
 refine bg b.g.wf rfl λi H4 l u e=>?_;walk_at"W";have D:=fZ b.n e;replace e:=b.g.old e;refine kF (b.grow l) rfl λH5 p b=>?_;haveI j:=p.get _ _ D.symm u;clear u p l;repeat (first|walk_at"w"|refine cj ?_)
 refine bg b.g.wf rfl λo H6 G y O=>?_;walk_at"W";have t:=fZ b.n O;have L:=fZ j O;replace O:=b.g.old O;refine kF (b.grow G) rfl λH7 s b=>?_;have v:=s.get _ _ D.symm<|G.get _ _ j;have z:=s.get _ _ t.symm y;clear j y s G;repeat (first|walk_at"w"|refine cj ?_)
 refine bg b.g.wf rfl λk H8 g Y c=>?_;walk_at"W";have A:=fZ b.n c;have J:=fZ v c;have ok:=fZ z c;replace c:=b.g.old c;refine kF (b.grow g) rfl λH9 f b=>?_;walk_at"W";refine⟨rfl,q ⟨r,d,i,o,k,x,2,[],[],[]⟩ _ b.g ⟨b.i,b.n,f.get _ _ D.symm<|g.get _ _ v,f.get _ _ t.symm<|g.get _ _ z,f.get _ _ A.symm Y,L,J,ok⟩ rfl rfl rfl rfl rfl λm M=>?_⟩;simp only [Z6,Xu,or_false] at M;rcases M with rfl|rfl|rfl|rfl|rfl
 .exact b.r0
 .exact b.d0
 .exact e
 .exact O
 .exact c
theorem nP (M:0<m) (e:bT H v i=some (some x)) (j:cU c t x=some d)
  (h:W (O l d H) (λa f=>W (dW t O v l c (m-1) (i+1) f) (λb g=>Q (a++b) g) XF) XF):W (dW t O v l c m i H) Q XF:=by
 induction m with
 |zero=>exact XM _ ‹_›
 |succ n=>show W (ro 114 (bT H v i) λo=>o.casesOn _ λx=>ro 115 (cU c t x) λd=>(O l d H).bind0 λa H=>(dW t O v l c n (i+1) H).bind0 λb H=>.ok (a++b) H) Q XF;simp only [e];show W (ro 115 _ _) Q XF;exact j▸(W.bind0<|h.imp λa f h=>W.bind0 h)
theorem sa (M:0<m) (e:bT H v i=some none) (h:Q [] H):W (dW t O v l c m i H) Q XF:=by
 induction m with
 |zero=>exact XM _ ‹_›
 |succ n=>show W (ro 114 (bT H v i) λo=>o.casesOn _ λx=>ro 115 (cU c t x) λd=>(O l d H).bind0 λa H=>(dW t O v l c n (i+1) H).bind0 λb H=>.ok (a++b) H) Q XF;exact e▸h
theorem tp
  (h:W (i L b H) (λv d=>fE (Internal.pick b f) t/\W (dW t o v L (Internal.pick b f) cS 0 d) (λl c=>jE l/\Q (.ref<|ak c) ((ak c,.lst l)::c)) XF) X):W (bQ f t i o L b H) Q X:=by
 refine W.bind<|h.imp λv d h=>?_;haveI e:=h.1;haveI h:=h.2;delta kX;refine e▸?_;refine W.bind0<|h.imp λl c h=>?_;delta cZ;exact h.1▸h.2
theorem mq (p:Internal.pick b f=c)
  (h:W (i L b H) (λv e=>fE c t/\W (dW t o v L c cS 0 e) (λl d=>jE l/\Q (.ref<|ak d) ((ak d,.lst l)::d)) XF) X):W (bQ f t i o L b H) Q X:=tp (p.symm▸h)
theorem rU (h:ac H n=some (.lst l)):eO H (.ref n)=some l:=by show(ac H n).bind aB.lst? =_;rw[h];rfl
theorem zq (h:ac H n=some (.lst l)) (e:jE l) (q:Q (.ref<|ak H)<|(ak H,.lst l)::H):W (cM .list [.ref n] H) Q X:=by show W (ro 47 ((ac H n).bind aB.lst?) λl=>fU l H) Q X;exact h▸(gJ e q)
theorem tL (h:ac H n=some (.lst l)) (e:jE l) (q:Q (.tup l) H):W (cM .tuple [.ref n] H) Q X:=by show W (ro 45 ((ac H n).bind aB.lst?) λl=>ow l H) Q X;exact h▸(Dx e q)
theorem uy (g:aH M H b) (d:m∉M) (h:ac b m=none):ac H m=none:=by
 cases q:ac H m with
 |none=>rfl
 |some c=>exact absurd ((g.get _ _ d q).symm.trans h)<|W8 _
theorem NL.At.notM {N:NL} (h:N.At H) (e:ac H m=none):m∉N.M:=by
 intro j;simp only [Z6,Xu,or_false] at j;rcases j with rfl|rfl|rfl|rfl;.rw[h.ns'] at e;cases e
 .rw[h.hi] at e;cases e
 .rw[h.ho] at e;cases e
 .rw[h.hc] at e;cases e
theorem uY {N:NL} (w:WF H) (h:N.At H)
  (q:∀L b,aH N.M H b->N.tick.tick.At b->ac b L=some (.lst [.int<|.ofNat N.cnt,.int<|.ofNat<|N.cnt+1])->ac H L=none->Q (.ref L) b):W (bG (n+2) 5 [.ref N.ref,.int 2] H) Q X:=by
 refine bE (ax rfl) rfl (let c:=bG<|n+1;cK (cl:=c) rfl ?_);walk_at"W";refine tp ?_;walk_at"W";refine bW (by decide) ⟨rfl,?_⟩;have t:∀(f:NL) (b:Hp) (d:Sg) (i:List V->Hp->Prop),WF b->f.At b->look d 5=some (.ref f.ref)->(∀c,aH f.M b c->f.tick.At c->i [.int<|.ofNat f.cnt] c)->W (cr (aj mt (ab 5) 15 []) (bG<|n+1) d b) i XF:=by
  refineλf b d i s j e r=>ci<|aF<|aO e<|fF j.ins' j.ns' rfl rfl ?_
  walk_at"W";exact ng s j r
 refine nP (by decide)  dG  rfl<|t N H _ _ w h rfl λo g p=>?_;refine nP (by decide)  dG  rfl<|t N.tick o _ _ g.wf p rfl λc G l=>?_;refine sa (by decide)  dG  ⟨rfl,?_⟩;haveI k:=ba G.wf<|.lst [.int<|.ofNat N.cnt,.int<|.ofNat<|N.cnt+1];haveI m:=G.wf.none;exact q _ _ ((g.trans G).trans k.m) (l.grow k) (bA _ _)<|uy (g.trans G) (λM=>l.notM m M) m
theorem uI {N:NL} (w:WF H) (h:N.At H)
  (q:∀L b,aJ H b->ac b L=some (.lst [])->ac H L=none->Q (.ref L) b):W (bG (n+2) 5 [.ref N.ref,.int 0] H) Q X:=by
 refine bE (ax rfl) rfl (let c:=bG<|n+1;cK (cl:=c) rfl ?_);walk_at"W";refine tp ?_;walk_at"W";refine bW (by decide) ⟨rfl,?_⟩;refine sa (by decide)  dG  ⟨rfl,?_⟩;exact q _ _ (ba w _) (bA _ _) w.none
noncomputable def NL.addI (N:NL) (x:V):NL:={N with ins:=N.ins++[x]}
noncomputable def NL.addO (N:NL) (x:V):NL:={N with outs:=N.outs++[x]}
theorem NL.At.addI {N:NL} (h:N.At H) (x:V):(N.addI x).At (bj H N.i<|.lst<|N.ins++[x]):=by exact PJ h.di λA p q r j u y=>⟨au (Xf j) h.ins',au (Xf A) h.ns',aV h.hi,au h.io h.ho,au h.ic h.hc,h.io,h.ic,h.oc⟩
theorem NL.At.addO {N:NL} (h:N.At H) (x:V):(N.addO x).At (bj H N.o<|.lst<|N.outs++[x]):=by exact PJ h.di λp A q r u j y=>⟨au (Xf j) h.ins',au (Xf A) h.ns',au (Xf h.io) h.hi,aV h.ho,au h.oc h.hc,h.io,h.ic,h.oc⟩
theorem jR {N:NL} (w:WF H) (h:N.At H) (v:N.ins.length<1000)
  (q:∀L l b,aH N.M H b->(N.tick.tick.addI<|.tup [.str t,.ref l]).At b->ac b L=some (.lst [.int<|.ofNat N.cnt,.int<|.ofNat<|N.cnt+1])->ac b l=some (.lst [.int<|.ofNat N.cnt,.int<|.ofNat<|N.cnt+1])->
   ac H L=none->ac H l=none->L≠l->Q (.ref L) b):W (bG (n+3) 6 [.ref N.ref,.str t,.int 2] H) Q X:=by
 refine bE (ax rfl) rfl (let r:=bG<|n+2;cK (cl:=r) rfl ?_);walk_at"W";refine aF ?_;walk_at"W";refine fF h.ins' h.ns' rfl rfl ?_;walk_at"W";refine uY w h λL u g d i o=>?_;walk_at"W";refine bx<|aF ?_;repeat (first|walk_at"w"|refine d.attr rfl ?_)
 refine eL d.hi ?_;walk_at"W";refine zq i rfl<|fy g.wf λl r G k f=>?_;haveI p:=d.grow G;haveI j:=G.get _ _ i;have m:L≠l:=λe=>by rw[<-e,i] at f;cases f
 haveI s:=h.notM o;haveI c:l∉N.M:=d.notM f;walk_at"W";refine eC p.hi (by show N.ins.length<99999;exact Wk ‹_›<|by decide)<|wu ?_;walk_at"W";have M:N.i∈N.M:=by simp
 refine q L l _ ((g.trans G.m).trans<|.set G.wf M _) (p.addI _) ?_ ?_ o (uy g c f) m
 .show ac _ L=_
  exact au (λe:N.i=L=>s<|e▸M) j
 .show ac _ l=_
  exact au (λe:N.i=l=>c<|e▸M) k
theorem jb {N:NL} (w:WF H) (h:N.At H) (j:ac H L=some (.lst l)) (O:jE l) (k:N.outs.length<1000)
  (q:∀b c,aH N.M H c->(N.addO<|.tup [.str m,.ref b]).At c->ac c b=some (.lst l)->ac H b=none->Q .non c):W (bG (n+1) 7 [.ref N.ref,.str m,.ref L] H) Q X:=by
 refine bE (ax rfl) rfl (let i:=bG n;cK (cl:=i) rfl ?_);walk_at"w";refine bx<|aF ?_;repeat (first|walk_at"w"|refine h.attr rfl ?_)
 refine eL h.ho ?_;walk_at"W";refine zq j O<|fy w λb i G d g=>?_;have f:=h.grow G;walk_at"W";refine eC f.ho (Wk ‹_›<|by decide)<|wu ?_;walk_at"W";have o:N.o∈N.M:=by simp
 refine q b _ (G.m.trans<|.set G.wf o _) (f.addO _) ?_ g;exact au (λe:N.o=b=>(h.notM g)<|e▸o) d
theorem EP (h:∀i,p i->q i):∀l:List (V×V),wY p l->wY q l:=by
 intro z;induction z with
 |nil=>exactλU=>rfl
 |cons v l H=>intro e;haveI e:(jz p v.2&&wY p l)=true:=e;simp only [XR] at e;show(jz q v.2&&wY q l)=true;simp only [iC h v.2 e.1,H e.2];rfl
theorem wn (h:∀i,p i->q i) (c:aB) (e:wt p c):wt q c:=by
 induction c with
 |lst l=>exact bU h l e
 |dct l=>exact EP h l e
 |set l=>rfl
 |ins c d=>exact h d e
 |ns f=>exact lN h f e
 |tab=>rfl
noncomputable def gv (H:Hp):List Nat:=H.map (·.1)
def rh (h:Hp) (k:List Nat) (r:R V):Option V×List (Option aB)×List (Option aB):=
 r.casesOn (λv H=>(some v,(gv h).map<|ac H,k.map<|ac H)) (λU U=>(none,[],[])) λU=>(none,[],[])
theorem IH (e:rh h k r=(some v,a,b)):∃H,r=.ok v H/\(gv h).map (ac H)=a/\k.map (ac H)=b:=by
 induction r with
 |ok c H=>exact⟨H,Wh (R.ok · H)<|W2<|Wh (·.1) e,Wh (·.2.1) e,Wh (·.2.2) e⟩
 |ex=>cases e
 |no=>cases e
theorem eP:∀{H:Hp} {i:Nat} {c:aB},ac H i=some c->(i,c)∈H:=@λz=>by
 induction z with
 |nil=>intro _ _ h;cases h
 |cons p H b=>
  intro i c h;rw[aL] at h;by_cases q:p.1=i;.rw[Xb q] at h;cases h;subst q;exact Xz
  .rw[Xd q] at h;exact Xw _<|b h
def DQ (H:Hp) (A:List V) (v:V) (s:List Nat) (c:List aB):Bool:=
 s.all (λk=>!lu H k)&&H.all (λp=>wt (lu H) p.2)&&c.all (wt λi=>lu H i||(eU i s 0).isSome)&&dF (lu H) A&&jz (λi=>lu H i||(eU i s 0).isSome) v
theorem gY.of (e:rh j x (run prog kI 30 f A j)=(some Q,(gv j).map<|ac j,cells.map some))
  (b:DQ j A Q x cells) (nd:x.Nodup):∃r,gY f j A Q r x/\x.map (ac r)=cells.map some:=by
 refine e7 (IH e) λr hr e2 L=>?_;delta DQ at b;simp only [XR,XR,XR,XR] at b;obtain⟨⟨⟨⟨Y,b2⟩,b3⟩,b4⟩,b5⟩:=b;have O:∀i c,ac j i=some c->ac r i=some c:=λi c h=>by haveI:=List.map_inj_left.mp e2 i<|List.mem_map.mpr ⟨(i,c),eP h,rfl⟩;exact this▸h
 have N:∀k∈x,∃c∈cells,ac r k=some c:=λk D=>by
  haveI:ac r k∈cells.map some:=by exact L▸(XC D)
  exact aI (VT this) λc hc h=>bK c hc h.symm
 refine bK r ⟨hr,O,nd,λk D=>⟨?_,?_⟩,λi c h u=>?_,b4,b5⟩ L
 .have:=VU Y k D
  unfold lu at this;cases q:ac j k with
  |none=>rfl
  |some c=>rw[q] at this;cases this
 .refine aI (N k D) λc U h=>?_;exact⟨c,h⟩
 .simp only [a0Y] at u
  rcases u with u|u
  .obtain⟨J,y⟩:=iJ u
   obtain rfl:=W2<|(O i J y).symm.trans h;exact wn (λU h=>by simp only [h];rfl) _<|VU b2 _<|eP y
  .obtain⟨p,hp⟩:=VQ u
   refine aI (N i<|a0Z (lE hp).2) λJ G y=>?_;obtain rfl:=W2<|h.symm.trans y;exact VU b3 _ G
theorem gY.same (a:gY f p A u q x) (b:gY f p A j h r):u=j/\q=h:=by have:=a.e.symm.trans b.e;cases this;exact⟨rfl,rfl⟩
theorem E2 (h:∀p∈d,ac H (b p.1)=some (kG b p.2)) (o:d.all  λp=>wt (lu d) p.2) (inj:∀p∈d,∀q∈d,b p.1=b q.1->p.1=q.1) (l:∀p∈d,p.1<ak d):Sub H d b:=
 ⟨λi c e=>⟨h _<|eP e,VU o _<|eP e⟩,λU U U U f g e=>inj _ (eP f) _ (eP g) e,λU U e=>l _<|eP e⟩
theorem sD (i:kind f=4) (s:EC f c A v d k) (S:Sub H c π) (R:gY f c A v d k) (g:b=eZ π A)
  (h:∀c A v d k π,EC f c A v d k->Sub H c π->gY f c A v d k->b=eZ π A->Q (dX (cL c π (ak H) k) v) (gF d (cL c π (ak H) k) k H)):W (bG (n+1) f b H) Q X:=by
 obtain⟨r,e⟩:=uM ⟨_,show pH f b H _ from fS i<|.mk s S R g⟩;refine zc  e  ?_;haveI x:MP f b H r:=fS i.symm<|na e;induction x with|mk s S R g=>exact h _ _ _ _ _ _ s S R g
theorem gw:∀(s:List Nat) (H:Hp),WF H->aJ H (gF h b s H):=by
 intro z;induction z with
 |nil=>exactλH w=>aJ.refl w
 |cons k s i=>exactλH w=>(ba w _).trans<|i _ (ba w _).wf
structure iO (H:Hp) (c:eF) (N:NL) (L L2:Nat):Prop where
 mem:c∈bw
 at':N.At H
 nm:N.nm=[103,97,116,101,115]
 cnt:N.cnt=4+c.ks.length
 ins:N.ins=[.tup [.str [97],.ref L]]
 outs:N.outs=[.tup [.str [121],.ref L2]]
 cells:N.cells=iu c.tw 4 c.ks
 hL:ac H L=some (.lst [.int 2,.int 3])
 hL2:ac H L2=some (.lst<|l6 4 c.ks)
 tab:ac H 0=some .tab
structure AG where
 ref:Nat
 d:Nat
 n:Nat
 i:Nat
 o:Nat
 t:Nat
structure AG.At (H:Hp) (a:AG) (A:pq):Prop where
 ins':ac H a.ref=some (.ins 3 a.d)
 ns':ac H a.d=some (.ns<|wp a.n a.i a.o a.t)
 hn:ac H a.n=some (.lst<|A.ns.map JQ)
 hi:ac H a.i=some (.lst [.int 1,.int 2])
 ho:ac H a.o=some (.lst<|bl A.outs)
 ht:ac H a.t=some (.dct<|rv A.ns 0)
 io:a.i≠a.o
 tab:ac H 0=some .tab
theorem iO.grow (h:iO H c N L p) (g:aJ H j):iO j c N L p:=
 ⟨h.mem,h.at'.grow g,h.nm,h.cnt,h.ins,h.outs,h.cells,g.get _ _ h.hL,g.get _ _ h.hL2,g.get _ _ h.tab⟩
theorem AG.At.grow {a:AG} (h:a.At H A) (g:aJ H j):a.At j A:=
 ⟨g.get _ _ h.ins',g.get _ _ h.ns',g.get _ _ h.hn,g.get _ _ h.hi,g.get _ _ h.ho,g.get _ _ h.ht,h.io,g.get _ _ h.tab⟩
theorem xI (t:Bool):lH (.tup<|tW t):=by cases t<;>rfl
theorem lF (t:Bool):∀(s:List<|List Nat) (n:Nat),bV (iu t n s):=by
 intro z;induction z with
 |nil=>exactλU=>rfl
 |cons k s i=>intro n;show((true&&(true&&(lH _&&(true&&true))))&&bV _)=true;rw[xI,i];rfl
theorem sP:∀(k:List<|List Nat) (n:Nat),bV (l6 n k):=by
 intro z;induction z with
 |nil=>exactλU=>rfl
 |cons _ k i=>intro n;show(true&&bV _)=true;rw[i];rfl
theorem eg:∀l:List Nat,bV (bl l):=by
 intro z;induction z with
 |nil=>exact rfl
 |cons _ l i=>show(true&&bV (bl l))=true;rw[i];rfl
theorem mo:∀l:iQ,bV (l.map JQ):=by
 intro z;induction z with
 |nil=>exact rfl
 |cons o l i=>show(lH (JQ o)&&bV _)=true;rw[i];cases o<;>rfl
theorem sq:∀(l:iQ) (i:Nat),re b (rv l i)=rv l i:=by
 intro z;induction z with
 |nil=>exactλU=>rfl
 |cons o l h=>
  intro i;induction o with
  |none=>exact h<|i+1
  |some p=>show(_,_)::re b _=_::rv l (i+1);simp only [h];rfl
theorem Ir:∀(l:iQ) (i:Nat),wY p (rv l i):=by
 intro z;induction z with
 |nil=>exactλU=>rfl
 |cons o l h=>
  intro i;induction o with
  |none=>exact h<|i+1
  |some q=>show(true&&wY p _)=true;simp only [h];rfl
theorem yk:∀{c s:List<|List Nat} {n:Nat},iu f n c=iu t n s->c=s/\(c≠[]->f=t):=by
 intro z;induction z with
 |nil=>
  intro w;cases w with
  |nil=>intro _;intro _;exact⟨rfl,λh=>(h rfl).elim⟩
  |cons _ _=>intro _;intro h;cases h
 |cons k c i=>
  intro w;cases w with
  |nil=>intro _;intro h;cases h
  |cons l s=>intro n;intro h;injection h with H g;haveI e:=(i g).1;injection H with H;injection H with H d;injection d with d b;injection b with b j;injection H with H;subst H;subst e;refine⟨rfl,λU=>?_⟩;injection b with b;cases f<;>cases t<;>first|rfl|cases b
theorem y6:bw.all (λc=>!c.ks.isEmpty):=rfl
theorem Lw (h:c∈bw) (e:iu c.tw 4 c.ks=iu b.tw 4 b.ks):c=b:=by obtain⟨d,f⟩:=yk e;have:=VU y6 c h;haveI:=f (λz=>by rw[z] at this;cases this);cases c;cases b;cases d;cases this;rfl
noncomputable def Fq:iQ->List Nat
 |[]=>[]
 |o::l=>match o with|none=>Fq l|some p=>p.1::p.2::Fq l
noncomputable def De (i:Nat):List Nat->Nat
 |[]=>0
 |x::l=>(match Nat.beq (x/2) i with|true=>1|false=>0)+De i l
noncomputable def zo (L:List Nat):iQ->Nat->List Nat
 |[],_=>[]
 |_::l,i=>De i L::zo L l (i+1)
noncomputable def pq.uses (A:pq):List Nat:=zo (Fq A.ns++A.outs) A.ns 0
def vM (A:pq):List aB:=[.ns<|wp 10 11 12 13,.ins 3 8,.lst<|A.ns.map JQ,.lst [.int 1,.int 2],.lst<|bl A.outs,.dct<|rv A.ns 0]
theorem QC:bw.map (λc=>rh (da c) [8,9,10,11,12,13]<|run prog kI 30 31 [.ref 7]<|da c)=bw.map (λc=>(some<|.ref 9,(gv<|da c).map<|ac<|da c,(vM c.aig).map some)):=by kernel_rfl
theorem SA:bw.all (λc=>DQ (da c) [.ref 7] (.ref 9) [8,9,10,11,12,13]<|vM c.aig):=by decide+kernel
theorem NX:bw.map (λc=>rh (da c) [8]<|run prog kI 30 12 [.ref 7]<|da c)=bw.map (λc=>(some<|.ref 8,(gv<|da c).map<|ac<|da c,[some<|.lst []])):=by kernel_rfl
theorem Py:bw.all (λc=>DQ (da c) [.ref 7] (.ref 8) [8] [.lst []]):=by decide+kernel
theorem Q2:bw.map (λc=>rh c.aig.H [8]<|run prog kI 30 26 [.ref 6] c.aig.H)=bw.map (λc=>(some<|.ref 8,(gv c.aig.H).map<|ac c.aig.H,[some<|.lst<|bl c.aig.uses])):=by kernel_rfl
theorem QZ:bw.all (λc=>DQ c.aig.H [.ref 6] (.ref 8) [8] [.lst<|bl c.aig.uses]):=by decide+kernel
def B7:List V->Option (List Nat)
 |[]=>some []
 |v::l=>v.ref?.bind λn=>(B7 l).bind λr=>some<|n::r
noncomputable def lX:List Nat->Bool
 |[]=>true
 |x::l=>l.all (λy=>!Nat.beq x y)&&lX l
noncomputable def Uk (r:R V):Option (V×Hp):=r.casesOn (λv H=>some (v,H)) (λU U=>none) λU=>none
theorem ML (h:Uk r=some p):r=.ok p.1 p.2:=by
 cases r with
 |ok=>cases h;rfl
 |ex=>cases h
 |no=>cases h
def Oc (H:Hp) (r:R V):Option (List (Option aB)×Bool×List (Option aB)):=
 (Uk r).bind λp=>p.1.ref?.bind λm=>(ac p.2 m).bind λc=>c.lst?.bind λl=>(B7 l).bind λs=>some ((gv H).map<|ac p.2,lX (m::s)&&(m::s).all (λk=>!lu H k),s.map<|ac p.2)
def CE (r:List<|List Nat):aB:=.lst<|r.map λc=>V.tup<|bl c
theorem PZ:bw.map (λc=>Oc c.aig.H<|run prog kI 30 48 [.ref 6,.int 2,.int 4] c.aig.H)=bw.map (λc=>some ((gv c.aig.H).map<|ac c.aig.H,true,(fT c.aig.ns 0).map λr=>some<|CE r)):=by kernel_rfl
def tm:List (eF×Nat×List Nat×Nat):=bw.flatMap λc=>(c.aig.ns.zipIdx 0).flatMap λp=>(cy p.1).map λq=>(c,p.2,q.1,q.2)
theorem TK:tm.map (λp=>rh p.1.aig.H []<|run prog kI 30 51 [.ref 6,.int<|.ofNat p.2.1,.tup<|bl p.2.2.1] p.1.aig.H)=tm.map (λp=>(some<|.int<|.ofNat p.2.2.2,(gv p.1.aig.H).map<|ac p.1.aig.H,[])):=by kernel_rfl
theorem QE:dq.map (λt=>rh [] [0]<|run prog kI 30 39 [.int t,.int 2] [])=dq.map (λt=>(some<|.tup [.int t,.ref 0],[],[some<|.lst [.int 0,.int 1]])):=by kernel_rfl
noncomputable def zU (N:NL) (L l:Nat) (i:Nat):Nat:=match i with|0=>0|1=>L|2=>l|3=>N.c|4=>N.o|5=>N.i|6=>N.d|7=>N.ref|_=>0
theorem Gq (c:eF):(da c).all (λp=>wt (lu<|da c) p.2):=by show(true&&((true&&(true&&(true&&(true&&(true&&true)))))&&((true&&true)&&((true&&true)&&(dF (lu _) _&&(dF (lu _) _&&(true&&(true&&true))))))))=true;rw[bU (λU h=>by cases h) _<|lF c.tw c.ks 4,bU (λU h=>by cases h) _<|sP c.ks 4];rfl
theorem qk {P:Nat×aB->Prop} (i:P (7,.ins 2 6)) (g:P (6,.ns [(9,.str [103,97,116,101,115]),(10,.int<|.ofNat<|4+c.ks.length),(11,.ref 5),(12,.ref 4),(13,.ref 3)]))
  (f:P (5,.lst [.tup [.str [97],.ref 1]])) (e:P (4,.lst [.tup [.str [121],.ref 2]])) (d:P (3,.lst<|iu c.tw 4 c.ks)) (b:P (2,.lst<|l6 4 c.ks)) (H:P (1,.lst [.int 2,.int 3])) (h0:P (0,.tab)):∀p∈da c,P p:=by
 intro p h;simp only [da,Z6,Xu,or_false] at h;rcases h with rfl|rfl|rfl|rfl|rfl|rfl|rfl|rfl<;>assumption
def LG:aB->Nat
 |.ins _ _=>7
 |.ns _=>6
 |.lst l=>match l with
  |.tup (.str s::.ref _::_)::_=>(match s with|97::_=>5|_=>4)
  |.tup _::_=>3
  |.int i::_=>(match ieq i 2 with|true=>1|false=>2)
  |_=>8
 |_=>0
noncomputable def Km:aB->Nat
 |.ins _ _=>6
 |.ns _=>5
 |.lst l=>match l with
  |.non::_=>4
  |_=>2
 |.dct _=>1
 |_=>0
theorem iO.sub (h:iO H c N L r):Sub H (da c) (zU N L r):=by
 have A:∀p∈da c,ac H (zU N L r p.1)=some (kG (zU N L r) p.2):=by
  refine qk h.at'.ins' ?_ ?_ ?_ ?_ ?_ h.hL h.tab
  .show ac H N.d=some (.ns [(9,.str _),(10,.int _),(11,.ref N.i),(12,.ref N.o),(13,.ref N.c)])
   simp only [h.at'.ns'];unfold NL.ns;simp only [h.nm,h.cnt]
  .show ac H N.i=some (.lst [.tup [.str [97],.ref L]]);simp only [h.at'.hi,h.ins]
  .show ac H N.o=some (.lst [.tup [.str [121],.ref r]]);simp only [h.at'.ho,h.outs]
  .show ac H N.c=some (.lst _);simp only [h.at'.hc,h.cells,bn _ _<|lF _ _ _]
  .show ac H r=some (.lst _);simp only [h.hL2,bn _ _<|sP _ _]
 haveI y:∃k x,c.ks=k::x:=by
  have:=VU y6 c h.mem;cases q:c.ks with
  |nil=>rw[q] at this;cases this
  |cons k x=>exact PK k x rfl
 refine EH y λk x D=>?_;haveI j:∀p∈da c,LG (kG (zU N L r) p.2)=p.1:=by
  refine qk rfl rfl rfl rfl ?_ ?_ rfl rfl;.show LG (.lst _)=3;simp only [D];rfl
  .show LG (.lst _)=2;simp only [D];rfl
 refine E2 A (Gq c) (λp G q Q e=>?_)<|qk ?_ ?_ ?_ ?_ ?_ ?_ ?_ ?_
 .haveI u:=A p G
  simp only [e,A q Q] at u;haveI u:=W2 u;exact qR (j p G)<|qR (j q Q)<|qL u rfl
 all_goals (show _<8;simp)
theorem lZ {A:pq} {P:Nat×aB->Prop} (f:P (6,.ins 3 5)) (e:P (5,.ns<|wp 4 3 2 1)) (d:P (4,.lst<|A.ns.map JQ)) (c:P (3,.lst [.int 1,.int 2])) (b:P (2,.lst<|bl A.outs)) (H:P (1,.dct<|rv A.ns 0)) (h0:P (0,.tab)):∀p∈A.H,P p:=by intro p h;simp only [pq.H,Z6,Xu,or_false] at h;rcases h with rfl|rfl|rfl|rfl|rfl|rfl|rfl<;>assumption
noncomputable def y8 (a:AG) (i:Nat):Nat:=match i with|0=>0|1=>a.t|2=>a.o|3=>a.i|4=>a.n|5=>a.d|6=>a.ref|_=>0
theorem tV (A:pq):A.H.all (λp=>wt (lu A.H) p.2):=by show(true&&((true&&(true&&(true&&(true&&true))))&&(dF _ _&&((true&&(true&&true))&&(dF _ _&&(wY _ _&&(true&&true)))))))=true;rw[bU (λU h=>by cases h) _<|mo A.ns,bU (λU h=>by cases h) _<|eg A.outs,Ir];rfl
theorem Lp:bw.all (λc=>c.aig.ns.casesOn false λo U=>o.isNone):=rfl
theorem yH (h:c∈bw):∃l,c.aig.ns=none::l:=by
 have:=VU Lp c h;cases e:c.aig.ns with
 |nil=>rw[e] at this;cases this
 |cons o l=>
  rw[e] at this;induction o with
  |none=>exact⟨l,rfl⟩
  |some=>cases this
theorem AG.At.sub (D:c∈bw) (h:a.At H c.aig):Sub H c.aig.H (y8 a):=by
 have A:∀p∈c.aig.H,ac H (y8 a p.1)=some (kG (y8 a) p.2):=by
  refine lZ h.ins' h.ns' ?_ h.hi ?_ ?_ h.tab;.show ac H a.n=some (.lst _);simp only [h.hn,bn _ _<|mo _]
  .show ac H a.o=some (.lst _);simp only [h.ho,bn _ _<|eg _]
  .show ac H a.t=some (.dct _);simp only [h.ht,sq]
 obtain⟨l,L⟩:=yH D;haveI j:∀p∈c.aig.H,Km (kG (y8 a) p.2)=match p.1 with|3=>2|k=>k:=by
  refine lZ rfl rfl ?_ rfl ?_ rfl rfl;.show Km (.lst _)=4;simp only [L];rfl
  .show Km (.lst _)=2
   cases c.aig.outs<;>rfl
 refine E2 A (tV _) (λp u q Q e=>?_)<|lZ ?_ ?_ ?_ ?_ ?_ ?_ ?_
 .haveI r:=A p u
  simp only [e,A q Q] at r;injection r with r;haveI x:=j p u;simp only [<-r,j q Q] at x;haveI k:∀p∈c.aig.H,p.1<7:=lZ (by simp) (by simp) (by simp) (by simp) (by simp) (by simp) (by simp);haveI N:=k p u;haveI O:=k q Q;clear r u Q;obtain⟨p,_⟩:=p;obtain⟨q,_⟩:=q;dsimp only at*;haveI y:∀p<7,p=0\/p=1\/p=2\/p=3\/p=4\/p=5\/p=6:=by decide
  haveI G:=y p ‹_›;haveI J:=y q ‹_›;rcases G with rfl|rfl|rfl|rfl|rfl|rfl|rfl<;>rcases J with rfl|rfl|rfl|rfl|rfl|rfl|rfl<;>first|rfl|exact absurd e h.io|exact absurd e.symm h.io|cases x
 all_goals (show _<7;simp)
theorem eD (N:s.Nodup) (h:s[m]?=some k) (n:ac H k=none):cL H c b s k=b+m:=by delta cL;refine qL n ?_;simp only [ij N h,a0I]
theorem cX {b:List aB} (e:s.map (ac d)=b.map some) (h:s[m]?=some k) (f:b[m]?=some c):
  ac (gF d (cL H0 π (ak H) s) s H) (ak H+m)=some (kG (cL H0 π (ak H) s) c):=by
 refine .trans (jL s H m k h) ?_;haveI:(s.map _)[m]?=(b.map some)[m]?:=by rw[e]
 simp only [a0c,a0c,h,f] at this;haveI:ac d k=some c:=by simpa using this
 rw[this];rfl
theorem PI {l m:Sg} (f:Nat) (h:some (aB.ns l)=some (.ns m)):(look l f).bind V.ref? =(look m f).bind V.ref?:=Wh (λo:Option aB=>o.bind λc=>c.ns?.bind λl=>(look l f).bind V.ref?) h
theorem wO (w:WF H) (h:iO H c N L L2)
  (q:∀a g,aJ H g->AG.At g a c.aig->Q (.ref a.ref) g):W (bG (n+1) 31 [.ref N.ref] H) Q X:=by
 refine aI (gY.of (mZ QC c h.mem) (VU SA c h.mem)<|by decide) λH1 R e=>sD rfl (Ou.mk h.mem) h.sub R  rfl  λH0 A v0 r ks b sh S t i=>?_;induction sh with
 |@mk c' _ _ m=>
  have q7:N.ref=b 7:=by injection i with i;injection i
  haveI f:=(S.cell 7 _ rfl).1;simp only [<-q7,h.at'.ins'] at f;have Y:N.d=b 6:=by injection f with f;injection f
  have o:=(S.cell 6 _ rfl).1;simp only [<-Y,h.at'.ns'] at o;have O:=W2<|PI 13 o;have s:=(S.cell 3 _ rfl).1;simp only [<-O,h.at'.hc] at s;haveI s:some (aB.lst N.cells)=some (.lst _):=s;rw[bn _ _<|lF _ _ _,h.cells] at s;injection s with s;injection s with s;obtain rfl:=Lw h.mem s;obtain⟨rfl,rfl⟩:=t.same R;have D:([8,9,10,11,12,13]).Nodup:=by decide
  haveI J:cL (da c) b _ [8,9,10,11,12,13] 8=ak H+0:=eD D rfl rfl;haveI M:cL (da c) b _ [8,9,10,11,12,13] 9=ak H+1:=eD D rfl rfl;haveI p:cL (da c) b _ [8,9,10,11,12,13] 10=ak H+2:=eD D rfl rfl;haveI j:cL (da c) b _ [8,9,10,11,12,13] 11=ak H+3:=eD D rfl rfl;haveI k:cL (da c) b _ [8,9,10,11,12,13] 12=ak H+4:=eD D rfl rfl;haveI l:cL (da c) b _ [8,9,10,11,12,13] 13=ak H+5:=eD D rfl rfl;haveI u:=cX (H0:=da c) (H:=H) (π:=b) e (m:=0) rfl rfl;haveI v:=cX (H0:=da c) (H:=H) (π:=b) e (m:=1) rfl rfl;haveI x:=cX (H0:=da c) (H:=H) (π:=b) e (m:=2) rfl rfl;haveI g3:=cX (H0:=da c) (H:=H) (π:=b) e (m:=3) rfl rfl;haveI y:=cX (H0:=da c) (H:=H) (π:=b) e (m:=4) rfl rfl;haveI z:=cX (H0:=da c) (H:=H) (π:=b) e (m:=5) rfl rfl;haveI G:∀K,aJ H (gF K (cL (da c) b (ak H) [8,9,10,11,12,13]) [8,9,10,11,12,13] H):=λK=>gw _ _ w;show Q (.ref _) _;refine qL M ?_;generalize cL _ b _ [8,9,10,11,12,13]=d at*;refine q ⟨ak H+1,ak H+0,ak H+2,ak H+3,ak H+4,ak H+5⟩ _ (G _) ⟨?_,?_,?_,?_,?_,?_,by exact Xe<|W1 _,(G _).get _ _ h.tab⟩;.simp only [v];show some (aB.ins 3<|d 8)=_;simp only [J]
  .simp only [u];show some (aB.ns<|wp (d 10) (d 11) (d 12)<|d 13)=_;simp only [p,j,k,l]
  .simp only [x];show some (aB.lst _)=_;simp only [bn _ _<|mo _]
  .trivial
  .simp only [y];show some (aB.lst _)=_;simp only [bn _ _<|eg _]
  .simp only [z];show some (aB.dct _)=_;simp only [sq]
theorem AW (w:WF H) (h:iO H c N L o)
  (q:∀m f,aJ H f->ac H m=none->ac f m=some (.lst [])->Q (.ref m) f):W (bG (n+1) 12 [.ref N.ref] H) Q X:=by
 refine aI (gY.of (mZ NX c h.mem) (VU Py c h.mem)<|by decide) λl R e=>sD rfl (Ou.mk h.mem) h.sub R  rfl  λk A v g u b s S r t=>?_;induction s with
 |@mk d _ _ m=>refine aI (gY.of (mZ NX d m) (VU Py d m)<|by decide) λg i j=>?_;obtain⟨rfl,rfl⟩:=r.same i;haveI G:=cX (H0:=da d) (H:=H) (π:=b) j (m:=0) rfl rfl;have p:cL (da d) b _ [8] 8=ak H+0:=eD (by decide) rfl rfl;show Q (.ref _) _;exact p▸(q _ _<|gw _ _ w) w.none G
theorem F7:∀{a b:iQ},a.map JQ=b.map JQ->a=b:=by
 intro z;induction z with
 |nil=>
  intro w;cases w with
  |nil=>intro _;exact rfl
  |cons _ _=>intro h;cases h
 |cons x a i=>
  intro w;cases w with
  |nil=>intro h;cases h
  |cons y b=>
   intro h;injection h with H c;refine qL (i c) ?_;induction x with
   |none=>induction y with
    |none=>rfl
    |some q=>cases H
   |some p=>induction y with
    |none=>cases H
    |some q=>haveI H:V.tup [.int _,.int _]=.tup [.int _,.int _]:=H;simp only [V.tup.injEq,a0U,V.int.injEq,a1t,and_true] at H;obtain⟨d,e⟩:=p;haveI Q:=q.1;haveI f:=q.2;obtain⟨rfl,rfl⟩:=H;rfl
theorem pY:∀{a b:List Nat},bl a=bl b->a=b:=by
 intro z;induction z with
 |nil=>
  intro w;cases w with
  |nil=>intro _;exact rfl
  |cons _ _=>intro h;cases h
 |cons x a i=>
  intro w;cases w with
  |nil=>intro h;cases h
  |cons y b=>intro h;injection h with H c;refine qL (i c) ?_;injection H with H;injection H with H;rw[H]
theorem AG.At.same {a:AG} (h:a.At H A) (S:Sub H x.H j) (e:a.ref=j 6):x=A:=by
 haveI r:=(S.cell 6 _ rfl).1;rw[<-e,h.ins'] at r;haveI r:=r;haveI J:a.d=j 5:=by injection r with r;injection r
 haveI u:=(S.cell 5 _ rfl).1;rw[<-J,h.ns'] at u;have u:=u;have G:=W2<|PI 37 u;have Q:=W2<|PI 12 u;have q:=(S.cell 4 _ rfl).1;simp only [<-G,h.hn] at q;haveI q:some (aB.lst _)=some (.lst<|eZ j _):=q;rw[bn _ _<|mo _] at q;injection q with q;injection q with q;have p:=(S.cell 2 _ rfl).1;simp only [<-Q,h.ho] at p;haveI p:some (aB.lst _)=some (.lst<|eZ j _):=p;rw[bn _ _<|eg _] at p;injection p with p;injection p with p;haveI y:=F7 q;haveI D:=pY p;cases A;cases x;cases y;cases D;rfl
theorem IO {a:AG} (w:WF H) (d:c∈bw) (h:a.At H c.aig)
  (q:∀m f,aJ H f->ac H m=none->ac f m=some (.lst<|bl c.aig.uses)->Q (.ref m) f):W (bG (n+1) 26 [.ref a.ref] H) Q X:=by
 refine aI (gY.of (mZ Q2 c d) (VU QZ c d)<|by decide) λo R e=>sD rfl (Tw.mk d) (h.sub d) R  rfl  λl A v i u b s S r g=>?_;induction s with
 |@mk t _ _ m=>
  have k:a.ref=b 6:=by injection g with g;injection g
  have j:=h.same S k;rw[j] at S r⊢;obtain⟨rfl,rfl⟩:=r.same R;haveI p:cL c.aig.H b _ [8] 8=ak H+0:=eD (by decide) rfl rfl;show Q (.ref<|cL c.aig.H b _ [8] 8) _;refine qL p ?_;refine q _ _ (gw _ _ w) w.none ?_;refine qL (cX (H0:=c.aig.H) (H:=H) (π:=b) e (m:=0) rfl rfl) ?_;show some (aB.lst<|eZ _ _)=_;exact qL (bn _ _<|eg _) rfl
theorem Dr:∀{s:List Nat},B7 l=some s->l=s.map V.ref:=by
 induction l with
 |nil=>intro _ h;cases h;rfl
 |cons v l i=>intro s h;refine ao h λn e h=>ao h λr b h=>?_;obtain rfl:=W2 h;simp only [nz e,i b];rfl
theorem vY:∀{l:List Nat},lX l->l.Nodup:=@λz=>by
 induction z with
 |nil=>exactλU=>XG
 |cons x l i=>intro h;haveI h:(l.all (λy=>!Nat.beq x y)&&lX l)=true:=h;simp only [XR] at h;refine XB.mpr ⟨λH=>?_,i h.2⟩;have:=VU h.1 x H;rw[W9] at this;cases this
theorem vj (r:List<|List Nat):bV (r.map λc=>V.tup<|bl c):=by
 induction r with
 |nil=>rfl
 |cons x r i=>show(bV _&&bV (r.map λc=>V.tup _))=true;simp only [eg,i];rfl
theorem F5 (r:List<|List Nat):wt p (CE r):=bU (λU h=>by cases h) _<|vj r
theorem AC:∀{r:List Nat},(∀x∈r,p x)->dF p (r.map V.ref):=@λz=>by
 induction z with
 |nil=>exactλU=>rfl
 |cons x r i=>intro h;show(p x&&dF p _)=true;simp only [h x Xz,i λy H=>h y<|Xw _ H];rfl
theorem z8 (b:Nat->Nat):∀r:List Nat,eZ b (r.map V.ref)=(r.map b).map V.ref:=by
 intro z;induction z with
 |nil=>exact rfl
 |cons x r i=>show .ref (b x)::eZ b _=_;rw[i];rfl
theorem DL (G:c∈bw):∃m s H,gY 48 c.aig.H [.ref 6,.int 2,.int 4] (.ref m) H (m::s)/\ac H m=some (.lst<|s.map V.ref)/\s.map (ac H)=(fT c.aig.ns 0).map λr=>some (CE r):=by
 refine ao (mZ PZ c G) λp g e=>ao e λm M e=>ao e λJ u e=>ao e λl L e=>ao e λs j e=>?_;obtain⟨v,H⟩:=p;haveI D:(gv c.aig.H).map _=(gv c.aig.H).map _:=Wh Prod.fst<|W2 e;have z:=VP<|Wh (·.2.1)<|W2 e;haveI A:s.map _=(fT c.aig.ns 0).map λr=>some _:=Wh (·.2.2)<|W2 e;haveI g:=ML g;replace g:=(nz M)▸g;simp only [qZ L,Dr j] at u;clear e M L j;have O:∀i f,ac c.aig.H i=some f->ac H i=some f:=λi f h=>by haveI:=List.map_inj_left.mp D i<|List.mem_map.mpr ⟨(i,f),eP h,rfl⟩;rw[this];exact h
 have o:∀k∈s,∃r,ac H k=some _:=λk b=>by
  haveI:ac H k∈(fT c.aig.ns 0).map λr=>some _:=by rw[<-A];exact XC b
  refine aI (VT this) λr U h=>?_;exact⟨r,h.symm⟩
 have n:∀x∈m::s,(eU x _ 0).isSome=true:=λx y=>by obtain⟨p,w⟩:=rX y;rw[w];rfl
 refine T5 m s H ⟨g,O,vY z.1,λk b=>⟨?_,?_⟩,λi f h d=>?_,rfl,?_⟩ u A
 .have:=VU z.2 k b
  unfold lu at this;cases q:ac c.aig.H k with
  |none=>rfl
  |some c=>rw[q] at this;cases this
 .rcases VO b with rfl|b
  .exact⟨_,u⟩
  .obtain⟨r,h⟩:=o k b;exact⟨_,h⟩
 .rw[a0Y] at d
  rcases d with d|d
  .obtain⟨v,t⟩:=iJ d
   obtain rfl:=W2<|(O i v t).symm.trans h;exact wn (λU h=>by rw[h];rfl) _<|VU (tV c.aig) _<|eP t
  .obtain⟨p,w⟩:=VQ d
   rcases VO (a0Z (lE w).2) with rfl|b
   .obtain rfl:=W2 (u.symm.trans h)
    exact AC λx y=>by rw[n x<|Xw _ y,Z2]
   .obtain⟨r,t⟩:=o i b
    obtain rfl:=W2<|h.symm.trans t;exact F5 r
 .show(_||_)=true
  rw[n m Xz,Z2]
theorem Im {a:AG} (w:WF H) (v:c∈bw) (h:a.At H c.aig)
  (q:∀(m:Nat) (O:List Nat) l,aJ H l->ac H m=none->ac l m=some (.lst<|O.map V.ref)->O.map (ac l)=((fT c.aig.ns 0).map λr=>some<|CE r)->Q (.ref m) l):W (bG (n+1) 48 [.ref a.ref,.int 2,.int 4] H) Q X:=by
 refine IT (DL v) λm0 s Y R G L=>sD rfl (QU.mk v G) (h.sub v) R  rfl  λH0 A v0 o ks d sh S e u=>?_;induction sh with
 |@mk c' m rs o mm g=>
  have q6:a.ref=d 6:=by injection u with u;injection u
  haveI ec:=h.same S q6;rw[ec] at S e⊢;obtain⟨t,e2⟩:=e.same R;haveI t:=V.ref.inj t;subst t;rw[e2] at g e⊢;rw[G] at g;injection g with g;injection g with g;haveI D:s=rs:=by
   haveI inj:∀{a b:List Nat},a.map V.ref=b.map V.ref->a=b:=by
    intro a;induction a with
    |nil=>intro b h;induction b with|nil=>rfl|cons _ _=>cases h
    |cons x a N=>intro b h;induction b with|nil=>cases h|cons y b=>injection h with i J;injection i with i;simp only [i,N J]
   exact inj g
  subst D;haveI pm:cL c.aig.H d _ _ m=ak H+0:=eD e.nd rfl (e.new m Xz).1;have M:∀(K:Hp) j k,(m::s)[j]?=some k->∀p,ac K k=some p->ac (gF K (cL c.aig.H d (ak H)<|m::s) (m::s) H) (ak H+j)=some (kG (cL c.aig.H d _ _) p):=λK j k z p i=>by simp only [jL _ H j k z,i];rfl
  show Q (.ref<|cL c.aig.H d _ _ m) _;refine qL pm ?_;refine q _ (s.map<|cL c.aig.H d (ak H)<|m::s) _ (gw _ _ w) w.none ?_ ?_
  .simp only [M _ 0 m rfl _ G]
   show some (aB.lst<|eZ _ _)=_;simp only [z8]
  .simp only [<-L,XJ]
   refine List.map_inj_left.mpr λk x=>?_;obtain⟨j,z⟩:=List.mem_iff_getElem?.mp x;have J:(m::s)[j+1]?=some k:=by simpa using z
   show ac _ (cL c.aig.H d _ _ k)=_;refine qL (eD e.nd J (e.new k<|Xw _ x).1) ?_;haveI N:=XC (f:=ac Y) x;rw[L] at N;refine aI (VT N) λr U y=>?_;simp only [M _ (j+1) k J _ y.symm,<-y];show some (aB.lst _)=some (aB.lst _);exact qL (bn _ _<|vj r) rfl
theorem Iy {H:Hp} {c:eF} {a:AG} {N:Nat} {cut:List Nat} {t:Nat} (g:c∈bw) (h:a.At H c.aig) (O:(c,N,cut,t)∈tm) {Q:V->Hp->Prop} {X:V->Hp->Prop} (q:Q (.int<|.ofNat t) H):
  W (bG (n+1) 51 [.ref a.ref,.int<|.ofNat N,.tup<|bl cut] H) Q X:=by
 haveI o:dF (lu c.aig.H) [V.ref 6,.int<|.ofNat N,.tup _]=true:=by show(true&&(true&&(dF _ _&&true)))=true;rw[bU (λU h=>by cases h) _<|eg cut];rfl
 obtain⟨d,R,e⟩:=gY.of (cells:=[]) (mZ TK _ O) (by show(true&&c.aig.H.all (λp=>wt _ p.2)&&true&&dF _ [V.ref 6,.int _,.tup _]&&true)=true;simp only [tV,o];rfl) (by decide);refine sD rfl (P4.mk g) (h.sub g) R (?_) λv r x i w b s S f A=>?_
 .show _=[V.ref a.ref,.int _,.tup<|eZ _ _]
  exact qL (bn _ _<|eg cut) rfl
 induction s with
 |@mk p D u _ _ m=>haveI A:[V.ref a.ref,.int _,.tup _]=[.ref<|b 6,.int _,.tup<|eZ b _]:=A;replace A:=(bn _ _<|eg u)▸A;simp only [a0U,V.ref.injEq,V.int.injEq,a1t,V.tup.injEq,and_true] at A;refine kh A λl d j=>?_;subst d;obtain rfl:=pY j;have k:=h.same S l;rw[k] at S f⊢;obtain⟨rfl,rfl⟩:=f.same R;exact q
theorem Mh (w:WF H) (g:t∈dq) (q:∀m c,aJ H c->ac H m=none->ac c m=some (.lst [.int 0,.int 1])->Q (.tup [.int t,.ref m]) c):
  W (bG (n+1) 39 [.int t,.int 2] H) Q X:=by
 refine aI (gY.of (cells:=[.lst [.int 0,.int 1]]) (mZ QE t g) rfl<|by decide) λj R e=>sD (π:=id) rfl Tm.mk ⟨λU U h=>(by cases h),λU U U U h=>(by cases h),λU U h=>by cases h⟩ R  rfl  λi r v d k b s S f A=>?_;induction s with
 |@mk h _ _=>injection A with A;injection A with A;subst A;obtain⟨rfl,rfl⟩:=f.same R;haveI p:cL [] b _ [0] 0=ak H+0:=eD (by decide) rfl rfl;show Q (.tup [.int t,.ref<|cL [] b _ [0] 0]) _;exact p▸(q _ _<|gw _ _ w) w.none (cX (H0:=[]) (H:=H) (π:=b) e (m:=0) rfl rfl)
structure Jm (κ:Int->V):Prop where
 is:∀i,vZ (κ i)=true
 eq:∀i j,FJ (κ i) (κ j)=some (ieq i j)
theorem jc:Jm V.int:=⟨λU=>rfl,λU U=>rfl⟩
noncomputable def key2 (t:Int):V:=.tup [.int 2,.int t]
theorem o4:Jm key2:=⟨λU=>rfl,λi j=>by show some (cond _ true false)=_;cases ieq i j<;>rfl⟩
noncomputable def dK (b:Int->V) (l:List<|Int×V):List (V×V):=l.map λp=>(b p.1,p.2)
def eQ (l:List<|Int×V) (i:Int):Option V:=l.rec none λp U h=>cond (ieq p.1 i) (some p.2) h
def cP (l:List<|Int×V) (i:Int) (v:V):List (Int×V):=l.rec [(i,v)] λp l h=>cond (ieq p.1 i) ((p.1,v)::l)<|p::h
section
theorem zD (K:Jm c) (i:Int):∀l:List (Int×V),jZ (c i) (dK c l)=some (eQ l i):=by
 intro z;induction z with
 |nil=>exact rfl
 |cons p l h=>show(FJ (c p.1)<|c i).bind (λb=>cond b (some<|some p.2)<|jZ (c i)<|dK c l)=some (cond _ _<|eQ l i);simp only [K.eq,h];cases ieq p.1 i<;>rfl
theorem Gx (K:Jm c) (i:Int) (v:V):∀l:List (Int×V),n9 (c i) v (dK c l)=some (dK c<|cP l i v):=by
 intro z;induction z with
 |nil=>exact rfl
 |cons p l h=>show(FJ (c p.1)<|c i).bind (λb=>cond b (some<|(c p.1,v)::dK c l)<|(n9 (c i) v<|dK c l).map ((c p.1,p.2)::·))=some (dK c<|cond _ _<|p::cP l i v);simp only [K.eq,h];cases ieq p.1 i<;>rfl
theorem dD (i j:Int) (v:V):∀l:List (Int×V),eQ (cP l i v) j=cond (ieq i j) (some v) (eQ l j):=by
 intro b;induction b with
 |nil=>show cond _ (some v) none=_;cases ieq i j<;>rfl
 |cons p l h=>
  show eQ (cond _ _<|p::cP l i v) j=cond _ _ (cond _ _<|eQ l j);cases q:ieq p.1 i with
  |true=>haveI e:=aD q;show cond _ (some v) (eQ l j)=_;refine qL e ?_;cases ieq i j<;>rfl
  |false=>
   show cond _ _ (eQ _ j)=_;refine qL h ?_;cases Q:ieq p.1 j with
   |false=>rfl
   |true=>
    refine qR (aD Q) ?_;haveI:ieq i p.1=false:=by
     cases z:ieq i p.1 with
     |false=>rfl
     |true=>rw[aD z,(dc _ _).mpr rfl] at q;cases q
    rw[this];rfl
theorem iG (i:Int) (v:V):∀l:List (Int×V),(cP l i v).length<=l.length+1:=by
 intro z;induction z with
 |nil=>exact XA _
 |cons p l h=>
  show(cond _ _<|p::cP l i v).length<=_;cases ieq p.1 i with
  |true=>simp
  |false=>show(cP l i v).length+1<=l.length+1+1;haveI:=h;exact XE ‹_›
theorem KQ (l:List<|Int×V):(dK b l).length=l.length:=XK _
theorem ir (K:Jm b) (h:ac H n=some (.dct<|dK b l)):gW H (.ref n) (b i)=eQ l i:=by refine qL (pO h) ?_;show(cond _ _ none).bind id=_;simp only [K.is,zD K];rfl
theorem SV (K:Jm b) (h:ac H n=some (.dct<|dK b l)):gU .inn (b i) (.ref n) H=some (eQ l i).isSome:=by refine .trans (CM h) ?_;show(cond _ _ none).map _=_;rw[K.is,zD K];rfl
theorem zH (K:Jm b) (h:ac H n=some (.dct<|dK b l)):gU .nin (b i) (.ref n) H=some (!(eQ l i).isSome):=by show Internal.neg (gU .inn (b i) _ H)=_;rw[SV K h];rfl
theorem i8 (K:Jm b) (h:ac H n=some (.dct<|dK b l)) (L:l.length<1000) (q:Q ()<|bj H n<|.dct<|dK b<|cP l i v):W (setItem (.ref n) (b i) v H) Q X:=by show W (ro 33 _ λc=>ro 32 _ λd=>.ok () _) Q X;refine qL h ?_;show W (ro 32 ((cond _ (cond (jE _) _ none) none).map .dct) λd=>.ok ()<|bj H n d) Q X;rw[K.is,show jE _=true from(a0T).mpr<|by rw[KQ];exact Xk L<|by decide,Gx K];exact q
end
theorem EM (q:Q (.ref<|ak H)<|(ak H,.dct [])::H):W (iU [] c b H) Q X:=q
structure aN where
 gates:List Ce
 inv:Option Ce
noncomputable def aN.cs (s:aN):List Ce:=s.gates++s.inv.toList
structure aN.Ok (s:aN):Prop where
 gt:∀c∈s.gates,c.ins=2/\c.tb∈cT 2/\0<=c.ar
 iv:∀c,s.inv=some c->c.ins=1/\c.tb=1/\0<=c.ar
 len:s.gates.length<=2
theorem aN.Ok.find {s:aN} (h:s.Ok):s.cs.find? bz=s.inv:=by
 delta aN.cs;refine qL  a07  (qL (Jv (by decide) λc j=>(h.gt c j).1) ?_);cases q:s.inv with
 |none=>rfl
 |some c=>refine kh (h.iv c q) λa b U=>?_;show(match bz c with|true=>some c|false=>none)=_;unfold bz;rw[a,b];rfl
theorem aN.Ok.filt {s:aN} (h:s.Ok):s.cs.filter (λc=>ieq c.ins 2)=s.gates:=by
 delta aN.cs;simp only [a1a,List.filter_eq_self.mpr λc j=>(dc _ _).mpr (h.gt c j).1];cases q:s.inv with
 |none=>exact Ya _
 |some c=>refine kh (h.iv c q) λa b U=>?_;show s.gates++(match ieq c.ins 2 with|true=>[c]|false=>[])=_;exact a▸(Ya _)
def zg (s:aN) (w:Int):Bool:=s.gates.any λc=>match s.inv with|some _=>helpedT c.tb w|none=>bI uk 2 c.tb w
noncomputable def tH (s:aN) (w:Int) (v:V):Prop:=∃c∈s.gates,∃d m o,v=.tup [.ref c.ref,d,.int m,.int o]/\PY c.tb d m o w/\((m=0/\o=0)\/s.inv.isSome=true)
noncomputable def qm (s:aN) (w:Int) (v:V) (c:Int):Prop:=0<=c/\((zg s w=false/\v=.non)\/(zg s w=true/\tH s w v))
theorem BJ (c:List Ce) (l:Int):∀(s:List DY) (b:Option<|List V×Int),(∀p,s.foldl (λb r=>ju b<|out c l r) b=some p->b=some p\/∃r∈s,out c l r=some p)/\
  (s.foldl (λb r=>ju b<|out c l r) b=none->b=none/\∀r∈s,out c l r=none):=by
 intro f;induction f with
 |nil=>exactλb=>⟨λp h=>.inl h,λh=>⟨h,λU h=>by cases h⟩⟩
 |cons r s i=>
  intro b;haveI g:=i<|ju b<|out c l r;have k:∀p,ju b (out c l r)=some p->b=some p\/out c l r=some p:=λp h=>by
   delta ju at h;cases q:out c l r with
   |none=>rw[q] at h;exact .inl h
   |some x=>
    replace h:=q▸h;induction b with
    |none=>exact .inr h
    |some y=>
     dsimp only at h;cases z:iH x.2 y.2<;>rw[z] at h;.exact .inl h
     .exact .inr h
  refine⟨λp h=>?_,λh=>?_⟩
  .rcases g.1 p h with h|⟨e,d,h⟩
   .rcases k p h with h|h
    .exact .inl h
    .exact .inr ⟨r,Xz,h⟩
   .exact .inr ⟨e,Xw _ d,h⟩
  .obtain⟨H,j⟩:=g.2 h
   delta ju at H;cases q:out c l r with
   |none=>
    rw[q] at H;refine⟨H,λe d=>?_⟩;rcases VO d with rfl|d;.exact q
    .exact j e d
   |some x=>
    rw[q] at H;induction b with
    |none=>cases H
    |some y=>dsimp only at H;cases z:iH x.2 y.2<;>rw[z] at H<;>cases H
noncomputable def OU (s:aN) (w:Int) (t:List V):Prop:=∃c∈s.gates,∃d m o O k,t=[.ref c.ref,d,.int m,.int o]/\PY c.tb d m o w/\((m=0/\o=0)\/s.inv.isSome=true)/\Pl 53 [.int m] (.int O)/\small (O+o)=true/\eV s.cs c.ar (O+o)=some k/\0<=k
theorem AN {s:aN} (h:s.Ok) (i:s.inv=some v) (b:c∈s.gates) (d:0<=t):∃k,eV s.cs c.ar t=some k/\0<=k:=by
 delta eV;haveI H:=(h.gt c b).2.2;cases ieq t 0 with
 |true=>exact bK _ rfl H
 |false=>refine qL h.find<|qL i ?_;refine bK _ rfl ?_;haveI:=a1u d<|(h.iv v i).2.2;exact Wb H this
theorem uH (h:s.Ok) (G:yZ w L D t) (m:Pl 53 [.int 0]<|.int 0) (b:c∈s.gates):
  (out s.cs L ((t c.tb).row c)=none->(match s.inv with|some _=>helpedT c.tb w|none=>bI uk 2 c.tb w)=false)/\
  (∀p,out s.cs L ((t c.tb).row c)=some p->(match s.inv with|some _=>helpedT c.tb w|none=>bI uk 2 c.tb w)=true/\OU s w p.1):=by
 refine kh (h.gt c b) λv i n=>?_;haveI Q:=G.hq c.tb i;have g:=G.fit c.tb i;have o:=G.ok c.tb i;haveI r:=o.row c rfl v;refine kh g.on λO o2 o3=>?_;generalize t c.tb=x at*;cases j:s.inv with
 |some u=>
  haveI ck:=AN h j b (Wb ‹_› ‹_›:0<=x.om+x.o);refine aI ck λk d f=>?_;dsimp only [out];refine qL  Q  ?_;cases z:helpedT c.tb w with
  |false=>exact⟨λU=>rfl,λp H=>by cases H⟩
  |true=>simp only [z] at Q;haveI l:=aD Q;dsimp only;refine d ▸?_;refine⟨λe=>(by cases e),λp H=>⟨rfl,?_⟩⟩;obtain rfl:=W2 H;exact⟨c,b,x.od,x.m,x.o,x.om,k,rfl,g.jf l,.inr<|by rw[j];rfl,r.one l,r.sm,d,f⟩
 |none=>
  dsimp only;haveI N:s.cs.find? bz=none:=by rw[h.find,j]
  refine qL (B5 N o)<|qL o.st ?_;cases z:x.sb with
  |false=>exact⟨λU=>rfl,λp H=>by cases H⟩
  |true=>
   refine⟨λe=>(by cases e),λp H=>⟨rfl,?_⟩⟩;obtain rfl:=W2 H;haveI l:=(o.yes z).1;haveI y:=(o.yes z).2;haveI k:eV s.cs c.ar (0+0)=some c.ar:=Cx rfl;rcases y with⟨A,f,u,_⟩|⟨A,d,f,_⟩
   .have:x.way=x.od:=by unfold TD.way;rw[(dc _ _).mpr A]
    haveI J:=g.jf l;rw[f,u] at J;exact⟨c,b,x.od,0,0,0,c.ar,by rw[this],J,.inl ⟨rfl,rfl⟩,m,rfl,k,n⟩
   .have:x.way=d:=by
     delta TD.way;exact qL (show ieq _ 0=false by cases q:ieq _ 0 with|false=>rfl|true=>exact absurd (aD q) A)<|qL f rfl
    exact⟨c,b,d,0,0,0,c.ar,by rw[this],g.pf d l A f,.inl ⟨rfl,rfl⟩,m,rfl,k,n⟩
theorem xY (h:s.Ok) (G:yZ w l j t) (f:Pl 53 [.int 0]<|.int 0):
  match gx s.cs l (s.gates.map λc=>(t c.tb).row c) with
  |none=>zg s w=false
  |some p=>zg s w/\OU s w p.1:=by
 haveI g:=BJ s.cs l (s.gates.map λc=>(t c.tb).row c) none;delta gx;cases q:(s.gates.map λc=>(t c.tb).row c).foldl (λb r=>ju b _) none with
 |none=>obtain⟨_,d⟩:=g.2 q;show zg s w=false;delta zg;refine Zj.mpr ?_;intro c H e;haveI:=(uH h G f H).1<|d _<|XC H;exact absurd (this.symm.trans e) Bool.false_ne_true
 |some p=>
  rcases g.1 p q with e|⟨r,i,e⟩;.cases e
  .refine aI (VT i) λc H Q=>?_;subst Q
   obtain⟨b,d⟩:=(uH h G f H).2 p e;exact⟨a1Y.mpr ⟨c,H,b⟩,d⟩
structure MS where
 ref:Nat
 d:Nat
 fo:Nat
 kn:Nat
 fs:List (Int×V)
 ks:List (Int×V)
 rw:Nat
structure MS.At (H:Hp) (l:Nat) (s:aN) (M:MS):Prop where
 ins':ac H M.ref=some (.ins 5 M.d)
 ns':ac H M.d=some (.ns [(99,.ref l),(109,.ref M.fo),(110,.ref M.kn)])
 hf:ac H M.fo=some (.dct<|dK V.int M.fs)
 hk:ac H M.kn=some (.dct<|dK key2 M.ks)
 ne:M.fo≠M.kn
 forms:M.fs=[]\/(M.fs=[(2,.ref M.rw)]/\ac H M.rw=some (.lst<|s.gates.map<|qy<|iP 2))
 full:(M.ks=[]/\M.fs=[])\/M.fs≠[]
 known:∀w v,eQ M.ks w=some v->∃mv cost,v=.tup [mv,.int cost]/\qm s w mv cost
 len:M.ks.length<=900
theorem MS.At.attr {M:MS} (h:M.At H l s) (e:look [(99,V.ref l),(109,.ref M.fo),(110,.ref M.kn)] f=some v) (q:Q v H):W (getAttr (.ref M.ref) f H) Q X:=bJ h.ins' h.ns' e q
theorem MS.At.grow {M:MS} (h:M.At H l s) (g:aJ H j):M.At j l s:=
 ⟨g.get _ _ h.ins',g.get _ _ h.ns',g.get _ _ h.hf,g.get _ _ h.hk,h.ne,h.forms.imp id  λ⟨a,b⟩=>⟨a,g.get _ _ b⟩,h.full,h.known,h.len⟩
theorem Gu (w:WF H)
  (q:∀M e,aJ H e->MS.At e l s M->M.ks=[]->M.fs=[]->ac H M.fo=none->ac H M.kn=none->Q (.ref M.ref) e):
  W (wb 5 61 (bG<|n+1) [.ref l] H) Q X:=by
 refine uc w (λU U=>ax rfl) rfl λd r v b=>cK rfl ?_;repeat (first|walk_at"w"|refine cj ?_)
 refine kF b rfl λx U b=>?_;repeat (first|walk_at"w"|refine cj ?_)
 refine EM<|fy b.g.wf λi h j p c=>?_;walk_at"W";haveI D:=fZ b.n c;replace c:=b.g.old c;refine kF (b.grow j) rfl λy k b=>?_;haveI g:=k.get _ _ D.symm p;repeat (first|walk_at"w"|refine cj ?_)
 refine EM<|fy b.g.wf λo h G u O=>?_;walk_at"W";haveI m:=fZ b.n O;haveI t:=fZ g O;replace O:=b.g.old O;refine kF (b.grow G) rfl λz f b=>?_;walk_at"W";exact⟨rfl,q ⟨r,d,i,o,[],[],0⟩ _ b.g ⟨b.i,b.n,f.get _ _ D.symm<|G.get _ _ g,f.get _ _ m.symm u,t,.inl rfl,.inl ⟨rfl,rfl⟩,λU U h=>(by cases h),VY _⟩ rfl rfl c O⟩
theorem My (b:t∈cT 2):Pl 42 [.int t,.int 2] (.tup [.int (iP 2 t).1,(iP 2 t).2]):=by
 haveI h:∃x∈TS,x.k=2:=⟨_,Xz,rfl⟩
 refine aI h λx h k=>?_;haveI H:=VU (VU SU x h) t<|qL k b;rw[XR,k] at H;exact(Ey H.2).1
theorem Fa {s:aN} (h:s.Ok) (G:yZ w l f t):s.gates.map (qy<|iP 2)=(s.gates.map λc=>(t c.tb).row c).map DY.v:=by refine qL XJ ?_;refine List.map_inj_left.mpr λc H=>?_;haveI e:=(G.cnf c.tb (h.gt c H).2.1).1;haveI b:=(G.cnf c.tb (h.gt c H).2.1).2;show V.tup [.ref c.ref,.int (iP 2 c.tb).1,(iP 2 c.tb).2]=.tup [.ref c.ref,.int (t c.tb).l,(t c.tb).f];exact qL e<|qL b rfl
theorem J7 {M:MS} (h:M.At H l s) (e:eQ M.fs 2=none):M.fs=[]:=by
 rcases h.forms with h|⟨h,_⟩;.exact h
 .rw[h] at e;cases e
theorem bp.growD (r:∀m∈M,∃d,ac H m=some (.dct d)) (L:bp H l q) (g:aH M H j):bp j l q:=by have N:∀x c,ac H x=some c->(∀d,c≠.dct d)->ac j x=some c:=λx c p h=>g.get x c (λu=>by obtain⟨d,D⟩:=r x u;obtain rfl:=W2<|p.symm.trans D;exact h d rfl) p;refine⟨N _ _ L.lst (λU z=>by cases z),λc h=>?_,L.len⟩;exact aI (L.cell c h) λd a b=>bK d (N _ _ a  λU z=>by cases z) (N _ _ b  λU z=>by cases z)
theorem Ig {l:Nat} {M:MS} {t:Int} (w:WF H) (L:bp H l s.cs) (so:s.Ok) (h:M.At H l s) (ht:t∈dq) (hlen:M.ks.length<900) {Q:V->Hp->Prop} {X:V->Hp->Prop}
  (q:∀u O g y,aH [M.fo,M.kn] H y->MS.At y l s g->g.ref=M.ref->g.fo=M.fo->g.kn=M.kn->g.fs≠[]->g.ks.length<=M.ks.length+1->(g.rw=M.rw/\M.fs≠[]\/ac H g.rw=none)->qm s t u O->Q (.tup [u,.int O]) y):W (bG (n+4) 62 [.ref M.ref,.int t,.int 2] H) Q X:=by
 refine bE (ax rfl) rfl (let c:=bG<|n+3;cK (cl:=c) rfl ?_);refine M4 (CG ht) λlw fw td G=>?_;have P0:=tQ.one0;repeat (first|walk_at"w"|refine h.attr rfl ?_)
 refine kH (zH o4 h.hk) (λe=>?_)  λe=>?_
 .--not known yet
  haveI nfL:∀{x:Nat} {lst:List V},ac H x=some (.lst lst)->x∉[M.fo,M.kn]:=λ{x lst} hx hm=>by
   simp only [Z6,Xu,or_false] at hm;rcases hm with rfl|rfl;.exact nomatch (h.hf.symm.trans hx)
   .exact nomatch (h.hk.symm.trans hx)
  have isD:∀m∈[M.fo,M.kn],∃d,ac H m=some (.dct d):=λm hm=>by
   simp only [Z6,Xu,or_false] at hm;rcases hm with rfl|rfl;.exact⟨_,h.hf⟩
   .exact⟨_,h.hk⟩
  have rest:∀(j:MS) (H1:Hp) (f:Sg),aH [M.fo,M.kn] H H1->j.At H1 l s->j.ref=M.ref->j.fo=M.fo->j.kn=M.kn->j.ks=M.ks->j.fs=[(2,.ref j.rw)]->(j.rw=M.rw/\M.fs≠[]\/ac H j.rw=none)->ac H1 j.rw=some (.lst<|s.gates.map<|qy<|iP 2)->
    look f 5=some (.ref M.ref)->look f 38=some (.int t)->look f 4=some (.int 2)->look f 111=some (key2 t)->
    WS (ad [ai (.loc 101)<|ag 60 [aq (al (ab 5) 109)<|ab 4,al (ab 5) 99,ab 38,ab 4],ai (.loc 108)<|eK<|.int 0,br (aw .isnn (ab 101)<|eK<|.non) (ad [ai (.loc 108)<|ag 56 [al (ab 5) 99,ab 101]])<|ad [],bN (al (ab 5) 110) (ab 111)<|bq [ab 101,ab 108]] (bG<|n+3) f H1)
     (λb y=>look b 5=some (.ref M.ref)/\look b 111=some (key2 t)/\∃g,aH [M.fo,M.kn] H y/\MS.At y l s g/\g.ref=M.ref/\g.fo=M.fo/\g.kn=M.kn/\g.fs≠[]/\g.ks.length<=M.ks.length+1/\(g.rw=M.rw/\M.fs≠[]\/ac H g.rw=none)/\∃u O,eQ g.ks t=some (.tup [u,.int O])/\qm s t u O) (λU U=>False) (λU U=>False) (λU U=>False) X:=by
   intro j H1 f G1 i e1 e2 e3 e4 e5 e6 hrw t5 t38 t4 t111;rw[<-e1] at t5;haveI L1:=L.growD isD G1;repeat (first|walk_at"w"|refine i.attr rfl ?_)
   refine az (by simp only [ir jc i.hf,e5];rfl) ?_;repeat (first|walk_at"w"|refine i.attr rfl ?_)
   haveI lg:∀r∈s.gates,r.At H1:=λc J=>L1.cell c<|a1j _ J;refine ul L1 (qL hrw<|qL (Fa so G) rfl) (by simp only [XK];haveI:=so.len;exact Wk ‹_›<|by decide) (λr hr=>?_) (λr hr=>?_) G.cn ?_;.refine aI (VT hr) λc J N=>?_;subst N;exact lg c J
   .refine aI (VT hr) λc J N=>?_;subst N
    exact(G.ok c.tb (so.gt c J).2.1).row c rfl (so.gt c J).1
   haveI D:=xY so G P0;have fin:∀(A:Sg) (u:V) (O:Int),look A 5=some (.ref j.ref)->look A 111=some (key2 t)->look A 101=some u->look A 108=some (.int O)->qm s t u O->
     WS (ad [bN (al (ab 5) 110) (ab 111)<|bq [ab 101,ab 108]] (bG<|n+3) A H1)
     (λb y=>look b 5=some (.ref M.ref)/\look b 111=some (key2 t)/\∃g,aH [M.fo,M.kn] H y/\MS.At y l s g/\g.ref=M.ref/\g.fo=M.fo/\g.kn=M.kn/\g.fs≠[]/\g.ks.length<=M.ks.length+1/\(g.rw=M.rw/\M.fs≠[]\/ac H g.rw=none)/\∃u O,eQ g.ks t=some (.tup [u,.int O])/\qm s t u O) (λU U=>False) (λU U=>False) (λU U=>False) X:=by
    refineλA u O u5 u111 u101 u108 hF=>aE<|cW ?_
    repeat (first|walk_at"w"|refine i.attr rfl ?_)
    refine i8 o4 i.hk (e4▸(Wk ‹_›<|by decide)) ?_;walk_at"W";refine⟨by simp only [<-e1];exact u5,u111,{j with ks:=cP j.ks t _},G1.trans<|.set G1.wf (by simp only [e3];simp) _,⟨?_,?_,?_,aV i.hk,i.ne,?_,.inr (by show j.fs≠[];simp only [e5];exactλz=>by cases z),?_,?_⟩,e1,e2,e3,(by show j.fs≠[];simp only [e5];exactλz=>by cases z),?_,e6,u,O,?_,hF⟩
    .show ac _ j.ref=_
     exact au (λz=>by have:=i.ins';rw[<-z,i.hk] at this;cases this) i.ins'
    .show ac _ j.d=_
     exact au (λz=>by have:=i.ns';rw[<-z,i.hk] at this;cases this) i.ns'
    .show ac _ j.fo=_
     exact au (Xf i.ne) i.hf
    .refine .inr ⟨e5,?_⟩
     exact au (BC i.hk hrw nofun) hrw
    .intro k o Y
     rw[dD] at Y;cases z:ieq t k with
     |true=>rw[z] at Y;cases Y;exact yu u O rfl<|(aD z)▸hF
     |false=>rw[z] at Y;exact i.known k o Y
    .show(cP j.ks t _).length<=900
     have:=iG t (.tup [u,.int O]) j.ks;rw[e4] at this⊢;exact Wk ‹_› ‹_›
    .show(cP j.ks t _).length<=M.ks.length+1
     have:=iG t (.tup [u,.int O]) j.ks;rw[e4] at this⊢;assumption
    .show eQ _ t=_
     simp only [dD,(dc t t).mpr rfl];rfl
   cases z:gx s.cs lw (s.gates.map λc=>(td c.tb).row c) with
   |none=>replace D:=z▸D;refine bf rfl<|aE<|fe<|Jj<|bf rfl ?_;refine aE (lP<|ni<|aO (by walk_at"lk")<|Jj<|i3 rfl<|cH ?_);exact fin _ .non 0 (by walk_at"lk") (by walk_at"lk") (by walk_at"lk") (by walk_at"lk") ⟨a1c _,.inl ⟨D,rfl⟩⟩
   |some p=>rw[z] at D;obtain⟨a1,c,J,d,m,o,om,k,a2,a3,a4,a5,a6,a7,a8⟩:=D;simp only [show pR (some p)=V.tup p.1 from rfl,a2];refine bf rfl<|aE<|fe<|Jj<|bf rfl ?_;refine aE (lP<|ni<|aO (by walk_at"lk")<|Jj<|t7 rfl ?_);refine aE<|fe ?_;refine Hi (lK<|wM<|aO (by walk_at"lk")<|i.attr rfl<|lK<|aO (by walk_at"lk")<|lY ?_);refine l4 L1 (lg c J) a5 a6 ?_;simp only [a7];refine bf rfl<|cH ?_;exact fin _ _ k (by walk_at"lk") (by walk_at"lk") (by walk_at"lk") (by walk_at"lk") ⟨a8,.inr ⟨a1,⟨c,J,d,m,o,rfl,a3,a4⟩⟩⟩
  have fin2:∀(b:Sg) (y:Hp),(look b 5=some (.ref M.ref)/\look b 111=some (key2 t)/\∃g,aH [M.fo,M.kn] H y/\MS.At y l s g/\g.ref=M.ref/\g.fo=M.fo/\g.kn=M.kn/\g.fs≠[]/\g.ks.length<=M.ks.length+1/\(g.rw=M.rw/\M.fs≠[]\/ac H g.rw=none)/\∃u O,eQ g.ks t=some (.tup [u,.int O])/\qm s t u O)->
    WS (ad [ay<|aq (al (ab 5) 110)<|ab 111] (bG<|n+3) b y) (λU H=>Q .non H) (λU H=>Q .non H) (λU H=>Q .non H) Q X:=by
   intro b y hh;obtain⟨t5,t111,g,G',h',e1,e2,e3,e4,e5,e6,u,O,hl,hF⟩:=hh;rw[<-e1] at t5;repeat (first|walk_at"w"|refine h'.attr rfl ?_)
   exact az ((ir o4 h'.hk)▸hl)<|q u O g y G' h' e1 e2 e3 e4 e5 e6 hF
  repeat (first|walk_at"w"|refine h.attr rfl ?_)
  refine kH (zH jc h.hf) (λe2=>?_)  λe2=>?_
  .have ef:=J7 h (by cases z:eQ M.fs 2 with|none=>rfl|some v=>rw[z] at e2;cases e2)
   refine aE<|cW ?_;repeat (first|walk_at"w"|refine h.attr rfl ?_)
   refine wg w L (cn:=iP 2) (λc J p=>?_) λm H1 G1 m0 hm=>?_
   .have:c∈s.gates:=by simp only [<-so.filt];exact a1q.mpr ⟨J,p⟩
    exact My (so.gt c this).2.1
   have i:=h.grow G1;repeat (first|walk_at"w"|refine i.attr rfl ?_)
   refine i8 jc i.hf (by simp only [ef];decide)<|cH ?_;have k:ac H1 m=some (.lst<|s.gates.map<|qy<|iP 2):=by simp only [hm];unfold fI;simp only [so.filt]
   haveI o:M.fo≠m:=λz=>by rw[<-z,i.hf] at k;cases k
   refine WS.on (rest {M with fs:=cP M.fs 2 _,rw:=m} _ _ (G1.m.trans<|.set G1.wf (.head _) _) ⟨?_,?_,aV i.hf,?_,i.ne,.inr ⟨by show cP M.fs 2 _=_;simp only [ef];rfl,?_⟩,.inr (by show cP M.fs 2 _≠[];simp only [ef];exactλz=>by cases z),i.known,i.len⟩ rfl rfl rfl rfl (by show cP M.fs 2 _=_;simp only [ef];rfl) (.inr m0) ?_ (by walk_at"lk") (by walk_at"lk") (by walk_at"lk")<|by walk_at"lk") fin2
   .show ac _ M.ref=_
    exact au (λz=>by haveI:=i.ins';rw[<-z,i.hf] at this;cases this) i.ins'
   .show ac _ M.d=_
    exact au (λz=>by haveI:=i.ns';rw[<-z,i.hf] at this;cases this) i.ns'
   .show ac _ M.kn=_
    exact au i.ne i.hk
   .show ac _ m=_
    exact au o k
   .show ac _ m=_
    exact au o k
  .haveI ef:M.fs=[(2,.ref M.rw)]/\ac H M.rw=some (.lst _):=by
    rcases h.forms with z|z;.rw[z] at e2;cases e2
    .exact z
   obtain⟨ef,hr⟩:=ef;exact cH (WS.on (rest M H _ (.refl w) h rfl rfl rfl rfl ef (.inl ⟨rfl,by simp only [ef];exactλz=>by cases z⟩) hr (by walk_at"lk") (by walk_at"lk") (by walk_at"lk")<|by walk_at"lk") fin2)
 .obtain⟨v,Y⟩:∃v,eQ M.ks t=some v:=by cases z:eQ M.ks t with|none=>rw[z] at e;cases e|some v=>exact⟨v,rfl⟩
  refine oi (h.known t v Y) λu O N hF=>?_;subst N;have e4:=h.full.elim (λz=>by rw[z.1] at Y;cases Y) id;refine cH ?_;repeat (first|walk_at"w"|refine h.attr rfl ?_)
  exact az ((ir o4 h.hk)▸Y)<|q u O M H (.refl w) h rfl rfl rfl e4 (Wp _ _) (.inl ⟨rfl,e4⟩) hF
theorem yt (k:Int):∀l:List Int,Pg k (l.map V.int)=some (l.any λj=>ieq j k):=by
 intro z;induction z with
 |nil=>exact rfl
 |cons x l i=>show Am or (some _) (Pg k _)=_;rw[i];rfl
theorem DV {M:MS} (w:WF H) (o:s.Ok) (h:M.At H l s) (u:t∈dq) (x:M.fs≠[])
  (q:∀d,aJ H d->Q (.bool<|s.gates.any λc=>helpedT c.tb t) d):W (bG (n+2) 63 [.ref M.ref,.int t,.int 2] H) Q X:=by
 refine bE (ax rfl) rfl (let b:=bG<|n+1;cK (cl:=b) rfl ?_);refine M4 (CG u) λL v D G=>?_;haveI f:M.fs=[(2,.ref M.rw)]/\ac H M.rw=some (.lst<|s.gates.map _):=by
  rcases h.forms with z|z;.contradiction
  .exact z
 obtain⟨f,p⟩:=f;generalize M.rw=r at*;walk_at"W";refine G.cn.w ?_;walk_at"W";refine iq ?_;repeat (first|walk_at"w"|refine h.attr rfl ?_)
 refine az (by rw[ir jc h.hf,f];rfl) ?_;haveI y:=o.len;haveI m:(s.gates.flatMap λc=>[V.int (iP 2 c.tb).1])=(s.gates.map λc=>(iP 2 c.tb).1).map V.int:=by
  generalize s.gates=g;induction g with
  |nil=>rfl
  |cons c g i=>rw[a1m,i];rfl
 refine nV rfl p rfl (Wk ‹_›<|by decide) m (by rw[XK,XK];exact Wk ‹_›<|by decide) (λc U=>⟨[(69,qy (iP 2) c)],rfl,?_⟩) ?_
 .refine ci ?_
  walk_at"W";exact az rfl ⟨rfl,rfl⟩
 .haveI e:gU .inn (.int L) (.ref _) ((ak H,.lst<|(s.gates.map λc=>(iP 2 c.tb).1).map V.int)::H)=some (s.gates.any λc=>helpedT c.tb t):=by
   show Ja _ _ _=_;refine qL (CM<|bA H _) ?_;show Pg L _=_;rw[yt,List.any_map];refine Wh some ?_;haveI A:∀g:List Ce,(∀c∈g,c.tb∈cT 2)->g.any ((λj=>ieq j L)∘λc=>(iP 2 c.tb).1)=g.any λc=>helpedT c.tb t:=by
    intro g k;induction g with
    |nil=>rfl
    |cons c g i=>simp only [Xv,Xv,i λc b=>k c<|Xw _ b];haveI b:=k c Xz;haveI:=G.hq c.tb b;rw[(G.cnf c.tb b).1] at this;show(ieq (iP 2 c.tb).1 L||_)=_;exact qL this rfl
   exact A _ λc b=>(o.gt c b).2.1
  exact i6 e<|q _<|ba w _
theorem sO {b:Type}:∀(l:List b) (i:Nat) (a:b),setNth l i a=l.set i a
 |[],_,_=>rfl
 |_::_,0,_=>rfl
 |x::l,i+1,a=>by show x::setNth l i a=x::l.set i a;simp only [sO l i a]
theorem xH (h:ac H n=some (.lst l)) (b:i<l.length) (q:Q ()<|bj H n<|.lst<|l.set i v):W (setItem (.ref n) (.int<|.ofNat i) v H) Q X:=by show W (ro 33 _ λc=>ro 32 (zJ c (.int _) v) λd=>.ok () _) Q X;refine qL h ?_;show W (ro 32 ((idx _ l.length).map λk=>aB.lst _) λd=>.ok () _) Q X;refine qL (CL b) ?_;show Q ()<|bj H n<|.lst _;rw[sO];exact q
theorem wz (h:ac H n=some (.lst [x])) (hN:N<4096) (q:Q (.ref<|ak H)<|(ak H,.lst<|List.replicate N x)::H):W (ym .mul (.ref n) (.int<|.ofNat N) H) Q X:=by show W (ro 7 (im H _) λl=>xM .mul l (.int _) H) Q X;refine qL (kZ h) ?_;show W (cond (Nat.blt N 4096&&true) (fU _ H)<|.no 6) Q X;refine qL ((a0T).mpr hN) ?_;exact zp (qL a1v<|Xk hN<|by decide) q
theorem ze {c:Type} {f:c->V} {l:List c} (I:Nat->Sg->Hp->Prop) (u:l.length<=4000)
  (h0:I 0 d H) (k:∀d H,I l.length d H->N d H)
  (m:∀i (o:i<l.length) d H,I i d H->wL t (f l[i]) b L d H (I<|i+1) N (I<|i+1) T X):
  WS (jB t b (.tup<|l.map f) L cS 0 d H) N B s T X:=by
 refine oQ (λi d H=>i<=l.length/\I i d H) (λi U U h=>by haveI:=h.1;exact Wk ‹_› ‹_›) (λi d H h=>?_) cS 0 d H ⟨VY _,h0⟩ (by decide);obtain⟨o,h⟩:=h;show match some (nth (l.map f) i) with|none=>False|some none=>N d H|some (some x)=>_
 rw[mS,a0c];by_cases q:i<l.length
 .refine(a00 q)▸?_
  refine aI (m i q d H h) λg e n=>bK g e<|W.imp n λr H h=>?_;obtain⟨j,p⟩:=r;cases j<;>first|exact⟨q,h⟩|exact h
 .obtain rfl:i=l.length:=by lia
  exact(a0d<|XA _)▸(k d H h)
theorem DA {c:Type} {f:c->V} {l:List c} (I:Nat->Sg->Hp->Prop) (j:l.length<=4000)
  (h0:I 0 d H) (e:∀d H,I l.length d H->N d H)
  (g:∀i x,i<l.length->l[i]?=some x->x∈l->l.take (i+1)=l.take i++[x]->∀d H,I i d H->wL t (f x) b L d H (I<|i+1) N (I<|i+1) T X):
  WS (jB t b (.tup<|l.map f) L cS 0 d H) N B k T X:=ze I j h0 e λi h=>g i _ h (a00 h) (a03 h) (a04 h)
theorem nn (q:Q (.int<|.ofNat l.length) H):W (cM .len [.tup l] H) Q X:=W.eq  rfl  q
def NB (p:eF×Nat×List Nat×Nat):Bool:=Gy p.2.2.1 λa b=>Nat.blt a p.2.1&&Nat.blt b p.2.1&&Nat.blt p.2.1 p.1.aig.ns.length&&dq.any λw=>ieq w<|.ofNat p.2.2.2
theorem HI:tm.all NB:=by decide+kernel
theorem Gv:bw.all (λc=>Nat.blt c.aig.ns.length 20&&Nat.blt c.ks.length 3):=rfl
structure Pp (c:eF) (i:Nat) (lv:List Nat) (t:Nat):Prop where
 mem:(c,i,lv,t)∈tm
 lv:∃a b,lv=[a,b]/\a<i/\b<i
 w:(.ofNat t:Int)∈dq
theorem x8 (d:c∈bw) (f:c.aig.ns[i]?=some o) (Q:q∈cy o):Pp c i q.1 q.2:=by
 have m:(c,i,q.1,q.2)∈tm:=by delta tm;rw[a1s];refine bK c d ?_;rw[a1s];exact bK (o,i) (List.mem_zipIdx_iff_getElem?.mpr f)<|List.mem_map.mpr ⟨q,Q,rfl⟩
 haveI h:=VU HI _ m;refine Di h λa b e h=>?_;haveI h:=VP h;haveI H:=VP (VP h.1).1;exact aI (a1Y.mp h.2) λw g z=>⟨m,⟨a,b,e,(a0T).mp H.1,(a0T).mp H.2⟩,aD z▸g⟩
theorem oZ (h:c∈bw):c.aig.ns.length<20/\c.ks.length<3:=by haveI:=VU Gv c h;simp only [XR] at this;exact⟨(a0T).mp this.1,(a0T).mp this.2⟩
theorem oj:∀(l:iQ) (j i:Nat),(fT l j)[i]?=(l[i]?).map (xx<|j+i)
 |[],_,_=>rfl
 |o::l,j,0=>rfl
 |o::l,j,i+1=>by show(fT l<|j+1)[i]?=_;simp only [oj l (j+1) i,show j+1+i=j+(i+1) by exact WY _ _ _];simp
theorem DM (L:List Nat):∀(l:iQ) (i:Nat),(zo L l i).length=l.length:=by
 intro z;induction z with
 |nil=>exactλU=>rfl
 |cons _ l h=>intro i;show(zo L l<|i+1).length+1=l.length+1;rw[h]
theorem K6 (q:∀m:Nat,1<=m->Q (.int<|.ofNat m) H):W (cM .max [.int 1,.int<|.ofNat n] H) Q X:=by
 haveI e:cM .max [.int 1,.int<|.ofNat n] H=.ok (.int<|cond (iH 1 _) _ 1) H:=rfl;refine W.eq e ?_;cases z:iH 1 _ with
 |true=>haveI z:Nat.blt 1 n=true:=z;simp only [a0T] at z;exact q n<|WO ‹_›
 |false=>exact q 1<|XA 1
theorem Ed {a:AG} (h:a.At H A) (b:A.ns[i]?=some o) (q:Q (.bool o.isSome) H):W (bG (n+1) 19 [.ref a.ref,.int<|.ofNat i] H) Q X:=by
 refine bE (ax rfl) rfl (let c:=bG n;cK rfl ?_);repeat (first|walk_at"w"|refine bJ h.ins' h.ns' rfl ?_)
 refine az (aQ h.hn<|by simp only [a0c,b];rfl) ?_;walk_at"W";induction o with
 |none=>exact i6 rfl q
 |some p=>exact i6 rfl q
noncomputable def oP:List Nat:=[110,111,95,99,101,108,108]
noncomputable def fH:List Nat:=[110,111,95,105,110,118,101,114,116,101,114]
def pU (s:aN) (t:Int):Bool:=s.gates.any λc=>helpedT c.tb t
def oa (s:aN) (Q:List<|List Nat×Nat):List Nat:=match Q.any (λq=>pU s<|.ofNat q.2) with|true=>fH|false=>oP
noncomputable def Mz (s:aN) (o:Option<|Nat×Nat) (v:V):Prop:=match o with
 |none=>v=.non
 |some p=>∃q∈cy (some p),∃m,v=.tup [.tup<|bl q.1,.int<|.ofNat q.2,m]/\zg s (.ofNat q.2)=true/\tH s (.ofNat q.2) m
structure pv (s:aN) (ns:iQ) (ch:List V):Prop where
 len:ch.length=ns.length
 at':∀(i:Nat) o,ns[i]?=some o->∃v,ch[i]?=some v/\Mz s o v
structure JB (s:aN) (ns:iQ) (n:Nat) (ch:List V):Prop where
 len:ch.length=ns.length
 lo:∀(i:Nat) o,i<n->ns[i]?=some o->∃v,ch[i]?=some v/\Mz s o v
 hi:∀i,n<=i->i<ns.length->ch[i]?=some .non
noncomputable def JG (s:aN) (n:iQ) (k:List Nat):Prop:=∃(i:Nat) (p:Nat×Nat),n[i]?=some (some p)/\(∀q∈cy (some p),zg s (.ofNat q.2)=false)/\k=oa s (cy<|some p)
structure CI (Hb:Hp) (l:Nat) (s:aN) (ns:iQ) (M0:MS) (cR fR k:Nat) (M:MS) (ch:List V) (fl:List Int) (H:Hp):Prop where
 g:aJ Hb H
 m:M.At H l s
 mr:M.ref=M0.ref
 mf:M.fo=M0.fo
 mn:M.kn=M0.kn
 hc:ac H cR=some (.lst ch)
 hf:ac H fR=some (.lst<|bD fl)
 flen:fl.length=ns.length
 fpos:∀x∈fl,0<=x
 len:M.ks.length<=k
 rw':M.fs≠[]->M.rw≠cR/\M.rw≠fR
noncomputable def Vm (a m u c f t:Nat):Sg:=[(61,.ref a),(113,.ref m),(91,.ref u),(114,.ref c),(115,.ref f),(53,.ref t)]
theorem Ez (o:Option<|Nat×Nat):(cy o).length<=2:=by
 induction o with
 |none=>exact VY _
 |some p=>show(match Nat.blt _ 3 with|true=>_|false=>_:List _).length<=2;cases Nat.blt _ 3<;>simp
theorem Ay (s:aN) (Q:List<|List Nat×Nat) (q:List Nat×Nat):oa s (Q++[q])=match pU s (.ofNat q.2) with|true=>fH|false=>oa s Q:=by
 delta oa;simp;cases pU s _ with
 |true=>simp only [Z2]
 |false=>simp only [a1o]
theorem CI.move (h:CI p l s N q r x k M u L H) (g:aJ H j):CI p l s N q r x k M u L j:=
 ⟨h.g.trans g,h.m.grow g,h.mr,h.mf,h.mn,g.get _ _ h.hc,g.get _ _ h.hf,h.flen,h.fpos,h.len,h.rw'⟩
theorem CI.le (h:CI j l s N p r u k M q L H) (x:k<=y):CI j l s N p r u y M q L H:=
 ⟨h.g,h.m,h.mr,h.mf,h.mn,h.hc,h.hf,h.flen,h.fpos,Wk h.len x,h.rw'⟩
theorem CI.setC (h:CI q l s O A r u k M Q L H) (G:ac q r=none) (J:r≠u) (j:List V):
  CI q l s O A r u k M j L (bj H r<|.lst j):=by
 haveI N:∀x c,ac H x=some c->(∀d,c≠.lst d)->ac (bj H r<|.lst j) x=some c:=λx c p D=>by exact au (cq h.hc p<|D _) p
 refine⟨⟨λx c p=>?_,de h.g.wf _ _⟩,⟨N _ _ h.m.ins' (λU z=>by cases z),N _ _ h.m.ns' (λU z=>by cases z),N _ _ h.m.hf (λU z=>by cases z),N _ _ h.m.hk (λU z=>by cases z),h.m.ne,?_,h.m.full,h.m.known,h.m.len⟩,h.mr,h.mf,h.mn,aV h.hc,?_,h.flen,h.fpos,h.len,h.rw'⟩;.exact au (iw G p)<|h.g.get x c p
 .rcases h.m.forms with z|⟨z,y⟩
  .exact .inl z
  .refine .inr ⟨z,?_⟩
   exact au (Xf (h.rw'<|z▸(λt=>by cases t)).1) y
 .exact au J h.hf
theorem CI.setF (h:CI p l s u A q r k M D Y H) (O:ac p r=none) (Q:q≠r) (L:List Int) (e:L.length=u.length) (G:∀x∈L,0<=x):
  CI p l s u A q r k M D L (bj H r<|.lst<|bD L):=by
 haveI N:∀x c,ac H x=some c->(∀d,c≠.lst d)->ac (bj H r<|.lst<|bD L) x=some c:=λx c j J=>by exact au (cq h.hf j<|J _) j
 refine⟨⟨λx c j=>?_,de h.g.wf _ _⟩,⟨N _ _ h.m.ins' (λU z=>by cases z),N _ _ h.m.ns' (λU z=>by cases z),N _ _ h.m.hf (λU z=>by cases z),N _ _ h.m.hk (λU z=>by cases z),h.m.ne,?_,h.m.full,h.m.known,h.m.len⟩,h.mr,h.mf,h.mn,?_,aV h.hf,e,G,h.len,h.rw'⟩;.exact au (iw O j)<|h.g.get x c j
 .rcases h.m.forms with z|⟨z,y⟩
  .exact .inl z
  .refine .inr ⟨z,?_⟩
   exact au (Xf (h.rw'<|z▸(λt=>by cases t)).2) y
 .exact au (Xf Q) h.hc
theorem CI.found (h:CI q l s ns r J fR k M L fl H) (D:ac q r.fo=none) (G:ac q r.kn=none)
  (g:aH [M.fo,M.kn] H u) (m:j.At u l s) (O:j.ref=M.ref) (Q:j.fo=M.fo) (Y:j.kn=M.kn) (e5:j.ks.length<=M.ks.length+1) (e6:j.rw=M.rw/\M.fs≠[]\/ac H j.rw=none):
  CI q l s ns r J fR (k+1) j L fl u:=by
 haveI N:∀{x:Nat} {d:List V},ac H x=some (.lst d)->x∉[M.fo,M.kn]:=λ{x d} p A=>by
  simp only [Z6,Xu,or_false] at A;rcases A with rfl|rfl;.exact nomatch (h.m.hf.symm.trans p)
  .exact nomatch (h.m.hk.symm.trans p)
 refine⟨aH.fresh h.g (λx p=>?_) g,m,O.trans h.mr,Q.trans h.mf,Y.trans h.mn,g.get _ _ (N h.hc) h.hc,g.get _ _ (N h.hf) h.hf,h.flen,h.fpos,Wk ‹_›<|XE h.len,λU=>?_⟩
 .simp only [Z6,Xu,or_false] at p
  rcases p with rfl|rfl;.exact h.mf▸D
  .exact h.mn▸G
 .rcases e6 with⟨z,y⟩|z
  .exact z▸(h.rw' y)
  .exact⟨λt=>(by rw[t,h.hc] at z;cases z),λt=>by rw[t,h.hf] at z;cases z⟩
theorem ET {M:MS} (e:M.ref=r) (w:WF H) (L:bp H l s.cs) (o:s.Ok) (h:M.At H l s) (f:t∈dq) (b:M.ks.length<900)
  (q:∀v c m d,aH [M.fo,M.kn] H d->MS.At d l s m->m.ref=M.ref->m.fo=M.fo->m.kn=M.kn->m.fs≠[]->m.ks.length<=M.ks.length+1->(m.rw=M.rw/\M.fs≠[]\/ac H m.rw=none)->qm s t v c->Q (.tup [v,.int c]) d):W (bG (n+4) 62 [.ref r,.int t,.int 2] H) Q X:=by
 subst e;exact Ig w L o h f b q
theorem BE {M:MS} (e:M.ref=r) (w:WF H) (o:s.Ok) (h:M.At H l s) (d:t∈dq) (f:M.fs≠[])
  (q:∀b,aJ H b->Q (.bool<|s.gates.any λc=>helpedT c.tb t) b):W (bG (n+2) 63 [.ref r,.int t,.int 2] H) Q X:=by
 subst e;exact DV w o h d f q
theorem dz {b:Type} (l:List b) (i j:Nat) (v:b) (h:i<l.length):(l.set i v)[j]?=if i=j then some v else l[j]?:=by
 refine qL  a0S  ?_;by_cases q:i=j;.subst q;rw[Xb h,Xb rfl]
 .exact qL (Xd q)<|qL (Xd q) rfl
theorem JB.step' (L:h.length=N.length) (lo:∀(j:Nat) o,j<i->N[j]?=some o->∃v,h[j]?=some v/\Mz s o v) (p:∀j,i+1<=j->j<N.length->h[j]?=some .non) (r:N[i]?=some o) (u:∃v,h[i]?=some v/\Mz s o v):JB s N (i+1) h:=
 ⟨L,λj x J O=>by
  rcases WJ j i with q|q;.exact lo j x q O
  .obtain rfl:=a02 (V9 ‹_›) ‹_›
   obtain rfl:=W2<|r.symm.trans O;exact u,p⟩
theorem JB.step (h:JB s N i p) (r:N[i]?=some o) (u:∃v,p[i]?=some v/\Mz s o v):JB s N (i+1) p:=
 ⟨h.len,λj x J O=>by
  rcases WJ j i with q|q;.exact h.lo j x q O
  .obtain rfl:j=i:=Nat.eq_of_le_of_lt_succ q J
   obtain rfl:=W2<|r.symm.trans O;exact u,λj J=>h.hi j<|WO ‹_›⟩
structure PX (s:aN) (ns:iQ) (i:Nat) (ch:List V):Prop where
 len:ch.length=ns.length
 lo:∀(j:Nat) o,j<i->ns[j]?=some o->∃v,ch[j]?=some v/\Mz s o v
 hi:∀j,i+1<=j->j<ns.length->ch[j]?=some .non
theorem PX.set (h:PX s N i p) (r:i<N.length) (v:V):PX s N i (p.set i v):=by
 have q:i<p.length:=by exact h.len▸r
 refine⟨by rw[XU];exact h.len,λj o J O=>?_,λj J L=>?_⟩;.rw[dz _ _ _ _ q,Xd<|Za ‹_›];exact h.lo j o J O
 .rw[dz _ _ _ _ q,Xd<|Xe ‹_›];exact h.hi j J L
noncomputable def QJ (s:aN) (Q:List<|List Nat×Nat) (o:Option<|Nat×Nat) (x:Option V) (b:Int) (l:List Nat):Prop:=
 (b=-1/\x=some .non/\(∀q∈Q,zg s (.ofNat q.2)=false)/\l=oa s Q)\/(0<=b/\∃v,x=some v/\Mz s o v)
theorem J2 (a b i:Nat):gU .eq (.tup<|bl [a,b]) (.tup [.int<|.ofNat i]) H=some false:=by show some ((true&&ieq _ _)&&false)=_;rw[Yp]
theorem Ma (i:Nat):gU .eq (.tup<|bl [i]) (.tup [.int<|.ofNat i]) H=some true:=by show some ((true&&ieq _ _)&&true)=_;rw[(dc _ _).mpr rfl];rfl
theorem HR (h:tH s w v):gU .isn v .non H=some false:=by obtain⟨c,_,d,m,o,rfl,_⟩:=h;rfl
theorem BD {P:Prop} (h:((cy o).map (·.1)++[[i]])[j]?=some x) (H:∀l t,x=l->(l,t)∈cy o->(cy o).take (j+1)=(cy o).take j++[(l,t)]->P) (b:j=(cy o).length->x=[i]->P):P:=by
 rcases WJ j (cy o).length with q|q
 .rw[a1w<|by rw[XK];exact q,a0c,a00 q] at h
  exact H _ _ (W2 h).symm (a03 q)<|a04 q
 .rw[a1x<|by rw[XK];exact q,XK] at h
  cases z:j-(cy o).length with
  |zero=>rw[z] at h;exact b (a02 (a1y z)<|by assumption) (W2 h).symm
  |succ k=>rw[z] at h;cases h
set_option maxHeartbeats 4000000 in
theorem Bb {a:AG} (w:WF H) (hc:c∈bw) (ha:a.At H c.aig) (L:bp H l s.cs) (so:s.Ok)
  (q:∀m y v,aJ H v->ac H m=none->ac v m=some (.lst y)->pv s c.aig.ns y->Q (.ref m) v)
  (qx:∀kd v,aJ H v->JG s c.aig.ns kd->X (.tup [.int<|.ofNat 1,.str kd,.int (-1),.str []]) v):W (bG (n+6) 64 [.ref a.ref,.ref l,.int 2,.int 4] H) Q X:=by
 obtain⟨N,_⟩:=oZ hc;refine bE (ax rfl) rfl (let b:=bG<|n+5;cK (cl:=b) rfl ?_);walk_at"W";refine aF<|aO rfl<|fF ha.ins' ha.ns' rfl rfl<|lY ?_;refine IO w hc ha λct H1 G1 ct0 hct=>?_;haveI ha1:=ha.grow G1;walk_at"W";refine Im G1.wf hc ha1 λcu rr Hb G2 cu0 hcu hrr=>?_;have Gb:=G1.trans G2;haveI hctb:=G2.get _ _ hct;have hab:=ha1.grow G2;walk_at"W";refine mc ?_;walk_at"W";refine Gu (s:=s) G2.wf λM0 H3 G3 hM mks ks0 mf0 mk0=>?_;walk_at"W";refine bg G3.wf rfl λx4 H4 G4 t4 U=>?_;have ha4:=hab.grow<|G3.trans G4;repeat (first|walk_at"w"|refine bJ ha4.ins' ha4.ns' rfl ?_)
 refine jj ha4.hn ?_;refine wz t4 (Wk ‹_›<|by decide)<|fy G4.wf λcR H5 G5 hcR cR4=>?_;walk_at"W";refine bg G5.wf rfl λx6 H6 G6 t6 U=>?_;have ha6:=ha4.grow<|G5.trans G6;repeat (first|walk_at"w"|refine bJ ha6.ins' ha6.ns' rfl ?_)
 refine jj ha6.hn ?_;refine wz t6 (Wk ‹_›<|by decide)<|fy G6.wf λfR H7 G7 hfR fR6=>?_;haveI ha7:=ha6.grow G7;repeat (first|walk_at"w"|refine bJ ha7.ins' ha7.ns' rfl ?_)
 refine jj ha7.hn ?_;refine bW (Wk ‹_›<|by decide) ?_;haveI nOld:∀{K K':Hp} {m:Nat},aJ K K'->ac K' m=none->ac K m=none:=λ{K K' m} g h=>g.old h;have cRb:=nOld (G3.trans G4) cR4;haveI fRb:=nOld (G3.trans<|G4.trans<|G5.trans G6) fR6;have hcR6:=G6.get _ _ hcR;have cf:cR≠fR:=λe=>by rw[e,fR6] at hcR6;cases hcR6
 haveI hrl:bD (List.replicate c.aig.ns.length 0)=List.replicate c.aig.ns.length _:=by unfold bD;rw[a1z]
 haveI C0:CI Hb l s c.aig.ns M0 cR fR 0 M0 _ _ H7:=
  ⟨G3.trans<|G4.trans<|G5.trans<|G6.trans G7,hM.grow<|G4.trans<|G5.trans<|G6.trans G7,rfl,rfl,rfl,G7.get _ _ hcR6,by rw[hrl];exact hfR,a1v,λx hx=>by rw[List.eq_of_mem_replicate hx];exact a1c _,by rw[mks];exact XA _,λz=>(z ks0).elim⟩
 haveI P0:JB s c.aig.ns 0 _:=⟨a1v,λj o hj=>((W4 _) ‹_›).elim,λj U hj=>by rw[List.getElem?_replicate,Xb hj]⟩
 let K0:Sg:=Vm a.ref M0.ref cu cR fR ct;let CC:=CI Hb l s c.aig.ns M0 cR fR;let I1:Nat->Sg->Hp->Prop:=λi d v=>∃M y J,CC (3*i) M y J v/\iz d  K0 /\JB s c.aig.ns i y;refine eA (I:=I1) (WO<|WR ‹_›<|by decide)
  ⟨M0,_,_,C0,.cons (by walk_at"lk")<|.cons (by walk_at"lk")<|.cons (by walk_at"lk")<|.cons (by walk_at"lk")<|.cons (by walk_at"lk")<|.cons (by walk_at"lk") .nil,P0⟩ (λd v h=>?_) λi hi d v h=>?_
 .refine IT h λM y J C K P=>?_
  walk_at"W";exact q cR y v (Gb.trans C.g) (nOld Gb cRb) C.hc ⟨P.len,λi o Y=>P.lo i o (by
   rcases WJ i c.aig.ns.length with h|h;.exact h
   .rw[a0d h] at Y;cases Y) Y⟩
 obtain⟨M,y,J,C,K,P⟩:=h;obtain⟨o,Y⟩:∃o,c.aig.ns[i]?=some o:=⟨_,a00 hi⟩
 haveI haI:=hab.grow C.g;walk_at"W";refine aF (aO (by walk_at"lk")<|fF haI.ins' haI.ns' rfl rfl ?_);walk_at"W";refine Ed haI Y ?_;induction o with
 |none=>refine nZ rfl ?_;walk_at"W";exact⟨M,y,J,C.le<|Wp _ _,by walk_at"ls",P.step Y ⟨.non,P.hi i (XA _) hi,rfl⟩⟩
 |some p=>
  refine kY rfl ?_;walk_at"W";refine vD<|Jj<|qv<|bf rfl ?_;walk_at"W";haveI i0:Nat.beq i 0=false:=by
   cases z:Nat.beq i 0 with
   |false=>rfl
   |true=>haveI:=W3 z;subst this;obtain⟨t,ht⟩:=yH hc;rw[ht] at Y;cases Y
  haveI hrow:∃r,rr[i]?=some r/\ac Hb r=some (.lst<|((cy _).map (·.1)++[[i]]).map λc=>V.tup _):=by
   have O:(rr.map<|ac Hb)[i]?=((fT c.aig.ns 0).map λr=>some<|CE r)[i]?:=by rw[hrr]
   rw[a0c,a0c,oj,Y] at O;cases z:rr[i]? with
   |none=>rw[z] at O;cases O
   |some r=>rw[z] at O;refine⟨r,rfl,?_⟩;haveI O:=W2 O;rw[O,a0I];delta xx;rw[i0];rfl
  refine aI hrow λrw_ er hrw=>?_;refine az (aQ (C.g.get _ _ hcu)<|by rw[a0c,er];rfl) ?_;haveI ol:=Ez<|some p;have rl:((cy<|some p).map (·.1)++[[i]]).length=(cy<|some p).length+1:=by rw[Yb,XK];rfl
  let K1:Sg:=(39,.int<|.ofNat i)::K0;let I2:Nat->Sg->Hp->Prop:=λj d v=>∃M y J k u,CC (3*i+j) M y J v/\iz d K1/\look d 105=some (.int k)/\look d 117=some (.str u)/\
    PX s c.aig.ns i y/\QJ s ((cy<|some p).take j) (some p) y[i]? k u
  refine iS (l:=(cy<|some p).map (·.1)++[[i]]) (I:=I2) (Wk (WX rl)<|Wk (XE ol)<|by decide)
   ⟨M,y,J,-1,oP,C.le<|XA _,.cons (by walk_at"lk")<|by walk_at"ls",by walk_at"lk",by walk_at"lk",⟨P.len,P.lo,λj hj=>P.hi j<|WO ‹_›⟩,.inl ⟨rfl,P.hi i (XA _) hi,λq b=>(by cases b),rfl⟩⟩
   (λj d v h=>by obtain⟨M,y,J,k,u,C,_⟩:=h;exact C.g.get _ _ hrw) (λd v h=>?_) λj x hj hx U U d v h=>?_
  .obtain⟨M,y,J,k,u,C,K,k105,k117,P,B⟩:=h
   rw[rl,a0w<|Wp _ _] at B;walk_at"W";rcases B with⟨rfl,b2,b3,b4⟩|⟨b1,b2⟩
   .refine t7 rfl ?_
    walk_at"W";refine pP ?_;walk_at"W";exact qx _ _ (Gb.trans C.g) ⟨i,p,Y,b3,b4⟩
   .refine i3 (show some _=some false by
     cases z:iH k 0 with
     |false=>rfl
     |true=>haveI:=(w9 _ _).mp z;lia) ?_
    walk_at"W";have D:i<c.aig.uses.length:=by unfold pq.uses;rw[DM];exact hi
    obtain⟨m,A,hm⟩:∃m,1<=m/\True:=⟨1,XA 1,trivial⟩
    refine cW ?_;walk_at"W";refine az (aQ (C.g.get _ _ hctb)<|by unfold bl;rw[a0c,a00 D];rfl) ?_;refine lY<|K6 λm hm=>?_;refine gh (show qc Int.fdiv k _=some (Int.fdiv k<|.ofNat m) from ?_) ?_
    .delta qc
     rw[show ieq _ 0=false by
      cases z:ieq _ 0 with
      |false=>rfl
      |true=>haveI:=aD z;haveI:(m:Int)=0:=this;lia];rfl
    haveI b:=Int.fdiv_nonneg b1<|WH m;walk_at"W";refine xH C.hf (by unfold bD;rw[XK,C.flen];exact hi) ?_;haveI t:(bD J).set i (.int<|Int.fdiv k<|.ofNat m)=bD (J.set i<|Int.fdiv k _):=by unfold bD;rw[a1A]
    refine qL t ?_;walk_at"W";refine⟨M,y,_,(C.le<|Wo (Wk (WX rl)<|XE ol) _).setF fRb cf _ (qL XU C.flen)  λx hx=>?_,by walk_at"ls",?_⟩
    .rcases List.mem_or_eq_of_mem_set hx with h|h
     .exact C.fpos x h
     .exact h▸b
    .exact JB.step' P.len P.lo P.hi Y b2
  .obtain⟨M,y,J,k,u,C,K,k105,k117,P,B⟩:=h
   haveI haJ:=hab.grow C.g;refine BD hx (λb t ex hqm htk=>?_) λej ex=>?_
   .subst ex
    have OA:=x8 hc Y hqm;refine du OA.lv λA B' elv lA lB=>?_;dsimp only at elv OA;subst elv;walk_at"W";refine i3 (J2 A B' i) ?_;walk_at"W";refine Iy hc haJ OA.mem ?_;walk_at"W";refine nn ?_;walk_at"W";refine Mh C.g.wf OA.w λm Hs Gs m0 hm=>?_;haveI Cs:=C.move Gs;walk_at"W";refine mq (wa<|by walk_at"lk") (aO (by walk_at"lk") ⟨rfl,?_⟩);refine nP (by decide) (dE hm) rfl<|ci ?_;walk_at"W";refine az  rfl  ?_;refine nP (by decide) (dE hm) rfl<|ci ?_;walk_at"W";refine az  rfl  ?_;refine sa (by decide) (dE hm) ⟨rfl,?_⟩;haveI Gt:=ba Gs.wf<|.lst [V.int<|.ofNat A,.int<|.ofNat B'];haveI ht:=bA Hs<|.lst [V.int<|.ofNat A,.int<|.ofNat B'];haveI Ct:=Cs.move Gt;refine lY<|tL ht rfl ?_;walk_at"W";refine nn ?_;walk_at"W";haveI LL:=L.grow<|Gb.trans Ct.g;haveI mI:=Ct.m.ins';rw[Ct.mr] at mI;refine aF (aO (by walk_at"lk")<|fF mI Ct.m.ns' rfl rfl ?_);walk_at"W";refine nn ?_;walk_at"W";refine ET Ct.mr Ct.g.wf LL so Ct.m OA.w (fQ (Wk Ct.len<|WT (a0L 3<|WO<|Xk hi ‹_›)<|WO<|WR hj<|Wk (WX rl)<|XE ol)<|by decide) λmv cost M' H2 G' h' O e2 e3 e4 e5 e6 hF=>?_;have N:=Ct.found mf0 mk0 G' h' O e2 e3 e5 e6;haveI c0:=hF.1;haveI hF:=hF.2;haveI ec:=N.mr;walk_at"W";rcases hF with⟨f1,rfl⟩|⟨f1,f2⟩
    .--no match
     refine t7 rfl ?_;walk_at"W";haveI mI2:=N.m.ins';rw[ec] at mI2;refine aF (aO (by walk_at"lk")<|fF mI2 N.m.ns' rfl rfl ?_);walk_at"W";refine nn ?_;walk_at"W";refine BE ec N.g.wf so N.m OA.w e4 λH5 G5'=>?_;haveI C5:=N.move G5';have done:∀(D:Sg) (G:List Nat),iz D K1->look D 105=some (.int k)->look D 117=some (.str G)->(G=match pU s (.ofNat t) with|true=>fH|false=>u)->I2 (j+1) D H5:=by
      intro D G K1 K3 K4 hl;refine⟨M',y,J,k,G,C5.le<|XA _,K1,K3,K4,P,?_⟩;refine qL htk ?_;rcases B with⟨b1,b2,b3,b4⟩|b
      .refine .inl ⟨b1,b2,λq' hq'=>?_,?_⟩
       .rcases a0P.mp hq' with h|h
        .exact b3 q' h
        .rw[a0o] at h;subst h;exact f1
       .rw[Ay,hl,b4]<;>rfl
      .exact .inr b
     refine mD rfl (λe=>?_)  λe=>?_
     .walk_at"W"
      exact done _ fH (by walk_at"ls") (by walk_at"lk") (by walk_at"lk")<|qL (show pU s _=true from e) rfl
     .walk_at"W"
      exact done _ u (by walk_at"ls") (by walk_at"lk") (by walk_at"lk")<|qL (show pU s _=false from e) rfl
    .refine i3 (HR f2) ?_
     walk_at"W";let I3:Nat->Sg->Hp->Prop:=λU D v=>v=H2/\iz D ((105,.int k)::(117,.str u)::(118,.tup<|bl [A,B'])::(38,.int<|.ofNat t)::(101,mv)::K1)/\∃tt,0<=tt/\look D 121=some (.int tt);refine ze (f:=λx:Nat=>V.int _) (l:=[A,B']) (I:=I3) (show 2<=4000 by decide)
      ⟨rfl,.cons (by walk_at"lk")<|.cons (by walk_at"lk")<|.cons (by walk_at"lk")<|.cons (by walk_at"lk")<|.cons (by walk_at"lk")<|by walk_at"ls",60*cost,a1u (by decide)<|by assumption,by walk_at"lk"⟩ (λD v h=>?_) λj' G D v h=>?_
     .obtain⟨rfl,K2,tt,t0,k121⟩:=h
      have k105:=K2.get (x:=105) rfl;haveI k117:=K2.get (x:=117) rfl;refine aE<|lP<|WC.share (H:=v) ?_ λT' hT=>?_
      .refine aE (fe<|aO (by walk_at"lk")<|bf rfl ?_)
       refine aE<|cW ?_;walk_at"W";refine xH N.hc (P.len▸hi) ?_;walk_at"W";haveI K3:=((((K2.tail rfl).tail rfl).tail rfl).tail rfl).tail rfl;refine⟨M',_,J,tt,u,(N.setC cRb cf _).le<|XA _,by walk_at"ls",by walk_at"lk",by walk_at"lk",P.set hi _,.inr ⟨t0,_,by rw[dz _ _ _ _<|P.len▸hi,Xb rfl],⟨[A,B'],t⟩,hqm,mv,rfl,f1,f2⟩⟩
      .walk_at"W"
       walk_at"cs";case h1=>exactλU=>hT
       case h2=>
        intro O;walk_at"W";walk_at"cs";case h1=>exactλU=>hT
        intro e2;walk_at"W";haveI K3:=((((K2.tail rfl).tail rfl).tail rfl).tail rfl).tail rfl;refine⟨M',y,J,k,u,N.le<|XA _,by walk_at"ls",by walk_at"lk",by walk_at"lk",P,?_⟩;rcases B with⟨b1,_⟩|b;.rw[b1] at O;cases O
        .exact .inr b
     .obtain⟨rfl,K2,tt,t0,k121⟩:=h
      haveI hx:∃x,[A,B'][j']=x/\x<J.length:=by
       refine qL N.flen ?_;haveI G:j'<2:=G;rcases fD G with rfl|rfl;.exact⟨A,rfl,Xk ‹_› hi⟩
       .exact⟨B',rfl,Xk ‹_› hi⟩
      refine aI hx λx ex hx=>?_;refine qL ex ?_;haveI hg:=a00 hx;walk_at"W";refine az (aQ N.hf<|by unfold bD;rw[a0c,hg];rfl) ?_;haveI x0:=N.fpos _<|a03 hx;walk_at"W";exact⟨rfl,by walk_at"ls",tt+J[x]'hx,Wb t0 x0,by walk_at"lk"⟩
   .subst ex
    walk_at"W";refine t7 (Ma i) ?_;walk_at"W";refine⟨M,y,J,k,u,C.le<|XD<|3*i+j,by walk_at"ls",by walk_at"lk",by walk_at"lk",P,?_⟩;rw[a0w<|by lia] at B⊢;exact B
theorem vQ {H:Hp} {n i:Nat}:bT H (.rng (Int.ofNat n-1) (-1) (-1)) i=some (if i<n then some (.int<|.ofNat<|n-1-i) else none):=by
 show some (cond (Nat.blt i _) (some _) none)=_;haveI e:gA _ (-1) (-1)=n:=by
  show(Int.ofNat n-1- -1).toNat=n;haveI:(Int.ofNat n-1- -1)=(n:Int):=by show((n:Int)-1- -1)=n;exact Int.sub_eq_iff_eq_add'.mpr rfl
  rw[this];rfl
 refine qL e ?_;by_cases h:i<n
 .rw[Xb h,(a0T).mpr h]
  haveI:(Int.ofNat n-1+-1*Int.ofNat i)=.ofNat _:=by exact LS h
  exact qL this rfl
 .rw[Xd h,show Nat.blt i n=false by cases q:Nat.blt i n with|false=>rfl|true=>exact(h<|(a0T).mp q).elim];rfl
theorem GZ {n:Nat} {t:PT} {b:S} {l:Cl} {c:Sg} {H:Hp} {N B f:Sg->Hp->Prop} {T:V->Hp->Prop} {X:V->Hp->Prop} (I:Nat->Sg->Hp->Prop) (p:n<=4000)
  (h0:I 0 c H) (g:∀c H,I n c H->N c H)
  (k:∀i j (_:i<n) (_:j<n) (_:n-(i+1)=j) c H,I i c H->wL t (.int<|.ofNat j) b l c H (I<|i+1) N (I<|i+1) T X):
  WS (jB t b (.rng (Int.ofNat n-1) (-1) (-1)) l cS 0 c H) N B f T X:=by
 refine oQ (λi c H=>i<=n/\I i c H) (λi U U h=>by haveI:=h.1;exact Wk ‹_› ‹_›) (λi c H h=>?_) cS 0 c H ⟨VY _,h0⟩ (by decide);obtain⟨d,h⟩:=h;refine qL vQ ?_;by_cases q:i<n
 .refine(Xb q)▸?_
  refine aI (k i _ q (NI q) (by rw[Nat.sub_sub,Wm]) c H h) λd e m=>bK d e<|W.imp m λr H h=>?_;obtain⟨L,o⟩:=r;cases L<;>first|exact⟨q,h⟩|exact h
 .obtain rfl:i=n:=by lia
  exact(Xd q)▸(g c H h)
theorem yB {g:Nat->List V} {t:PT} {o:Cs} {l:Cl} {c:Sg} {H:Hp} {N:Nat} {Q:List V->Hp->Prop} (n:∀i,i<N->∃d,cU c t (.int<|.ofNat i)=some d/\W (o l d H) (λa f=>a=g i/\f=H) XF):
  ∀(k i m:Nat),k+i=N->k<m->Q ((List.range' i k).flatMap g) H->W (dW t o (.rng 0 (.ofNat N) 1) l c m i H) Q XF
 |0,i,m,e,M,q=>by refine sa M ?_ q;exact qL dG<|qL (Xd<|Nat.not_lt.mpr<|WX<|e.symm.trans<|a0I i) rfl
 |k+1,i,m,e,M,q=>by refine aI (n i<|a1e (a1B<|Wu k) e) λd p r=>nP (a1C ‹_›) (qL dG<|qL (Xb<|a1e (a1B<|Wu k) e) rfl) p<|r.imp λa f h=>?_;obtain⟨rfl,rfl⟩:=h;refine W.imp (yB (Q:=λb j=>b=(List.range' (i+1) k).flatMap g/\j=f) n k (i+1) (m-1) ((WY k 1 i).symm.trans e) (a1D M) ⟨rfl,rfl⟩) λb j h=>?_;obtain⟨rfl,rfl⟩:=h;exact q
theorem Fy {N:Nat} {H:Hp} {Q:V->Hp->Prop} {X:V->Hp->Prop} (h:N<1000) (q:Q (.rng (Int.ofNat N-1) (-1) (-1)) H):W (cM .range [.int<|Int.ofNat N-1,.int (-1),.int (-1)] H) Q X:=by
 haveI:cM .range [.int _,.int (-1),.int (-1)] H=.ok _ H:=by
  show EB (Int.ofNat N-1) (-1) (-1) H=_;unfold EB;haveI:Kw (Int.ofNat N-1)=true:=by
   induction N with
   |zero=>rfl
   |succ k=>
    haveI e:(Int.ofNat (k+1)-1)=.ofNat k:=by show((k+1):Int)-1=(k:Int);exact Xl (↑k) 1
    simp only [e];exact(a0T).mpr (WO<|WR ‹_›<|by decide)
  simp only [this];rfl
 exact W.eq this q
theorem BF (p:Nat->Bool):∀l:List Nat,(l.flatMap λi=>cond (p i) [V.int<|.ofNat i] [])=bl (l.filter p):=by
 intro z;induction z with
 |nil=>exact rfl
 |cons x l h=>simp only [a1m,ZE,h];cases p x<;>rfl
noncomputable def iB (l:List Bool):List V:=l.map V.bool
theorem Bo {H:Hp} {c:aB} (w:WF H):aJ H ((ak H,c)::H):=ba w c
structure OL (ns:iQ) (outs:List Nat) (ch:List V) (wl:List Bool):Prop where
 len:wl.length=ns.length
 out:∀l∈outs,wl[l/2]?=some true
 lv:∀(i:Nat) p ls t mv,ns[i]?=some (some p)->wl[i]?=some true->ch[i]?=some (.tup [.tup<|bl ls,t,mv])->∀x∈ls,wl[x]?=some true
noncomputable def qO (n:iQ) (w:List Bool) (i:Nat):Bool:=w[i]?.getD false&&(n[i]?.bind id).isSome
noncomputable def eW (n:iQ) (w:List Bool):List Nat:=(List.range' 0 n.length).filter<|qO n w
theorem Cv:bw.all (λc=>(c.aig.outs.all λl=>Nat.blt (l/2) c.aig.ns.length)&&Nat.blt c.aig.outs.length 3)=true:=rfl
theorem kA {c:eF} (H:c∈bw):(∀l∈c.aig.outs,l/2<c.aig.ns.length)/\c.aig.outs.length<3:=by haveI h:=VU Cv c H;simp only [XR] at h;exact⟨λl L=>(a0T).mp<|VU h.1 l L,(a0T).mp h.2⟩
theorem FD {c H:Hp} {n i:Nat} {w:List Bool} {Q:Unit->Hp->Prop} {X:V->Hp->Prop} (g:aJ c H) (N:ac c n=none) (h:ac H n=some (.lst<|iB w)) (d:i<w.length)
  (q:∀b,aJ c b->ac b n=some (.lst<|iB<|w.set i true)->Q () b):W (setItem (.ref n) (.int<|.ofNat i) (.bool true) H) Q X:=by
 haveI e:(iB w).set i (.bool true)=iB (w.set i true):=by unfold iB;simp only [a1A]
 exact xH h (by unfold iB;simp only [XK];exact d) (q _ (aJ.set g N)<|by simp only [<-e];exact aV h)
theorem qE {w:List Bool} {i x:Nat} (H:i<w.length) (h:w[x]?=some true\/x=i):(w.set i true)[x]?=some true:=by
 rw[dz _ _ _ _ H];by_cases q:i=x;.rw[Xb q]
 .rw[Xd q];rcases h with h|h
  .exact h
  .exact(q h.symm).elim
theorem Ba {n:Nat} {H:Hp} {c:eF} {a:AG} {s:aN} {m:Nat} {ch:List V} (w:WF H) (hc:c∈bw) (ha:a.At H c.aig) (hm:ac H m=some (.lst ch)) (Ch:pv s c.aig.ns ch) {Q:V->Hp->Prop} {X:V->Hp->Prop}
  (q:∀k L r,aJ H r->ac H k=none->OL c.aig.ns c.aig.outs ch L->ac r k=some (.lst<|bl<|eW c.aig.ns L)->Q (.ref k) r):W (bG (n+1) 65 [.ref a.ref,.ref m] H) Q X:=by
 obtain⟨nl,_⟩:=oZ hc;obtain⟨ho2,o⟩:=kA hc;refine bE (ax rfl) rfl (let b:=bG n;cK (cl:=b) rfl ?_);walk_at"W";refine bg w rfl λx1 H1 G1 t1 U=>?_;haveI ha1:=ha.grow G1;repeat (first|walk_at"w"|refine bJ ha1.ins' ha1.ns' rfl ?_)
 refine jj ha1.hn (wz t1 (Wk ‹_›<|by decide)<|fy G1.wf λwR H2 G2 G w0=>?_);haveI ha2:=ha1.grow G2;haveI hb0:ac H2 wR=some (.lst<|iB _):=by unfold iB;exact a1z▸G
 haveI G12:=G1.trans G2;haveI wH:=G1.old w0;repeat (first|walk_at"w"|refine bJ ha2.ins' ha2.ns' rfl ?_)
 let L1:Sg:=[(61,.ref a.ref),(114,.ref m),(123,.ref wR)]
 let I1:Nat->Sg->Hp->Prop:=λi d r=>aJ H r/\iz d L1/\∃L,ac r wR=some (.lst<|iB L)/\L.length=c.aig.ns.length/\∀l∈c.aig.outs.take i,L[l/2]?=some true;refine iS (I:=I1) (WO<|WR ‹_›<|by decide)
  ⟨G12,by walk_at"lq",_,hb0,a1v,λl u=>by cases u⟩ (λi d r h=>h.1.get _ _ ha.ho) (λd r h=>?_) λi lit hi U hlit D d r h=>?_
 .obtain⟨g,K,L,G,u,O⟩:=h
  rw[a05] at O;haveI ha3:=ha.grow g;repeat (first|walk_at"w"|refine bJ ha3.ins' ha3.ns' rfl ?_)
  refine jj ha3.hn ?_;walk_at"W";refine vD<|Jj<|qv ?_;walk_at"W";refine vD<|Jj<|qv ?_;walk_at"W";refine Fy (Wk ‹_›<|by decide) ?_;let F:Nat->List Bool->Prop:=λi L=>∀(j:Nat) p M t mv,i<=j->c.aig.ns[j]?=some (some p)->L[j]?=some true->ch[j]?=some (.tup [.tup<|bl M,t,mv])->∀x∈M,L[x]?=some true;let I2:Nat->Sg->Hp->Prop:=λi d r=>aJ H r/\iz d L1/\∃L,ac r wR=some (.lst<|iB L)/\L.length=c.aig.ns.length/\(∀l∈c.aig.outs,L[l/2]?=some true)/\F (c.aig.ns.length-i) L;refine GZ (I:=I2) (WO<|WR ‹_›<|by decide)
   ⟨g,by walk_at"lq",L,G,u,O,λj p M t mv h1 N=>by rw[a0d<|by assumption] at N;cases N⟩ (λd r h=>?_) λi j0 hi hj J d r h=>?_
  .obtain⟨g,K,L,G,u,O,hlv⟩:=h
   haveI A:=ha.grow g;haveI hm4:=g.get _ _ hm;walk_at"W";refine mq (zW (K.get rfl)<|K.get rfl) ?_;repeat (first|walk_at"w"|refine bJ A.ins' A.ns' rfl ?_)
   refine jj A.hn (lY<|bW (Wk ‹_›<|by decide) ?_);refine⟨rfl,yB (g:=λi=>cond (qO c.aig.ns L i) [V.int<|.ofNat i] []) (λi hi=>⟨_,rfl,?_⟩) c.aig.ns.length 0 cS rfl (by show _<4096;exact Wk ‹_›<|by decide) ?_⟩
   .obtain⟨b,hb⟩:∃b,L[i]?=some b:=⟨_,a00<|a1e hi<|id<|Eq.symm u⟩
    obtain⟨o,ho⟩:∃o,c.aig.ns[i]?=some o:=⟨_,a00 hi⟩
    refine aI (Ch.at' i o ho) λv hv hV=>nw ?_;walk_at"W";refine az (aQ G<|by unfold iB;simp only [a0c,hb];rfl) ?_;haveI y:qO c.aig.ns L i=(b&&o.isSome):=by unfold qO;simp only [hb,ho];rfl
    refine qL y ?_;induction b with
    |false=>exact nZ rfl ⟨rfl,rfl⟩
    |true=>
     refine kY rfl ?_;walk_at"W";refine az (aQ hm4 hv) ?_;walk_at"W";induction o with
     |none=>subst hV;exact i3 rfl ⟨rfl,rfl⟩
     |some p=>obtain⟨_,_,_,rfl,_⟩:=hV;refine t7 rfl<|y9<|ci ?_;walk_at"W";exact⟨rfl,rfl⟩
   .simp only [BF]
    refine⟨by show Nat.blt _ _=true;simp only [a0T];unfold bl;simp only [XK];haveI:=a1b (qO c.aig.ns L)<|List.range' 0 c.aig.ns.length;rw[a1E] at this;exact VW this<|Xk nl<|by decide,?_⟩;refine q _ L _ (g.trans<|Bo g.wf) (g.old g.wf.none) ⟨u,O,λi p M t mv h1 N Y=>hlv i p M t mv (by lia) h1 N Y⟩<|bA _ _
  .obtain⟨g,K,L,G,u,O,hlv⟩:=h
   have hm4:=g.get _ _ hm;obtain⟨b,hb⟩:∃b,L[j0]?=some b:=⟨_,a00<|a1e hj<|id<|Eq.symm u⟩
   obtain⟨o,ho⟩:∃o,c.aig.ns[j0]?=some o:=⟨_,a00 hj⟩
   refine aI (Ch.at' j0 o ho) λv hv hV=>?_;haveI same:(b=true->o=none)->F (c.aig.ns.length-(i+1)) L:=by
    intro hbo j p M t mv h1 N Y h4;rcases WJ j0 j with q|q;.exact hlv j p M t mv (NZ hi J q) N Y h4
    .obtain rfl:j=j0:=a02 q (J▸h1)
     rw[hb] at Y;injection Y with Y;rw[ho,hbo Y] at N;cases N
   walk_at"W";refine az (aQ G<|by unfold iB;simp only [a0c,hb];rfl) ?_;induction b with
   |false=>refine nZ rfl ?_;walk_at"W";exact⟨g,by walk_at"lq",L,G,u,O,same λz=>by cases z⟩
   |true=>
    refine kY rfl ?_;walk_at"W";refine az (aQ hm4 hv) ?_;walk_at"W";induction o with
    |none=>subst hV;refine i3 rfl ?_;walk_at"W";exact⟨g,by walk_at"lq",L,G,u,O,same λU=>rfl⟩
    |some p=>
     obtain⟨⟨M,t⟩,hq,mv,rfl,_,_⟩:=hV;refine du ((x8 hc ho hq).lv) λA B' els lA lB=>?_;have lss:∀x∈M,x<j0:=λx z=>by dsimp only at els;rw[els] at z;simp only [Z6,Xu,or_false] at z;rcases z with rfl|rfl<;>assumption
     refine t7 rfl ?_;walk_at"W";refine az (aQ hm4 hv) ?_;walk_at"W";refine az (show _=some (V.tup<|bl M) from rfl) ?_;let I3:Nat->Sg->Hp->Prop:=λk d r=>aJ H r/\iz d L1/\∃y,ac r wR=some (.lst<|iB y)/\y.length=c.aig.ns.length/\
       (∀x:Nat,L[x]?=some true->y[x]?=some true)/\(∀x:Nat,j0<=x->y[x]?=L[x]?)/\∀x∈M.take k,y[x]?=some true
     refine DA (I:=I3) (by dsimp only at els;simp only [els];show 2<=4000;decide)
      ⟨g,by walk_at"lq",L,G,u,λU h=>h,λU U=>rfl,λx z=>by cases z⟩ (λd r h=>?_) λk x0 hk U hx0 hxk d r h=>?_
     .obtain⟨g',K,y,hw',f,hmo,heq,D⟩:=h
      replace D:=a05▸D;walk_at"W";refine⟨g',by walk_at"lq",y,hw',f,λl u=>hmo _<|O l u,?_⟩;intro j p' ls' t' mv' h1 N Y h4 x z;rw[heq j<|le_of_eq_of_le (id<|Eq.symm J) h1] at Y;rcases WJ j0 j with q|q;.exact hmo x<|hlv j p' ls' t' mv' (NZ hi J q) N Y h4 x z
      .obtain rfl:j=j0:=a02 q (J▸h1)
       simp only [hv] at h4;simp only [a0X,V.tup.injEq,a0U] at h4;rw[<-pY h4.1] at z;exact D x z
     .obtain⟨g',K,y,hw',f,hmo,heq,D⟩:=h
      haveI z:=lss _ hx0;walk_at"w";refine aE<|cW ?_;walk_at"W";refine FD g' wH hw' (a1e (Xk z hj) f.symm) λH5 g5 h5=>?_;walk_at"W";refine⟨g5,by walk_at"lq",_,h5,by simp only [XU];exact f,λx h=>qE (a1e (Xk z hj) f.symm)<|.inl<|hmo x h,λx h=>?_,λx h=>?_⟩;.rw[dz _ _ _ _<|a1e (Xk z hj) f.symm,Xd<|Xe<|WR z h];exact heq x h
      .rw[hxk,a0P,a0o] at h
       exact qE (a1e (Xk z hj) f.symm)<|h.imp (D x) λe=>e
 .obtain⟨g,K,L,G,u,O⟩:=h
  walk_at"w";refine aE<|cW ?_;repeat (first|walk_at"w"|refine gh (Wh (λn:Nat=>some _) _) ?_)
  refine FD (i:=lit/2) g wH G (u▸(ho2 _ hlit)) λH5 g5 h5=>?_;walk_at"W";refine⟨g5,by walk_at"lq",_,h5,by simp only [XU];exact u,λl f=>?_⟩;rw[D,a0P,a0o] at f;exact qE (u▸(ho2 _ hlit)) (f.imp (O l) λe=>by simp only [e])
structure Gt where
 ce:Ce
 ins:List Nat
noncomputable def I9:List Nat:=[99,101,108,108]
def ma (i:Nat) (g:Gt):V:=.tup [.str I9,.int<|.ofNat<|4+i,.tup<|bl g.ins,.tup [.str g.ce.nm,.int g.ce.tb]]
def bS:Nat->List Gt->List V
 |_,[]=>[]
 |i,g::l=>ma i g::bS (i+1) l
theorem wJ (g:Gt):∀(G:List Gt) (i:Nat),bS i (G++[g])=bS i G++[ma (i+G.length) g]:=by
 intro z;induction z with
 |nil=>exactλU=>rfl
 |cons x G h=>intro i;show ma i x::bS (i+1) (G++[g])=ma i x::(bS (i+1) G++[ma (i+(G.length+1)) g]);rw[h,show i+1+G.length=i+(G.length+1) by exact WY _ _ _]
theorem cV:∀(g:List Gt) (i:Nat),(bS i g).length=g.length:=by
 intro z;induction z with
 |nil=>exactλU=>rfl
 |cons _ g h=>intro i;show(bS (i+1) g).length+1=g.length+1;rw[h]
noncomputable def hU (v:List Nat):List Nat->Nat->Nat
 |[],_=>0
 |i::l,p=>v.getD i 0*2^p+hU v l (p+1)
def rV (v:List Nat) (g:Gt):List Nat:=v++[eY g.ce.tb.toNat<|hU v g.ins 0]
def FH (r:Nat) (g:List Gt):List Nat:=g.foldl rV [0,1,r%2,r/2%2]
def bk (r:Nat) (g:List Gt) (x:Nat):Nat:=(FH r g).getD x 0
theorem zv (r:Nat) (G:List Gt) (g:Gt):FH r (G++[g])=rV (FH r G) g:=by unfold FH;simp only [a0z];rfl
theorem oU (r:Nat) (G:List Gt):(FH r G).length=4+G.length:=by
 haveI:∀(G:List Gt) (v:List Nat),(G.foldl rV v).length=v.length+G.length:=by
  intro G;induction G with
  |nil=>intro v;rfl
  |cons g G i=>intro v;simp only [Yf,i];unfold rV;simp only [Yb];exact WY _ _ _
 unfold FH;simp only [this];rfl
theorem dZ (h:x<4+G.length):bk r (G++[g]) x=bk r G x:=by delta bk;rw[zv];delta rV;exact qL  a1F  (qL (a1w<|by rw[oU];exact h)<|qR  a1F  rfl)
theorem ms:bk r (G++[g]) (4+G.length)=eY g.ce.tb.toNat (hU (FH r G) g.ins 0):=by delta bk;rw[zv];delta rV;rw[a1F,a1x<|by rw[oU];exact XA _,oU,a0Q];rfl
theorem fB (h:x<4+gs.length):∀e:List Gt,bk r (gs++e) x=bk r gs x:=by
 intro e;induction e generalizing gs with
 |nil=>rw[Ya]
 |cons g e i=>exact qL (show gs++g::e=(gs++[g])++e by rw[Yg];rfl) (qL (i<|by rw[Yb];show x<4+(gs.length+1);exact W0 ‹_›)<|qL (dZ h) rfl)
theorem zB (n k:Nat):eY n k<2:=a1G _ (by decide)
theorem dC (r:Nat):∀(n:Nat) (s:List Gt),s.length=n->∀x,bk r s x<2:=by
 intro n;induction n with
 |zero=>
  intro s h x;have:=ZH h;subst this
  match x with
  |0=>exact a1H _
  |1=>exact W1 _
  |2=>exact a1G _ (by decide)
  |3=>exact a1G _ (by decide)
  |_+4=>exact a1H _
 |succ n i=>
  intro s h x;obtain⟨G,g,rfl⟩:∃l b,s=l++[b]:=by
   rcases a1h s with rfl|⟨L,b,rfl⟩;.cases h
   .exact PK L b a1i
  haveI H:G.length=n:=by simpa using h
  rcases Nat.lt_trichotomy x (4+G.length) with q|q|q;.simp only [dZ q];exact i G H x
  .simp only [q,ms];exact zB _ _
  .delta bk
   refine qL  a1F  (qL (a0d<|by simp only [oU,Yb];show 4+(G.length+1)<=x;assumption) ?_);exact a1H _
structure BI (s:aN) (gs:List Gt) (D:List<|Int×V):Prop where
 ok:∀(i:Nat) g,gs[i]?=some g->g.ce∈s.cs/\(.ofNat g.ins.length:Int)=g.ce.ins/\∀x∈g.ins,x<4+i
 d0:eQ D 0=some (.int 1)
 d1:eQ D 1=some (.int 0)
 dv:∀a v,eQ D a=some v->∃a' b':Nat,a=.ofNat a'/\v=.int (.ofNat b')/\a'<4+gs.length/\b'<4+gs.length/\eQ D (.ofNat b')=some (.int<|.ofNat a')/\∀r,bk r gs b'=1-bk r gs a'
 iv:∀(i:Nat) g,gs[i]?=some g->g.ce.ins=1->∃a:Nat,g.ins=[a]/\eQ D (.ofNat a)=some (.int<|.ofNat<|4+i)
 only:s.inv=none->∀a v,eQ D a=some v->a=0\/a=1
 dl:D.length<=2+2*gs.length
theorem bo (h:(Int.ofNat a)=.ofNat b):a=b:=by injection h
theorem fk (a b:Nat):ieq (.ofNat a) (.ofNat b)=decide (a=b):=UH a b
theorem BI.addG (h:BI s j D) (h1:g.ce∈s.cs) (h2:(.ofNat g.ins.length:Int)=g.ce.ins) (h3:∀x∈g.ins,x<4+j.length) (h4:g.ce.ins≠1):BI s (j++[g]) D:=by
 have L:(j++[g]).length=j.length+1:=by rw[Yb];rfl
 refine⟨λi p G=>?_,h.d0,h.d1,λa v hv=>?_,λi p G e=>?_,h.only,Wk h.dl<|qL L<|Wp _ 2⟩
 .rcases WJ i j.length with q|q
  .rw[a1w q] at G;exact h.ok i p G
  .replace G:=(a1x q).symm.trans G
   have:i-j.length=0:=by
    rcases a1I _ with z|z;.exact z
    .rw[a0d ‹_›] at G;cases G
   rw[this] at G;cases G;obtain rfl:i=j.length:=a02 (a1y this) q;exact mP h1 h2 h3
 .exact Ji (h.dv a v hv) λA J N O u y Q Y=>FW A J N O (r9 L u) (r9 L y) Q (λr=>by rw[dZ y,dZ u];exact Y r)
 .rcases WJ i j.length with q|q
  .rw[a1w q] at G;exact h.iv i p G e
  .rw[a1x q] at G
   have:i-j.length=0:=by
    rcases a1I _ with z|z;.exact z
    .rw[a0d ‹_›] at G;cases G
   rw[this] at G;cases G;contradiction
theorem BI.addI (h:BI s G D) (so:s.Ok) (hc:s.inv=some c) (J:x<4+G.length) (hn:eQ D (.ofNat x)=none):
  BI s (G++[⟨c,[x]⟩]) (cP (cP D (.ofNat x)<|.int<|.ofNat<|4+G.length) (.ofNat<|4+G.length)<|.int<|.ofNat x):=by
 have L:(G++[(⟨c,[x]⟩:Gt)]).length=G.length+1:=by rw[Yb];rfl
 refine kh (so.iv c hc) λc1 c2 c3=>?_;have hm:eQ D (.ofNat<|4+G.length)=none:=by
  cases z:eQ D _ with
  |none=>rfl
  |some v=>refine Nd (h.dv _ v z) λa' b' Q U O U=>?_;exact absurd O<|bo Q▸XM _
 have lk:∀j:Int,eQ (cP (cP D (.ofNat x)<|.int<|.ofNat<|4+G.length) (.ofNat<|4+G.length)<|.int<|.ofNat x) j=
   cond (ieq _ j) (some _) (cond _ (some<|.int _) _):=λj=>by
   rw[dD,dD]<;>cases ieq _ j<;>cases ieq _ j<;>rfl
 have A:∀j v,eQ D j=some v->eQ (cP (cP D _<|.int _) _ _) j=some v:=λj v u=>by
  rw[lk];rw[show ieq _ j=false by
   cases z:ieq _ j with
   |false=>rfl
   |true=>rw[<-aD z,hm] at u;cases u]
  rw[show ieq _ j=false by
   cases z:ieq _ j with
   |false=>rfl
   |true=>rw[<-aD z,hn] at u;cases u]
  exact u
 have N:∀r,bk r (G++[⟨c,[x]⟩]) _=1-bk r G x:=λr=>by refine .trans ms ?_;show eY c.tb.toNat ((FH r G).getD x 0*2^0+0)=_;refine qL c2 ?_;haveI hb:=dC r _ G rfl x;unfold bk at hb⊢;haveI hb2:=fD hb;rcases hb2 with e|e<;>rw[e]<;>rfl
 refine⟨λi Y p=>?_,A _ _ h.d0,A _ _ h.d1,λa v u=>?_,λi Y p e=>?_,λz=>(by rw[hc] at z;cases z),?_⟩
 .rcases WJ i G.length with q|q
  .rw[a1w q] at p;exact h.ok i Y p
  .replace p:=(a1x q).symm.trans p
   have:i-G.length=0:=by
    rcases a1I _ with z|z;.exact z
    .rw[a0d ‹_›] at p;cases p
   rw[this] at p;cases p;obtain rfl:i=G.length:=a02 (a1y this) q;refine mP (by unfold aN.cs;rw[hc];simp) (by show(1:Int)=c.ins;rw[c1])  λy hy=>?_;rw[a0o] at hy;subst hy;exact J
 .rw[lk] at u
  cases y:ieq _ a with
  |true=>
   replace u:=y▸u;obtain rfl:=W2 u;refine FW _ x ((aD y).symm) rfl (Fo L) (r9 L J) ?_  λr=>?_;.rw[lk,show ieq _ _=false by rw[fk];exact Xa<|Za ‹_›,(dc _ _).mpr rfl];rfl
   .rw[N,dZ J]
    exact OH<|dC r _ G rfl x
  |false=>
   rw[y] at u;cases z2:ieq _ a with
   |true=>
    replace u:=z2▸u;obtain rfl:=W2 u;refine FW x _ ((aD z2).symm) rfl (r9 L J) (Fo L) ?_  λr=>?_;.rw[lk,(dc _ _).mpr rfl];rfl
    .rw[N,dZ J]
   |false=>rw[z2] at u;exact Ji (h.dv a v u) λa' b' Q e2 O e4 e5 e6=>FW a' b' Q e2 (r9 L O) (r9 L e4) (A _ _ e5) (λr=>by rw[dZ e4,dZ O];exact e6 r)
 .rcases WJ i G.length with q|q
  .rw[a1w q] at p
   exact aI (h.iv i Y p e) λa y el=>bK a y<|A _ _ el
  .rw[a1x q] at p
   have:i-G.length=0:=by
    rcases a1I _ with z|z;.exact z
    .rw[a0d ‹_›] at p;cases p
   rw[this] at p;cases p;obtain rfl:i=G.length:=a02 (a1y this) q;exact bK x rfl (by rw[lk,show ieq _ _=false by rw[fk];exact Xa<|Za ‹_›,(dc _ _).mpr rfl];rfl)
 .haveI y:=iG (.ofNat x) (.int<|.ofNat<|4+G.length) D
  refine qL L ?_;exact Wk (iG (.ofNat<|4+G.length) (.int<|.ofNat x)<|cP D (.ofNat x)<|.int<|.ofNat<|4+G.length)<|Wk (XE<|Wk y<|XE h.dl)<|WX rfl
structure BS where
 ref:Nat
 d:Nat
 dv:Nat
 nl:NL
def BS.net (B:BS) (G:List Gt):NL:={B.nl with cnt:=4+G.length,cells:=bS 0 G}
noncomputable abbrev BS.M (B:BS):List Nat:=[B.nl.d,B.nl.i,B.nl.o,B.nl.c,B.dv]
structure BR (H0 H:Hp) (l:Nat) (s:aN) (B:BS) (gs:List Gt) (D:List<|Int×V):Prop where
 g:aJ H0 H
 lib:bp H0 l s.cs
 fr:∀m∈B.M,ac H0 m=none
 ins':ac H B.ref=some (.ins 6 B.d)
 ns':ac H B.d=some (.ns [(28,.ref B.nl.ref),(99,.ref l),(124,.ref B.dv)])
 hd:ac H B.dv=some (.dct<|dK V.int D)
 net:(B.net gs).At H
structure uA (H0 H:Hp) (l:Nat) (s:aN) (B:BS) (gs:List Gt) (D:List<|Int×V):Prop extends BR H0 H l s B gs D where
 bi:BI s gs D
theorem BR.grow (h:BR p H l s B G D) (g:aJ H j):BR p j l s B G D:=
 ⟨h.g.trans g,h.lib,h.fr,g.get _ _ h.ins',g.get _ _ h.ns',g.get _ _ h.hd,h.net.grow g⟩
theorem uA.grow (h:uA p H l s B G D) (g:aJ H j):uA p j l s B G D:=
 ⟨h.toBR.grow g,h.bi⟩
theorem BR.attr (h:BR j H l s B G D) (e:look [(28,V.ref B.nl.ref),(99,.ref l),(124,.ref B.dv)] f=some v) (q:Q v H):
  W (getAttr (.ref B.ref) f H) Q X:=bJ h.ins' h.ns' e q
theorem BR.libNow (h:BR j H l s B G D):bp H l s.cs:=h.lib.grow h.g
theorem BR.notN (h:BR p H l s B G D):B.ref∉(B.net G).M/\B.d∉(B.net G).M/\B.dv∉(B.net G).M:=by
 haveI a:=h.net;refine mP (λj=>?_) (λj=>?_) (λj=>?_)<;>simp only [Z6,Xu,or_false] at j<;>rcases j with z|z|z|z;.have:=h.ins';rw[z,a.ns'] at this;cases this
 .have:=h.ins';rw[z,a.hi] at this;cases this
 .have:=h.ins';rw[z,a.ho] at this;cases this
 .have:=h.ins';rw[z,a.hc] at this;cases this
 .have:=h.ns';rw[z,a.ns'] at this;exact dj rfl<|PI 28 this
 .have:=h.ns';rw[z,a.hi] at this;cases this
 .have:=h.ns';rw[z,a.ho] at this;cases this
 .have:=h.ns';rw[z,a.hc] at this;cases this
 .have:=h.hd;rw[z,a.ns'] at this;cases this
 .have:=h.hd;rw[z,a.hi] at this;cases this
 .have:=h.hd;rw[z,a.ho] at this;cases this
 .have:=h.hd;rw[z,a.hc] at this;cases this
theorem aH.sub (h:aH M H j) (r:∀x∈M,x∈p):aH p H j:=⟨λn c N=>h.get n c λq=>N<|r n q,h.wf⟩
theorem jX (B:BS) (g:List Gt):∀x∈(B.net g).M,x∈B.M:=λx h=>by
 simp only [Z6,Xu,or_false] at h;simp only [Z6];rcases h with z|z|z|z;.exact .inl z
 .exact .inr<|.inl z
 .exact .inr<|.inr<|.inl z
 .exact .inr<|.inr<|.inr<|.inl z
theorem BR.addG {B:BS} (h:BR q H l s B j D) {g:Gt} (G:aH (B.net j).M H p) (N:((B.net j).tick.add<|ma j.length g).At p):
  BR q p l s B (j++[g]) D:=by
 refine kh h.notN λu x y=>⟨aH.fresh h.g (λm r=>h.fr m<|jX B j m r) G,h.lib,h.fr,G.get _ _ u h.ins',G.get _ _ x h.ns',G.get _ _ y h.hd,?_⟩
 haveI e:(B.net j).tick.add _=B.net (j++[g]):=by unfold BS.net NL.tick NL.add;simp only [wJ,a0I,Yb];rfl
 exact e▸N
theorem BR.overD (h:BR u H l s B G D) (S:bH B.dv H j) (A:ac j B.dv=some (.dct<|dK V.int r)):BR u j l s B G r:=by
 haveI N:∀{x c},ac H x=some c->(∀d,c≠.dct d)->ac j x=some c:=λq y=>S.get _ _ (cq h.hd q<|y _).symm q;exact⟨h.g.over S<|h.fr B.dv<|.tail _<|.tail _<|.tail _<|.tail _<|.head _,h.lib,h.fr,N h.ins' nofun,N h.ns' nofun,A,h.net.overS S (cq h.hd h.net.ins' nofun).symm (λp=>by
  simp only [Z6,Xu,or_false] at p;rcases p with e|e|e|e;.exact cq h.hd h.net.ns' nofun e
  .exact cq h.hd h.net.hi nofun e
  .exact cq h.hd h.net.ho nofun e
  .exact cq h.hd h.net.hc nofun e)⟩
theorem Be (L:bp H l s) (j:s.find? bz=none) (q:X (.tup [.int<|.ofNat 1,.str fH,.int (-1),.str []]) H):W (bG (n+1) 54 [.ref l] H) Q X:=by
 refine bE (ax rfl) rfl (let e:=bG n;cK (cl:=e) rfl ?_);walk_at"W";let d:Nat->Sg->Hp->Prop:=λi b c=>c=H;refine eM (I:=d) (by haveI:=L.len;exact Wk ‹_›<|by decide) rfl (λi b c h=>h▸L.lst) (λb c h=>?_) λi g b c h=>?_
 .obtain rfl:_=_:=h
  refine aE<|pP ?_;walk_at"W";exact q
 .obtain rfl:_=_:=h
  haveI k:=L.cell s[i]<|a03 g;have N:bz s[i]=false:=by haveI:=a1k.mp j _<|a03 g;simpa using this
  walk_at"w";walk_at"W";walk_at"cs"
  case h1=>
   intro e;walk_at"W";walk_at"cs";case h1=>intro f;delta bz at N;rw[e,f] at N;cases N
   case h2=>intro f;walk_at"W";rfl
  case h2=>intro e;walk_at"W";rfl
theorem zI {l:Nat} {B:BS} (o:s.Ok) (h:uA M H l s B g D) (hx:x<4+g.length) (hg:g.length<400)
  (q:∀y b D' j,uA M j l s B (g++b) D'->b.length<=1->y<4+(g++b).length->(∀r,bk r (g++b) y=1-bk r g x)->aH B.M H j->(s.inv=none->x<2)->Q (.int<|.ofNat y) j)
  (qx:s.inv=none->2<=x->X (.tup [.int<|.ofNat 1,.str fH,.int (-1),.str []]) H):W (bG (n+3) 67 [.ref B.ref,.int<|.ofNat x] H) Q X:=by
 refine bE (ax rfl) rfl (let c:=bG<|n+2;cK (cl:=c) rfl ?_);repeat (first|walk_at"w"|refine h.attr rfl ?_)
 refine kH (zH jc h.hd) (λe=>?_)  λe=>?_
 .have N:eQ D (.ofNat x)=none:=by cases z:eQ D _ with|none=>rfl|some v=>rw[z] at e;cases e
  repeat (first|walk_at"w"|refine h.attr rfl ?_)
  cases i:s.inv with
  |none=>
   refine Be h.libNow (qL o.find<|qL i rfl)<|qx i ?_;rcases WJ x 2 with z|z
   .have:x=0\/x=1:=fD z
    rcases this with rfl|rfl;.have:=h.bi.d0;rw[show(0:Int)=.ofNat 0 from rfl,N] at this;cases this
    .have:=h.bi.d1;rw[show(1:Int)=.ofNat 1 from rfl,N] at this;cases this
   .exact z
  |some c=>
   have J:c∈s.cs:=by unfold aN.cs;rw[i];simp
   refine DP h.libNow (qL o.find<|qL i rfl) ?_;haveI hc:=h.libNow.cell c J;repeat (first|walk_at"w"|refine h.attr rfl ?_)
   refine aF (wM<|aO (by walk_at"lk")<|h.attr rfl<|fF h.net.ins' h.net.ns' rfl rfl ?_);repeat (first|walk_at"w"|refine h.attr rfl ?_)
   refine lm h.g.wf h.net (show(bS 0 g).length<1000 by rw[cV];exact Wk ‹_›<|by decide) (λj U Q' q'=>vE rfl q') λH1 L N1=>?_;have d:BR M H1 l s B (g++[⟨c,[x]⟩]) D:=h.toBR.addG L (by exact N1);haveI dl:=h.bi.dl;refine bf rfl<|aE<|cW ?_;repeat (first|walk_at"w"|refine d.attr rfl ?_)
   refine i8 jc d.hd (fQ dl<|fQ (Wo (a0L 2<|WO hg) 2)<|by decide)<|x9 (c':=.dct<|dK V.int<|cP D _<|.int<|.ofNat<|4+g.length) d.g.wf d.hd λH2 O d2=>?_;haveI f:=d.overD O d2;haveI G:=(L.sub<|jX B g).trans<|O.m<|.tail _<|.tail _<|.tail _<|.tail _<|.head _;refine aE<|cW ?_;repeat (first|walk_at"w"|refine f.attr rfl ?_)
   refine i8 jc f.hd (fQ (Wk (iG (.ofNat x) (.int<|.ofNat<|4+g.length) D)<|XE<|Wk dl<|Wo (a0L 2<|WO hg) 2)<|by decide)<|x9 (c':=.dct<|dK V.int<|cP (cP D _<|.int<|.ofNat _) _<|.int _) f.g.wf f.hd λH3 Y d3=>?_;have k:=h.bi.addI o i hx N;refine aI (k.iv g.length ⟨c,[x]⟩ (by rw[a1x<|XA _,a0Q];rfl) (o.iv c i).1) λa A la=>?_;injection A with A;subst A
   have u:=f.overD Y d3;haveI g3:=G.trans<|Y.m<|.tail _<|.tail _<|.tail _<|.tail _<|.head _;repeat (first|walk_at"w"|refine u.attr rfl ?_)
   refine az (qL (ir jc u.hd) la) ?_;refine q _ [⟨c,[x]⟩] _ H3 ⟨u,k⟩ (XA 1) (by rw[Yb];show 4+g.length<4+(g.length+1);exact XA _) (λr=>?_) g3 (λz=>by rw[i] at z;cases z);refine Ji (k.dv _ _ la) λa' b' m p U U U t=>?_;haveI:=bo m;subst this;injection p with p
   haveI:=bo p;subst this;exact qL (t r)<|qL (dZ hx) rfl
 .obtain⟨v,c⟩:∃v,eQ D (.ofNat x)=some v:=by cases z:eQ D _ with|none=>rw[z] at e;cases e|some v=>exact⟨v,rfl⟩
  refine Ji (h.bi.dv _ _ c) λa' b' m d U f U t=>?_;subst d;have:=bo m;subst this;repeat (first|walk_at"w"|refine h.attr rfl ?_)
  refine az (qL (ir jc h.hd) c) ?_;refine q b' [] D H (by rw[Ya];exact h) (VY _) (by rw[Ya];exact f) (λr=>by rw[Ya];exact t r) (.refl h.g.wf) (λz=>by
   rcases h.bi.only z _ _ c with e|e;.have e:x=0:=bo e;subst e;decide
   .have e:x=1:=bo e;subst e;decide)
theorem UN (s:aN):BI s [] [(0,.int 1),(1,.int 0)]:=by
 haveI lk:∀a v,eQ [(0,V.int 1),(1,.int 0)] a=some v->(a=0/\v=.int 1)\/(a=1/\v=.int 0):=λa v h=>by
  haveI h:cond _ (some _) (cond (ieq 1 a) _ none)=some v:=h;cases z:ieq 0 a with
  |true=>rw[z] at h;injection h with h;exact .inl ⟨(aD z).symm,h.symm⟩
  |false=>
   replace h:=z▸h;cases b:ieq 1 a with
   |true=>rw[b] at h;injection h with h;exact .inr ⟨(aD b).symm,h.symm⟩
   |false=>rw[b] at h;cases h
 refine⟨λi g h=>by simp at h,rfl,rfl,λa v h=>?_,λi g h=>by simp at h,λU a v h=>(lk a v h).imp (·.1) (·.1),by decide⟩;rcases lk a v h with⟨rfl,rfl⟩|⟨rfl,rfl⟩;.exact FW 0 1 rfl rfl (by decide) (by decide) rfl  λU=>rfl
 .exact FW 1 0 rfl rfl (by decide) (by decide) rfl  λU=>rfl
theorem Gj (w:WF H) (g:aJ e H) (L:bp e l s.cs) (hN:N.At H) (f:∀m∈N.M,ac e m=none) (p:N.cnt=4) (t:N.cells=[])
  (q:∀B j,aJ H j->uA e j l s B [] [(0,.int 1),(1,.int 0)]->B.nl=N->ac H B.dv=none->Q (.ref B.ref) j):W (wb 6 66 (bG<|n+1) [.ref N.ref,.ref l] H) Q X:=by
 refine uc w (λU U=>ax rfl) rfl λd r v b=>cK rfl ?_;repeat (first|walk_at"w"|refine cj ?_)
 refine kF b rfl λx U b=>?_;repeat (first|walk_at"w"|refine cj ?_)
 refine kF b rfl λy U b=>?_;repeat (first|walk_at"w"|refine cj ?_)
 refine C6 ?_;walk_at"W";refine xj rfl rfl<|fy b.g.wf λi z G u c=>?_;walk_at"W";haveI D:=fZ b.n c;replace c:=b.g.old c;refine kF (b.grow G) rfl λA k b=>?_;haveI o:∀{m:Nat},ac H m=none->ac e m=none:=λ{m} h=>g.old h;walk_at"W";refine⟨rfl,q ⟨r,d,i,N⟩ _ b.g ⟨⟨g.trans b.g,L,λm M=>?_,b.i,b.n,k.get _ _ D.symm u,?_⟩,UN s⟩ rfl c⟩
 .simp only [BS.M,Z6,Xu,or_false] at M
  rcases M with z|z|z|z|z;.exact f m (by simp[z])
  .exact f m (by simp[z])
  .exact f m (by simp[z])
  .exact f m (by simp[z])
  .rw[z];exact o c
 .haveI:(⟨r,d,i,N⟩:BS).net []=N:=by
   cases N;cases p;cases t;rfl
  rw[this];exact hN.grow b.g
theorem QD {c:Ce} (h:c.ins=2) (q:Q (.rng 0 (.ofNat 2) 1) H):W (cM .range [.int c.ins] H) Q X:=by exact h▸(bW) (by decide) q
theorem E5 (h:GD t l m o w):∃a b M O:Nat,l=[.ofNat a,.ofNat b]/\m=.ofNat M/\o=.ofNat O/\((a=0/\b=1)\/(a=1/\b=0))/\M<4/\O<2/\0<=t/\0<=w/\JY t.toNat a b M O w.toNat:=by
 refine Di h λa b e h=>?_;have q:=VP h;have f:=VP q.1;have g:=VP f.1;have i:=VP g.1;haveI Q:=VP i.1;refine CX g.2 λM j H=>CX f.2 λO k d=>?_;subst j k;rcases Bool.or_eq_true_iff.mp i.2 with z|z
 .have A:=aD (VP z).1
  have c:=aD (VP z).2;subst A c;exact Um 0 1 M O e rfl rfl (.inl ⟨rfl,rfl⟩) ((a0T).mp H) ((a0T).mp d) (fV Q.1) (fV Q.2) q.2
 .have A:=aD (VP z).1
  have c:=aD (VP z).2;subst A c;exact Um 1 0 M O e rfl rfl (.inr ⟨rfl,rfl⟩) ((a0T).mp H) ((a0T).mp d) (fV Q.1) (fV Q.2) q.2
theorem Hn (h:JY t a b m o w) (h0:x<2) (H:c<2):
  (eY t (vC x c a (eY m 0)*2^0+vC x c b (eY m 1)*2^1)+o)%2=eY w (x+2*c):=by
 haveI A:=VU h x (by rcases(show x=0\/x=1 by lia) with rfl|rfl<;>simp);haveI d:=VU A c (by rcases(show c=0\/c=1 by lia) with rfl|rfl<;>simp);exact W3 d
theorem aH.setNew {M:List Nat} {H h:Hp} {k:Nat} (g:aH M H h) (h0:ac H k=none) (c:aB):aH M H (bj h k c):=
 ⟨λx y j Y=>au (iw h0 Y)<|g.get x y j Y,de g.wf _ _⟩
theorem BR.setL {p H:Hp} {l:Nat} {s:aN} {B:BS} {G:List Gt} {D:List<|Int×V} (h:BR p H l s B G D) {k:Nat} {v r:List V} (y:ac H k=some (.lst v)) (J:ac p k=none) (L:k∉B.M):BR p (bj H k<|.lst r) l s B G D:=by
 haveI N:∀x c,ac H x=some c->(∀d,c≠.lst d)->ac (bj H k<|.lst r) x=some c:=λx c j u=>by exact au (cq y j<|u _) j
 haveI q:∀x c,x∈B.M->ac H x=some c->ac (bj H k<|.lst r) x=some c:=λx c A j=>by exact au (λz=>L<|z▸A) j
 exact⟨aJ.set h.g J,h.lib,h.fr,N _ _ h.ins' (λU z=>by cases z),N _ _ h.ns' (λU z=>by cases z),N _ _ h.hd (λU z=>by cases z),
  ⟨N _ _ h.net.ins' (λU z=>by cases z),N _ _ h.net.ns' (λU z=>by cases z),q _ _ (by simp[BS.net]) h.net.hi,q _ _ (by simp[BS.net]) h.net.ho,q _ _ (by simp[BS.net]) h.net.hc,h.net.io,h.net.ic,h.net.oc⟩⟩
theorem KM (m i:Nat):Nat.land (Nat.shiftRight m i) 1=eY m i:=by show(m >>> i)&&& 1=m/2^i%2;simp only [a1J,Xo]
theorem BR.notM {q H:Hp} {l:Nat} {s:aN} {B:BS} {G:List Gt} {D:List<|Int×V} (h:BR q H l s B G D) {k:Nat} (j:ac H k=none):k∉B.M:=λp=>by
 simp only [Z6,Xu,or_false] at p;rcases p with z|z|z|z|z;.have:=h.net.ns';rw[show(B.net G).d=k from z.symm,j] at this;cases this
 .have:=h.net.hi;rw[show(B.net G).i=k from z.symm,j] at this;cases this
 .haveI:=h.net.ho;rw[show(B.net G).o=k from z.symm,j] at this;cases this
 .have:=h.net.hc;rw[show(B.net G).c=k from z.symm,j] at this;cases this
 .have:=h.hd;rw[<-z,j] at this;cases this
theorem up {n:Nat} {f H:Hp} {l:Nat} {s:aN} {B:BS} {g:List Gt} {D:List<|Int×V} {x:Nat} (O:s.Ok) (h:uA f H l s B g D) (p:x<4+g.length) (G:g.length<400) (i:s.inv.isSome=true) {Q:V->Hp->Prop} {X:V->Hp->Prop}
  (q:∀y b d c,uA f c l s B (g++b) d->b.length<=1->y<4+(g++b).length->(∀r,bk r (g++b) y=1-bk r g x)->aH B.M H c->Q (.int<|.ofNat y) c):W (bG (n+3) 67 [.ref B.ref,.int<|.ofNat x] H) Q X:=
 zI O h p G (λy b d c A j k m o U=>q y b d c A j k m o) λe=>by rw[e] at i;cases i
theorem OW {v y:List Nat} {p q:Nat} (h:y.map (λx=>v.getD x 0)=[p,q]):hU v y 0=p*2^0+q*2^1:=by
 cases y with
 |nil=>cases h
 |cons a y=>cases y with
  |nil=>cases h
  |cons b y=>cases y with
   |nil=>injection h with H h;injection h with c;simp only [<-H,<-c];rfl
   |cons=>cases h
theorem GX {n:Nat} {H0 H:Hp} {l:Nat} {s:aN} {B:BS} {g:List Gt} {D:List<|Int×V} {Lr L M:Nat} {t:Int} {mv:V} (so:s.Ok) (h:uA H0 H l s B g D) (hL:ac H Lr=some (.lst<|bl [L,M])) (hLM:Lr∉B.M)
  (hx0:L<4+g.length) (hx1:M<4+g.length) (hM:tH s t mv) (hg:g.length<390) {Q:V->Hp->Prop} {X:V->Hp->Prop}
  (q:∀y f O v,uA H0 v l s B (g++f) O->f.length<=4->y<4+(g++f).length->(∀r,bk r (g++f) y=eY t.toNat (bk r g L+2*bk r g M))->aH B.M H v->(s.inv=none->2<=y)->Q (.int<|.ofNat y) v):
  W (bG (n+4) 68 [.ref B.ref,.ref Lr,.int t,mv] H) Q X:=by
 obtain⟨c,hc,d,m,o,rfl,⟨k,rfl,hfit⟩,hmo⟩:=hM;obtain⟨a,b,m',o',rfl,rfl,rfl,hab,m,ho2,d,k,hN⟩:=E5 hfit;refine kh (so.gt c hc) λc1 c2 c3=>?_;have hcs:c∈s.cs:=a1j _ hc;haveI hcA:=h.libNow.cell c hcs;refine bE (ax rfl) rfl (let d:=bG<|n+3;cK (cl:=d) rfl ?_);walk_at"W";refine bg h.g.wf rfl λiR H1 G1 hi1 i0=>?_;haveI h1:=h.grow G1;haveI iM:=h.toBR.notM i0;haveI iH0:=h.g.old i0;haveI hcA1:=hcA.grow G1;walk_at"W";refine QD c1 ?_;let L1:Sg:=[(5,.ref B.ref),(118,.ref Lr),(36,.tup<|bD [.ofNat a,.ofNat b]),(55,.int<|.ofNat m'),(22,.ref iR),(25,.ref c.ref),(20,.int<|.ofNat o')]
 let I1:Nat->Sg->Hp->Prop:=λi e v=>∃f O Y,uA H0 v l s B (g++f) O/\f.length<=i/\Y.length=i/\ac v iR=some (.lst<|bl Y)/\(∀y∈Y,y<4+(g++f).length)/\
   (∀r,Y.map (bk r<|g++f)=([vC (bk r g L) (bk r g M) a<|eY m' 0,vC (bk r g L) (bk r g M) b<|eY m' 1]).take i)/\aH B.M H v/\iz e L1
 refine eA (I:=I1) (by decide)
  ⟨[],D,[],by simp only [Ya];exact h1,XA _,rfl,hi1,λy hy=>(by cases hy),λr=>rfl,G1.m,by walk_at"lq"⟩ (λe v hI=>?_) λi hi e v hI=>?_
 .refine T4 hI λf O Y p he hy hiR hyl hv G Kz=>?_
  have hcB:=p.libNow.cell c hcs;refine aE<|fe ?_;refine aF (wM<|aO (by walk_at"lk")<|p.attr rfl<|fF p.net.ins' p.net.ns' rfl rfl ?_);repeat (first|walk_at"w"|refine p.attr rfl ?_)
  refine tL hiR (by show Nat.blt _ _=true;simp only [a0T];unfold bl;simp only [XK];exact ED hy<|by decide) ?_;repeat (first|walk_at"w"|refine p.attr rfl ?_)
  refine lm p.g.wf p.net (show(bS 0 _).length<1000 by simp only [cV,Yb];exact MR hg he<|by decide) (λv U x k=>vE (by show Nat.blt _ _=true;simp only [a0T];unfold bl;simp only [XK];exact ED hy<|by decide) k) λN G2 N2=>?_;haveI hr2:BR H0 N l s B (g++f++[⟨c,Y⟩]) O:=p.toBR.addG G2 (by exact N2);have u:uA H0 N l s B _ O:=⟨hr2,p.bi.addG hcs (by show(Int.ofNat Y.length)=c.ins;simp only [hy,c1];rfl) hyl<|by show c.ins≠1;simp only [c1];decide⟩
  have G3:=G.trans<|G2.sub<|jX B _;have o:∀r,bk r (g++f++[⟨c,Y⟩]) (4+(g++f).length)=eY c.tb.toNat _:=λr=>by simp only [ms];exact Wh _<|OW<|hv r
  have d:∀r,(bk r (g++f++[⟨c,Y⟩]) (4+(g++f).length)+o')%2=eY t.toNat _:=λr=>by refine qL (o r) ?_;exact Hn hN (dC r _ g rfl L)<|dC r _ g rfl M
  have m:4+(g++f).length<4+(g++f++[(⟨c,Y⟩:Gt)]).length:=by simp only [Yb (as:=g++f)];show _<4+((g++f).length+1);exact XA _
  refine bf rfl (aE<|lP<|jN<|aO (by walk_at"lk") ?_);rcases fD ho2 with rfl|rfl
  .refine nZ rfl (cH ?_)
   walk_at"W";refine q _ (f++[⟨c,Y⟩]) O N (by simp only [<-Yg];exact u) (by simp only [Yb];show f.length+1<=4;exact VW ‹_›<|by decide) (by simp only [<-Yg];exact m) (λr=>?_) G3 (λU=>by exact Nat.le_add_right_of_le<|by decide);simp only [<-Yg,<-d r,a1K,a1L<|dC r _ _ rfl _];rfl
  .have A:s.inv.isSome=true:=by
    rcases hmo with⟨_,z⟩|z;.have:=bo (z:Int.ofNat 1=.ofNat 0);cases this
    .exact z
   refine kY rfl (aE<|t9<|aF<|aO (by walk_at"lk")<|fF u.ins' u.ns' rfl rfl ?_);walk_at"W";refine up so u m (by simp only [Yb];exact a0e<|MR hg he<|by decide) A λy j D2 H3 k he3 x hv3 J=>?_;have ea:g++f++[⟨c,Y⟩]++j=g++(f++[⟨c,Y⟩]++j):=by simp
   rw[ea] at k x;refine q y _ D2 H3 k (by simp only [Yb];exact CH (XE he) he3<|by decide) x (λr=>?_) (G3.trans J) (λz=>by rw[z] at A;cases A);haveI h3:=hv3 r;rw[ea] at h3;simp only [h3,<-d r];haveI:=dC r _ (g++f++[⟨c,Y⟩]) rfl<|4+(g++f).length;rcases fD this with z|z<;>simp only [z]
 .refine T4 hI λf O Y p he hy hiR hyl hv G Kz=>?_
  haveI hL':=G.get _ _ hLM hL;refine hH rfl λN1 B1 C1 gN U U=>?_;obtain⟨od,ho,hod⟩:∃od,[a,b][i]?=some od/\(od=0\/od=1):=by
   rcases fD hi with rfl|rfl;.exact bK a rfl<|hab.imp (·.1) (·.1)
   .exact bK b rfl<|hab.symm.imp (·.2) (·.2)
  obtain⟨x,hx,hxl,hxv⟩:∃x,[L,M][od]?=some x/\x<4+g.length/\∀r,bk r g x=(match Nat.beq od 0 with|true=>bk r g L|false=>bk r g M):=by
   rcases hod with rfl|rfl;.exact jy L rfl hx0  λU=>rfl
   .exact jy M rfl hx1  λU=>rfl
  haveI hxl':x<4+(g++f).length:=by simp only [Yb];exact Kp hxl
  haveI hxe:∀r,bk r _ x=bk r g x:=λr=>fB hxl f;walk_at"W";refine az (qG (show(bD [.ofNat a,.ofNat b])[i]?=some _ by
   haveI:(([a,b]).map λk=>V.int<|.ofNat k)[i]?=some _:=by simp only [a0c,ho];rfl
   exact this)) ?_
  refine az (aQ hL'<|by unfold bl;simp only [a0c,hx];rfl) ?_;walk_at"W";simp only [KM];have hpi:∀r,([vC (bk r g L) (bk r g M) a _,vC (bk r g L) (bk r g M) b _])[i]?=some ((bk r g x+eY m' i)%2):=λr=>by
   refine qL (hxv r) ?_;rcases fD hi with rfl|rfl
   .have:a=od:=by haveI ho:=ho;injection ho
    subst this;rfl
   .have:b=od:=by haveI ho:=ho;injection ho
    subst this;rfl
  haveI u:=zB m' i;have app:∀(σ':Sg) (y:Nat) (j:List Gt) (D2:List _) (N:Hp),uA H0 N l s B (g++(f++j)) D2->j.length<=1->y<4+(g++(f++j)).length->(∀r,bk r (g++(f++j)) y=(bk r g x+eY m' i)%2)->aH B.M v N->
    iz σ' L1->look σ' 14=some (.int<|.ofNat y)->
    WS (ad [aM<|aj mt (ab 22) 0 [ab 14]] (bG<|n+3) σ' N) N1 B1 C1 Q X:=by
   intro σ' y j D2 N m he2 o hv2 G2 J j14;haveI d:=G2.get _ _ iM hiR;refine aE (bx<|aF<|aO (J.get rfl)<|eL d<|aO j14<|eC d (by unfold bl;simp only [XK];exact ED hy<|Xk hi<|by decide)<|wu<|cH ?_);haveI en:bl Y++[V.int _]=bl (Y++[y]):=by unfold bl;simp only [a0n];rfl
   refine qL en ?_;haveI hle:4+(g++f).length<=4+(g++(f++j)).length:=by simp only [<-Yg,Yb (as:=g++f)];exact Wo (Wp _ _) 4
   refine gN _ _ ⟨f++j,D2,Y++[y],⟨m.toBR.setL d iH0 iM,m.bi⟩,by simp only [Yb];exact WT he he2,by simp only [Yb,hy];rfl,aV d,λz hz=>?_,λr=>?_,(G.trans G2).setNew i0 _,J⟩
   .rcases a0P.mp hz with hz|hz
    .haveI:=hyl z hz;exact WR ‹_› ‹_›
    .rw[a0o] at hz;simp only [hz];exact o
   .simp only [a0n,List.take_succ,hpi r,<-hv r]
    show _++[bk r _ y]=_++[_];refine qL (hv2 r) ?_
    congr 1
    refine List.map_inj_left.mpr λz hz=>?_;simp only [<-Yg,fB<|hyl z hz]
  rcases fD u with e0|e1
  .rw[e0] at app⊢
   refine nZ rfl<|cH ?_;refine(app _ x [] O v (by simp only [Ya];exact p) (VY _) (by simp only [Ya];exact hxl') (λr=>by simp only [Ya,hxe r,a1K,a1L<|dC r _ g rfl x]) (.refl p.g.wf) (by walk_at"lq")<|by walk_at"lk")
  .haveI A:s.inv.isSome=true:=by
    rcases hmo with⟨z,_⟩|z
    .haveI:=bo (z:Int.ofNat m'=.ofNat 0)
     subst this;rw[show eY 0 i=0 by unfold eY;simp only [Nat.zero_div]] at e1;cases e1
    .exact z
   rw[e1] at app⊢;refine kY rfl (aE<|fe<|aF<|aO (by walk_at"lk")<|fF p.ins' p.ns' rfl rfl ?_);walk_at"W";refine up so p hxl' (by simp only [Yb];exact MR hg (Wk he<|WO hi)<|by decide) A λy j D2 N m he2 o hv2 G2=>bf rfl<|cH ?_;rw[Yg] at m o;refine(app _ y j D2 N m he2 o (λr=>by haveI:=hv2 r;simp only [Yg,hxe r] at this;refine qL this ?_;haveI:=dC r _ g rfl x;rcases fD this with z|z<;>simp only [z]) G2 (by walk_at"lq")<|by walk_at"lk")
noncomputable def Lu (r:Nat) (v:List Nat) (o:Option<|Nat×Nat):List Nat:=v++[match o with
 |none=>(match v.length with|0=>0|1=>r%2|_=>r/2%2)
 |some p=>((v.getD (p.1/2) 0+p.1%2)%2)*((v.getD (p.2/2) 0+p.2%2)%2)]
noncomputable def Vn (r:Nat) (n:iQ):List Nat:=n.foldl (Lu r) []
noncomputable def gq (r:Nat) (n:iQ) (i:Nat):Nat:=(Vn r n).getD i 0
noncomputable def v8 (r:Nat) (n:iQ) (l:Nat):Nat:=(gq r n (l/2)+l%2)%2
def RG (p:eF×Nat×List Nat×Nat):Bool:=Gy p.2.2.1 λa b=>[0,1,2,3].all λr=>Nat.beq (gq r p.1.aig.ns p.2.1)<|eY p.2.2.2<|gq r p.1.aig.ns a+2*gq r p.1.aig.ns b
theorem Cd:tm.all RG:=by decide+kernel
theorem HC:bw.all (λc=>(decide (c.aig.ns.take 3=[none,none,none])&&(c.aig.ns.drop 3).all Option.isSome)&&[0,1,2,3].all λr=>Nat.beq (gq r c.aig.ns 0) 0&&Nat.beq (gq r c.aig.ns 1) (r%2)&&Nat.beq (gq r c.aig.ns 2) (r/2%2)):=by decide+kernel
theorem r4 (h:r<4):r∈[0,1,2,3]:=by rcases(JF<|by assumption) with rfl|rfl|rfl|rfl<;>simp
theorem FZ (h:(c,i,[a,b],t)∈tm) (H:r<4):gq r c.aig.ns i=eY t (gq r c.aig.ns a+2*gq r c.aig.ns b):=by haveI:=VU Cd _ h;exact W3<|VU this r<|r4 H
structure Ny (c:eF):Prop where
 val:∀r<4,gq r c.aig.ns 0=0/\gq r c.aig.ns 1=r%2/\gq r c.aig.ns 2=r/2%2
 low:∀i:Nat,i<3->c.aig.ns[i]?=some none
 hi:∀(i:Nat) o,3<=i->c.aig.ns[i]?=some o->∃p,o=some p
 len:3<=c.aig.ns.length
theorem Ew (d:c∈bw):Ny c:=by
 haveI h:=VU HC c d;rw[XR] at h;obtain⟨H,b⟩:=h;simp only [XR] at H;have e:c.aig.ns=none::none::none::c.aig.ns.drop 3:=by have:=a0G 3 c.aig.ns;rw[Xm H.1] at this;exact this.symm
 replace H:=H.2;generalize c.aig.ns.drop 3=l at e H;refine⟨λr g=>?_,λi f=>?_,λi o f O=>?_,by rw[e];simp⟩
 .haveI:=VU b r (r4 g)
  simp only [XR,XR] at this;exact mP (W3 this.1.1) (W3 this.1.2)<|W3 this.2
 .rw[e]
  rcases(yz<|by assumption) with rfl|rfl|rfl<;>rfl
 .rw[e] at O
  obtain⟨k,rfl⟩:∃k,i=k+3:=⟨i-3,(VV<|by assumption).symm⟩
  haveI O:l[k]?=some o:=by simpa using O
  have:=VU H o<|a0Z O;exact VQ this
structure I5 (s:aN) (c:eF) (gs:List Gt) (ons:List Nat):Prop where
 bi:∃D,BI s gs D
 ol:ons.length=c.aig.outs.length
 lt:∀y∈ons,y<4+gs.length
 val:∀r<4,ons.map (bk r gs)=c.aig.outs.map (v8 r c.aig.ns)
 few:gs.length<=30
noncomputable def ux (s:aN) (n:iQ):Prop:=∀(i:Nat) p,n[i]?=some (some p)->∃q∈cy (some p),zg s (.ofNat q.2)=true
noncomputable def nr (o:List Nat):Prop:=∃l∈o,l%2=1/\l/2≠0
noncomputable def Je (s:aN) (c:eF) (k:List Nat):Prop:=JG s c.aig.ns k\/(ux s c.aig.ns/\s.inv=none/\k=fH/\nr c.aig.outs)
theorem pv.all (h:pv s N x):ux s N:=λi p r=>by refine aI (h.at' i _ r) λv U u=>?_;obtain⟨q,Q,_,_,j,_⟩:=u;exact bK q Q j
noncomputable def iW (s:aN) (c:eF) (g:List Gt) (D:List<|Int×V) (P:Nat->Prop):Prop:=∀x:Nat,P x->∃y:Nat,eQ D (.ofNat x)=some (.int<|.ofNat y)/\y<4+g.length/\(∀r<4,bk r g y=gq r c.aig.ns x)/\(x≠0->s.inv=none->2<=y)
theorem iW.ext {j:List Gt} (h:iW s c G D P):iW s c (G++j) D P:=λx L=>by exact uj (h x L) λy p q u A=>y7 y p (by rw[Yb];lia) (λr J=>by rw[fB q];exact u r J) A
theorem iW.put (h:iW s c G D P) (p:y<4+G.length) (q:∀r<4,bk r G y=gq r c.aig.ns i) (u:i≠0->s.inv=none->2<=y):
  iW s c G (cP D (.ofNat i)<|.int<|.ofNat y) (λx=>P x\/x=i):=λx j=>by
 rw[dD,fk];by_cases e:i=x
 .subst e
  refine qL (Xh rfl) ?_;exact y7 y rfl p q u
 .rw[Xa e]
  exact j.elim (λj=>h x j) λj=>(e j.symm).elim
theorem yV (h0:ac H n=some (.lst [x])) (e:cU c t x=some d)
  (h:WS (b L d H) (λc H=>ac H n=some (.lst [x])/\N c H) N (λc H=>ac H n=some (.lst [x])/\N c H) T X):WS (jB t b (.ref n) L cS 0 c H) N B o T X:=by
 refine eM (f:=id) (l:=[x]) (I:=λi g j=>ac j n=some _/\match i with|0=>g=c/\j=H|_+1=>N g j) (by show 1<=4000;decide) ⟨h0,rfl,rfl⟩ (λi g j h=>h.1) (λg j h=>h.2) λi k g j m=>?_;obtain rfl:i=0:=by haveI:i<1:=k;exact Nat.lt_one_iff.mp k
 refine kh m λU q Q=>?_;subst q Q;exact bK d e h
def IY:S:=ad [ai (.tup [118,38,101])<|aq (ab 114)<|ab 39,bN (ab 18) (ab 39)<|aj mt (ab 131) 132 [bQ [18] (.loc 122) (ab 118)<|cr<|aq (ab 18)<|ab 122,ab 38,ab 101]]
theorem D8:bw.all (λc=>Nat.ble c.aig.ns.length 7):=rfl
theorem P6 (h:c∈bw):c.aig.ns.length<=7:=Xi<|VU D8 c h
theorem qu:x∈eW n w↔x<n.length/\w[x]?=some true/\∃p,n[x]?=some (some p):=by
 delta eW;rw[a1q,List.mem_range'_1,a0I];refine⟨λh=>?_,λh=>⟨⟨VY _,h.1⟩,?_⟩⟩
 .haveI c:=VP h.2
  refine⟨h.1.2,?_,(VQ c.2).elim λp e=>ao e λo e h=>⟨p,e.trans<|Wh some h⟩⟩;have H:=c.1;cases e:w[x]? with
  |none=>exact absurd H<|e▸nofun
  |some b=>rw[e] at H;exact Wh some H
 .obtain⟨_,c,p,H⟩:=h
  unfold qO;rw[c,H];rfl
theorem vc (n:iQ) (w:List Bool):(eW n w).Pairwise (·<·):=List.Pairwise.filter _  List.pairwise_lt_range'
theorem Ae {n:iQ} {w:List Bool} {j:Nat} (J:j<(eW n w).length) (b:x∈eW n w) (h:x<(eW n w)[j]):x∈(eW n w).take j:=by
 obtain⟨i,H,rfl⟩:=a1M b;have:i<j:=by
  rcases WJ i j with q|q;.exact q
  .rcases WJ j i with r|r
   .haveI:=List.pairwise_iff_getElem.mp (vc n w) j i J H r
    exact absurd this<|Nat.lt_asymm h
   .obtain rfl:i=j:=by exact a02 ‹_› ‹_›
    exact((XM _) ‹_›).elim
 exact List.mem_take_iff_getElem.mpr ⟨i,Nat.lt_min.mpr ⟨this,H⟩,rfl⟩
structure Rf (H2 Hz:Hp) (l dn:Nat) (s:aN) (c:eF) (B:BS) (P:Nat->Prop) (j:Nat) (gs:List Gt) (D Dn:List<|Int×V) (H:Hp):Prop where
 g:aH (dn::B.M) Hz H
 b:uA H2 H l s B gs D
 hd:ac H dn=some (.dct<|dK V.int Dn)
 nt:iW s c gs Dn P
 z:eQ Dn 0=some (.int 0)
 gl:gs.length<=4*j
 dl:Dn.length<=3+j
theorem BR.setDn (h:BR p H l s B G D) (u:ac H k=some (.dct v)) (A:ac p k=none) (J:k∉B.M):BR p (bj H k<|.dct q) l s B G D:=by
 haveI N:∀x c,ac H x=some c->(∀d,c≠.dct d)->ac (bj H k<|.dct q) x=some c:=λx c j r=>by exact au (cq u j<|r _) j
 haveI L:∀x c,x∈B.M->ac H x=some c->ac (bj H k<|.dct q) x=some c:=λx c y j=>by exact au (λz=>J<|z▸y) j
 exact⟨aJ.set h.g A,h.lib,h.fr,N _ _ h.ins' (λU z=>by cases z),N _ _ h.ns' (λU z=>by cases z),L _ _ (.tail _<|.tail _<|.tail _<|.tail _<|.head _) h.hd,
  ⟨N _ _ h.net.ins' (λU z=>by cases z),N _ _ h.net.ns' (λU z=>by cases z),N _ _ h.net.hi (λU z=>by cases z),N _ _ h.net.ho (λU z=>by cases z),N _ _ h.net.hc (λU z=>by cases z),h.net.io,h.net.ic,h.net.oc⟩⟩
theorem Du (n:iQ) (w:List Bool):(eW n w).length<=n.length:=by haveI:=a1b (qO n w)<|List.range' 0 n.length;rw[a1E] at this;exact this
theorem DB (so:s.Ok) (hc:c∈bw) (Ch:pv s c.aig.ns ch)
  (hm:ac H2 m=some (.lst ch)) (hk:ac Hz k=some (.lst<|bl<|eW c.aig.ns L)) (Wn:OL c.aig.ns c.aig.outs ch L) (kM:k∉O::B.M) (dM:O∉B.M) (d2:ac H2 O=none)
  (M:Rf H2 Hz l O s c B (λx=>x<3) 0 [] D0 Dn0 Hz) (k18:look d 18=some (.ref O)) (k114:look d 114=some (.ref m)) (k131:look d 131=some (.ref B.ref))
  (q:∀e H j G D u,j<=7->(∀y,[39,118,38,101].contains y=false->look e y=look d y)->Rf H2 Hz l O s c B (λx=>x<3\/x∈eW c.aig.ns L) j G D u H->N e H):
  WS (jB (.loc 39) IY (.ref k) (bG<|n+8) cS 0 d Hz) N B' C' T X:=by
 haveI IA:=Ew hc;haveI nl:=(oZ hc).1;haveI J:=Du c.aig.ns L;have l7:=P6 hc;let I1_:Nat->Sg->Hp->Prop:=λj e H=>(∀y,[39,118,38,101].contains y=false->look e y=look d y)/\∃G D u,Rf H2 Hz l O s c B (λx=>x<3\/x∈(eW c.aig.ns L).take j) j G D u H;refine iS (f:=λx:Nat=>V.int<|.ofNat x) (l:=eW c.aig.ns L) (I:=I1_) (Wk J<|Wk l7<|by decide)
  ⟨λU U=>rfl,[],D0,Dn0,⟨M.g,M.b,M.hd,λx hx=>M.nt x (hx.elim id λh=>by cases h),M.z,M.gl,M.dl⟩⟩ (λi e H h=>?_) (λe H h=>?_) λj x hj hx0 hxm hxk e H h=>?_
 .obtain⟨_,_,_,_,h⟩:=h
  exact h.g.get _ _ kM hk
 .obtain⟨Q,G,D,u,h⟩:=h
  replace h:=a05▸h;exact q e H _ G D u (Wk ‹_› ‹_›) Q h
 .obtain⟨Q,G,D,u,h⟩:=h
  refine hH rfl λN1 B1 C1 gN U U=>?_;haveI htk:∀y,y∈eW c.aig.ns L->y<x->y∈(eW c.aig.ns L).take j:=λy h1 h2=>Ae hj h1<|((List.getElem?_eq_some_iff.mp hx0).2)▸h2;haveI hts:∀y,(y<3\/y∈(eW c.aig.ns L).take (j+1))->(y<3\/y∈(eW c.aig.ns L).take j)\/y=x:=λy Y=>by
   rcases Y with Y|Y;.exact .inl<|.inl Y
   .rw[hxk,a0P,a0o] at Y
    exact Y.elim (λh=>.inl<|.inr h) .inr
  obtain⟨o,hx2,p,g⟩:=qu.mp hxm;obtain⟨v,hv,⟨⟨o,t⟩,hq,mv,rfl,_,hM⟩⟩:=Ch.at' x _ g;haveI OA:=x8 hc g hq;refine du OA.lv λa b els la lb=>?_;subst els;haveI lv:=Wn.lv x p [a,b] _ mv g hx2 hv;haveI x3:3<=x:=by
   rcases WJ x 3 with z|z;.haveI:=IA.low x z;have g:=W2<|this.symm.trans g;cases g
   .exact z
  have leaf:∀y,y∈[a,b]->y<x->y<3\/y∈(eW c.aig.ns L).take j:=λy Y hl=>by
   rcases WJ y 3 with z|z;.exact .inl z
   .obtain⟨o,t⟩:∃o,c.aig.ns[y]?=some o:=⟨_,a00<|by lia⟩
    obtain⟨v,rfl⟩:=IA.hi y o z t;exact .inr (htk y (qu.mpr ⟨by lia,lv y Y,v,t⟩) hl)
  refine uj (h.nt a<|leaf a (.head _) la) λya ea va1 va2 U=>uj (h.nt b<|leaf b (.tail _<|.head _) lb) λyb eb vb1 vb2 U=>?_;haveI hm4:=h.b.g.get _ _ hm;have q18:=(Q 18 rfl).trans k18;haveI q114:=(Q 114 rfl).trans k114;haveI q131:=(Q 131 rfl).trans k131;delta IY;walk_at"W";refine az (aQ hm4 hv) ?_;walk_at"W";refine cW<|aF ?_;walk_at"W";refine fF h.b.ins' h.b.ns' rfl rfl ?_;walk_at"W";refine mq (wa<|by walk_at"lk") ?_;walk_at"W";refine⟨rfl,nP (by decide)  rfl  rfl<|ci ?_⟩;walk_at"W";refine az ((ir jc h.hd).trans ea) ?_;refine nP (by decide)  rfl  rfl<|ci ?_;walk_at"W";refine az ((ir jc h.hd).trans eb) (sa (by decide) rfl ⟨rfl,fy h.b.g.wf λt o G1 hL l0=>?_⟩);haveI b1:=h.b.grow G1;walk_at"W";refine GX so b1 hL (h.b.notM l0) va1 vb1 hM (fQ (Wk h.gl<|a0L 4<|WO<|WR hj<|Wk J l7)<|by decide) λy ext D' H' b2 el yl yv g' y2=>?_;walk_at"W";haveI A:=g'.get _ _ dM<|G1.get _ _ h.hd;haveI GA:=(h.g.trans G1.m).trans<|g'.sub λx hx=>Xw _ hx;refine i8 jc A (fQ (Wk h.dl<|Wo (WO<|WR hj<|Wk J l7) 3)<|by decide) ?_;haveI n3:=(h.nt.ext).put yl (λr o=>by simp only [yv r,va2 r o,vb2 r o];exact(FZ OA.mem o).symm)  λU=>y2;refine gN _ _ ⟨aK (aK (aK (aK Q rfl) rfl) rfl) rfl,G++ext,D',_,⟨GA.trans<|.set GA.wf (Xz ..) _,?_,aV A,λy Y=>n3 y<|hts y Y,?_,?_,?_⟩⟩;.exact⟨b2.toBR.setDn A d2 dM,b2.bi⟩
  .rw[dD,show ieq _ 0=ieq _ (Int.ofNat 0) from rfl,fk,Xa<|Nat.ne_zero_of_lt la];exact h.z
  .simp only [Yb];exact WT h.gl el
  .exact Wk (iG (.ofNat x) (V.int<|.ofNat y) u)<|XE h.dl
def Jp:S:=ad [ai (.loc 14)<|aq (ab 18)<|ap .shr (ab 40)<|eK<|.int 1,br (aW<|ap .band (ab 40)<|eK<|.int 1) (ad [ai (.loc 14)<|aj mt (ab 131) 128 [ab 14]])<|ad [],aM<|aj mt (ab 70) 0 [ab 14]]
structure T3 (H2 Hz:Hp) (l sR:Nat) (s:aN) (c:eF) (B:BS) (i:Nat) (gs:List Gt) (D:List<|Int×V) (ys:List Nat) (H:Hp):Prop where
 g:aH (sR::B.M) Hz H
 b:uA H2 H l s B gs D
 hs:ac H sR=some (.lst<|bl ys)
 len:ys.length=i
 lt:∀y∈ys,y<4+gs.length
 val:∀r<4,ys.map (bk r gs)=(c.aig.outs.take i).map (v8 r c.aig.ns)
 gl:gs.length<=28+i
 odd:s.inv=none->∀l∈c.aig.outs.take i,l%2=1->l/2=0
theorem DT {a:AG} (so:s.Ok) (hc:c∈bw)
  (ha:a.At J c.aig) (dM:dn∉sR::B.M) (sM:sR∉B.M) (s2:ac J sR=none) (b0:uA J Hz l s B G D0) (hs:ac Hz sR=some (.lst [])) (hd:ac Hz dn=some (.dct<|dK V.int Dn)) (nt:iW s c G Dn P) (z:eQ Dn 0=some (.int 0)) (gl:G.length<=28) (hP:∀l∈c.aig.outs,P<|l/2)
  (k18:look b 18=some (.ref dn)) (k70:look b 70=some (.ref sR)) (k131:look b 131=some (.ref B.ref))
  (qx:∀H,aJ J H->s.inv=none->nr c.aig.outs->X (.tup [.int<|.ofNat 1,.str fH,.int (-1),.str []]) H)
  (q:∀j H G D Y,(∀y,[40,14].contains y=false->look j y=look b y)->T3 J Hz l sR s c B c.aig.outs.length G D Y H->N j H):
  WS (jB (.loc 40) Jp (.ref a.o) (bG<|n+8) cS 0 b Hz) N B' C' T X:=by
 obtain⟨_,o⟩:=kA hc;let I1_:Nat->Sg->Hp->Prop:=λi j H=>(∀y,[40,14].contains y=false->look j y=look b y)/\∃d D Y,T3 J Hz l sR s c B i (G++d) D Y H;refine iS (f:=λx:Nat=>V.int<|.ofNat x) (I:=I1_) (WO<|WR ‹_›<|by decide)
  ⟨λU U=>rfl,[],D0,[],by simp only [Ya];exact⟨.refl b0.g.wf,b0,hs,rfl,λU h=>(by cases h),λU U=>rfl,gl,λU U h=>by cases h⟩⟩ (λi j H h=>?_) (λj H h=>?_) λi L hi U hlm htk j H h=>?_
 .obtain⟨_,_,_,_,h⟩:=h
  exact h.b.g.get _ _ ha.ho
 .obtain⟨ks,d,D,Y,h⟩:=h
  exact q j H _ D Y ks h
 .obtain⟨ks,d,D,Y,h⟩:=h
  refine hH rfl λN1 B1 C1 gN U U=>?_;refine uj (nt _<|hP L hlm) λy u yl yv y2=>?_;haveI hd1:=h.g.get _ _ dM hd;haveI q18:=(ks 18 rfl).trans k18;haveI q131:=(ks 131 rfl).trans k131;have yl':y<4+(G++d).length:=by simp only [Yb];exact Kp yl
  haveI yv':∀r,bk r _ y=bk r G y:=λr=>fB yl d;have O:2<=y->L/2≠0:=λh2 e=>by rw[e] at u;rw[show Int.ofNat 0=0 from rfl,z] at u;injection u with u;injection u with u;haveI:=bo  u;lia
  have fin:∀(p:Sg) (o:Nat) g D2 M,(∀y,[40,14].contains y=false->look p y=look b y)->look p 14=some (.int<|.ofNat o)->uA J M l s B (G++g) D2->(∃e,g=d++e/\e.length<=1)->o<4+(G++g).length->
    (∀r<4,bk r (G++g) o=v8 r c.aig.ns L)->aH B.M H M->(s.inv=none->L%2=1->L/2=0)->WS (ad [aM<|aj mt _ 0 [ab 14]] (bG<|n+8) p M) N1 B1 C1 T X:=λp o g D2 M kσ k14 Q he k hv g' hodd=>by
   refine aI he λe q1_ he=>?_;subst q1_;haveI A:G++(d++e)=(G++d)++e:=(Yg ..).symm;rw[A] at Q k hv;haveI m:=g'.get _ _ sM h.hs;refine aE (bx<|aF<|aO ((kσ 70 rfl).trans k70)<|eL m<|aO k14<|eC m (by unfold bl;simp only [XK,h.len];lia)<|wu<|cH ?_);haveI en:bl Y++[V.int _]=bl (Y++[o]):=by unfold bl;simp only [a0n];rfl
   refine qL en ?_;haveI GA:=h.g.trans<|g'.sub λx hx=>Xw _ hx;refine gN _ _ ⟨kσ,d++e,D2,Y++[o],GA.trans<|.set GA.wf (Xz ..) _,by simp only [A];exact⟨Q.toBR.setL m s2 sM,Q.bi⟩,aV m,by simp only [Yb,h.len];rfl,λy v=>?_,λr t=>?_,?_,λhi l k=>?_⟩
   .rw[A,Yb]
    rcases a0P.mp v with v|v;.exact Kp<|h.lt y v
    .rw[VS v];rw[Yb] at k;exact k
   .simp only [A,htk,a0n,<-h.val r t]
    haveI e1:Y.map (bk r _)=Y.map (bk r _):=a0m λy v=>fB (h.lt y v) e;refine qL e1 ?_;show _++[bk r _ o]=_++[v8 r c.aig.ns L];exact qL (hv r t) rfl
   .rw[A,Yb];exact(WT h.gl ‹_›:_<=28+i+1)
   .rw[htk] at k
    exact(a0P.mp k).elim (λk=>h.odd hi l k) λk=>(VS k)▸(hodd hi)
  delta Jp;walk_at"W";refine az ((ir jc hd1).trans ‹_›) ?_;walk_at"W";simp only [show L.land 1=L%2 from a1J L];rcases Wi L with e|e
  .simp only [e]
   refine nZ rfl<|cH ?_;refine fin _ y d D H (aK (aK ks rfl) rfl) (by walk_at"lk") h.b ⟨[],by simp,by simp⟩ yl' (λr t=>?_) (.refl h.b.g.wf) λU z=>by lia
   simp only [yv' r,yv r t];unfold v8;haveI:=dC r _ G rfl y;rw[yv r t] at this;simp only [e,a1K,a1L this]
  .simp only [e]
   refine kY rfl (aE<|fe<|aF<|aO (by walk_at"lk")<|fF h.b.ins' h.b.ns' rfl rfl ?_);walk_at"W";refine zI so h.b yl' (fQ h.gl<|fQ (Wo (WO<|Xk ‹_› ‹_›) 28)<|by decide) (λo ex D2 M Q el yl2 v2 g2 h2=>?_)  λhn h2=>?_
   .haveI A:G++d++ex=G++(d++ex):=Yg ..
    rw[A] at Q yl2;refine bf rfl (cH<|fin _ o (d++ex) D2 M (aK (aK (aK ks rfl) rfl) rfl) (by walk_at"lk") Q ⟨ex,rfl,el⟩ yl2 (λr t=>?_) g2 λhi U=>?_)
    .simp only [<-A,v2 r,yv' r,yv r t];unfold v8;simp only [e]
     haveI:=dC r _ G rfl y;rw[yv r t] at this;rcases fD this with z|z<;>simp only [z]
    .haveI:=h2 hi
     rcases a1I _ with z|z;.exact z
     .haveI:=y2 (Za ‹_›) hi;exact absurd ‹_›<|Nat.not_le.mpr ‹_›
   .exact qx _ h.b.g hn ⟨L,hlm,e,O h2⟩
theorem rS:∀(k:List<|List Nat) (n:Nat),(l6 n k).length=k.length:=by
 intro z;induction z with
 |nil=>exactλU=>rfl
 |cons _ k i=>intro n;show(l6 (n+1) k).length+1=_;rw[i];rfl
theorem tY:bw.all (λc=>Nat.beq c.aig.outs.length c.ks.length):=rfl
theorem mJ (h:c∈bw):c.aig.outs.length=c.ks.length:=W3<|VU tY c h
theorem NR {lo:E}
  (h:W (a c b H) (λv H=>W (lo c b H) (λx H=>∃i,x=.int i/\W (k c b H) (λy H=>∃j l,y=.int j/\yD H v=some l/\jE (jY l (some i)<|some j)/\Q (.ref<|ak H) ((ak H,.lst<|jY l (some i)<|some j)::H)) X) X) X):W (rz a (some lo) (some k) c b H) Q X:=by
 refine W.bind<|h.imp λv m h=>?_;refine W.bind<|W.bind<|h.imp λx m h=>?_;obtain⟨i,rfl,h⟩:=h;refine W.bind<|W.bind<|h.imp λy d h=>?_;obtain⟨j,l,rfl,e,f,g⟩:=h;show W (ro 83 _ λl=>fU (jY l _ _) d) Q X;exact e▸(gJ f g)
theorem sx (l:List V):jY l (some 0) (some<|.ofNat l.length)=l:=by
 show(l.take<|cond _ l.length l.length).drop _=l;haveI e:Nat.blt l.length l.length=false:=by cases h:Nat.blt l.length l.length with|false=>rfl|true=>exact((XM _)<|(a0T).mp h).elim
 haveI b:Nat.blt l.length 0=false:=by cases h:Nat.blt l.length 0 with|false=>rfl|true=>exact absurd ((a0T).mp h)<|W4 _
 refine qL e ?_;show(l.take l.length).drop 0=l;exact qL a05<|qL List.drop_zero rfl
theorem J3 (w:WF H) (hc:iO H c N L L2) (hl:bp H l s.cs) (so:s.Ok)
  (q:∀(N':NL) gs ons (L' O':Nat) u,aJ H u->N'.At u->N'.ins=[.tup [.str [97],.ref L']]->ac u L'=some (.lst [.int 2,.int 3])->N'.outs=[.tup [.str [121],.ref O']]->ac u O'=some (.lst<|bl ons)->N'.cells=bS 0 gs->
   I5 s c gs ons->ux s c.aig.ns->(s.inv=none->¬nr c.aig.outs)->Q (.ref N'.ref) u)
  (qx:∀kd u,aJ H u->Je s c kd->X (.tup [.int<|.ofNat 1,.str kd,.int (-1),.str []]) u):W (bG (n+9) 70 [.ref N.ref,.ref l,.int 2,.int 4] H) Q X:=by
 have IA:=Ew hc.mem;haveI nl:=(oZ hc.mem).1;refine bE (ax rfl) rfl (let g:=bG<|n+8;cK (cl:=g) rfl ?_);walk_at"W";refine wO w hc λa H1 G1 ha=>?_;walk_at"W";refine Bb G1.wf hc.mem ha (hl.grow G1) so (λm g H2 G2 j hm Ch=>?_)  λkd H2 G2 st=>qx kd H2 (G1.trans G2)<|.inl st;have G12:=G1.trans G2;have ha2:=ha.grow G2;have hc2:=hc.grow G12;repeat (first|walk_at"w"|refine hc2.at'.attr rfl ?_|refine mc ?_)
 refine nu G2.wf λR H3 G3 hR rnm rcnt rins routs rcells rfr=>?_;haveI ha3:=ha2.grow G3;haveI hc3:=hc2.grow G3;haveI hm3:=G3.get _ _ hm;walk_at"W";refine C6 ?_;walk_at"W";refine xj (m:=dK V.int [(0,.int 0)]) rfl rfl<|fy G3.wf λdn g G4 hd4 d0=>?_;walk_at"W";refine bg G4.wf rfl λpl H5 G5 hp5 p0=>?_;have G35:=G4.trans G5;have hc5:=hc3.grow G35;repeat (first|walk_at"w"|refine hc5.at'.attr rfl ?_)
 haveI hi5:=hc5.at'.hi;rw[hc5.ins] at hi5;refine yV hi5 rfl ?_;refine aE<|bx<|aF ?_;walk_at"W";refine CK hp5 ?_;haveI hR5:=hR.grow G35;refine aF (aO (by walk_at"lk")<|fF hR5.ins' hR5.ns' rfl rfl ?_);walk_at"W";refine j4 hc5.hL ?_;walk_at"W";refine jR G5.wf hR5 (by rw[rins];decide) λLa Lb H6 G6 hR6 hLa hLb La0 Lb0 Lab=>?_;have nm5:∀{x:Nat} {cc:aB},ac H5 x=some cc->x∉R.M->ac H6 x=some cc:=λh hx=>G6.get _ _ hx h;haveI rM:∀x∈R.M,ac H2 x=none:=λx hx=>rfr x<|Xw _ hx;haveI G26:=aH.fresh (G3.trans G35) rM G6;have dnM:=hR.notM d0;have plM:=(hR.grow G4).notM p0;have hLbpl:Lb≠pl:=λz=>by rw[z,hp5] at Lb0;cases Lb0
 have hLbdn:Lb≠dn:=λz=>by rw[z,G5.get _ _ hd4] at Lb0;cases Lb0
 haveI LbM:=hR5.notM Lb0;have hd6:=nm5 (G5.get _ _ hd4) dnM;have hp6:=nm5 hp5 plM;rw[rcnt] at hLa hLb;have pl2:=(G3.trans G4).old p0;have dn2:=G3.old d0;refine Db hp6 (rU hLa) (by decide)<|wu<|x9 G6.wf hp6 λg S7 hp7=>?_;refine cH ?_;have G27:=G26.over S7 pl2;have hR7:=hR6.overS S7 (cq hp6 hR6.ins' nofun).symm plM;have hd7:=S7.get _ _ (cq hp6 hd6 nofun).symm hd6;have hLb7:=S7.get _ _ hLbpl hLb;haveI hc7:=hc2.grow G27;haveI hi7:=hc7.at'.hi;rw[hc7.ins] at hi7;refine⟨hi7,?_⟩;walk_at"W";refine AW G27.wf hc7 λst H8 G8 Os hst=>?_;haveI hR8:=hR7.grow G8;walk_at"W";refine aF (aO (by walk_at"lk")<|fF hR8.ins' hR8.ns' rfl rfl ?_);walk_at"W";refine j4 hst ?_;walk_at"W";refine uI G8.wf hR8 λon H9 G9 hon on0=>?_;have hp9:=G9.get _ _<|G8.get _ _ hp7;have hd9:=G9.get _ _<|G8.get _ _ hd7;walk_at"W";refine bx<|aF ?_;walk_at"W";refine CK hp9 ?_;walk_at"W";have G29:=G27.trans<|G8.trans G9;have ne_dp:=(cq hp9 hd9 nofun).symm;haveI hR9:=hR8.grow G9;refine Db hp9 (rU hon) (by decide)<|wu<|x9 (c':=.lst [.int 2,.int 3]) G9.wf hp9 λg Y hp10=>?_;haveI G210:=G29.over Y pl2;haveI hR10:=hR9.overS Y (cq hp9 hR9.ins' nofun).symm plM;have hd10:=Y.get _ _ ne_dp hd9;haveI ha10:=ha2.grow G210;haveI on9:on≠pl:=λz=>by rw[z] at on0;have:=G8.get _ _ hp7;rw[this] at on0;cases on0
 haveI hon10:=Y.get _ _ on9 hon;haveI st8:=G9.get _ _ hst;have A:=Y.get _ _ (fZ hp7 Os).symm st8;haveI hLb10:=Y.get _ _ hLbpl<|G9.get _ _<|G8.get _ _ hLb7;haveI stM:=hR7.notM Os;have st_dn:st≠dn:=λz=>by rw[z,hd10] at A;cases A
 haveI hc10:=hc2.grow G210;obtain⟨RR,v⟩:∃RR,(R.tick.tick).addI (.tup [.str [97],.ref Lb])=RR:=⟨_,rfl⟩
 rw[v] at hR10;have RRM:RR.M=R.M:=by rw[<-v];rfl
 have RRr:RR.ref=R.ref:=by rw[<-v];rfl
 walk_at"W";refine j4 hp10 ?_;walk_at"W";refine bW (N:=2) (by decide) ?_;let L1:Sg:=[(28,.ref N.ref),(99,.ref l),(61,.ref a.ref),(114,.ref m),(78,.ref R.ref),(18,.ref dn),(76,.ref pl),(129,.ref st)]
 let D1:List (Int×V):=[(0,.int 0),(1,.int 2),(2,.int 3)]
 let I1:Nat->Sg->Hp->Prop:=λi b u=>iz b L1/\aJ H2 u/\RR.At u/\ac u pl=some (.lst [.int 2,.int 3])/\ac u dn=some (.dct<|dK V.int<|D1.take<|i+1)/\ac u st=some (.lst [])/\ac u Lb=some (.lst [.int 2,.int 3]);refine eA (I:=I1) (by decide)
  ⟨by walk_at"lq",G210,hR10,hp10,hd10,A,hLb10⟩ (λb H11 h=>?_) λi hi b H11 h=>?_
 .obtain⟨Kz,G,J,M,e,f,d⟩:=h
  repeat (first|walk_at"w"|refine mc ?_)
  refine qR RRr ?_;refine Gj G.wf G (hl.grow G12) J (λx hx=>rM x<|RRM▸hx) (by rw[<-v];show R.cnt+1+1=4;rw[rcnt]) (v▸rcells) λB H12 G11 b12 eB dv0=>?_;have G212:=G.trans G11;have BM:∀x,x∉R.M->x≠B.dv->x∉B.M:=λx h1 h2 h3=>by
   simp only [Z6,Xu,or_false] at h3;haveI:x∈RR.M\/x=B.dv:=by
    rw[eB] at h3;rcases h3 with z|z|z|z|z;.exact .inl (by simp[z])
    .exact .inl (by simp[z])
    .exact .inl (by simp[z])
    .exact .inl (by simp[z])
    .exact .inr z
   rcases this with z|z;.rw[RRM] at z;exact h1 z
   .exact h2 z
  have dvn:∀x cc,ac H11 x=some cc->x≠B.dv:=λx cc hx z=>by rw[z,dv0] at hx;cases hx
  have dB:=BM dn dnM<|dvn _ _ e;have stB:=BM st stM<|dvn _ _ f;have LbB:=BM Lb LbM<|dvn _ _ d;walk_at"W";refine Ba G212.wf hc.mem (ha2.grow G212) (G212.get _ _ hm) Ch λk wl H13 G13 k0 Wn hk=>?_;haveI b13:=b12.grow G13;haveI hd13:=G13.get _ _<|G11.get _ _ e;have hst13:=G13.get _ _<|G11.get _ _ f;haveI hLb13:=G13.get _ _<|G11.get _ _ d;haveI kB:k∉dn::B.M:=λz=>by
   rcases VO z with z|z;.rw[z,G11.get _ _ e] at k0;cases k0
   .exact b12.notM k0 z
  haveI nt0:iW s c [] [(0,.int 0),(1,.int 2),(2,.int 3)] (λx=>x<3):=λx hx=>by
   rcases yz hx with rfl|rfl|rfl;.exact⟨0,rfl,by decide,λr hr=>(IA.val r hr).1.symm,λz=>(z rfl).elim⟩
   .exact⟨2,rfl,by decide,λr hr=>(IA.val r hr).2.1.symm,λU U=>by decide⟩
   .exact⟨3,rfl,by decide,λr hr=>(IA.val r hr).2.2.symm,λU U=>by decide⟩
  refine DB so hc.mem Ch hm hk Wn kB dB dn2 ⟨.refl b13.g.wf,b13,hd13,nt0,rfl,by decide,by decide⟩ (by walk_at"lk") (by walk_at"lk") (by walk_at"lk") λσ2 H14 j gs D Dn hj ks t=>?_;have p28:=(ks 28 rfl).trans (by walk_at"lk");have p61:=(ks 61 rfl).trans (by walk_at"lk");have p78:=(ks 78 rfl).trans (by walk_at"lk");have p18:=(ks 18 rfl).trans (by walk_at"lk");have p129:=(ks 129 rfl).trans (by walk_at"lk");have p131:=(ks 131 rfl).trans (by walk_at"lk");have nB:∀{x:Nat},x≠dn->x∉B.M->x∉dn::B.M:=λh1 h2 h3=>(VO h3).elim h1 h2;have hst14:=t.g.get _ _ (nB st_dn stB) hst13;have hLb14:=t.g.get _ _ (nB hLbdn LbB) hLb13;walk_at"W";refine bg t.b.g.wf rfl λsR H15 G15 hs15 s0=>?_;haveI b15:=t.b.grow G15;haveI ha15:=ha2.grow b15.g;have s_ne:∀{x:Nat} {cc},ac H14 x=some cc->x≠sR:=λh z=>by rw[z,s0] at h;cases h
  have nS:∀{x:Nat},x≠sR->x∉B.M->x∉sR::B.M:=λh1 h2 h3=>(VO h3).elim h1 h2;haveI s2:=t.b.g.old s0;repeat (first|walk_at"w"|refine bJ ha15.ins' ha15.ns' rfl ?_)
  refine DT so hc.mem ha2 (nS (s_ne t.hd) dB) (t.b.notM s0) s2 b15 hs15 (G15.get _ _ t.hd) t.nt t.z (Wk t.gl<|a0L 4 (‹_›:_<=7)) (λlit hlit=>?_) (by walk_at"lk") (by walk_at"lk") (by walk_at"lk")
   (λu g hn ho=>qx fH u (G12.trans g)<|.inr ⟨Ch.all,hn,rfl,ho⟩) λσ3 H16 gs2 D2 ys ks3 S=>?_
  .rcases WJ _ 3 with z|z
   .exact .inl z
   .have g:=(kA hc.mem).1 lit hlit
    obtain⟨o,ho⟩:∃o,c.aig.ns[lit/2]?=some o:=⟨_,a00 g⟩
    obtain⟨p,rfl⟩:=IA.hi _ o z ho;exact .inr<|qu.mpr ⟨g,Wn.out lit hlit,p,ho⟩
  have r28:=(ks3 28 rfl).trans (by walk_at"lk");have r78:=(ks3 78 rfl).trans (by walk_at"lk");have r70:=(ks3 70 rfl).trans (by walk_at"lk");have r129:=(ks3 129 rfl).trans (by walk_at"lk");have hst16:=S.g.get _ _ (nS (s_ne hst14) stB)<|G15.get _ _ hst14;haveI hLb16:=S.g.get _ _ (nS (s_ne hLb14) LbB)<|G15.get _ _ hLb14;have y:=hc2.grow S.b.g;have hl3:=(kA hc.mem).2;haveI yl:ys.length=c.ks.length:=by exact S.len▸(mJ hc.mem)
  repeat (first|walk_at"w"|refine y.at'.attr rfl ?_)
  haveI ho16:=y.at'.ho;rw[y.outs] at ho16;refine yV ho16 rfl ?_;have hN16:=S.b.net;have er:R.ref=(B.net gs2).ref:=by show R.ref=B.nl.ref;rw[eB,RRr]
  refine aE (bx<|aF<|aO (by walk_at"lk")<|fF (er▸hN16.ins') hN16.ns' rfl rfl ?_);walk_at"W";refine NR (aO (by walk_at"lk")<|aO (by walk_at"lk") ⟨0,rfl,?_⟩);walk_at"W";refine j4 y.hL2 ?_;rw[rS];walk_at"W";have eN:0+Int.ofNat c.ks.length=Int.ofNat (bl ys).length:=by rw[a1d];unfold bl;rw[XK,yl]
  have okY:jE (bl ys)=true:=by show Nat.blt _ _=true;rw[a0T];unfold bl;rw[XK,S.len];exact Wk ‹_› (by decide)
  refine⟨_,bl ys,rfl,by show(ac _ _).bind aB.lst? =_;rw[S.hs];rfl,by rw[eN,sx];exact okY,?_⟩;rw[eN,sx];refine fy S.b.g.wf λtR H17 O hT U=>?_;haveI hc17:=y.grow O;haveI hst17:=O.get _ _ hst16;haveI hLb17:=O.get _ _ hLb16;walk_at"W";refine qL er ?_;refine jb O.wf (hN16.grow O) hT okY (by show B.nl.outs.length<1000;rw[eB,<-v];show R.outs.length<1000;rw[routs];decide) λLO H18 G18 hN18 hLO U=>?_;have G218:=aH.fresh (S.b.g.trans O) (λx hx=>S.b.fr x<|jX B gs2 x hx) G18;have hc18:=hc2.grow G218;have nN:∀{x:Nat},x∉B.M->x∉(B.net gs2).M:=λh1 h2=>h1<|jX B gs2 _ h2;have hst18:=G18.get _ _ (nN stB) hst17;have hLb18:=G18.get _ _ (nN LbB) hLb17;refine⟨rfl,?_⟩;walk_at"W";refine j4 hc18.hL2 ?_;walk_at"W";haveI ho18:=hc18.at'.ho;rw[hc18.outs] at ho18;refine⟨ho18,?_⟩;walk_at"W";refine j4 hst18 ?_;walk_at"W";refine bW (by decide) ?_;refine eA (I:=λU b u=>look b 78=some _/\u=H18) (by decide) ⟨by walk_at"lk",rfl⟩ (λg u h=>?_) λi hi=>((W4 _) hi).elim;obtain⟨g,rfl⟩:=h;walk_at"W";refine qL er ?_;refine q ((B.net gs2).addO _) gs2 ys Lb LO _ (G12.trans G218) hN18 ?_ hLb18 ?_ hLO rfl ⟨⟨D2,S.b.bi⟩,S.len,S.lt,λr hr=>?_,Wk S.gl<|Wo (V9 (‹_›:_<3)) 28⟩ Ch.all λhn ho=>?_
  .show B.nl.ins=_
   rw[eB,<-v];show R.ins++[_]=_;rw[rins];rfl
  .show B.nl.outs++[_]=_
   rw[eB,<-v];show R.outs++[_]=_;rw[routs];rfl
  .haveI:=S.val r hr;rw[a05] at this;exact this
  .obtain⟨lit,h1,h2,h3⟩:=ho
   exact h3<|S.odd hn lit (a05▸h1) h2
 .obtain⟨Kz,G,J,M,e,f,d⟩:=h
  refine hH rfl λN1 y O gN U U=>?_;have j:=ha2.grow G;have o:([.int 2,.int 3]:List V)[i]?=some (.int<|.ofNat<|2+i):=by rcases fD hi with rfl|rfl<;>rfl
  have p:([.int 1,.int 2]:List V)[i]?=some (.int<|.ofNat<|1+i):=by rcases fD hi with rfl|rfl<;>rfl
  have t:cP (D1.take<|i+1) (.ofNat<|1+i) (.int<|.ofNat<|2+i)=D1.take (i+1+1):=by rcases fD hi with rfl|rfl<;>rfl
  refine aE<|cW ?_;walk_at"W";refine az (aQ M o) ?_;repeat (first|walk_at"w"|refine bJ j.ins' j.ns' rfl ?_)
  refine az (aQ j.hi p) ?_;refine i8 jc e (by rw[Zo];exact fQ (Zp _ _)<|by decide) ?_;refine x9 G.wf e λH12 g D=>?_;walk_at"W";haveI k:∀{x:Nat} {cc},ac H11 x=some cc->cc≠.dct _->x≠dn:=λh q=>(cq e h q).symm;exact⟨by walk_at"lq",G.over g dn2,J.overS g (k J.ins' nofun)<|qL RRM dnM,g.get _ _ (k M nofun) M,by rw[<-t];exact D,g.get _ _ (k f nofun) f,g.get _ _ (k d nofun) d⟩
def uK (s:List Ce) (n:List Nat):Option Ce:=s.find? λc=>seq c.nm n
noncomputable def dS (s:List Ce):List (V×V):=s.map λc=>(.str c.nm,c.v)
noncomputable abbrev rB (c:List Ce):Prop:=(c.map Ce.nm).Nodup
theorem zE (n:List Nat):∀s:List Ce,jZ (.str n) (dS s)=some ((uK s n).map Ce.v):=by
 intro z;induction z with
 |nil=>exact rfl
 |cons c s i=>
  show cond _ _ (jZ _<|dS s)=_;delta uK;refine qL  a08  ?_;cases seq c.nm n with
  |true=>rfl
  |false=>exact i
theorem GS (n:List Nat) (v:V):∀s:List Ce,uK s n=none->n9 (.str n) v (dS s)=some (dS s++[(.str n,v)]):=by
 intro z;induction z with
 |nil=>exactλU=>rfl
 |cons c s i=>
  intro h;show cond _ _ ((n9 _ v<|dS s).map _)=_;delta uK at h;simp only [a08] at h;cases e:seq c.nm n with
  |true=>rw[e] at h;cases h
  |false=>rw[e] at h;rw[i h];rfl
theorem qi:uK s n=none↔n∉s.map Ce.nm:=by
 delta uK;refine .trans a1k ?_;constructor
 .intro h m
  obtain⟨c,H,rfl⟩:=VT m;exact h c H (by rw[mE])
 .intro h c H e
  rw[fj] at e;exact h<|List.mem_map.mpr ⟨c,H,Xm e⟩
theorem yA (n:rB s) (H:c∈s):uK s c.nm=some c:=by
 cases e:uK s c.nm with
 |none=>exact((qi.mp e)<|List.mem_map.mpr ⟨c,H,rfl⟩).elim
 |some d=>haveI h:=a1r e;rw[fj] at h;haveI b:=a09 e;obtain⟨i,f,rfl⟩:=a1M b;obtain⟨j,J,rfl⟩:=a1M H;haveI:=(List.getElem_inj (h₀:=by simp only [XK];exact f) (h₁:=by simp only [XK];exact J) n).mp (by simp only [List.getElem_map];exact(Xm h));subst this;rfl
theorem KJ:∀(s pre:List Ce),rB (pre++s)->(pre++s).length<1000->oC (s.map λc:Ce=>.tup [.str c.nm,c.v]) (dS pre)=some (dS<|pre++s):=by
 intro z;induction z with
 |nil=>intro pre _ _;rw[Ya];rfl
 |cons c s i=>
  intro pre n h;haveI N:=qi.mpr λH=>by
   haveI n:(pre.map Ce.nm++(c::s).map Ce.nm).Nodup:=by exact a0n▸n
   exact(List.nodup_append.mp n).2.2 _ H _ (.head _) rfl
  haveI e:ry _ c.v (dS pre)=some (dS<|pre++[c]):=by delta ry;refine qL (show jE _=true by show Nat.blt _ _=true;rw[a0T];unfold dS;rw[XK];rw[Yb] at h;exact VW (Wp _ _)<|Xk h<|by decide) ?_;rw[GS _ _ _ N];unfold dS;rw[a0n];rfl
  show(ry (.str c.nm) c.v _).bind (oC (s.map λc:Ce=>.tup [.str c.nm,c.v]))=_;refine qL e ?_;haveI:=i (pre++[c]) (by rw[Yg];exact n) (by rw[Yg];exact h);rw[Yg] at this;exact this
theorem uO {b c:Type} (f:b->c):∀l:List b,(l.flatMap λx=>[f x])=l.map f:=by
 intro z;induction z with
 |nil=>exact rfl
 |cons x l i=>simp only [a1m,i];rfl
theorem B3 (w:WF H) (L:bp H l s) (N:rB s)
  (q:∀m h,aJ H h->ac h m=some (.dct<|dS s)->Q (.ref m) h):W (bG (n+1) 71 [.ref l] H) Q X:=by
 refine bE (ax rfl) rfl (let j:=bG n;cK rfl ?_);refine aE<|t9 ?_;refine W.bind ?_;walk_at"W";show W ((dW _ (qN _ _) (.ref l) (bG n) [] cS 0 H).bind0 λl H=>HO _ H) _ _;haveI b:=L.len;refine aI (BZ (g:=λc:Ce=>[V.tup [.str c.nm,c.v]]) (t:=.loc 25) (body:=qN (al (ab 25) 9)<|ab 25) (cl:=bG n) (σ:=[]) (·=H) (λi h e=>jn<|e▸L.lst) (λc f=>bK _ rfl λh e=>?_) cS 0 H rfl (VY _)<|VW b<|by decide) λh e d=>?_
 .subst e
  refine W.bind0 ?_;walk_at"W";refine(L.cell c f).attr rfl<|W.bind0 ?_;walk_at"W";exact⟨rfl,rfl⟩
 subst d;rw[uO] at e;refine qL e ?_;show W (HO ((oC (s.map λc:Ce=>V.tup [.str c.nm,c.v]) []).map .dct) _) _ _;refine(show(oC (s.map λc:Ce=>V.tup [.str c.nm,c.v]) [])=some (dS s) from KJ s [] N<|VW b<|by decide)▸?_;exact q _ _ (ba w _)<|bA _ _
noncomputable def Rk:List Nat:=[117,110,107,110,111,119,110,95,99,101,108,108]
structure Rw where
 o:V
 i:V
 nm:List Nat
 tb:V
def Rw.v (r:Rw):V:=.tup [.str I9,r.o,r.i,.tup [.str r.nm,r.tb]]
def Rw.ar (h:List Ce) (r:Rw):Int:=match uK h r.nm with|some c=>c.ar|none=>0
def ER (c:List Ce) (s:List Rw):Int:=s.foldl (λt r=>t+r.ar c) 0
theorem zL {N:NL} (w:WF H) (hN:N.At H) (O:N.cells=rs.map Rw.v) (J:rs.length<=4000) (L:bp H l s) (Y:rB s)
  (q:∀d,aJ H d->(∀r∈rs,(uK s r.nm).isSome)->Q (.int<|ER s rs) d) (qx:∀d,aJ H d->∀r∈rs,uK s r.nm=none->X (.tup [.int<|.ofNat 1,.str Rk,.int (-1),.str r.nm]) d):W (bG (n+2) 72 [.ref N.ref,.ref l] H) Q X:=by
 refine bE (ax rfl) rfl (let c:=bG<|n+1;cK (cl:=c) rfl ?_);walk_at"W";refine B3 w L Y λm A G y=>?_;have j:=hN.grow G;repeat (first|walk_at"w"|refine j.attr rfl ?_)
 have f:=j.hc;replace f:=O▸f;let p:Nat->Sg->Hp->Prop:=λi b d=>d=A/\look b 133=some (.ref m)/\look b 121=some (.int<|ER s<|rs.take i)/\∀r∈rs.take i,(uK s r.nm).isSome=true;refine eM (I:=p) J
  ⟨rfl,by walk_at"lk",by walk_at"lk",λU h=>by cases h⟩ (λi b d h=>by exact h.1▸f) (λb d h=>?_) λi v b d h=>?_
 .obtain⟨rfl,_,k,o⟩:=h
  rw[a05] at k o;walk_at"W";exact q _ G o
 .obtain⟨rfl,c,k,o⟩:=h
  haveI t:=a04 v;haveI M:=a03 v;generalize rs[i]=r at*;walk_at"w";walk_at"W";refine az  rfl  ?_;walk_at"W";have g:gU .nin (.str r.nm) (.ref m) d=some (!(uK s r.nm).isSome):=by show Internal.neg _=_;refine qL (CM y) ?_;show Internal.neg ((jZ _<|dS s).map Option.isSome)=_;refine qL (zE r.nm s) ?_;show some _=_;exact qL XH rfl
  haveI u:gW d _ (.str r.nm)=(uK s r.nm).map Ce.v:=by refine .trans (pO y) ?_;show(jZ _<|dS s).bind id=_;rw[zE r.nm s];rfl
  cases e:uK s r.nm with
  |none=>replace g:=e▸g;refine t7 g<|aE<|pP ?_;walk_at"W";refine vD ?_;walk_at"W";refine qv ?_;walk_at"W";refine az  rfl  ?_;walk_at"W";exact qx _ G r M e
  |some c=>
   rw[e] at g u;refine i3 g ?_;haveI D:=a09 e;walk_at"W";refine az  rfl  ?_;refine az u<|((L.cell c D).grow G).attr rfl ?_;walk_at"W";refine G0 rfl (by walk_at"lk") ?_  λx z=>?_
   .rw[jh]
    congr 2
    delta ER;refine qL t<|qL a0z ?_;show _=List.foldl _ 0 _+r.ar s;rw[Rw.ar];exact qL e rfl
   .rw[t] at z
    rcases a0P.mp z with h|h;.exact o x h
    .rw[VS h,e];rfl
theorem zC (h:p<1000):js .pow 2 (.ofNat p)=some (.ofNat<|2^p):=by show(match Nat.blt p 1000 with|true=>some (Int.ofNat<|2^p)|false=>none)=_;exact qL ((a0T).mpr h) rfl
theorem K9 (h:a<2):js .mul (.ofNat a) (.ofNat b)=some (.ofNat<|a*b):=by
 rcases(show a=0\/a=1 by lia) with rfl|rfl
 .show some _=_
  rfl
 .show some _=_
  rfl
theorem GT (h:0<b):js .fdiv (.ofNat a) (.ofNat b)=some (.ofNat<|a/b):=by show cond (ieq _<|.ofNat 0) none (some _)=_;simp only [fk,Xa<|Za ‹_›];exact Wh some (a1N a b).symm
theorem lp:∀(G:List Gt) (i j:Nat),(bS i G)[j]?=(G[j]?).map (ma<|i+j)
 |[],_,_=>rfl
 |g::G,i,0=>rfl
 |g::G,i,j+1=>by show(bS (i+1) G)[j]?=(G[j]?).map _;rw[lp G,show i+1+j=i+(j+1) by exact WY _ _ _]
theorem xb (v:List Nat) (y:Nat):∀(l:List Nat) (k:Nat),hU v (l++[y]) k=hU v l k+v.getD y 0*2^(k+l.length):=by
 intro z;induction z with
 |nil=>intro k;show _+0=0+_;simp only [a0I];rfl
 |cons a l i=>intro k;show v.getD a 0*2^k+hU v (l++[y]) (k+1)=(v.getD a 0*2^k+hU v l (k+1))+_;simp only [i,show k+1+l.length=k+(a::l).length by show _=k+(l.length+1);exact WY _ _ _,Wl]
theorem xw:∀(l:List Nat) (k:Nat),(∀y∈l,vs.getD y 0=w.getD y 0)->hU vs l k=hU w l k:=by
 intro z;induction z with
 |nil=>exactλU U=>rfl
 |cons a l i=>intro k h;show _+_=_+_;exact qL (h a<|.head _)<|qL (i (k+1) λy H=>h y<|.tail _ H) rfl
noncomputable def Ho (G:List Gt):Prop:=∀(i:Nat) g,G[i]?=some g->g.ins.length<=2/\(∀y∈g.ins,y<4+i)/\0<=g.ce.tb
theorem IE {s:List Gt} (G:Ho s) (h:s[i]?=some g):bk r s (4+i)=eY g.ce.tb.toNat (hU (FH r s) g.ins 0):=by
 haveI d:=(List.getElem?_eq_some_iff.mp h).1;haveI c:s[i]=g:=(List.getElem?_eq_some_iff.mp h).2;have H:(s.take i).length=i:=by simp only [Zo];exact a0E (WO<|by assumption)
 have e:s=(s.take i++[g])++s.drop (i+1):=by simp;show s=s.take i++(g::s.drop (i+1));simp only [<-c,<-a1f d,a0G]
 haveI b:bk r s (4+i)=bk r (s.take i++[g]) (4+i):=by
  conv=>lhs;rw[e]
  exact fB (by simp only [Yb,H];show 4+i<4+(i+1);exact XA _) _
 simp only [b];conv=>lhs;rw[show 4+i=4+(s.take i).length by simp only [H]]
 simp only [ms]
 congr 1
 refine xw _ _ λy Y=>?_;conv=>rhs;rw[e,Yg]
 exact(fB (by simp only [H];exact((G i g h).2.1 y Y)) _).symm
noncomputable def KL (n:Nat) (D:List<|Int×V):Prop:=D.length+((List.range<|4+n).filter λx=>(eQ D<|.ofNat x).isNone).length<=4+n
structure Kn (r:Nat) (gs:List Gt) (D:List<|Int×V):Prop where
 at':∀i v,eQ D i=some v->∃x:Nat,i=.ofNat x/\v=.int (.ofNat<|bk r gs x)
 lo:∀x:Nat,x<4->(eQ D<|.ofNat x).isSome=true
 len:KL gs.length D
theorem r8 (H:∀y,p' y->p y) (b:p x) (c:p' x=false):∀l:List Nat,x∈l->(l.filter p').length<(l.filter p).length
 |y::l,h=>by
  haveI L:(l.filter p').length<=(l.filter p).length:=by
   clear h;induction l with
   |nil=>exact XA _
   |cons z l i=>
    refine qL ZE<|qL ZE ?_;cases e:p' z with
    |true=>rw[H z e];show _+1<=_+1;exact XE ‹_›
    |false=>
     cases p z with
     |true=>show _<=_+1;exact WM ‹_›
     |false=>exact i
  refine qL ZE<|qL ZE ?_;rcases VO h with rfl|h;.rw[b,c];show(l.filter p').length<_+1;exact XE ‹_›
  .haveI i:=r8 H b c l h
   cases e:p' y with
   |true=>rw[H y e];show _+1<_+1;exact a0e ‹_›
   |false=>
    cases p y with
    |true=>show _<_+1;exact W0 ‹_›
    |false=>exact i
theorem Ar:∀{D:List<|Int×V},eQ D i=none->(cP D i v).length=D.length+1:=@λz=>by
 induction z with
 |nil=>exactλU=>rfl
 |cons p D H=>
  intro h;haveI h:cond _ _ (eQ D i)=none:=h;show(cond _ _<|p::cP D i v).length=D.length+1+1;cases e:ieq p.1 i with
  |true=>rw[e] at h;cases h
  |false=>rw[e] at h;show(cP D i v).length+1=_;rw[H h]
theorem sV:∀{D:List<|Int×V} {w:V},eQ D i=some w->(cP D i v).length=D.length
 |p::D,w,h=>by
  haveI h:cond _ _ (eQ D i)=some w:=h;show(cond _ _<|p::cP D i v).length=D.length+1;cases e:ieq p.1 i with
  |true=>rfl
  |false=>rw[e] at h;show(cP D i v).length+1=_;rw[sV h]
theorem KL.put (L:KL n D) (j:x<4+n):KL n (cP D (.ofNat x) v):=by
 unfold KL at*;cases e:eQ D _ with
 |some w=>
  refine qL (sV e) ?_;refine Wk (Wo ?_ _) L;rw[List.filter_congr λy U=>?_];.exact XA _
  .rw[dD,fk]
   by_cases z:x=y;.subst z;rw[Xh rfl,e];rfl
   .rw[Xa z];rfl
 |none=>
  refine qL (Ar e) ?_;haveI:=r8 (p:=λy=>(eQ D _).isNone) (p':=λy=>(eQ (cP D (.ofNat x) v) _).isNone) (λy h=>?_) (by rw[e];rfl) (by rw[dD,fk,Xh rfl];rfl) _<|List.mem_range.mpr j;.exact KU L this
  .rw[dD,fk] at h
   cases z:decide (x=y) with
   |true=>rw[z] at h;cases h
   |false=>rw[z] at h;exact h
theorem Kn.put (K:Kn r G D) (j:x<4+G.length):Kn r G (cP D (.ofNat x)<|.int<|.ofNat<|bk r G x):=by
 refine⟨λi v h=>?_,λy Y=>?_,K.len.put j⟩
 .rw[dD] at h
  cases e:ieq _ i with
  |true=>rw[e] at h;injection h with h;exact bK x ((aD e).symm) h.symm
  |false=>rw[e] at h;exact K.at' i v h
 .rw[dD]
  cases ieq _ _ with
  |true=>rfl
  |false=>exact K.lo y Y
theorem TQ (c:r<4) (g:List Gt):Kn r g [(0,.int 0),(1,.int 1),(2,.int<|.ofNat<|r%2),(3,.int<|.ofNat<|r/2)]:=by
 haveI b:∀x,x<4->bk r g x=[0,1,r%2,r/2].getD x 0:=λx H=>by haveI:=fB (r:=r) (gs:=[]) H g;simp only [a0J] at this;refine qL this ?_;show[0,1,r%2,r/2%2].getD x 0=_;exact qL (a1L<|a1O c) rfl
 refine⟨λi v h=>?_,λx H=>?_,?_⟩
 .haveI h:=h
  have st:∀(x:Nat) {o:Option V} (w:V),x<4->w=.int (.ofNat<|[0,1,r%2,r/2].getD x 0)->cond (ieq _ i) (some w) o=some v->(∃x:Nat,i=.ofNat x/\v=.int (.ofNat<|bk r g x))\/o=some v:=λx o w H d h=>by
   cases e:ieq _ i with
   |true=>rw[e] at h;injection h with h;exact .inl ⟨x,(aD e).symm,by simp only [b x H,<-d,h]⟩
   |false=>rw[e] at h;exact .inr h
  rcases st 0 _ (by decide) rfl h with h|h;.exact h
  rcases st 1 _ (by decide) rfl h with h|h;.exact h
  rcases st 2 _ (by decide) rfl h with h|h;.exact h
  refine(st 3 _ (by decide) rfl h).elim (λh=>?_) λh=>?_;.exact h
  .cases h
 .rcases JF H with rfl|rfl|rfl|rfl<;>rfl
 .haveI h0:KL g.length []:=by
   haveI:=a1b (λx:Nat=>(eQ []<|.ofNat x).isNone)<|List.range<|4+g.length;rw[List.length_range] at this;show 0+_<=_;exact Wk (WX<|a0I _) this
  exact(((h0.put (x:=0)<|Nat.pos_of_neZero<|4+g.length).put (x:=1)<|by lia).put (x:=2)<|by lia).put<|Wp _ _
theorem Kn.dl (K:Kn r G D):D.length<=4+G.length:=Wk (Wp _ _) K.len
theorem EJ {i:Int} (h:0<=i):i=.ofNat i.toNat:=(Wa h).symm
theorem HL (h:∀y,vs.getD y 0<2) (H:l.length<=2):hU vs l 0<1000:=by
 cases l with
 |nil=>show 0<1000;decide
 |cons a l=>cases l with
  |nil=>show vs.getD a 0*2^0+0<1000;exact fQ (a1P _<|V9<|h a) (by decide)
  |cons b l=>cases l with
   |nil=>show vs.getD a 0*2^0+(vs.getD b 0*2^1+0)<1000;exact fQ (WT (a1P _<|V9<|h a)<|a1P _<|V9<|h b) (by decide)
   |cons=>exact absurd H (by simp)
theorem B4 (G:Ho s) (gl:s.length<=100):∀(m x:Nat),x<m->x<4+s.length->∀(H:Hp) (D:List<|Int×V) (n O:Nat),WF H->ac H O=some (.lst<|bS 0 s)->ac H n=some (.dct<|dK V.int D)->Kn r s D->
  ∀(Q:V->Hp->Prop) (X:V->Hp->Prop),(∀d c,aH [n] H c->ac c n=some (.dct<|dK V.int d)->Kn r s d->Q (.int<|.ofNat<|bk r s x) c)->W (bG m 83 [.ref O,.ref n,.int<|.ofNat x] H) Q X:=by
 intro zz_;induction zz_ with
 |zero=>exactλx hx U=>((W4 _) hx).elim
 |succ m ih=>
  intro x hxm hx;intro H D n O w hr hk K Q X q;have rk:O≠n:=λe=>by rw[e,hk] at hr;cases hr
  refine bE (ax rfl) rfl<|cK rfl ?_;refine aE<|lP<|ni ?_;walk_at"W";have fin:∀b d c,aH [n] H c->ac c n=some (.dct _)->Kn r s d->(eQ d _).isSome=true->look b 110=some _->look b 14=some (.int _)->
    ∀{N B C':Sg->Hp->Prop},WS (ad [ay<|aq _ _] (bG m) b c) N B C' Q X:=λb d c g i k M k110 k14 N B C'=>by
   refine aE<|t9<|Om<|aO k110<|aO k14 ?_;cases e:eQ d _ with
   |none=>rw[e] at M;cases M
   |some v=>refine aI (k.at' _ _ e) λy t p=>?_;subst p;obtain rfl:=bo t;exact az ((ir jc i).trans e)<|q d c g i k
  refine kH (zH jc hk) (λe=>?_)  λe=>?_
  rotate_left
  .refine cH (fin _ D H (.refl w) hk K (by cases z:(eQ D _).isSome with|true=>rfl|false=>rw[z] at e;cases e) (by walk_at"lk")<|by walk_at"lk")
  have en:(eQ D<|.ofNat x).isSome=false:=by cases z:(eQ D _).isSome with|false=>rfl|true=>rw[z] at e;cases e
  have x4:4<=x:=by exact(WJ x 4).elim (λz=>nomatch ((K.lo x z).symm.trans en)) λz=>z
  obtain⟨u,rfl⟩:∃u,x=4+u:=⟨x-4,(Wv x4).symm⟩
  obtain⟨o,A⟩:∃o,s[u]?=some o:=⟨_,a00<|Nat.lt_of_add_lt_add_left hx⟩
  refine kh (G u o A) λgi gy gt=>?_;walk_at"W";let I1_:Nat->Sg->Hp->Prop:=λj b c=>iz b [(51,.ref O),(110,.ref n),(14,.int<|.ofNat<|4+u)]/\∃d,aH [n] H c/\ac c n=some (.dct<|dK V.int d)/\Kn r s d/\(u<j->(eQ d<|.ofNat<|4+u).isSome=true)
  refine eM (f:=id) (l:=bS 0 s) (I:=I1_) (by simp only [cV];exact Wk ‹_›<|by decide)
   ⟨by walk_at"lq",D,.refl w,hk,K,λh=>((W4 _) h).elim⟩ (λj b c h=>?_) (λb c h=>?_) λj hj b c h=>?_
  .obtain⟨_,d,g,_⟩:=h
   simp;exact g.get _ _ (λz=>rk<|VS z) hr
  .obtain⟨J,d,g,i,k,M⟩:=h
   refine cH (fin _ d c g i k (M<|by simp only [cV];lia) (J.get rfl)<|J.get rfl)
  .obtain⟨J,d,g,i,k,M⟩:=h
   rw[cV] at hj;obtain⟨gj,t⟩:∃gj,s[j]?=some gj:=⟨_,a00 hj⟩
   have ej:(bS 0 s)[j]'‹_›=ma j gj:=by haveI:=lp s 0 j;simp only [t,a0I] at this;exact(List.getElem?_eq_some_iff.mp this).2
   refine qL ej ?_;walk_at"w";refine aE<|lP<|ni ?_;walk_at"W";refine kH  rfl  (λe=>?_)  λe=>?_
   .obtain rfl:j=u:=by haveI:=Xm<|(fk _ _).symm.trans e;exact a0V this
    haveI t:=W2<|A.symm.trans t;subst t;walk_at"W";refine nn ?_;haveI eln:(bl o.ins).length=o.ins.length:=XK _;refine qL eln ?_;refine bW (VW ‹_›<|by decide) ?_;let I2_:Nat->Sg->Hp->Prop:=λp v H2=>iz v [(51,.ref O),(110,.ref n),(14,.int<|.ofNat<|4+j),(22,.tup<|bl o.ins),(23,.tup [.str o.ce.nm,.int o.ce.tb]),(138,.int<|.ofNat<|hU (FH r s) (o.ins.take p) 0)]/\∃D2,aH [n] H H2/\ac H2 n=some (.dct<|dK V.int D2)/\Kn r s D2;refine eA (I:=I2_) (Wk ‹_›<|by decide)
     ⟨by walk_at"lq",d,g,i,k⟩ (λv H2 h=>?_) λp hp v H2 h=>?_
    .obtain⟨J,D2,L,i,k⟩:=h
     rw[a05] at J;refine aE<|cW ?_;walk_at"W";refine az  rfl  ?_;haveI es:=HL (λy=>dC r _ s rfl y) gi;generalize Y:hU _ o.ins 0=sp at*;walk_at"W";refine gh (zC es) ?_;refine qL (EJ gt) ?_;refine gh (GT<|Nat.pow_pos<|by decide) ?_;walk_at"W";refine qL (show((Int.ofNat _).fmod 2)=.ofNat _ from(a1Q _ 2).symm) ?_;haveI ev:o.ce.tb.toNat/2^sp%2=bk r s (4+j):=by simp only [IE G A,Y];rfl
     refine qL ev ?_;refine i8 jc i (fQ k.dl<|fQ (Wo gl 4)<|by decide) ?_;walk_at"W";refine⟨by walk_at"lq",_,L.trans<|.set L.wf (.head _) _,aV i,k.put hx,λU=>?_⟩;simp only [dD,fk];rfl
    .obtain⟨J,D2,L,i,k⟩:=h
     haveI Y:=a03 hp;haveI htk:=a04 hp;haveI hgt:(bl o.ins)[p]?=some (.int _):=by unfold bl;simp only [a0c,a00 hp];rfl
     generalize o.ins[p]=y at*;haveI hy:=gy y Y;walk_at"w";walk_at"W";refine az (qG hgt) ?_;refine ih y (WR hy<|V9 hxm) (Xk ‹_› ‹_›) _ _ _ _ L.wf (L.get _ _ (λz=>rk<|VS z) hr) i k _ _ λD3 H3 g3 i k=>?_;walk_at"W";refine gh (zC<|Xk (WR hp gi)<|by decide)<|gh (K9<|dC r _ s rfl y) ?_;walk_at"W";refine⟨.cons (by walk_at"lk")<|.cons (by walk_at"lk")<|.cons (by walk_at"lk")<|.cons (by walk_at"lk")<|.cons (by walk_at"lk")<|.cons ?_ .nil,D3,L.trans g3,i,k⟩;simp only [jh,htk,xb,Zo,a0E<|WO hp,a0I];rfl
   .have v:j≠u:=λz=>by subst z;exact nomatch (((dc _ _).mpr rfl).symm.trans e)
    walk_at"W";exact⟨by walk_at"lq",d,g,i,k,λp=>M<|Nat.lt_of_le_of_ne (V9 p)<|Xf v⟩
def pi (k:List Nat) (a b:Nat):Nat:=match seq k [97,110,100] with
 |true=>a*b
 |false=>(match seq k [110,97,110,100] with
  |true=>1-a*b
  |false=>(match seq k [111,114] with
   |true=>max a b
   |false=>(match seq k [110,111,114] with
    |true=>1-max a b
    |false=>(match seq k [120,111,114] with
     |true=>(a+b)%2
     |false=>1-(a+b)%2))))
def UW (o:Option V) (n:Nat):Bool:=(o.bind V.int?).casesOn false λi=>ieq i<|.ofNat n
theorem CF:(fN.all λk=>[0,1].all λa=>[0,1].all λb=>UW (pu<|run prog kI 30 80 [.str k,.int<|.ofNat a,.int<|.ofNat b] [])<|pi k a b):=rfl
theorem GY (d:k∈fN) (A:a<2) (c:b<2):Pl 80 [.str k,.int<|.ofNat a,.int<|.ofNat b] (.int<|.ofNat<|pi k a b):=by
 haveI H:∀x:Nat,x<2->x∈[0,1]:=λx f=>by rcases(show x=0\/x=1 by lia) with rfl|rfl<;>simp
 have h:=VU (VU (VU CF k d) a<|H a A) b<|H b c;cases o:pu _ with
 |none=>rw[o] at h;cases h
 |some v=>rw[o] at h;refine Mj h λi e h=>?_;simp only [bF e,aD h] at o;exact Pl.of rfl rfl rfl o
theorem Kq:bw.all (λc=>c.ks.all λk=>fN.any λm=>seq m k):=rfl
theorem OX (h:c∈bw) (H:k∈c.ks):k∈fN:=by refine aI (a1Y.mp<|VU (VU Kq c h) k H) λm M e=>?_;rw[fj] at e;exact(Xm e)▸M
theorem Bz:bw.all (λc=>[0,1,2,3].all λr=>seq (c.aig.outs.map<|v8 r c.aig.ns)<|c.ks.map λk=>pi k (r%2)<|match c.tw with|true=>r%2|false=>r/2):=by decide+kernel
theorem Aj (H:c∈bw) (b:r<4):c.aig.outs.map (v8 r c.aig.ns)=c.ks.map λk=>pi k (r%2) (match c.tw with|true=>r%2|false=>r/2):=by haveI h:=VU (VU Bz c H) r<|r4 b;rw[fj] at h;exact Xm h
def iK:Nat->List Gt->List (Nat×Nat)
 |_,[]=>[]
 |i,g::l=>(match ieq g.ce.ins 1 with|true=>[(g.ins.getD 0 0,4+i)]|false=>[])++iK (i+1) l
noncomputable def OB (p:Nat×Nat):V:=.tup [.int<|.ofNat p.1,.int<|.ofNat p.2]
theorem sE (g:Gt):∀(G:List Gt) (i:Nat),iK i (G++[g])=iK i G++(match ieq g.ce.ins 1 with|true=>[(g.ins.getD 0 0,4+(i+G.length))]|false=>[]):=by
 intro z;induction z with
 |nil=>intro i;show _++[]=[]++_;simp only [Ya];rfl
 |cons x G h=>intro i;show _++iK (i+1) (G++[g])=(_++iK (i+1) G)++_;simp only [h,Yg,show i+1+G.length=i+(x::G).length by show _=i+(G.length+1);exact WY _ _ _]
theorem ti:∀(G:List Gt) (b:Nat),p∈iK b G->∃(i:Nat) (g:Gt),G[i]?=some g/\g.ce.ins=1/\p=(g.ins.getD 0 0,4+(b+i))
 |g::G,b,h=>by
  rcases a0P.mp h with h|h
  .cases e:ieq g.ce.ins 1 with
   |false=>rw[e] at h;cases h
   |true=>rw[e] at h;exact vK 0 g rfl (aD e)<|VS h
  .exact du (ti G _ h) λi c H d f=>vK (i+1) c H d (qL f<|qL (show b+1+i=b+(i+1) by exact WY _ _ _) rfl)
theorem xf:∀(G:List Gt) (b:Nat),(iK b G).Pairwise λp q=>p.2<q.2
 |[],_=>List.Pairwise.nil
 |g::G,b=>by
  show((match ieq g.ce.ins 1 with|true=>[(g.ins.getD 0 0,4+b)]|false=>[])++iK _ G).Pairwise _;cases ieq g.ce.ins 1 with
  |false=>exact xf G _
  |true=>refine List.Pairwise.cons (λq h=>?_)<|xf G _;refine du (ti G _ h) λi U U U Q=>?_;subst Q;exact a1R (Wp _ _) 4
theorem uL (B:BI s G D):((iK 0 G).map (·.1)).Nodup/\∀p∈iK 0 G,∀q∈iK 0 G,q.1≠p.2:=by
 have k:∀p∈iK 0 G,eQ D (.ofNat p.1)=some (.int<|.ofNat p.2)/\p.1<p.2:=λp c=>by refine du (ti G 0 c) λi g H t d=>?_;subst d;refine aI (B.iv i g H t) λa A L=>?_;haveI:=(B.ok i g H).2.2 a (by rw[A];simp);rw[a0I];rw[A];exact⟨L,this⟩
 haveI inj:∀a b:Nat,some (V.int _)=some (V.int _)->a=b:=λa b h=>by injection h with h;injection h with h;exact bo h
 constructor
 .delta List.Nodup
  rw[List.pairwise_map];refine(xf G 0).imp_of_mem λ{p q} c Q l e=>?_;haveI H:=(k p c).1;rw[e,(k q Q).1] at H;haveI:=inj _ _ H;exact Za l this
 .intro p c q Q e
  obtain⟨j,l⟩:=k p c;obtain⟨f,m⟩:=k q Q;refine Ji (B.dv _ _ j) λx y n o U U r U=>?_;obtain rfl:=bo n;obtain rfl:=bo (by injection o);rw[e,r] at f;haveI:=inj _ _ f;exact XM _<|a1e (Xk (a1e l e.symm) m) this.symm
theorem Hm (x:Int):∀l:List Int,xg x l↔x∈l:=by
 intro b;induction b with
 |nil=>exact⟨λh=>(by cases h),λh=>by cases h⟩
 |cons y l i=>
  show cond _ true (xg x l)=true↔_;refine .trans ?_ Z6.symm;cases e:ieq y x with
  |true=>exact⟨λU=>.inl (aD e).symm,λU=>rfl⟩
  |false=>exact⟨λh=>.inr<|(i).mp h,λh=>h.elim (λz=>by rw[z,(dc _ _).mpr rfl] at e;cases e) (i).mpr⟩
theorem vB:∀(l A:List Int),(A++l).Nodup->lL l A=A++l:=by
 intro z;induction z with
 |nil=>exactλA U=>(Ya _).symm
 |cons x l i=>
  intro A h;have H:xg x A=false:=by
   cases e:xg x A with
   |false=>rfl
   |true=>exact(((List.nodup_append.mp h).2.2 x ((Hm x A).mp e) x<|.head _) rfl).elim
  show cond _ (lL l A) (lL l _)=_;refine qL H ?_;rw[i (A++[x])<|by rw[Yg];exact h,Yg];rfl
theorem OP (h:ac H n=some (.lst<|bD l)) (N:l.Nodup) (L:l.length<4000) (q:Q (.ref<|ak H)<|(ak H,.set<|bD l)::H):W (cM .set [.ref n] H) Q X:=by show W (ro 55 ((im H _).bind cG) λs=>cond _ (sS _ H) _) Q X;refine qL (kZ h) ?_;show W (ro 55 (cG _) _) Q X;rw[pV];show W (cond _ (sS _ H) _) Q X;rw[vB l [] N,(a0T).mpr L];exact q
theorem LM (h:ac H n=some (.set l)) (q:Q (.int<|.ofNat l.length) H):W (cM .len [.ref n] H) Q X:=W.lift (Jy h) q
theorem iI (h:ac H a=some (.lst l)) (c:ac H b=some (.lst m)):gU .eq (.ref a) (.ref b) H=ot l m:=
 qS h c
theorem nq (h:ac H a=some (.lst l)) (c:ac H b=some (.lst m)) (e:ot l m=some r):gU .ne (.ref a) (.ref b) H=some (!r):=by show neg (gU .eq (.ref a) _ H)=_;simp only [iI h c,e];rfl
theorem ss:∀{s:List Ce},rB s->c∈s->(s.filter λd=>seq d.nm c.nm&&ieq d.tb c.tb&&ieq d.ins c.ins)=[c]
 |x::s,N,h=>by
  have n:=XB.mp N;refine qL ZE ?_;rcases VO h with rfl|h
  .simp only [mE,(dc _ _).mpr rfl]
   show c::_=_;rw[List.filter_eq_nil_iff.mpr λd H e=>?_];rw[XR,XR,fj] at e;exact n.1<|List.mem_map.mpr ⟨d,H,Xm e.1.1⟩
  .have:seq x.nm c.nm=false:=by
    simp only [fj];exact Xa λe=>n.1 (by simp only [e];exact List.mem_map.mpr ⟨c,h,rfl⟩)
   exact this▸(ss n.2 h)
noncomputable def uf (G:List Gt):Int:=G.foldl (λt g=>t+g.ce.ar) 0
theorem A9 (G:List Gt) (g:Gt):uf (G++[g])=uf G+g.ce.ar:=by unfold uf;simp only [a0z];rfl
def qC:Nat->List Gt->List Rw
 |_,[]=>[]
 |i,g::l=>⟨.int<|.ofNat<|4+i,.tup<|bl g.ins,g.ce.nm,.int g.ce.tb⟩::qC (i+1) l
theorem F3:∀(G:List Gt) (i:Nat),(qC i G).map Rw.v=bS i G:=by
 intro z;induction z with
 |nil=>exactλU=>rfl
 |cons g G h=>intro i;show _::_=_::_;simp only [h];rfl
theorem Ab:∀(G:List Gt) (i:Nat),(qC i G).length=G.length:=by
 intro z;induction z with
 |nil=>exactλU=>rfl
 |cons g G h=>intro i;show(qC (i+1) G).length+1=_;rw[h];rfl
theorem v4:∀(G:List Gt) (i:Nat),r∈qC i G->∃g∈G,r.nm=g.ce.nm
 |g::G,i,h=>by
  rcases VO h with rfl|h;.exact bK g (.head _) rfl
  .exact aI (v4 G (i+1) h) λb H c=>bK b (.tail _ H) c
theorem HB (n:rB s):∀(G:List Gt) (i:Nat) (t:Int),(∀g∈G,g.ce∈s)->(qC i G).foldl (λt r=>t+r.ar s) t=G.foldl (λt g=>t+g.ce.ar) t:=by
 intro z;induction z with
 |nil=>exactλU U U=>rfl
 |cons g G d=>
  intro i t h;show(qC (i+1) G).foldl _ (t+_)=G.foldl _ (t+_);refine .trans (d (i+1) _ λb H=>h b<|.tail _ H) ?_
  congr 2
  show(match uK s g.ce.nm with|some c=>c.ar|none=>0)=_;exact qL (yA n<|h g<|.head _) rfl
def Rh:S:=ad [ai (.loc 157)<|bQ [22,23] (.loc 62) (ab 143)<|l9 (gX [aw .eq (bq [al (ab 62) 9,al (ab 62) 38])<|ab 23,aw .eq (al (ab 62) 11)<|ah .len [ab 22]])<|cr<|ab 62,br (oG [aw .ne (ab 155)<|eK<|.str [99,101,108,108],aw .eq (ab 157)<|aT []]) (ad [ay<|eK<|.bool false])<|ad [],cE 121 .add<|al (aq (ab 157)<|eK<|.int 0) 97,br (aw .eq (al (aq (ab 157)<|eK<|.int 0) 11)<|eK<|.int 1) (ad [aM<|aj mt (ab 156) 0 [bq [aq (ab 22)<|eK<|.int 0,ab 20]]])<|ad []]
def tP (c d:Ce):List V:=match seq d.nm c.nm&&ieq d.tb c.tb&&ieq d.ins c.ins with|true=>[Ce.v d]|false=>[]
theorem wv (n:rB s) (h:c∈s):s.flatMap (tP c)=[c.v]:=by haveI:=jV (λd=>seq d.nm c.nm&&ieq d.tb c.tb&&ieq d.ins c.ins) s;simp only [ss n h] at this;exact this
theorem jH:∀(G:List Gt) (i:Nat),(iK i G).length<=G.length:=by
 intro z;induction z with
 |nil=>exactλU=>XA _
 |cons g G h=>
  intro i;show((match ieq g.ce.ins 1 with|true=>[(g.ins.getD 0 0,4+i)]|false=>[])++iK (i+1) G).length<=G.length+1;haveI:=h<|i+1;cases ieq g.ce.ins 1 with
  |true=>show(iK (i+1) G).length+1<=_;exact XE ‹_›
  |false=>show(iK (i+1) G).length<=_;exact WM ‹_›
theorem xq (nd:rB cs) (w:WF z) (L:bp z l cs) (hr:ac z rC=some (.lst<|bS 0 s)) (hf:ac z r=some (.lst [])) (rf:rC≠r) (lf:l≠r)
  (G:∀(i:Nat) g,s[i]?=some g->g.ce∈cs/\(.ofNat g.ins.length:Int)=g.ce.ins) (gl:s.length<=100) (J:look b 143=some (.ref l)) (M:look b 156=some (.ref r)) (D:look b 121=some (.int 0))
  (q:∀k H,(∀y,[155,20,22,23,157,121].contains y=false->look k y=look b y)->bH r z H->ac H r=some (.lst<|(iK 0 s).map OB)->look k 121=some (.int<|uf s)->N k H):
  WS (jB (.tup [155,20,22,23]) Rh (.ref rC) (bG n) cS 0 b z) N B' C' T X:=by
 let I1_:Nat->Sg->Hp->Prop:=λj k H=>(∀y,[155,20,22,23,157,121].contains y=false->look k y=look b y)/\bH r z H/\ac H r=some (.lst<|(iK 0<|s.take j).map OB)/\look k 121=some (.int<|uf<|s.take j);refine eM (f:=id) (l:=bS 0 s) (I:=I1_) (by simp only [cV];exact Wk ‹_›<|by decide)
  ⟨λU U=>rfl,.refl w,hf,D⟩ (λj k H h=>by simp only [List.map_id];exact h.2.1.get _ _ rf hr) (λk H h=>?_) λj hj k H h=>?_
 .refine Mu h λu g Q h2=>?_
  rw[cV,a05] at Q h2;exact q k H u g Q h2
 .refine Mu h λu g Q h2=>?_
  simp only [cV] at hj;obtain⟨gt,p⟩:∃gt,s[j]?=some gt:=⟨_,a00 hj⟩
  haveI t:s.take (j+1)=s.take j++[gt]:=by simp only [List.take_add_one,p];rfl
  haveI v:(s.take j).length=j:=by simp only [Zo];exact a0E (WO<|by assumption)
  haveI ej:(bS 0 s)[j]'‹_›=ma j gt:=by haveI:=lp s 0 j;simp only [p,a0I] at this;exact(List.getElem?_eq_some_iff.mp this).2
  refine qL ej ?_;obtain⟨Y,hi⟩:=G j gt p;have O:=L.growS hf lf g;haveI q143:=(u 143 rfl).trans J;haveI q156:=(u 156 rfl).trans M;walk_at"w";refine aE (fe<|iq<|aO (by walk_at"lk") ?_);refine nV (zW (by walk_at"lk")<|by walk_at"lk") O.lst rfl (by haveI:=O.len;exact Wk ‹_›<|by decide) (wv nd Y) (by show 1<=4000;decide) (λd hd=>⟨_,rfl,nw ?_⟩)<|fy g.wf λaR c G1 ha U=>?_
  .haveI hd':=O.cell d hd
   walk_at"W";refine kH (show gU .eq _ _ H=some (seq d.nm gt.ce.nm&&ieq d.tb gt.ce.tb) by show some (((true&&seq d.nm gt.ce.nm)&&ieq d.tb gt.ce.tb)&&true)=_;simp only [W6];rfl) (λe=>?_)  λe=>?_
   .walk_at"W"
    refine nn ?_;refine qL (show(Int.ofNat (bl gt.ins).length)=gt.ce.ins by simp only [<-hi];unfold bl;simp only [XK]) ?_;refine kH  rfl  (λc=>?_)  λc=>?_
    .refine y9 (ci ?_)
     walk_at"W";unfold tP;rw[e,c];exact⟨rfl,rfl⟩
    .unfold tP;rw[e,c];exact⟨rfl,rfl⟩
   .unfold tP;rw[e];exact⟨rfl,rfl⟩
  refine bf rfl ?_;walk_at"W";refine bg G1.wf rfl λbR H2 G2 hb U=>?_;haveI A:=G2.get _ _ ha;refine i3 ((iI A hb).trans rfl) ?_;haveI m:=G1.trans G2;haveI hC:=(O.cell _ Y).grow m;walk_at"W";refine az (aQ (i:=0) A rfl)<|hC.attr rfl ?_;walk_at"W";refine az (aQ (i:=0) A rfl)<|hC.attr rfl ?_;walk_at"W";haveI o:=m.get _ _ Q;haveI es:uf (s.take j)+gt.ce.ar=uf (s.take<|j+1):=by simp only [t,A9]
  refine kH  rfl  (λe=>?_)  λe=>?_
  .haveI hg0:(bl gt.ins)[0]?=some (.int<|.ofNat<|gt.ins.getD 0 0):=by
    match gt.ins,(show Int.ofNat gt.ins.length=1 by simp only [hi,aD e]) with
    |[a],_=>rfl
    |[],h=>cases h
    |_::_::_,h=>injection h with h;simp at h
   refine aE (bx<|aF<|aO (by walk_at"lk")<|eL o ?_);walk_at"W";refine az (qG hg0) ?_;walk_at"W";refine eC o (by simp only [XK];exact fQ (Wk (jH (s.take j) 0)<|Wk (WX v)<|Wk (WO<|by assumption) (‹_›:s.length<=100))<|by decide)<|wu ?_;walk_at"W";refine G0 (aK (aK (aK (aK (aK (aK u rfl) rfl) rfl) rfl) rfl) rfl) ((g.trans m.s).trans ⟨λx c hx Y=>au (Xf hx) Y,de m.wf _ _⟩) ?_ ?_;.simp only [aV o,t,sE,e,v,a0I,a0n];rfl
   .simp only [jh];exact Wh (λx=>some _) es
  .walk_at"W"
   refine G0 (aK (aK (aK (aK (aK (aK u rfl) rfl) rfl) rfl) rfl) rfl) (g.trans m.s) ?_ ?_;.simp only [o,t,sE,e,Ya]
   .simp only [jh];exact Wh (λx=>some _) es
theorem Ej (l:List<|Nat×Nat):(l.flatMap λp=>[V.int<|.ofNat p.1])=bD ((l.map (·.1)).map λx=>Int.ofNat x):=by simp only [uO];unfold bD;simp only [XJ];rfl
theorem AA {l:List Nat} (h:l.Nodup):(l.map λx=>Int.ofNat x).Nodup:=by delta List.Nodup;refine List.pairwise_map.mpr ?_;exact List.Pairwise.imp (λh e=>h<|bo e) h
theorem Sr (r:Nat):js .mod (.ofNat r) 2=some (.ofNat<|r%2):=by show some _=_;exact qL ((a1Q r 2).symm) rfl
theorem RI (r:Nat):js .fdiv (.ofNat r) 2=some (.ofNat<|r/2):=by show some _=_;exact qL ((a1N r 2).symm) rfl
theorem E0 {b c:Type}:∀l:List b,(l.flatMap λU=>([]:List c))=[]:=by
 intro z;induction z with
 |nil=>exact rfl
 |cons _ l i=>trivial
def JA:S:=ad [br (aw .ne (ag 83 [al (ab 125) 13,ab 110,aq (aq (aq (al (ab 125) 12)<|eK<|.int 0)<|eK<|.int 1)<|ab 7])<|ag 80 [aq (ab 148)<|ab 7,ab 45,ab 46]) (ad [ay<|eK<|.bool false])<|ad []]
theorem nR {N:NL} (w:WF f) (hc:c∈bw) (hN:N.At f) (GO:Ho G) (gl:G.length<=30) (hr:r<4)
  (e2:N.outs=[.tup [.str [121],.ref O']]) (hO:ac f O'=some (.lst<|bl o)) (e3:N.cells=bS 0 G) (hk:ac f kR=some (.lst<|c.ks.map V.str)) (ol:∀y∈o,y<4+G.length) (hv:o.map (bk r G)=c.ks.map λk=>pi k (r%2)<|match c.tw with|true=>r%2|false=>r/2)
  (t:ac f J=some (.dct<|dK V.int D)) (K:Kn r G D) (v:look b 125=some (.ref N.ref)) (A:look b 148=some (.ref kR)) (u:look b 110=some (.ref J)) (k45:look b 45=some (.int<|.ofNat<|r%2)) (k46:look b 46=some (.int<|.ofNat<|match c.tw with|true=>r%2|false=>r/2))
  (q:∀e H,(∀y,Nat.beq 7 y=false->look e y=look b y)->aH [J] f H->Nx e H):WS (jB (.loc 7) JA (.rng 0 (.ofNat c.ks.length) 1) (bG<|n+35) cS 0 b f) Nx B' C' T X:=by
 haveI L:o.length=c.ks.length:=by haveI:=Wh List.length hv;rw[XK,XK] at this;exact this
 have i:∀{x:Nat} {cc},ac f x=some cc->(∀d,cc≠.dct d)->x∉[J]:=λ{x cc} M hd hm=>by rw[VS hm,t] at M;injection M with M;exact hd _ M.symm
 let Q:Nat->Sg->Hp->Prop:=λj e H=>(∀y,Nat.beq 7 y=false->look e y=look b y)/\aH [J] f H/\∃O,ac H J=some (.dct<|dK V.int O)/\Kn r G O;refine eA (I:=Q) (by haveI d:=mJ hc;haveI h2:=(kA hc).2;first|exact Wk (WX h2.symm) (Wk (WO d)<|by decide)|exact Wk (WX d.symm)<|Wk (WO h2)<|by decide)
  ⟨λU U=>rfl,.refl w,D,t,K⟩ (λe H h=>q e H h.1 h.2.1) λj hj e H h=>?_
 obtain⟨s,g,O,hd,K'⟩:=h;obtain⟨y,hy⟩:∃y,o[j]?=some y:=⟨_,a00<|a1e hj<|id<|Eq.symm L⟩
 obtain⟨kd,m⟩:∃kd,c.ks[j]?=some kd:=⟨_,a00 hj⟩
 haveI ev:bk r G y=pi kd (r%2) _:=by
  haveI:(o.map<|bk r G)[j]?=(c.ks.map λk=>pi k (r%2)<|match c.tw with|true=>r%2|false=>r/2)[j]?:=by simp only [hv]
  simp only [a0c,a0c,hy,m] at this;injection this
 haveI l:N.At H:=⟨g.get _ _ (i hN.ins' λU z=>by cases z) hN.ins',g.get _ _ (i hN.ns' λU z=>by cases z) hN.ns',g.get _ _ (i hN.hi λU z=>by cases z) hN.hi,g.get _ _ (i hN.ho λU z=>by cases z) hN.ho,g.get _ _ (i hN.hc λU z=>by cases z) hN.hc,hN.io,hN.ic,hN.oc⟩
 haveI hO':=g.get _ _ (i hO λU z=>by cases z) hO;haveI hk':=g.get _ _ (i hk λU z=>by cases z) hk;haveI ho:=l.ho;rw[e2] at ho;haveI p:=l.hc;rw[e3] at p;haveI q125:=(s 125 rfl).trans v;haveI q148:=(s 148 rfl).trans A;haveI q110:=(s 110 rfl).trans u;haveI q45:=(s 45 rfl).trans k45;haveI q46:=(s 46 rfl).trans k46;walk_at"w";delta JA;repeat (first|walk_at"w"|refine l.attr rfl ?_)
 refine az (aQ ho rfl) ?_;walk_at"W";refine az  rfl  ?_;walk_at"W";refine az (aQ hO'<|by unfold bl;simp only [a0c,hy];rfl) ?_;walk_at"W";haveI Y:=ol y<|a0Z hy;refine B4 GO (Wk ‹_›<|by decide) _ y (WR Y<|Wk (Wo gl 4)<|Wk (by decide)<|WL 35 n) Y _ _ _ _ g.wf p hd K' _ _ λD2 H2 g2 hd2 K2=>?_;haveI hk2:=g2.get _ _ (i hk λU z=>by cases z) hk';walk_at"W";refine az (aQ hk2<|by simp only [a0c,m];rfl) ?_;walk_at"W";refine(GY (OX hc<|a0Z m) (a1G _<|by decide)<|by cases c.tw;exact a1O hr;exact a1G _<|by decide).w ?_;refine i3 (show neg (some<|ieq _<|.ofNat _)=_ by simp only [ev,(dc _ _).mpr rfl];rfl) ?_;walk_at"W";refine⟨λz hz=>?_,g.trans g2,D2,hd2,K2⟩;simp only [DO hz];exact s z hz
theorem wU:∀t∈cT 2,0<=t:=by decide
theorem DN {N:NL} (w:WF H) (so:s.Ok) (nd:rB s.cs) (hc:c∈bw) (hN:N.At H) (e1:N.ins=[.tup [.str [97],.ref L']]) (hL:ac H L'=some (.lst [.int 2,.int 3]))
  (e2:N.outs=[.tup [.str [121],.ref O']]) (hO:ac H O'=some (.lst<|bl ons)) (e3:N.cells=bS 0 G) (M:I5 s c G ons) (hk:ac H kR=some (.lst<|c.ks.map V.str)) (L:bp H l s.cs)
  (q:∀J,aJ H J->Q (.bool true) J):W (bG (n+36) 84 [.ref N.ref,.ref kR,.bool c.tw,.ref l] H) Q X:=by
 obtain⟨j,B⟩:=M.bi;haveI hlen:=M.ol.trans<|mJ hc;haveI hks:c.ks.length<3:=by exact(mJ hc)▸(kA hc).2
 haveI Y:=hN.hi;rw[e1] at Y;haveI ho:=hN.ho;rw[e2] at ho;haveI hcs:=hN.hc;rw[e3] at hcs;refine bE (ax rfl) rfl (let j:=bG _;cK (cl:=j) rfl ?_);refine aE<|lP<|ni ?_;refine iq ?_;repeat (first|walk_at"w"|refine hN.attr rfl ?_)
 refine nV (f:=id) (g:=λU=>[.tup [.str [97],.int 2]]) (l:=[V.tup [.str [97],.ref L']]) rfl Y rfl (by show 1<=4000;decide) rfl (by show 1<=4000;decide) (λx t=>?_)<|fy w λaR H1 D ha U=>?_
 .obtain rfl:=VS t
  refine bK _ rfl<|ci ?_;walk_at"W";refine j4 hL ?_;walk_at"W";exact⟨rfl,rfl⟩
 walk_at"W";refine bg D.wf rfl λbR H2 G2 hb U=>?_;haveI A:=G2.get _ _ ha;refine i3 (nq A hb rfl) ?_;haveI k:=D.trans G2;haveI hN2:=hN.grow k;walk_at"W";refine iq ?_;repeat (first|walk_at"w"|refine hN2.attr rfl ?_)
 refine nV (f:=id) (g:=λU=>[.tup [.str [121],.int<|.ofNat c.ks.length]]) (l:=[V.tup [.str [121],.ref O']]) rfl (k.get _ _ ho) rfl (by show 1<=4000;decide) rfl (by show 1<=4000;decide) (λx t=>?_)<|fy k.wf λaR H3 D ha U=>?_
 .obtain rfl:=VS t
  refine bK _ rfl<|ci ?_;walk_at"W";refine j4 (k.get _ _ hO) ?_;walk_at"W";refine qL (show(bl ons).length=c.ks.length by unfold bl;rw[XK,hlen]) ?_;exact⟨rfl,rfl⟩
 walk_at"W";refine jj (D.get _ _<|k.get _ _ hk) ?_;walk_at"W";refine bg D.wf rfl λbR H4 G2 hb U=>?_;haveI A:=G2.get _ _ ha;refine i3 (nq (r:=true) A hb ?_) ?_
 .show some (true&&(((true&&seq [121] [121])&&ieq _ _)&&true))=_
  rw[(dc _ _).mpr rfl];rfl
 haveI G04:=k.trans<|D.trans G2;walk_at"W";refine bg G04.wf rfl λfR H5 G5 hf f0=>?_;have o:=G04.trans G5;have ff:∀x cc,ac H x=some cc->x≠fR:=λx cc t z=>by rw[z] at t;have:=G04.get _ _ t;rw[f0] at this;cases this
 haveI hN5:=hN.grow o;repeat (first|walk_at"w"|refine hN5.attr rfl ?_)
 refine xq nd o.wf (L.grow o) (o.get _ _ hcs) hf (ff _ _ hcs) (ff _ _ L.lst) (λi g hg=>⟨(B.ok i g hg).1,(B.ok i g hg).2.1⟩) (by haveI:=M.few;exact Wk ‹_›<|by decide) (by walk_at"lk") (by walk_at"lk") (by walk_at"lk") λσ6 H6 v S6 hf6 k121=>?_;have G06:aJ H H6:=⟨λx cc t=>S6.get x cc (ff x cc t)<|o.get x cc t,S6.wf⟩
 haveI fl:=jH G 0;have gl:=M.few;haveI un:=(uL B).1;haveI uo:=(uL B).2;haveI q125:=(v 125 rfl).trans (show _=some _ by walk_at"lk");haveI q148:=(v 148 rfl).trans (show _=some _ by walk_at"lk");haveI q149:=(v 149 rfl).trans (show _=some _ by walk_at"lk");haveI q143:=(v 143 rfl).trans (show _=some _ by walk_at"lk");have q156:=(v 156 rfl).trans (by walk_at"lk");walk_at"W";obtain⟨tk,u⟩:∃tk,(((iK 0 G).map (·.1)).map λx=>Int.ofNat x)=tk:=⟨_,rfl⟩
 haveI nd1:tk.Nodup:=by exact u▸(AA un)
 have tl:tk.length<4000:=by rw[<-u,XK,XK];exact fQ (Wk (jH G 0) gl) (by decide)
 haveI hin:∀p∈iK 0 G,(tk.any λj=>ieq j _)=false:=λp hp=>by refine qR u ?_;refine Zj.mpr ?_;intro x t e;refine aI (VT t) λy hy q2_=>?_;subst q2_;refine aI (VT hy) λq' hq' q2_=>?_;subst q2_;exact uo p hp q' hq'<|bo<|aD e
 refine iq (aO (by walk_at"lk")<|nV rfl hf6 rfl (Wk (Wk (jH G 0) gl)<|by decide) (u▸(Ej _)) (by unfold bD;rw[XK];exact WO ‹_›) (λp hp=>⟨_,rfl,ci ?_⟩)<|fy G06.wf λm j G7 ht U=>?_)
 .walk_at"W"
  refine az  rfl  ⟨rfl,rfl⟩
 refine bf rfl ?_;walk_at"W";refine OP ht nd1 tl<|fy G7.wf λj H8 G8 hse U=>?_;walk_at"W";refine LM hse ?_;walk_at"W";refine j4 (G8.get _ _ ht) ?_;refine i3 (show neg (some<|ieq _ _)=_ by rw[(dc _ _).mpr rfl];rfl) ?_;walk_at"W";haveI G78:=G7.trans G8;refine iq (aO (by walk_at"lk") ?_);refine nV (wa<|by walk_at"lk") (G78.get _ _ hf6) rfl (Wk (Wk (jH G 0) gl)<|by decide) (E0 _) (by decide) (λp hp=>⟨_,rfl,nw ?_⟩)<|fy G8.wf λaR j G9 ha U=>?_
 .walk_at"W"
  refine az  rfl  ?_;walk_at"W";refine i3 (show Ja H8 (.int _) _=_ by rw[CM<|G8.get _ _ ht];show Pg _ _=_;delta bD;rw[yt,hin p hp]) ⟨rfl,rfl⟩
 walk_at"W";refine bg G9.wf rfl λbR H10 G10 hb U=>?_;haveI A:=G10.get _ _ ha;refine i3 (nq A hb rfl) ?_;haveI G010:=G06.trans<|G78.trans<|G9.trans G10;walk_at"W";haveI GO:Ho G:=λi g hg=>by
  refine kh (B.ok i g hg) λa1 a2 a3=>?_;haveI:g.ins.length<=2/\0<=g.ce.tb:=by
   rcases a0P.mp a1 with h|h
   .refine kh (so.gt _ h) λb1 b2 U=>?_
    exact⟨by rw[b1] at a2;exact WX<|bo (b:=2) a2,wU _ b2⟩
   .refine kh (so.iv _<|Option.mem_toList.mp h) λb1 b2 U=>?_
    exact⟨by rw[b1] at a2;exact Wk (WX<|bo (b:=1) a2)<|by decide,by rw[b2];decide⟩
  exact⟨this.1,a3,this.2⟩
 refine bW (by decide) ?_;let I2_:Nat->Sg->Hp->Prop:=λr d J=>iz d [(125,.ref N.ref),(148,.ref kR),(149,.bool c.tw),(143,.ref l),(121,.int<|uf G)]/\aJ H J;refine eA (I:=I2_) (by decide)
  ⟨by walk_at"lq",G010⟩ (λσ' J h=>?_) λr hr σ' J h=>?_
 .obtain⟨Kz,g⟩:=h
  walk_at"W";refine zL g.wf (hN.grow g) (by rw[F3];exact e3) (by rw[Ab];exact Wk ‹_›<|by decide) (L.grow g) nd (λH2 O U=>?_)  λH2 O r hr e=>?_
  .walk_at"W"
   refine i6 ?_<|q _<|g.trans O;show some (ieq (ER s.cs _) _)=_;exact qL (show ER s.cs _=uf G from HB nd G 0 0 λg hg=>by obtain⟨i,Y,rfl⟩:=a1M hg;exact(B.ok i _<|a00 Y).1)<|qL ((dc _ _).mpr rfl) rfl
  .refine aI (v4 G 0 hr) λg0 j m=>?_
   obtain⟨i,Y,rfl⟩:=a1M j;rw[m,yA nd (B.ok i _<|a00 Y).1] at e;cases e
 .obtain⟨Kz,g⟩:=h
  refine hH rfl λN1 B1 C1 gN U U=>?_;walk_at"W";refine C6 ?_;walk_at"W";refine xj (m:=dK V.int [(0,.int 0),(1,.int 1)]) rfl rfl<|fy g.wf λkn H1 D hd d0=>?_;haveI g1:=g.trans D;have dn:∀m∈[kn],ac H m=none:=λm hm=>by
   rw[VS hm];cases z:ac H kn with
   |none=>rfl
   |some cc=>rw[g.get _ _ z] at d0;cases d0
  repeat (first|refine gh (Sr r) ?_|refine gh (RI r) ?_|walk_at"w")
  refine cW ?_;haveI hN1:=hN.grow g1;repeat (first|walk_at"w"|refine hN1.attr rfl ?_)
  refine az (aQ (g1.get _ _ Y) rfl) ?_;walk_at"W";refine az  rfl  ?_;walk_at"W";refine az (aQ (g1.get _ _ hL) rfl) ?_;refine i8 jc hd (by decide)<|x9 (c':=.dct<|dK V.int [(0,.int 0),(1,.int 1),(2,.int _)]) g1.wf hd λH2 S1 hd1=>?_;have O:=aH.fresh g1 dn<|S1.m<|.head _;refine aE<|cW ?_;haveI hN2:=hN.grow O;repeat (first|walk_at"w"|refine hN2.attr rfl ?_)
  refine az (aQ (O.get _ _ Y) rfl) ?_;walk_at"W";refine az  rfl  ?_;walk_at"W";refine az (aQ (O.get _ _ hL) rfl) ?_;refine i8 jc hd1 (by show 3<1000;decide)<|x9 (c':=.dct<|dK V.int [(0,.int 0),(1,.int 1),(2,.int _),(3,.int _)]) O.wf hd1 λH3 S2 hd2=>?_;have j:=aH.fresh O dn<|S2.m<|.head _;haveI hN3:=hN.grow j;refine aE (lP<|jN<|aO (by walk_at"lk") ?_);haveI hv:=(M.val r hr).trans<|Aj hc hr;rcases Bool.eq_false_or_eq_true c.tw with e|e
  .refine kY (by rw[e];rfl) ?_
   walk_at"W";refine jj (j.get _ _ hk) ?_;refine bW (Wk ‹_›<|by decide) ?_;exact nR j.wf hc hN3 GO gl hr e2 (j.get _ _ hO) e3 (j.get _ _ hk) M.lt hv hd2 (TQ hr G) (by walk_at"lk") (by walk_at"lk") (by walk_at"lk") (by walk_at"lk") (by rw[e];walk_at"lk")
    λσ' J v gg=>gN _ _ ⟨iz.agree (by walk_at"lq") v rfl,aH.fresh j dn gg⟩
  .refine nZ (by rw[e];rfl) ?_
   walk_at"W";refine jj (j.get _ _ hk) ?_;refine bW (Wk ‹_›<|by decide) ?_;exact nR j.wf hc hN3 GO gl hr e2 (j.get _ _ hO) e3 (j.get _ _ hk) M.lt hv hd2 (TQ hr G) (by walk_at"lk") (by walk_at"lk") (by walk_at"lk") (by walk_at"lk") (by rw[e];walk_at"lk")
    λσ' J v gg=>gN _ _ ⟨iz.agree (by walk_at"lq") v rfl,aH.fresh j dn gg⟩
noncomputable def KC:List Nat:=[97,110,100]
noncomputable def mA:List Nat:=[110,97,110,100]
noncomputable def Ai:List Nat:=[111,114]
noncomputable def Al:List Nat:=[110,111,114]
noncomputable def Mo:List Nat:=[120,111,114]
def pI (k:List Nat):List (List Int):=match seq KC k||(seq mA k||false) with
 |true=>[[8]]
 |false=>(match seq Ai k||(seq Al k||false) with|true=>[[1]]|false=>[[2],[4],[9,1]])
structure SK (H0 H:Hp) (m:Nat) (ps:List<|Nat×List Int):Prop where
 lst:ac H m=some (.lst<|ps.map λp=>V.ref p.1)
 m0:ac H0 m=none
 row:∀p∈ps,ac H p.1=some (.lst<|bD p.2)/\ac H0 p.1=none
theorem Er (w:WF H) (q:∀m s b,aJ H b->s.map (·.2)=pI k->SK H b m s->Q (.ref m) b):W (bG (n+1) 81 [.str k] H) Q X:=by
 refine bE (ax rfl) rfl (let l:=bG n;cK (cl:=l) rfl ?_);have one:∀(a:Int),(∀m s b,aJ H b->s.map (·.2)=[[a]]->SK H b m s->Q _ b)->W _ (λv b=>W (fU [v] b) Q X) X:=λa q=>by exact bg w rfl λA u G o N=>bg G.wf rfl λm x c M r=>q _ [(A,[a])] _ (G.trans c) rfl ⟨M,G.old r,λp i=>by rw[VS i];exact⟨c.get _ _ o,N⟩⟩
 walk_at"W";refine kH (show gU .inn _ (.tup [.str KC,.str mA]) H=some _ from rfl) (λe=>?_)  λe=>?_
 .walk_at"W"
  refine(one 8 λm s b g j h=>q m s b g (by unfold pI;exact e▸j) h).imp λv b h=>?_;walk_at"W";exact h
 .walk_at"W"
  refine kH (show gU .inn _ (.tup [.str Ai,.str Al]) H=some _ from rfl) (λl=>?_)  λl=>?_
  .walk_at"W"
   refine(one 1 λm s b g j h=>q m s b g (by unfold pI;rw[e,l];exact j) h).imp λv b h=>?_;walk_at"W";exact h
  .walk_at"W"
   refine bg w rfl λA u G o N=>?_;walk_at"W";refine bg G.wf rfl λy x c D L=>?_;walk_at"W";refine bg c.wf rfl λz Y d J O=>?_;walk_at"W";refine bg d.wf rfl λm H4 f M r=>?_;haveI t:=G.trans<|c.trans d;refine q _ [(A,[2]),(y,[4]),(z,[9,1])] _ (t.trans f) (by unfold pI;rw[e,l];rfl) ⟨M,t.old r,λp i=>?_⟩;simp only [Z6,Xu,or_false] at i;rcases i with rfl|rfl|rfl
   .exact⟨(c.trans<|d.trans f).get _ _ o,N⟩
   .exact⟨(d.trans f).get _ _ D,G.old L⟩
   .exact⟨f.get _ _ J,(G.trans c).old O⟩
theorem Dp {b:Type} {f:b->V} {g:b->List V} {l:List b}
  (h:W (y L c H) (λv H=>∃n,v=.ref n/\ac H n=some (.lst<|l.map f)/\WF H/\fE c t/\l.length<=4000/\
   (∀x∈l,∃j,cU c t (f x)=some j/\∀d,aJ H d->W (o L j d) (λa k=>a=g x/\aJ d k) XF)/\∀d,aJ H d->Q (l.flatMap g) d) XF):W (lT t y o L c H) Q XF:=by
 refine W.bind0<|h.imp λv H h=>?_;refine UA h λn m N z r s p q=>?_;subst m;refine aI (BZ _ (λi d G=>jn<|G.get _ _ N) (λx u=>aI (p x u) λj e w=>bK j e λd G=>(w d G).imp λa k h=>⟨h.1,G.trans h.2⟩) cS 0 H (aJ.refl z) (VY _)<|VW s<|by decide) λd e G=>r▸?_;refine qL e ?_;exact q d G
theorem mz {b c:Type} {g:b->List c}:∀l:List b,(∀x∈l,(g x).length<=k)->(l.flatMap g).length<=l.length*k:=by
 intro z;induction z with
 |nil=>intro _;show 0<=_;exact VY _
 |cons x l i=>intro h;refine qL a1m<|qL Yb ?_;haveI d:=h x<|.head _;haveI e:=i λy H=>h y<|.tail _ H;show _<=(l.length+1)*k;exact Wk (WT ‹_›<|by assumption)<|WX<|(Wm _ _).trans (Nat.succ_mul _ _).symm
noncomputable def Hl (p:Int->Int->Bool) (g:List Ce) (t:List Int):List V:=t.flatMap λw=>g.flatMap λc=>cond (p c.tb w) [V.int w] []
theorem HH (p:Int->Int->Bool) (G:List Ce) (t:List Int):(Hl p G t).length<=t.length*G.length:=by
 refine mz t λw U=>?_;haveI:=mz (g:=λc:Ce=>cond (p c.tb w) [V.int w] []) G λc U=>(by cases p c.tb w with|true=>exact XA 1|false=>exact VY 1)
 rw[a1S] at this;exact this
theorem j9 (p:Int->Int->Bool) (g:List Ce):∀t:List Int,(Hl p g t).isEmpty=!(t.any λw=>g.any λc=>p c.tb w):=by
 intro z;induction z with
 |nil=>exact rfl
 |cons w t i=>
  haveI one:∀g:List Ce,(g.flatMap λc=>cond (p c.tb w) [V.int w] []).isEmpty=!(g.any λc=>p c.tb w):=λg=>by
   induction g with
   |nil=>rfl
   |cons c g h=>
    simp;cases e:p c.tb w with
    |true=>rfl
    |false=>trivial
  delta Hl;simp only [a1m,Xv,Bool.not_or,<-one g,<-i];generalize (g.flatMap λc=>cond _ [V.int w] [])=a;cases a<;>rfl
theorem nc:∀l:List V,ot l []=some l.isEmpty
 |[]=>rfl
 |_::_=>rfl
theorem Bg (b:t∈cT 2) (c:w∈dq) (q:Q (.bool<|helpedT t w) H):W (bG (n+1) 78 [.int t,.int w] H) Q X:=by refine M4 (CG c) λl f d G=>?_;haveI h:=(G.fit t b).hd;rw[G.hq t b] at h;exact h.w q
theorem zd (w:WF H) (L:bp H u s) (z:ac H D=some (.lst<|bD t)) (l:t.length<=8) (k:look b 150=some (.ref D)) (i:look b 152=some (.ref u))
  (y:∀c∈s,∀w∈t,∀d h,WF h->c.At h->look d 153=some (.ref c.ref)->look d 62=some (.int w)->∀Q:V->Hp->Prop,(∀f,aJ h f->Q (.bool<|p c.tb w) f)->W (e (bG n) d h) Q XF)
  (q:∀m h,aJ H h->ac h m=some (.lst<|Hl p s t)->Q (.ref m) h):W (bQ [152] (.loc 62) (ab 150) (lT (.loc 153) (ab 152)<|l9 (aW e)<|cr<|ab 62) (bG n) b H) Q X:=by
 refine iq<|aO k ?_;refine DE (g:=λw=>s.flatMap λc=>cond (p c.tb w) [V.int w] []) (wa i) z w rfl (Wk ‹_›<|by decide) rfl (by haveI j:=HH p s t;haveI o:=Nat.mul_le_mul l L.len;exact Wk j<|Wk o<|by decide) (λx A=>⟨_,rfl,λh G=>?_⟩)  λh G=>?_
 .refine Dp (aO (by walk_at"lk") ⟨u,rfl,(L.grow G).lst,G.wf,rfl,by haveI:=L.len;exact Wk ‹_›<|by decide,λc v=>⟨_,rfl,λr j=>nw ?_⟩,λr j=>⟨rfl,j⟩⟩)
  refine jN (y c v x A _ r j.wf (((L.cell c v).grow G).grow j) (by walk_at"lk") (by walk_at"lk") _ λJ o=>?_);cases M:p c.tb x with
  |true=>refine kY rfl<|ci ?_;walk_at"W";exact⟨rfl,o⟩
  |false=>exact nZ rfl ⟨rfl,o⟩
 .exact q _ _ (G.trans<|ba G.wf _)<|bA _ _
def Pu:S:=ad [ai (.loc 151)<|bQ [152] (.loc 62) (ab 150)<|lT (.loc 153) (ab 152)<|l9 (aW<|ag 77 [al (ab 153) 38,ab 62,eK<|.int 2])<|cr<|ab 62,ai (.loc 154)<|bQ [152] (.loc 62) (ab 150)<|lT (.loc 153) (ab 152)<|l9 (aW<|ag 78 [al (ab 153) 38,ab 62])<|cr<|ab 62,br (aw .eq (ab 154)<|aT []) (ad [aM<|aj mt (ab 54) 0 [eK<|.str [110,111,95,99,101,108,108]]])<|ad [br (gX [aw .eq (ab 151)<|aT [],pK<|aW<|ab 124]) (ad [aM<|aj mt (ab 54) 0 [eK<|.str [110,111,95,105,110,118,101,114,116,101,114]]])<|ad []]]
def oA (s:aN) (t:List Int):Bool:=t.any λw=>s.gates.any λc=>helpedT c.tb w
def rD (s:aN) (t:List Int):Bool:=t.any λw=>s.gates.any λc=>bI uk 2 c.tb w
def cO (s:aN) (t:List Int):List (List Nat):=match oA s t with
 |false=>[oP]
 |true=>(match !rD s t&&s.inv.isNone with|true=>[fH]|false=>[])
theorem sA (s:aN) (t:List Int):(cO s t).length<=1:=by
 delta cO;cases oA s t with
 |false=>exact XA 1
 |true=>
  cases !rD s t&&s.inv.isNone with
  |false=>exact VY 1
  |true=>exact XA 1
theorem bH.set (w:WF H) (c:aB):bH s H (bj H s c):=⟨λx p j h=>au (Xf j) h,de w _ _⟩
theorem pW (w:List<|List Nat) (k:List Nat):w.map V.str++[.str k]=(w++[k]).map V.str:=by simp only [a0n];rfl
theorem Ap (so:s.Ok) (w:WF v) (L:bp v gR s.gates) (gd:gR≠d) (P:SK H0 v m k) (d0:ac H0 d=some (.lst<|A.map V.str)) (hd:ac v d=some (.lst<|A.map V.str))
  (hps:∀p∈k,p.2.length<=8/\∀w∈p.2,w∈dq) (hpl:k.length<=100) (wl:A.length<=1000) (k152:look f 152=some (.ref gR)) (k124:look f 124=some (.bool s.inv.isSome)) (k54:look f 54=some (.ref d))
  (q:∀j o,(∀y,[150,151,154].contains y=false->look j y=look f y)->bH d v o->ac o d=some (.lst<|(A++k.flatMap λp=>cO s p.2).map V.str)->N j o):
  WS (jB (.loc 150) Pu (.ref m) (bG<|n+2) cS 0 f v) N B' C' T X:=by
 haveI md:m≠d:=λz=>by rw[z] at P;exact nomatch (P.m0.symm.trans d0)
 let I1_:Nat->Sg->Hp->Prop:=λi j o=>(∀y,[150,151,154].contains y=false->look j y=look f y)/\bH d v o/\ac o d=some (.lst<|(A++(k.take i).flatMap λp=>cO s p.2).map V.str);refine eM (I:=I1_) (Wk ‹_›<|by decide)
  ⟨λU U=>rfl,.refl w,by simp only [List.take_zero,a1T,Ya];exact hd⟩ (λi j o h=>h.2.1.get _ _ md P.lst) (λj o h=>?_) λi hi j o h=>?_
 .refine kh h λr g H=>?_
  rw[a05] at H;exact q j o r g H
 .refine kh h λr g hd1=>?_
  haveI M:=a03 hi;haveI htk:=a04 hi;haveI hlen:((k.take i).flatMap λp=>cO s p.2).length<=100:=by haveI:=mz (k.take i) λp U=>sA s p.2;rw[Zo] at this;exact Wk this (Wk (WX<|a1S _)<|Wk (Zp _ _)<|by assumption)
  generalize k[i]=p at*;haveI hp1:=(P.row p M).1;haveI hp0:=(P.row p M).2;obtain⟨hp8,hpw⟩:=hps p M;haveI pd:p.1≠d:=λz=>by rw[z] at hp0;exact nomatch (hp0.symm.trans d0)
  have hp2:=g.get _ _ pd hp1;have L1:=L.growS hd gd g;have q152:=(r 152 rfl).trans k152;haveI q124:=(r 124 rfl).trans k124;have q54:=(r 54 rfl).trans k54;have t:A++(k.take<|i+1).flatMap (λp=>cO s p.2)=(A++(k.take i).flatMap λp=>cO s p.2)++cO s p.2:=by simp only [htk,a1U,<-Yg];show _++(cO s p.2++[])=_;simp only [Ya]
  generalize hws:(A++(k.take i).flatMap λp=>cO s p.2)=ws1 at*;have Ur:ws1.length<=2000:=by simp only [<-hws,Yb];exact CH ‹_› hlen (by decide)
  walk_at"w";refine aE<|fe ?_;refine zd (p:=bI uk 2) g.wf L1 hp2 hp8 (by walk_at"lk") (by walk_at"lk") (λc hc w x u H2 wf hC k153 k62 Q hQ=>?_) λa H2 G2 ha=>?_
  .repeat (first|walk_at"w"|refine hC.attr rfl ?_)
   exact nH tQ (.inl rfl) (so.gt c hc).2.1 wf hQ
  refine bf rfl<|aE<|fe ?_;refine zd (p:=helpedT) G2.wf (L1.grow G2) (G2.get _ _ hp2) hp8 (by walk_at"lk") (by walk_at"lk") (λc hc w x u H2 wf hC k153 k62 Q hQ=>?_) λb H3 G3 hb=>?_
  .repeat (first|walk_at"w"|refine hC.attr rfl ?_)
   exact Bg (so.gt c hc).2.1 (hpw w x)<|hQ _<|.refl wf
  refine bf rfl ?_;walk_at"W";refine bg G3.wf rfl λzR H4 G4 h0 U=>?_;have O:=G2.trans<|G3.trans G4;haveI D:=O.get _ _ hd1;haveI gS:=g.trans O.s;haveI none:∀{u:Sg} {Y:Hp},bH d v Y->ac Y d=some (.lst<|ws1.map V.str)->cO s p.2=[]->(∀y,[150,151,154].contains y=false->look u y=look f y)->
    (∀y,[150,151,154].contains y=false->look u y=look f y)/\bH d v Y/\ac Y d=some (.lst<|(A++(k.take<|i+1).flatMap λp=>cO s p.2).map V.str):=λg5 H x kk=>⟨kk,g5,by simp only [H,t,x,Ya]⟩
  refine kH ((iI (G4.get _ _ hb) h0).trans<|nc _) (λe=>?_)  λe=>?_
  .rw[j9] at e
   have eH:oA s p.2=false:=by unfold oA;cases z:(p.2.any λw=>s.gates.any λc=>helpedT c.tb w) with|false=>rfl|true=>rw[z] at e;cases e
   haveI x:cO s p.2=[oP]:=by unfold cO;simp only [eH]
   refine aE (bx<|aF<|aO (by walk_at"lk")<|eL D ?_);walk_at"W";refine eC D (by simp only [XK];exact VW ‹_›<|by decide)<|wu ?_;walk_at"W";refine mP (aK (aK (aK r rfl) rfl) rfl) (gS.trans<|.set gS.wf _) ?_;simp only [aV D,t,x];exact Wh (λl=>some _)<|pW _ _
  .rw[j9] at e
   have eH:oA s p.2=true:=by unfold oA;cases z:(p.2.any λw=>s.gates.any λc=>helpedT c.tb w) with|true=>rfl|false=>rw[z] at e;cases e
   walk_at"W";refine bg G4.wf rfl λyR Y G5 h5 U=>?_;have H:=G5.get _ _ D;haveI G:=gS.trans G5.s;refine kH ((iI (G5.get _ _<|G4.get _ _<|G3.get _ _ ha) h5).trans<|nc _) (λJ=>?_)  λJ=>?_
   .rw[j9] at J
    haveI eS:rD s p.2=false:=by unfold rD;cases z:(p.2.any λw=>s.gates.any λc=>bI uk 2 c.tb w) with|false=>rfl|true=>rw[z] at J;cases J
    walk_at"W";refine mD  rfl  (λe3=>?_)  λe3=>?_
    .walk_at"W"
     refine none G H ?_<|aK (aK (aK r rfl) rfl) rfl;delta cO;simp only [eH];cases z:s.inv with
     |none=>rw[z] at e3;cases e3
     |some c=>simp
    .haveI x:cO s p.2=[fH]:=by
      delta cO;simp only [eH,eS];cases z:s.inv with
      |none=>rfl
      |some c=>rw[z] at e3;cases e3
     walk_at"W";refine bx (aF<|aO (by walk_at"lk")<|eL H ?_);walk_at"W";refine eC H (by simp only [XK];exact VW ‹_›<|by decide)<|wu ?_;walk_at"W";refine mP (aK (aK (aK r rfl) rfl) rfl) (G.trans<|.set G.wf _) ?_;simp only [aV H,t,x];exact Wh (λl=>some _)<|pW _ _
   .rw[j9] at J
    have eS:rD s p.2=true:=by unfold rD;cases z:(p.2.any λw=>s.gates.any λc=>bI uk 2 c.tb w) with|true=>rfl|false=>rw[z] at J;cases J
    walk_at"W";refine none G H ?_<|aK (aK (aK r rfl) rfl) rfl;delta cO;simp only [eH,eS];rfl
theorem EW (h:W (x l c H) (λv d=>∃b,v=.bool b/\(b=true->Q (.bool true) d)/\(b=false->W (y l c d) Q X)) X):W (MY [x,y] l c H) Q X:=
 W.bind (h.imp λv d h=>by
  refine e7 h λb q e f=>?_;subst q;induction b with
  |true=>exact e rfl
  |false=>exact f rfl)
def o9 (t:Bool) (s:List<|List Nat):Bool:=s.any λk=>match t with
 |true=>seq mA k||(seq Al k||false)
 |false=>seq mA k||(seq Ai k||(seq Mo k||false))
def db (s:aN) (t:Bool) (b:List<|List Nat):List (List Nat):=match t with
 |true=>[]
 |false=>b.flatMap λk=>(pI k).flatMap<|cO s
def fu (s:aN) (t:Bool) (k:List<|List Nat):List (List Nat):=match(db s t k).isEmpty&&(o9 t k&&s.inv.isNone) with
 |true=>db s t k++[fH]
 |false=>db s t k
theorem oY (k:List Nat):(pI k).length<=3/\∀t∈pI k,t.length<=8/\∀w∈t,w∈dq:=by
 haveI h:([[8]]:List _).length<=3/\∀t∈([[8]]),t.length<=8/\∀w∈t,w∈dq:=by decide
 haveI H:([[1]]).length<=3/\∀t∈([[1]]),t.length<=8/\∀w∈t,w∈dq:=by decide
 haveI b:([[2],[4],[9,1]]:List<|List Int).length<=3/\∀t∈([[2],[4],[9,1]]),t.length<=8/\∀w∈t,w∈dq:=by decide
 delta pI;cases seq KC k||(seq mA k||false) with
 |true=>exact h
 |false=>
  cases seq Ai k||(seq Al k||false) with
  |true=>exact H
  |false=>exact b
theorem lD (s:aN) (t:Bool) (b:List<|List Nat):(db s t b).length<=b.length*3:=by
 induction t with
 |true=>exact VY _
 |false=>refine mz b λk U=>?_;haveI:=mz (pI k) λc U=>sA s c;haveI:=(oY k).1;exact Wk ‹_› (Wk (WX<|a1S _)<|by assumption)
theorem u7 (s:aN) (t:Bool) (b:List<|List Nat) (k:List Nat):db s t (b++[k])=db s t b++(match t with|true=>[]|false=>(pI k).flatMap<|cO s):=by
 delta db;induction t with
 |true=>rfl
 |false=>dsimp only;simp only [a1U,a1m,a1T,Ya]
theorem BA (t:Bool) (s:List<|List Nat) (k:List Nat):o9 t (s++[k])=(o9 t s||(match t with|true=>seq mA k||(seq Al k||false)|false=>seq mA k||(seq Ai k||(seq Mo k||false)))):=by delta o9;rw[a06,Xv,a1n,a1o]
theorem xU (so:s.Ok) (w:WF H) (hk:ac H kR=some (.lst<|j.map V.str)) (kl:j.length<=50) (L:bp H Y s.gates)
  (q:∀d o,aJ H o->ac o d=some (.lst<|(fu s t j).map V.str)->Q (.ref d) o):W (bG (n+3) 82 [.ref kR,.bool t,.ref Y,.bool s.inv.isSome] H) Q X:=by
 refine bE (ax rfl) rfl (let cl:=bG<|n+2;cK (cl:=cl) rfl ?_);walk_at"W";refine bg w rfl λd H1 y hd d0=>?_;have N:∀{x:Nat} {u},ac H x=some u->x≠d:=λh z=>by rw[z,d0] at h;cases h
 have gG:∀{o:Hp},bH d H1 o->aJ H o:=λg=>⟨λx u v=>g.get x u (N v)<|y.get x u v,g.wf⟩
 walk_at"W";let M:Nat->Sg->Hp->Prop:=λi f o=>iz f [(149,.bool t),(152,.ref Y),(124,.bool s.inv.isSome),(54,.ref d),(147,.bool<|o9 t<|j.take i)]/\bH d H1 o/\ac o d=some (.lst<|(db s t<|j.take i).map V.str);refine iS (I:=M) (Wk ‹_›<|by decide)
  ⟨by walk_at"lq",.refl y.wf,by simp only [hd];cases t<;>rfl⟩ (λi f o h=>h.2.1.get _ _ (N hk)<|y.get _ _ hk) (λf o h=>?_) λi k hi U U htk f o h=>?_
 .refine kh h λKz g D=>?_
  rw[a05] at Kz D;haveI wl:=lD s t j;haveI J:=gG g;walk_at"W";refine bg g.wf rfl λzR A G h0 U=>?_;have m:=G.get _ _ D;have fin:∀(b:Bool),((db s t j).isEmpty&&(o9 t j&&s.inv.isNone))=false->Q _ A:=λU hb=>q d A (J.trans G) (by unfold fu;simp only [hb];exact m);have O:((db s t j).map V.str).isEmpty=(db s t j).isEmpty:=by cases db s t j<;>rfl
  refine kH ((iI m h0).trans<|nc _) (λe=>?_)  λe=>?_
  .rw[O] at e
   walk_at"W";refine mD  rfl  (λp=>?_)  λp=>?_
   .walk_at"W"
    refine mD  rfl  (λb=>?_)  λb=>?_
    .walk_at"W"
     exact fin true (by cases z:s.inv with|none=>rw[z] at b;cases b|some c=>simp only [a1V,Yp])
    .walk_at"W"
     refine bx (aF<|aO (by walk_at"lk")<|eL m ?_);walk_at"W";refine eC m (by simp only [XK];exact fQ (Wk (lD s t j)<|a1P 3<|by assumption)<|by decide)<|wu ?_;walk_at"W";refine q d _ ⟨λx u v=>au (Xf<|N v)<|(J.trans G).get x u v,de G.wf _ _⟩ ?_;refine qL (aV m) ?_;delta fu;refine qL e<|qL p ?_;cases z:s.inv with
     |some c=>rw[z] at b;cases b
     |none=>exact Wh (λl=>some _)<|pW _ _
   .walk_at"W"
    exact fin true (by simp only [p,a1W,Yp])
  .replace e:=O.symm.trans e
   walk_at"W";exact fin true (by simp only [e,a1W])
 .refine kh h λKz g D=>?_
  haveI wl:=lD s t<|j.take i;haveI tl:(j.take i).length<=50:=by simp only [Zo];exact Wk (Zp _ _) ‹_›
  haveI es:=u7 s t (j.take i) k;haveI b:=BA t (j.take i) k;rw[<-htk] at es b;refine hH rfl λN1 B1 C1 gN U U=>?_;walk_at"W";refine mD  rfl  (λe=>?_)  λe=>?_
  .subst e
   walk_at"W";refine EW (aO (by walk_at"lk") ⟨_,rfl,λe=>?_,λe=>?_⟩)
   .rw[e,Z0] at b
    walk_at"W";exact mP (.cons (by walk_at"lk")<|.cons (by walk_at"lk")<|.cons (by walk_at"lk")<|.cons (by walk_at"lk")<|.cons (by simp only [jh,b]) .nil) g ‹_›
   .rw[e,a1X] at b
    walk_at"W";refine i6 (r:=seq mA k||(seq Al k||false)) rfl ?_;walk_at"W";exact mP (.cons (by walk_at"lk")<|.cons (by walk_at"lk")<|.cons (by walk_at"lk")<|.cons (by walk_at"lk")<|.cons (by simp only [jh,b]) .nil) g ‹_›
  .subst e
   haveI l:∀c:Sg,iz c [(149,.bool false),(152,.ref Y),(124,.bool s.inv.isSome),(54,.ref d),(147,.bool _)]->look c 6=some (.str k)->WS (ad [aP _ (ag 81 [ab 6]) Pu] cl c o) N1 B1 C1 Q X:=λc J j6=>by
    walk_at"W";refine Er g.wf λm ps A G O P=>?_;haveI np:=(oY k).1;haveI nt:=(oY k).2;refine Ap so G.wf ((L.grow<|gG g).grow G) (N L.lst) P D (G.get _ _ D) (λp hp=>?_) (by haveI:=Wh List.length O;rw[XK] at this;exact Wk (WX this)<|Wk np<|by decide) (Wk wl<|Wk (a1P 3 tl)<|by decide) (J.get rfl) (J.get rfl) (J.get rfl) λσ3 H3 ks3 g3 h3=>?_;.exact nt p.2 (by simp only [<-O];exact List.mem_map.mpr ⟨p,hp,rfl⟩)
    .refine cH<|gN _ _ ⟨J.agree ks3 rfl,(g.trans G.s).trans g3,?_⟩
     simp only [h3,es];simp only [<-O,List.flatMap_map]
   walk_at"W";refine EW (aO (by walk_at"lk") ⟨_,rfl,λe=>?_,λe=>?_⟩)
   .rw[e,Z0] at b
    refine bf rfl (l _ (.cons (by walk_at"lk")<|.cons (by walk_at"lk")<|.cons (by walk_at"lk")<|.cons (by walk_at"lk")<|.cons (by simp only [jh,b]) .nil)<|by walk_at"lk")
   .rw[e,a1X] at b
    walk_at"W";refine i6 (r:=seq mA k||(seq Ai k||(seq Mo k||false))) rfl (bf rfl<|l _ (.cons (by walk_at"lk")<|.cons (by walk_at"lk")<|.cons (by walk_at"lk")<|.cons (by walk_at"lk")<|.cons (by simp only [jh,b]) .nil)<|by walk_at"lk")
def rO (Q:List<|List Nat×Nat) (s:List Int):Bool:=Q.all (λq=>s.any λt=>ieq t<|.ofNat q.2)&&s.all λt=>Q.any λq=>ieq t<|.ofNat q.2
def IW (c:eF):List (List Int):=match c.tw with|true=>[]|false=>c.ks.flatMap pI
theorem Nr:bw.all (λc=>c.aig.ns.all λo=>match o with|none=>true|some p=>(IW c).any λt=>rO (cy<|some p) t):=rfl
theorem OM:bw.all (λc=>(IW c).all λt=>c.aig.ns.any λo=>match o with|none=>false|some p=>rO (cy<|some p) t):=rfl
theorem GI:bw.all (λc=>match o9 c.tw c.ks with|true=>(c.aig.outs.any λl=>Nat.beq (l%2) 1&&Nat.blt 0 (l/2))|false=>!(c.aig.outs.any λl=>Nat.beq (l%2) 1&&Nat.blt 0 (l/2))):=rfl
theorem Ck:((cT 2).all λt=>dq.all λw=>!bI uk 2 t w||helpedT t w):=rfl
theorem qa (h:rO Q s) (f:Int->Bool):(Q.any λq=>f<|.ofNat q.2)=s.any f:=by
 delta rO at h;simp only [XR] at h;haveI d:=h.1;haveI g:=h.2;rw[Bool.eq_iff_iff,a1Y,a1Y];constructor
 .rintro ⟨q,H,e⟩
  refine aI (a1Y.mp<|VU d q H) λt c b=>?_;exact bK t c<|(aD b)▸e
 .rintro ⟨t,c,e⟩
  refine aI (a1Y.mp<|VU g t c) λq H b=>?_;exact bK q H<|(aD b)▸e
theorem sT (s:aN) (c:eF):db s c.tw c.ks=(IW c).flatMap (cO s):=by
 unfold db IW;cases c.tw with
 |true=>rfl
 |false=>dsimp only;rw[List.flatMap_assoc]
theorem KY (H:c∈bw) {i:Nat} (h:c.aig.ns[i]?=some (some p)):∃t∈IW c,rO (cy<|some p) t:=by haveI:=VU (VU Nr c H) _<|a0Z h;exact a1Y.mp this
theorem Mc (H:c∈bw) (h:t∈IW c):∃(i:Nat) (p:Nat×Nat),c.aig.ns[i]?=some (some p)/\rO (cy<|some p) t:=by
 refine aI (a1Y.mp<|VU (VU OM c H) t h) λo O e=>?_;obtain⟨i,b,rfl⟩:=a1M O;cases z:c.aig.ns[i] with
 |none=>rw[z] at e;cases e
 |some p=>rw[z] at e;exact yu i p (qL (a00 b)<|qL z rfl) e
theorem zw (b:c∈bw):o9 c.tw c.ks↔nr c.aig.outs:=by
 haveI h:=VU GI c b;haveI e:(c.aig.outs.any λl=>Nat.beq (l%2) 1&&Nat.blt 0 (l/2))=true↔nr c.aig.outs:=by
  refine .trans a1Y ?_;constructor
  .rintro ⟨l,H,z⟩
   simp only [XR] at z;exact jy l H (W3 z.1) (by haveI:=(a0T).mp z.2;exact Za ‹_›)
  .rintro ⟨l,H,d,f⟩
   refine bK l H ?_;rw[d,(a0T).mpr<|Wj ‹_›];rfl
 refine e.subst ?_;cases z:o9 c.tw c.ks with
 |true=>rw[z] at h;exact⟨λU=>h,λU=>rfl⟩
 |false=>replace h:=z▸h;exact⟨λh=>(by cases h),λk=>by rw[k] at h;cases h⟩
theorem Ro (h:t∈IW c):∀w∈t,w∈dq:=by
 delta IW at h;split at h;.cases h
 .exact aI (a1s.mp h) λk U H=>((oY k).2 t H).2
theorem HP (o:s.Ok) (b:∀w∈t,w∈dq) (h:rD s t):oA s t:=by refine aI (a1Y.mp h) λw H h=>aI (a1Y.mp h) λg G h=>?_;haveI:=VU (VU Ck g.tb (o.gt g G).2.1) w<|b w H;rw[h] at this;exact a1Y.mpr ⟨w,H,a1Y.mpr ⟨g,G,this⟩⟩
theorem EL (s:aN) (t:List Int):t.any (zg s)=match s.inv with|some _=>oA s t|none=>rD s t:=by unfold zg oA rD;cases s.inv<;>rfl
theorem qI (O:s.Ok) (b:c∈bw) (h:ux s c.aig.ns):db s c.tw c.ks=[]:=by
 simp only [sT];refine List.flatMap_eq_nil_iff.mpr λt H=>?_;refine oi (Mc b H) λi p d f=>aI (h i p d) λq Q o=>?_;have e:t.any (zg s)=true:=by simp only [<-qa f];exact a1Y.mpr ⟨q,Q,o⟩
 rw[EL] at e;delta cO;cases z:s.inv with
 |some x=>rw[z] at e;simp only [e,a1V,Yp]
 |none=>rw[z] at e;simp only [HP O (Ro H) e,e];rfl
theorem El (o:s.Ok) (H:c∈bw) (h:ux s c.aig.ns) (b:s.inv=none->¬nr c.aig.outs):fu s c.tw c.ks=[]:=by
 delta fu;refine qL (qI o H h) ?_;haveI:(o9 c.tw c.ks&&s.inv.isNone)=false:=by
  cases z:s.inv with
  |some x=>simp
  |none=>
   cases e:o9 c.tw c.ks with
   |false=>rfl
   |true=>exact((b z)<|(zw H).mp e).elim
 rw[this];rfl
theorem EZ (O:s.Ok) (b:c∈bw) (h:Je s c D):D∈fu s c.tw c.ks:=by
 rcases h with⟨i,p,k,n,rfl⟩|⟨H,j,rfl,o⟩
 .refine aI (KY b k) λt d f=>?_
  haveI e:t.any (zg s)=false:=by rw[<-qa f,Zj];intro q Q;rw[n q Q];decide
  have w:oa s (cy<|some p)∈cO s t:=by
   haveI g:(cy _).any (λq=>pU s _)=oA s t:=qa f _;unfold oa cO;refine qL g ?_;rw[EL] at e;cases z:s.inv with
   |some x=>rw[z] at e;exact(show oA s t=false from e)▸(a0o.mpr rfl)
   |none=>
    rw[z] at e;cases oA s t with
    |false=>exact a0o.mpr rfl
    |true=>exact(show rD s t=false from e)▸(a0o.mpr rfl)
  haveI m:oa s (cy _)∈db s c.tw c.ks:=by rw[sT];exact a1s.mpr ⟨t,d,w⟩
  delta fu;split;.exact a1j _ m
  .exact m
 .delta fu
  refine qL (qI O b H)<|qL ((zw b).mpr o)<|qL j ?_;exact a0o.mpr rfl
theorem DI (h:WS (b l d H) N B f T (λv H=>∃r,pZ c v (look d x) H=some r/\T (.bool r) H)):WS (ny b c x l d H) N B f T X:=by
 unfold WS ny;delta WS at h;cases e:b l d H with
 |ok p g=>rw[e] at h;exact h
 |no w=>rw[e] at h;exact h
 |ex v g=>rw[e] at h;refine aI h λr i j=>?_;dsimp only;exact i▸j
theorem F4 (h:W (x l b H) (λv c=>v=.bool true/\W (y l b c) Q X) X):W (Ge [x,y] l b H) Q X:=
 W.bind (h.imp λv c h=>by obtain⟨rfl,h⟩:=h;exact h)
theorem wq {N:NL} (w:WF H) (h:N.At H) (j:N.cells.length<1000) (i:∀b,aH N.M H b->∀(Q:V->Hp->Prop),Q (.tup l) b->W (cM .tuple [v] b) Q λU U=>False)
  (q:∀b,aH N.M H b->(N.tick.add<|.tup [.str k,.int<|.ofNat N.cnt,.tup l,.non]).At b->Q (.int<|.ofNat N.cnt) b):W (bG (n+2) 8 [.ref N.ref,.str k,v] H) Q X:=by
 refine bE (ax rfl) rfl (let L:=bG<|n+1;cK (cl:=L) rfl ?_);walk_at"W";refine aF ?_;walk_at"W";refine fF h.ins' h.ns' rfl rfl ?_;walk_at"W";refine ng w h λm g c=>?_;walk_at"W";refine bx<|aF ?_;walk_at"W";refine fF c.ins' c.ns' rfl rfl ?_;walk_at"W";refine ut g.wf c j (λb G Q q=>i b (g.trans G.m) Q q) λe d f=>?_;refine⟨rfl,?_⟩;walk_at"W";exact q e (g.trans d) f
theorem SN (h:k∈fN) (t:Bool):(⟨[k],t⟩:eF)∈bw:=by refine a1s.mpr ⟨t,by cases t<;>simp,a1j _<|List.mem_map.mpr ⟨k,h,rfl⟩⟩
theorem Qc (h:k∈fN) (H:b∈fN) (t:Bool):(⟨[k,b],t⟩:eF)∈bw:=by refine a1s.mpr ⟨t,by cases t<;>simp,a0A _<|a1s.mpr ⟨k,h,List.mem_map.mpr ⟨b,H,rfl⟩⟩⟩
theorem sw (h:ac H m=some (.lst<|fN.map V.str)) (h0:0<=d) (f:d<6):∃k∈fN,gW H (.ref m) (.int d)=some (.str k):=by refine aI (qX h h0 ‹_›) λv c e=>?_;refine aI (VT c) λk b q=>?_;subst q;exact bK k b e
theorem NL.At.growM {M:List Nat} {N:NL} (h:N.At H) (g:aH M H p) (j:∀x∈N.ref::N.M,x∉M):N.At p:=
 ⟨g.get _ _ (j N.ref<|.head _) h.ins',g.get _ _ (j N.d<|.tail _<|.head _) h.ns',g.get _ _ (j N.i<|.tail _<|.tail _<|.head _) h.hi,g.get _ _ (j N.o<|.tail _<|.tail _<|.tail _<|.head _) h.ho,g.get _ _ (j N.c<|.tail _<|.tail _<|.tail _<|.tail _<|.head _) h.hc,h.io,h.ic,h.oc⟩
theorem iO.growM (h:iO H c N L j) (g:aH M H p) (u:∀x∈N.ref::N.M,x∉M) (q:L∉M) (r:j∉M) (h0:0∉M):iO p c N L j:=
 ⟨h.mem,h.at'.growM g u,h.nm,h.cnt,h.ins,h.outs,h.cells,g.get _ _ q h.hL,g.get _ _ r h.hL2,g.get _ _ h0 h.tab⟩
def OC:Cs:=cr<|aj mt (ab 14) 126 [ab 6,ab 158]
structure Li (N N':NL):Prop where
 ref:N'.ref=N.ref
 d:N'.d=N.d
 i:N'.i=N.i
 o:N'.o=N.o
 c:N'.c=N.c
 nm:N'.nm=N.nm
 ins:N'.ins=N.ins
 outs:N'.outs=N.outs
theorem Li.m (h:Li N j):j.M=N.M:=by show[j.d,j.i,j.o,j.c]=[N.d,N.i,N.o,N.c];simp only [h.d,h.i,h.o,h.c]
theorem wG:∀(l pre:List<|List Nat) (k:Nat) (N:NL) (H:Hp),WF H->N.At H->ac H p=some (.lst<|(pre++l).map V.str)->ac H r=some (.lst<|tW u)->p∉N.M->r∉N.M->N.cells.length+l.length<900->l.length<k->
  W (dW (.loc 6) OC (.ref p) (bG<|n+2) [(14,.ref N.ref),(158,.ref r)] k pre.length H)
   (λv d=>∃b,aH N.M H d/\b.At d/\Li N b/\b.cnt=N.cnt+l.length/\b.cells=N.cells++iu u N.cnt l/\v=l6 N.cnt l) XF:=by
 intro z;induction z with
 |nil=>
  exactλpre k N H w h c U U U U L=>sa L (qL (dE c)<|qL (a0d<|by simp) rfl)
    ⟨N,.refl w,h,⟨rfl,rfl,rfl,rfl,rfl,rfl,rfl,rfl⟩,rfl,(Ya _).symm,rfl⟩
 |cons D l i=>
  intro pre k N H w h c m t j Q L;haveI e:((pre++D::l).map V.str)[pre.length]?=some _:=by rw[a0c,a1x<|XA _,a0Q];rfl
  haveI hl':l.length+1<k:=L;haveI Y:N.cells.length+(l.length+1)<900:=Q;refine nP (a1C ‹_›) (qL (dE c)<|qL e rfl) rfl<|ci<|aF<|aO rfl<|fF h.ins' h.ns' rfl rfl ?_;walk_at"W";refine wq w h (VW (Wp _ _)<|Xk ‹_›<|by decide) (λd g Q' q'=>tL (g.get _ _ j m) (by cases u<;>rfl) q') λx G M=>?_;haveI o:=i (pre++[D]) (k-1) _ x G.wf M (by rw[Yg];exact G.get _ _ t c) (G.get _ _ j m) t j (by show(N.cells++[_]).length+l.length<900;rw[Yb];exact VW (WX<|WY _ 1 _)<|by assumption)<|a1D L;simp only [Yb] at o;refine W.imp o λv H2 O=>TX O λb J A s y f q=>?_;subst q;refine⟨b,G.trans J,A,⟨s.ref,s.d,s.i,s.o,s.c,s.nm,s.ins,s.outs⟩,?_,?_,rfl⟩;.rw[y];show N.cnt+1+l.length=N.cnt+(l.length+1);exact WY _ _ _
  .refine .trans f ?_
   show(N.cells++[_])++_=N.cells++(_::_);rw[Yg];rfl
theorem Kt (h:ac H a=some (.lst l)) (c:ac H b=some (.lst m)) (o:jE<|l++m) (q:Q (.ref<|ak H)<|(ak H,.lst<|l++m)::H):W (ym .add (.ref a) (.ref b) H) Q X:=by show W (ro 7 (im H _) λl=>xM .add l _ H) Q X;refine(kZ h)▸?_;show W (ro 5 (im H _) λm=>fU _ H) Q X;exact(kZ c)▸(gJ o q)
noncomputable def uN (s:List<|List Nat):Prop:=(∃k∈fN,s=[k])\/∃k∈fN,∃b∈fN,s=[k,b]
theorem uN.net {r:List<|List Nat} (h:uN r) (q:Bool):(⟨r,q⟩:eF)∈bw:=by
 rcases h with⟨k,j,rfl⟩|⟨k,j,u,p,rfl⟩;.exact SN j q
 .exact Qc j p q
theorem uN.len {j:List<|List Nat} (h:uN j):j.length<=2:=by
 rcases h with⟨k,_,rfl⟩|⟨k,_,p,_,rfl⟩;.exact XD 1
 .exact XA 2
noncomputable def vR:List Int:=[1,8,7,2,6,14,9,11]
theorem u9:∀t∈vR,t∈cT 2:=by decide
noncomputable def tM:List (List Nat):=[[71,48],[71,49]]
structure N5 (i:Nat) (cs:List Ce):Prop where
 len:cs.length=i
 ok:∀c∈cs,c.ins=2/\c.tb∈cT 2/\0<=c.ar
 nm:cs.map Ce.nm=tM.take i
theorem vL:∀K:Nat,K<=2->(tM.take K++[[73,78,86]]).Nodup:=by decide
theorem xy:∀K:Nat,K<=2->(tM.take K).Nodup:=by decide
theorem Io (k:List Nat):∀l:List (List Nat),PA k (l.map V.str)=some (l.any λj=>seq j k):=by
 intro z;induction z with
 |nil=>exact rfl
 |cons x l i=>show Am or (some _) (PA k _)=_;simp only [i];rfl
theorem Bl {n:Nat} {H:Hp} {s:Nat} {st:List Int} (w:WF H) (S:kD s st H) (t0:ac H 0=some .tab) {Q:V->Hp->Prop} {X:V->Hp->Prop}
  (q:∀st' D,bH s H D->kD s st' D->Q (.bool true) D):W (bG (n+37) 85 [.ref s] H) Q X:=by
 refine bE (ax rfl) rfl (let d:=bG _;cK (cl:=d) rfl ?_);walk_at"W";refine bg (l:=fN.map V.str) w rfl λme H1 G1 hme me0=>?_;haveI S1:=S.grow G1;have nS:∀{x:Nat},ac H x=none->x≠s:=λh z=>by rw[z,S.at'] at h;cases h
 haveI meS:=nS me0;walk_at"W";refine cF G1.wf S1 (by decide) λd1 st1 H2 a1 b1 G2 S2=>?_;refine aI (sw (G2.get _ _ meS hme) a1 b1) λk1 hk1 ek1=>?_;refine az ek1 ?_;walk_at"W";refine bg G2.wf rfl λkR H3 G3 hk3 k2n=>?_;haveI S3:=S2.grow G3;haveI gS2:=G1.s.trans G2;have Y:=iw k2n S2.at';haveI kr0:ac H kR=none:=by
  cases z:ac H kR with
  |none=>rfl
  |some c=>exact((iw k2n<|gS2.get _ _ Y z) rfl).elim
 haveI hme3:=G3.get _ _<|G2.get _ _ meS hme;haveI gS3:=gS2.trans G3.s;haveI w3:=G3.wf;refine bf rfl ?_;refine aE ?_;refine WS.on (N':=λb H4=>∃ks st4,uN ks/\WF H4/\bH s H H4/\kD s st4 H4/\ac H4 kR=some (.lst<|ks.map V.str)/\iz b [(134,.ref s),(148,.ref kR)]) ?_ λσ4 H4 h=>?_
 .walk_at"W"
  refine cF w3 S3 (by decide) λd2 g H4 M b2 G4 S4=>?_;walk_at"W";haveI hk4:=G4.get _ _ Y hk3;walk_at"cs";case h2=>intro _;walk_at"W";exact FW [k1] g (.inl ⟨k1,hk1,rfl⟩) G4.wf (gS3.trans G4) S4 hk4 (by walk_at"lq")
  case h1=>intro _;refine aE (bx<|aF<|aO (by walk_at"lk")<|eL hk4 ?_);walk_at"W";refine cF G4.wf S4 (by decide) λd3 j H5 v G G5 S5=>?_;refine aI (sw (G5.get _ _ meS<|G4.get _ _ meS hme3) v G) λo d k=>?_;refine az k ?_;walk_at"W";haveI y:=G5.get _ _ Y hk4;refine eC y (by show 1<99999;decide)<|wu ?_;walk_at"W";refine FW [k1,o] j (.inr ⟨k1,hk1,o,d,rfl⟩) (de G5.wf _ _) ⟨λx J O f=>?_,de G5.wf _ _⟩ ⟨au Y S5.at',S5.ok,S5.len⟩ (aV y) (by walk_at"lq");refine qL (jJ<|iw kr0 f) ?_;exact(gS3.trans<|G4.trans G5).get x J O f
 refine Ji h λks st4 t w4 g4 S4 hk4 Kz=>?_;walk_at"W";refine cF w4 S4 (by decide) λd5 st5 H5 a5 b5 G5 S5=>?_;walk_at"W";refine Cn rfl λtw=>?_;haveI y:=G5.get _ _ Y hk4;haveI g5:=g4.trans G5;repeat (first|walk_at"w"|refine mc ?_)
 refine nu g5.wf λN H6 G6 hN rnm rcnt rins routs rcells rfr=>?_;haveI S6:=S5.grow G6;have nN:∀{x:Nat} {J},ac H5 x=some J->x∉N.ref::N.M:=λh hm=>by exact nomatch ((rfr _ hm).symm.trans h)
 have nM:∀{x:Nat} {J},ac H5 x=some J->x∉N.M:=λh hm=>nN h<|Xw _ hm;haveI hk6:=G6.get _ _ y;walk_at"W";refine aF (aO (by walk_at"lk")<|fF hN.ins' hN.ns' rfl rfl ?_);walk_at"W";refine jR G6.wf hN (by rw[rins];decide) λLa Lb H7 G7 hN7 hLa hLb La0 Lb0 Lab=>?_;haveI hk7:=G7.get _ _ (nM y) hk6;haveI LaM:=hN.notM La0;haveI LbM:=hN.notM Lb0;have g57:=aH.fresh G6 (λm hm=>rfr m<|Xw _ hm) G7;rw[rcnt] at hLa hLb;obtain⟨N1,eN⟩:∃N1,N.tick.tick.addI (.tup [.str [97],.ref Lb])=N1:=⟨_,rfl⟩
 rw[eN] at hN7;have M1:N1.M=N.M:=by rw[<-eN];rfl
 have R1:N1.ref=N.ref:=by rw[<-eN];rfl
 refine bf rfl ?_;refine aE ?_;haveI LaS:La≠s:=λz=>by rw[z,S6.at'] at La0;cases La0
 have LbS:Lb≠s:=λz=>by rw[z,S6.at'] at Lb0;cases Lb0
 refine WS.on (N':=λb H8=>∃fR,ac H8 fR=some (.lst<|tW tw)/\aJ H7 H8/\fR∉N.M/\iz b [(134,.ref s),(148,.ref kR),(149,.bool tw),(14,.ref N.ref),(158,.ref fR)]) ?_ λσ8 H8 h=>?_
 .refine lP (jN<|aO (by walk_at"lk") ?_)
  refine mD  rfl  (λe=>?_)  λe=>?_
  .subst e
   walk_at"W";refine az (aQ (i:=0) hLa rfl) ?_;walk_at"W";refine az (aQ (i:=0) hLa rfl) ?_;walk_at"W";refine gJ rfl ?_;haveI d:=G7.wf;walk_at"W";exact y7 _ (bA _ _) (ba d _) (λhm=>by rw[<-M1] at hm;exact hN7.notM d.none hm) (by walk_at"lq")
  .subst e
   walk_at"W";exact y7 La hLa (.refl G7.wf) LaM (by walk_at"lq")
 refine uj h λfR hf8 G8 fM Kz=>?_;haveI hN8:=hN7.grow G8;haveI hk8:=G8.get _ _ hk7;haveI hLb8:=G8.get _ _ hLb;refine aE (bx<|aF<|aO (by walk_at"lk")<|fF (R1▸hN8.ins') hN8.ns' rfl rfl ?_);walk_at"W";refine mq (zW (Kz.get rfl)<|Kz.get rfl) ?_;walk_at"W";refine⟨rfl,?_⟩;have cn1:N1.cnt=4:=by rw[<-eN];show N.cnt+1+1=4;rw[rcnt]
 have cl1':N1.cells=[]:=by exact eN▸rcells
 haveI J:=wG (n:=n+34) ks [] cS N1 H8 G8.wf hN8 hk8 hf8 (M1▸(nM y)) (M1▸fM) (by rw[cl1'];exact VW (WX<|a0I _)<|fQ t.len<|by decide) (by haveI:=t.len;show _<4096;exact VW ‹_›<|by decide);rw[R1] at J;refine W.imp J λvs H9 h9=>?_;refine TX h9 λN2 g9 hN9 sm c9 ce9 q6_=>?_;subst q6_;have ok9:jE (l6 N1.cnt ks)=true:=by show Nat.blt _ _=true;rw[a0T,rS];haveI:=t.len;exact VW ‹_› (by decide)
 refine⟨ok9,fy g9.wf λoR d G10 ho10 U=>?_⟩;rw[cn1] at c9 ce9 ok9 ho10;rw[M1] at g9;haveI M2:=sm.m.trans M1;walk_at"W";have R2:N.ref=N2.ref:=by rw[sm.ref,R1]
 refine qL R2 ?_;have o1:N1.outs=[]:=by rw[<-eN];exact routs
 refine jb G10.wf (hN9.grow G10) ho10 ok9 (by rw[sm.outs,o1];decide) λL2 H11 G11 hN11 hL2 L20=>?_;rw[M2] at G11;have r:=aH.fresh (g57.trans G8) (λm hm=>rfr m<|Xw _ hm)<|g9.trans<|G10.m.trans G11;have L2S:L2≠s:=λz=>by haveI h8:=(S5.grow<|g57.trans G8).at';rw[z,G10.get _ _<|g9.get _ _ (nM S5.at') h8] at L20;cases L20
 have sN:∀x∈N2.ref::N2.M,x≠s:=λx O z=>by rw[M2,<-R2,z] at O;exact nN S5.at' O
 haveI NA:iO H11 ⟨ks,tw⟩ (N2.addO _) Lb L2:=by
  refine⟨t.net tw,hN11,?_,?_,?_,?_,?_,G11.get _ _ LbM<|G10.get _ _<|g9.get _ _ LbM hLb8,hL2,r.get _ _<|g5.get _ _ (λz=>by rw[z,S.at'] at t0;cases t0) t0⟩
  .show N2.nm=_
   rw[sm.nm,<-eN];exact rnm
  .exact c9
  .show N2.ins=_
   rw[sm.ins,<-eN];show N.ins++_=_;rw[rins];rfl
  .show N2.outs++_=_
   rw[sm.outs,o1];rfl
  .show N2.cells=_
   rw[ce9,cl1'];rfl
 haveI S11:=S5.grow r;haveI S11wf:=r.wf;haveI hk11:=r.get _ _ y;haveI g11:=g5.trans r.s;obtain⟨NN,NA,eR3,sN3⟩:∃NN:NL,iO H11 ⟨ks,tw⟩ NN Lb L2/\N.ref=NN.ref/\∀x∈NN.ref::NN.M,x≠s:=⟨_,NA,R2,sN⟩
 haveI kS:=Y;have zS:0≠s:=λz=>by have h:=S.at';rw[<-z,t0] at h;cases h
 refine⟨rfl,?_⟩;walk_at"W";refine bg S11wf rfl λu H12 G12 hg12 g0=>?_;haveI S12:=S11.grow G12;have gS:u≠s:=λz=>by rw[z,S11.at'] at g0;cases g0
 walk_at"W";refine cF G12.wf S12 (by decide) λd6 st6 H13 a6 b6 G13 S13=>?_;walk_at"W";obtain⟨K,hK,L⟩:∃K:Nat,1+d6=.ofNat K/\K<=2:=⟨(1+d6).toNat,JE<|by assumption,J5<|by assumption⟩
 refine qL hK ?_;refine bW (VW ‹_›<|by decide) ?_;have sM:s∈[s,u]:=by simp
 haveI gM:u∈[s,u]:=by simp
 let I1_:Nat->Sg->Hp->Prop:=λi b D=>∃p st',N5 i p/\aH [s,u] H12 D/\kD s st' D/\bp D u p/\iz b [(134,.ref s),(148,.ref kR),(149,.bool tw),(14,.ref NN.ref),(152,.ref u)];refine eA (I:=I1_) (Wk ‹_›<|by decide)
  ⟨[],st6,⟨rfl,λU h=>(by cases h),rfl⟩,G13.m sM,S13,⟨G13.get _ _ gS hg12,λU h=>(by cases h),by decide⟩,.cons (by walk_at"lk")<|.cons (by walk_at"lk")<|.cons (by walk_at"lk")<|.cons (by rw[<-eR3];walk_at"lk")<|.cons (by walk_at"lk") .nil⟩ (λb D h=>?_) λi hi b D h=>?_
 .refine On h λp st7 A gg S14 L14 Kz=>?_
  clear hg12 G13 S13 a6 b6 hK S12;have gR0:ac H u=none:=by
   cases z:ac H u with
   |none=>rfl
   |some c=>exact absurd ((g11.get _ _ gS z).symm.trans g0)<|W8 _
  have o:∀{x:Nat} {J},ac H11 x=some J->x≠u:=λh z=>by rw[z,g0] at h;cases h
  have nsg:∀{x:Nat},x≠s->x≠u->x∉[s,u]:=λh1 h2 h3=>by simp only [Z6,Xu,or_false] at h3;exact h3.elim h1 h2
  have NA14:=(NA.grow G12).growM gg (λx O=>nsg (sN3 x O) ?_) (nsg LbS<|o NA.hL) (nsg L2S<|o NA.hL2)<|nsg zS<|o NA.tab
  rotate_left
  .simp only [Z6,Xu,or_false] at O
   rcases O with z|z|z|z|z;.exact z▸(o NA.at'.ins')
   .exact z▸(o NA.at'.ns')
   .exact z▸(o NA.at'.hi)
   .exact z▸(o NA.at'.ho)
   .rw[z];exact o NA.at'.hc
  haveI hk14:=gg.get _ _ (nsg kS<|o hk11)<|G12.get _ _ hk11;have g14:bH s H D:=⟨λx J O f=>gg.get x J (nsg O λz=>by rw[z,gR0] at f;cases f)<|G12.get _ _<|g11.get x J O f,gg.wf⟩
  walk_at"W";refine cF g14.wf S14 (by decide) λd9 st9 H15 a9 b9 G15 S15=>?_;walk_at"W";refine Cn rfl λiv=>?_;haveI L15:=L14.growS S14.at' gS G15;haveI hk15:=G15.get _ _ kS hk14;haveI g15:=g14.trans G15;haveI NA15:=NA14.growM (G15.m<|.head _) (λx O z=>sN3 x O<|VS z) (λz=>LbS<|VS z) (λz=>L2S<|VS z)  λz=>zS<|VS z;refine bf rfl ?_;refine aE ?_;refine WS.on (N':=λb D=>∃(sh:aN) (lR:Nat),sh.gates=p/\sh.Ok/\rB sh.cs/\aJ H15 D/\bp D lR sh.cs/\iz b [(148,.ref kR),(149,.bool tw),(14,.ref NN.ref),(152,.ref u),(124,.bool sh.inv.isSome),(143,.ref lR)]) ?_ λσ16 H16 h=>?_
  .refine fe (Jl<|jN<|aO (by walk_at"lk") ?_)
   refine mD  rfl  (λe=>?_)  λe=>?_
   .subst e
    repeat (first|walk_at"w"|refine mc ?_)
    refine mC g15.wf λrC H16 j hC=>?_;walk_at"W";refine bg j.wf rfl λx17 H17 G h17 U=>?_;haveI M:=(L15.grow j).grow G;haveI v:=hC.grow G;obtain⟨d,k⟩:∃d:Ce,⟨rC,[73,78,86],1,1,2,1⟩=d:=⟨_,rfl⟩
    have cer:rC=d.ref:=by rw[<-k]
    rw[k] at v;rw[cer] at h17;refine Kt M.lst h17 (by show Nat.blt _ _=true;rw[a0T,Yb,XK,A.len];exact a0e<|fQ ‹_›<|by decide) ?_;haveI g:=ba G.wf<|.lst<|p.map Ce.v++[.ref d.ref];haveI h18:=bA H17<|.lst<|p.map Ce.v++[.ref d.ref];refine bf rfl ⟨⟨p,some d⟩,ak H17,rfl,⟨A.ok,λc f=>?_,by rw[A.len];exact L⟩,?_,j.trans<|G.trans g,⟨by show _=some (aB.lst<|(p++[d]).map Ce.v);rw[a0n];exact h18,λc f=>?_,by show(p++[d]).length<=8;rw[Yb,A.len];show K+1<=8;exact VW ‹_›<|by decide⟩,by walk_at"lq"⟩
    .injection f with f
     subst f;refine qR k ?_;exact mP rfl rfl (by show(0:Int)<=2;decide)
    .show((p++[d]).map Ce.nm).Nodup
     refine qL a0n<|qL A.nm<|qR k ?_;exact vL K L
    .rcases a0P.mp f with f|f
     .exact(M.cell c f).grow g
     .exact(VS f)▸(v.grow g)
   .subst e
    walk_at"W";refine FW ⟨p,none⟩ u rfl ⟨A.ok,λc f=>(by cases f),by rw[A.len];exact L⟩ ?_ (.refl g15.wf) (qL (show aN.cs ⟨p,none⟩=p from Ya _) L15) (by walk_at"lq");rw[show aN.cs ⟨p,none⟩=p from Ya _];show(p.map Ce.nm).Nodup;exact A.nm▸(xy K L)
  .refine Ji h λsh lR esh so nd j L16 Kz=>?_
   haveI NA16:=NA15.grow j;haveI hk16:=j.get _ _ hk15;haveI g16:=g15.trans j.s;haveI S16:=S15.grow j;haveI LG16:bp H16 u sh.gates:=by exact esh▸(L15.grow j)
   walk_at"W";refine xU so g16.wf hk16 (by haveI:=t.len;exact Wk ‹_›<|by decide) LG16 λd H17 G hd=>?_;refine bf rfl ?_;refine aE<|DI<|fe ?_;walk_at"W";refine J3 G.wf (NA16.grow G) (L16.grow G) so (λN' gs k v O' H18 g hN' hins hL' houts hO' hcells M AO NO=>?_)  λkd H18 g F=>?_
   .haveI hnone:=El so (t.net tw) AO NO
    rw[hnone] at hd;haveI hd18:=g.get _ _ hd;haveI v:=G.trans g;haveI hk18:=v.get _ _ hk16;refine bf rfl ?_;walk_at"W";refine F4 ?_;walk_at"W";refine bg g.wf rfl λzR H19 k h19 U=>?_;refine i6 ((iI (k.get _ _ hd18) h19).trans rfl) ⟨rfl,?_⟩;walk_at"W";refine DN k.wf so nd (t.net tw) (hN'.grow k) hins (k.get _ _ hL') houts (k.get _ _ hO') hcells M (k.get _ _ hk18) ((L16.grow v).grow k) λH20 G20=>?_;exact q _ H20 (g16.trans ((v.trans k).trans G20).s)<|((S16.grow v).grow k).grow G20
   .haveI k:=EZ so (t.net tw) F
    refine bK true ?_<|q _ H18 (g16.trans (G.trans g).s)<|(S16.grow G).grow g;rw[jh];show Ja H18 (.str kd) (.ref d)=some true;refine .trans (CM<|g.get _ _ hd) ?_;show PA kd (_:List V)=some true;rw[Io];exact Wh some<|a1Y.mpr ⟨kd,k,mE kd⟩
 .refine On h λp st' A gg SS LL Kz=>?_
  walk_at"w";walk_at"W";refine bg (l:=vR.map V.int) gg.wf rfl λtR H1' G1 ht G=>?_;haveI k:=SS.grow G1;have tS:tR≠s:=λz=>by rw[z,SS.at'] at G;cases G
  walk_at"W";refine cF G1.wf k (by decide) λd7 st7 H2' a7 b7 G2 S2=>?_;refine aI (qX (G2.get _ _ tS ht) a7 b7) λv hv ev=>?_;refine aI (VT hv) λtb htb q2_=>?_;subst q2_;refine az ev ?_;have g:=(LL.grow G1).growS k.at' gS G2;walk_at"W";refine bx (aF<|aO (by walk_at"lk")<|eL g.lst<|mc ?_);walk_at"W";obtain⟨M,o⟩:∃M,M=48+i:=⟨_,rfl⟩
  refine az (show gW H2' _ (.int _)=some (.str [M]) by rw[o];rcases fD (WR ‹_› L) with rfl|rfl<;>rfl) ?_;refine CO rfl ?_;walk_at"W";refine cF G2.wf S2 (by decide) λd8 st8 H3' a8 b8 G3 S3=>?_;haveI L3':=g.growS S2.at' gS G3;walk_at"W";refine mC G3.wf λrC H4' G4 hC=>?_;haveI j:=L3'.grow G4;haveI d:=S3.grow G4;refine eC j.lst (by rw[XK,A.len];lia)<|wu ?_;walk_at"W";haveI ga:=sd j hC (by rw[A.len];lia);refine⟨_,st8,⟨by rw[Yb,A.len];rfl,λc f=>?_,?_⟩,?_,⟨au gS d.at',d.ok,d.len⟩,ga,by walk_at"lq"⟩
  .rcases a0P.mp f with f|f
   .exact A.ok c f
   .exact(VS f)▸(mP rfl<|u9 tb htb) (by show 0<=1+d8;lia)
  .rw[a0n,A.nm]
   show _++[[71]++[M]]=_;refine o▸?_;rcases fD (WR ‹_› L) with rfl|rfl<;>rfl
  .exact gg.trans<|(((G1.s.trans G2).trans<|G3.trans G4.s).m sM).trans<|.set G4.wf gM _
theorem EU
  (h:W (a c b H) (λv H=>W (i c b H) (λy H=>∃j l,y=.int j/\yD H v=some l/\jE (jY l none<|some j)/\Q (.ref<|ak H) ((ak H,.lst<|jY l none<|some j)::H)) X) X):W (rz a none (some i) c b H) Q X:=by
 refine W.bind<|h.imp λv d h=>?_;show W ((F8 (some i) c b d).bind _) Q X;refine W.bind<|W.bind<|h.imp λy e h=>?_;refine Nd h λj l q f g k=>?_;subst q;show W (ro 83 _ λl=>fU (jY l none _) e) Q X;exact f▸(gJ g k)
theorem tz (l:List Int):jY (bD l) none (some 60)=bD (l.take 60):=by
 delta bD;show((l.map V.int).take<|cond _ (l.map V.int).length 60).drop 0=_;refine qL List.map_take ?_;cases h:Nat.blt (l.map V.int).length 60 with
 |false=>rfl
 |true=>haveI:=(a0T).mp h;show(l.map V.int).take (l.map V.int).length=_;exact qL a05<|qL (a0w<|WO ‹_›) rfl
theorem yY (h:l.length<=60):jE (bD l):=by show Nat.blt _ _=true;simp only [a0T];unfold bD;simp only [XK];exact VW ‹_› (by decide)
structure S0 (H Hz:Hp) (d:Nat) (k:Nat) (H':Hp):Prop where
 g:bH d Hz H'
 ex:∃st:List Int,ac H' d=some (.lst<|bD st)/\(∀x∈st,0<=x/\x<96)/\st.length<=k
theorem Cb {v:List Int} (w:WF H) (hl:v.length<=63) (q:∀m st g,aJ H g->kD m st g->ac H m=none->Q (.ref m) g):W (bG (n+1) 73 [.arr<|v.map V.int] H) Q X:=by
 refine bE (ax rfl) rfl (let cl:=bG n;cK (cl:=cl) rfl ?_);walk_at"W";refine bg w rfl λd H1 G1 hd d0=>?_;walk_at"W";refine EU ?_;walk_at"W";obtain⟨ys,el,ll⟩:∃ys,jY (bD v) none _=bD ys/\ys.length<=60:=⟨_,tz v,a1Z ..⟩
 refine PP 60 (bD v) rfl rfl (el▸(yY ll))<|fy G1.wf λyR L J hy y0=>?_;rw[el] at hy;haveI Y:=J.get _ _ hd;haveI yd:yR≠d:=λz=>by rw[z,hd] at y0;cases y0
 let M:Nat->Sg->Hp->Prop:=λi b g=>look b 134=some (.ref d)/\S0 H L d (12*i) g;refine iS (I:=M) (Wk ‹_›<|by decide)
  ⟨by walk_at"lk",.refl J.wf,[],Y,λU h=>(by cases h),by decide⟩ (λi b g h=>h.2.g.get _ _ yd hy) (λb g h=>?_) λi o hi U U U b g h=>?_
 .obtain⟨f,D⟩:=h
  refine e7 D.ex λst t O h3=>aE<|t9<|EU ?_;walk_at"W";have s:(st.take 60).length<=60:=a1Z ..;refine PP 60 _ rfl (by show(ac g d).bind aB.lst? =_;rw[t];rfl) (by rw[tz];exact yY s) ?_;rw[tz];haveI G:aJ H g:=⟨λx c l=>D.g.get x c (λz=>by rw[z,d0] at l;cases l)<|J.get _ _<|G1.get _ _ l,D.g.wf⟩
  exact q _ _ _ (G.trans<|ba D.g.wf _) ⟨bA _ _,λx l=>O x<|a0D l,s⟩<|G.old D.g.wf.none
 .obtain⟨f,D⟩:=h
  refine hH rfl λN1 B1 C1 gN U U=>?_;haveI s:∀(r:Int) (c:Sg),0<=r->look c 134=some _->look c 60=some _->
    WS (ad [aP (.loc 35) (ah .range [eK<|.int 12])<|ad [aM<|aj mt (ab 134) 0 [ap .mod (ab 60)<|eK<|.int 96],ai (.loc 60)<|ap .fdiv (ab 60)<|eK<|.int 96,br (aw .eq (ab 60)<|eK<|.int 0) (ad [CY])<|ad []]] cl c g) N1 B1 C1 Q X:=λr c A f u=>by
   walk_at"W";refine bW (by decide) ?_;let N:Nat->Sg->Hp->Prop:=λj p y=>look p 134=some (.ref d)/\(∃r,0<=r/\look p 60=some (.int r))/\S0 H L d (12*i+j) y;refine eA (I:=N) (by decide) ⟨f,⟨r,A,u⟩,D⟩ (λp y h=>?_) λj hj p y h=>?_;.exact cH<|gN _ _ ⟨h.1,h.2.2⟩
   .obtain⟨f,⟨r,A,u⟩,G⟩:=h
    refine e7 G.ex λst t O h3=>?_;walk_at"w";refine aE (bx<|aF<|aO (by walk_at"lk")<|eL t ?_);walk_at"W";refine eC t (by unfold bD;rw[XK];exact fQ (Wk h3<|WT (a0L 12<|WO<|WR hi ll)<|WO hj)<|by decide)<|wu ?_;have D4:∀k,12*i+j+1<=k->S0 H L d k (bj y d<|.lst<|bD st++[.int<|r.fmod 96]):=λk hk=>⟨G.g.trans<|.set G.g.wf _,st++[r.fmod 96],by rw[aV t];unfold bD;rw[a0n];rfl,λx l=>by exact(a0P.mp l).elim (λl=>O x l) λl=>(VS l)▸(mH A<|by decide),by rw[Yb];show st.length+1<=k;exact VW ‹_› ‹_›⟩
    have r1:0<=r.fdiv 96:=by refine qL (Xp _<|by decide) ?_;exact Int.ediv_nonneg A (by decide)
    walk_at"W";refine kH  rfl  (λU=>?_)  λU=>?_
    .walk_at"W"
     exact⟨by walk_at"lk",D4 _<|a1R ‹_› _⟩
    .walk_at"W"
     exact mP (by walk_at"lk") ⟨_,r1,by walk_at"lk"⟩<|D4 _<|XA _
  refine aE<|fe<|Jl<|ni ?_;walk_at"W";refine kH (show gU .ge _ _ g=some (!iH o 0) from rfl) (λe=>?_)  λe=>?_
  .have o0:0<=o:=by
    cases z:iH o 0 with
    |true=>rw[z] at e;cases e
    |false=>
     haveI:¬o<0:=λh=>by exact Bool.noConfusion<|((w9 _ _).mpr h).symm.trans z
     exact Int.not_lt.mp this
   refine aO (by walk_at"lk")<|bf rfl ?_;exact s o _ o0 (by walk_at"lk") (by walk_at"lk")
  .have o0:o<0:=by
    cases z:iH o 0 with
    |false=>rw[z] at e;cases e
    |true=>exact(w9 _ _).mp z
   refine Pm (Jj<|aO (by walk_at"lk")<|gh rfl<|bf rfl ?_);exact s (7-o) _ (WA<|Wy (WB o0)<|by decide) (by walk_at"lk") (by walk_at"lk")
theorem E6 (h:WS (b l d H) N B f T (λv H=>∃r,Mw c k t v=some r/\T (.bool r) H)):WS (nj b c k t l d H) N B f T X:=by
 unfold WS nj;delta WS at h;cases e:b l d H with
 |ok p g=>rw[e] at h;exact h
 |no w=>rw[e] at h;exact h
 |ex v g=>rw[e] at h;refine aI h λr i j=>?_;dsimp only;exact i▸j
theorem J8 {xs:List Int} (w:WF H) (hl:xs.length<=63) (t0:ac H 0=some .tab):W (bG (n+38) 86 [.arr<|xs.map V.int] H) (λv l=>v=.bool true/\ac l 0=some .tab) X:=by
 refine bE (ax rfl) rfl (let c:=bG _;cK (cl:=c) rfl ?_);walk_at"W";refine Cb w hl λs st H1 G1 S1 s0=>?_;haveI t1:=G1.get _ _ t0;have zS:0≠s:=λz=>by exact absurd s0<|qR z<|qL t0 nofun
 walk_at"W";refine bW (by decide) ?_;let I1_:Nat->Sg->Hp->Prop:=λU b l=>look b 134=some (.ref s)/\WF l/\ac l 0=some .tab/\∃J,kD s J l;refine eA (I:=I1_) (by decide) ⟨by walk_at"lk",G1.wf,t1,st,S1⟩ (λb l h=>?_) λi hi b l h=>?_
 .refine Mu h λU w2 t2 U=>?_
  repeat (first|walk_at"w"|refine mc ?_)
  refine nu w2 λN H3 x hN rnm k D O f t=>?_;walk_at"W";refine aF (aO (by walk_at"lk")<|fF hN.ins' hN.ns' rfl rfl ?_);walk_at"W";refine jR x.wf hN (by rw[D];decide) λLa Lb H4 y d hLa hLb La0 Lb0 Lab=>?_;haveI g4:=aH.fresh x (λm M=>t m<|Xw _ M) y;haveI LaM:=hN.notM La0;obtain⟨e,u⟩:∃e,N.tick.tick.addI (.tup [.str [97],.ref Lb])=e:=⟨_,rfl⟩
  rw[u] at d;have M1:e.M=N.M:=by rw[<-u];rfl
  haveI R1:e.ref=N.ref:=by rw[<-u];rfl
  have c1:e.cells=[]:=by exact u▸f
  haveI o1:e.outs=[]:=by exact u▸O
  haveI n4:e.cnt=4:=by rw[<-u];show N.cnt+1+1=4;rw[k]
  refine bf rfl ?_;refine aE (bx<|aF<|aO (by walk_at"lk")<|fF (R1▸d.ins') d.ns' rfl rfl ?_);walk_at"W";refine aF (aO (by walk_at"lk")<|fF (R1▸d.ins') d.ns' rfl rfl ?_);walk_at"W";refine R1▸?_;refine lm y.wf d (by rw[c1];decide) (λH5 g Q q=>tL (by haveI:=g.get _ _ (M1▸LaM) hLa;rw[k] at this;exact this) rfl q) λH5 G5 hN5=>?_;have g5:=aH.fresh g4 (λm M=>t m<|Xw _<|M1▸M) G5;obtain⟨o,A,M2,R2,cs2,o2⟩:∃o:NL,o.At H5/\o.M=N.M/\o.ref=e.ref/\o.cells=[Rw.v ⟨.int 4,.tup [.int 2,.int 3],[79,68,68,50],.int 8⟩]/\o.outs=[]:=⟨_,hN5,M1,rfl,by show e.cells++[_]=_;rw[c1,n4];rfl,o1⟩
  walk_at"W";refine bg g5.wf rfl λoR H6 Y h6 U=>?_;have hN6:=A.grow Y;walk_at"W";refine R2▸?_;refine jb Y.wf hN6 h6 rfl (by rw[o2];decide) λL2 H7 G7 hN7 U U=>?_;have g7:=aH.fresh (g5.trans Y) (λm M=>t m<|Xw _<|M2▸M) G7;refine⟨rfl,?_⟩;refine aE<|E6<|bx ?_;repeat (first|walk_at"w"|refine mc ?_)
  refine mC g7.wf λrC H8 G8 hC=>?_;obtain⟨j,p⟩:∃j:Ce,⟨rC,[71],8,2,3,2⟩=j:=⟨_,rfl⟩
  obtain rfl:rC=j.ref:=by rw[<-p]
  replace hC:=p▸hC;walk_at"W";refine bg G8.wf rfl λlR H9 L h9 U=>?_;haveI L9:bp H9 lR [j]:=⟨h9,λc g=>by rw[VS g];exact hC.grow L,by show 1<=8;decide⟩
  walk_at"W";haveI hN9:=(hN7.grow G8).grow L;haveI enm:j.nm=[71]:=by rw[<-p]
  haveI lk:uK [j] [79,68,68,50]=none:=qi.mpr (by show[79,68,68,50]∉[j.nm];rw[enm];decide);refine zL (N:=o.addO<|.tup [.str [121],.ref L2]) (rs:=[⟨.int 4,.tup [.int 2,.int 3],[79,68,68,50],.int 8⟩]) L.wf hN9 cs2 (by show 1<=4000;decide) L9 (by show[j.nm].Nodup;exact XB.mpr ⟨λh=>(by cases h),XG⟩) (λH10 G h=>?_)  λH10 G r hr U=>?_
  .haveI:=h _ (a0o.mpr rfl)
   exact absurd this<|lk▸nofun
  .exact(VS hr)▸(jy true rfl rfl<|G.get _ _<|L.get _ _<|G8.get _ _<|g7.get _ _ t2)
 .obtain⟨k,w2,t2,J,d⟩:=h
  walk_at"w";walk_at"W";refine wP tQ w2 d λg H3 x e=>?_;have c:=x.get _ _ zS t2;refine kY rfl ?_;walk_at"W";refine Bl x.wf e c λt H4 y f=>?_;refine kY rfl ?_;walk_at"W";exact⟨by walk_at"lk",y.wf,y.get _ _ zS c,t,f⟩
theorem Ve:WF [(0,.tab)]:=λm c h=>by
 show m<1;haveI:(match Nat.beq 0 m with|true=>some aB.tab|false=>none)=some c:=h;cases e:Nat.beq 0 m with
 |true=>haveI:=W3 e;exact Nat.lt_one_iff.mpr<|id<|Eq.symm this
 |false=>exact absurd this<|e▸nofun
theorem hrun (x:List Int) (h:x.length<=63):∃H,bG 38 86 [.arr<|x.map V.int] [(0,.tab)]=.ok (.bool true) H/\ac H 0=some .tab:=by refine du ((J8 (n:=0) Ve h rfl).got) λv H e q b=>?_;subst q;exact bK H e b
theorem whole:PySem.Challenge.rw_rg0150_01.Holds:=O3 (by decide) (Bk 38) hrun
end
end
end Ev.Internal
theorem PySem.Challenge.cw_rg0150_01_holds : PySem.Challenge.rw_rg0150_01.Holds :=
 Ev.Internal.whole
