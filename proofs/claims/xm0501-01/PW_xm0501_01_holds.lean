import PyProof.Rows.All
import Wide.All
import OpenK.AllK
import Wide.FinOn
import PyProof.ExcBaseAll.Exception
import PyProof.CompUse
import Lean
import PySem.Challenge.RW_xm0501_01
open Nat renaming le_of_ble_eq_true→yc0,le_add_left_of_le→yd0,le_trans→ye0,lt_of_le_of_lt→yf0,sub_add_cancel→yg0,le_refl→yh0,le_of_eq→yi0,le_of_lt_succ→yj0,le_antisymm→yk0,sub_le_iff_le_add→yl0,le_of_lt→ym0,sub_le→yn0,le_of_not_lt→yo0,min_le_right→yp0,zero_le→yq0,le_succ→yr0,min_eq_left→ys0,sub_self→yt0,lt_succ_of_le→yu0,min_le_left→yv0,le_add_left→yw0,lt_of_succ_lt→yx0,eq_zero_of_le_zero→yy0,le_of_sub_eq_zero→yz0,lt_trans→yA0,le_max_left→yB0,not_lt_zero→yC0,le_max_right→yD0,succ_ne_self→yE0,lt_of_lt_of_le→yF0,succ_pos→yG0,pos_of_ne_zero→yH0,zero_add→yI0,ne_of_lt→yJ0,zero_lt_of_lt→yK0,min_eq_right→yL0,lt_succ_self→yM0,le_add_right→yN0,sub_le_sub_right→yO0,max_le→yP0,sub_le_sub_left→yQ0,not_lt→yR0,ble→yS0,le_succ_of_le→yT0,lt_succ_of_lt→yU0,eq_zero_of_not_pos→yV0,eq_of_beq_eq_true→yW0,ble_eq_true_of_le→yX0,add_lt_add_right→yY0,mod_lt→yZ0,add_zero→va0,add_sub_of_le→vb0,lt_of_succ_le→vc0,sub_pos_of_lt→vd0,div_le_self→ve0,add_le_add→vf0,lt_irrefl→vg0,blt→vh0,zero_mul→vi0,le_total→vj0,sub_zero→vk0,succ_inj→vl0,add_comm→vm0,succ→vn0,log2_lt→vo0,beq→vp0
open List renaming length_map→vq0,length_cons→vr0,length_append→vt0,mem_singleton→vu0,getElem?_eq_some_iff→vv0,prefix_rfl→vw0,mem_of_getElem?→vx0,length_nil→vy0,getElem?_append_right→vz0,nodup_append→vA0,getElem?_eq_getElem→vB0,length_take→vC0,getElem?_append_left→vD0,all_eq_true→vE0,take_append_of_le_length→vF0,getElem?_map→vG0,mem_append→vH0,mem_cons→vI0,map_cons→vJ0,length_eq_zero_iff→vK0,map_append→vL0,append_assoc→vM0,length_range→vN0,cons→vO0,prefix_append→vP0,take_of_length_le→vQ0,filterMap_cons→vR0,length_set→vS0,take_length→vT0,append_nil→vU0,mem_cons_self→vV0,isEmpty_iff→vW0,lookup_cons→vX0,drop_append_of_le_length→vY0,getElem?_cons_succ→vZ0,length_drop→wa0,contains_cons→wb0,length_singleton→wc0,range→wd0,drop_eq_getElem_cons→we0,mem_of_mem_take→wf0,mem_cons_of_mem→wg0,drop_drop→wh0,drop_succ_cons→wi0,cons_append→wj0,mem_map→wk0,map_nil→wl0,any_cons→wm0,nodup_cons→wn0,drop_eq_nil_of_le→wo0,getElem?_set_self→wp0,nil_append→wq0,map_take→wr0,mem_of_mem_drop→ws0,takeWhile_cons_of_pos→wt0,takeWhile_cons_of_neg→wu0,all_cons→wv0,toList_toArray→ww0,count_append→wx0,idxOf?_cons→wy0,getElem?_eq_none→wz0,lookup→wA0,eq_nil_or_concat→wB0,concat_eq_append→wC0,mem_append_left→wD0,of_mem_zip→wE0,replicate→wF0,drop_zero→wG0,take_take→wH0,getElem?_take→wI0,getElem?_drop→wJ0,mem_filterMap→wK0,set_cons_succ→wL0,length→wM0,size_toArray→wN0,reverse_cons→wO0,getElem?_inj→wP0,mem_of_find?_eq_some→wQ0,getElem?_eq_none_iff→wR0,drop_length→wS0,getElem?_replicate→wT0,set_set→wU0,find?_cons→wV0,drop_of_length_le→wW0,filter_eq_nil_iff→wX0,mem_iff_getElem?→wY0,length_replicate→wZ0,contains_iff_mem→ka0,take_append_drop→kb0,filterMap→kc0,nodup_nil→kd0,contains_eq_mem→ke0,length_dropLast→kf0,getElem?_set_ne→kg0,map_congr_left→kh0,reverse_append→ki0,getElem?_set→kj0,take_add_one→kk0,take_sublist→kl0,map_id→km0,length_zip→kn0,find?_some→ko0,drop_take→kp0,take_succ→kq0,take_zero→kr0,set_comm→ks0
open Int renaming natCast_nonneg→kt0,le_add_of_nonneg_right→ku0,lt_trans→kv0,ofNat_lt→kw0,natCast_add→kx0,lt_of_le_of_lt→ky0,natCast_one→kz0,le_refl→kA0,ofNat_le→kB0,ofNat→kC0,not_lt→kD0,le_of_lt→kE0,natCast_pos→kF0,mul_le_mul_of_nonneg_left→kG0,toNat_of_nonneg→kH0,lt_of_lt_of_le→kI0,lt_add_one_of_le→kJ0,negSucc_lt_zero→kK0,emod_lt_of_pos→kL0,le_trans→kM0,add_comm→kN0,max_eq_right→kO0,min_eq_left→kP0,not_le→kQ0,ne_of_gt→kR0
open Option renaming map_eq_some_iff→kS0,some→kT0,bind_eq_some_iff→kU0,elim_none→kV0,getD_none→kW0,map→kX0,isNone_iff_eq_none→kY0,bind_some→kZ0,elim_some→ua0,rec→ub0,getD_some→uc0,map_some→ud0,ctorIdx→ue0
open Bool renaming and_eq_true_iff→uf0,and_eq_true→ug0,and_false→uh0,false_eq_true→ui0,rec→uj0,false_ne_true→uk0,or_eq_false_iff→ul0,or_eq_true_iff→um0,beq_comm→uo0,not_eq_true'→up0,or_eq_true→uq0,false_or→ur0,noConfusion→us0,not_eq_true→ut0,not_true→uu0,or_false→uv0,or_true→uw0
open Array renaming getElem?_toList→ux0,toArray_toList→uy0,getElem?_eq_some_iff→uz0,getElem?_eq_none→uA0,length_toList→uB0,any_toList→uC0,mem_toList_iff→uD0,mk→uE0
open PySem renaming wpAny_bind→uF0,wpAny_pure→uG0,wpAny_holding→uH0,wpAny_standAt→uI0,sizeLine_eq→uJ0,mainGlobals→uK0,wpAny_loadName_local→uL0,wpAny_storeName_local→uM0,wpAny_truthy_bool→uN0,markedBehindIn_of_false→uO0,Addr→uP0
set_option Elab.async false
set_option autoImplicit false
set_option maxRecDepth 100000
set_option maxHeartbeats 0
set_option linter.all false
set_option genSizeOf false
set_option genInjectivity false
set_option genCtorIdx false
set_option compiler.extract_closed false
namespace Mine
@[elab_as_elim] theorem rwG.{u} {α:Sort u} {a b:α} {motive:α→Prop} (h:a=b) (m:motive b):motive a:=by subst h; exact m
@[elab_as_elim] theorem rwB.{u} {α:Sort u} {a b:α} {motive:α→Prop} (h:a=b) (m:motive a):motive b:=by subst h; exact m
theorem zz {A B:Prop} {Z:Prop} (h:A∧B) (k:A→B→Z):Z:=k h.1 h.2
theorem qz0 {A B C:Prop} {Z:Prop} (h:A∧B∧C) (k:A→B→C→Z):Z:=zz h.2 (k h.1)
theorem JL {A B C D:Prop} {Z:Prop} (h:A∧B∧C∧D) (k:A→B→C→D→Z):Z:=qz0 h.2 (k h.1)
theorem qM0 {A B C D E:Prop} {Z:Prop} (h:A∧B∧C∧D∧E) (k:A→B→C→D→E→Z):Z:=JL h.2 (k h.1)
theorem YJ {A B C D E F:Prop} {Z:Prop} (h:A∧B∧C∧D∧E∧F) (k:A→B→C→D→E→F→Z):Z:=qM0 h.2 (k h.1)
theorem zq0 {A B C D E F G:Prop} {Z:Prop} (h:A∧B∧C∧D∧E∧F∧G) (k:A→B→C→D→E→F→G→Z):Z:=YJ h.2 (k h.1)
theorem xe0 {A B C D E F G H:Prop} {Z:Prop} (h:A∧B∧C∧D∧E∧F∧G∧H) (k:A→B→C→D→E→F→G→H→Z):Z:=zq0 h.2 (k h.1)
theorem xd0 {A B C D E F G H I:Prop} {Z:Prop} (h:A∧B∧C∧D∧E∧F∧G∧H∧I) (k:A→B→C→D→E→F→G→H→I→Z):Z:=xe0 h.2 (k h.1)
theorem x1a1.{u0} {α:Sort u0} {A:α→Prop} {Z:Prop} (h:∃ x,A x) (k:∀ x,A x→Z):Z:=h.elim k
theorem x1a2.{u0} {α:Sort u0} {A B:α→Prop} {Z:Prop} (h:∃ x,A x∧B x) (k:∀ x,A x→B x→Z):Z:=h.elim fun x h=>zz h (k x)
theorem x1a3.{u0} {α:Sort u0} {A B C:α→Prop} {Z:Prop} (h:∃ x,A x∧B x∧C x) (k:∀ x,A x→B x→C x→Z):Z:=h.elim fun x h=>qz0 h (k x)
theorem x1a4.{u0} {α:Sort u0} {A B C D:α→Prop} {Z:Prop} (h:∃ x,A x∧B x∧C x∧D x) (k:∀ x,A x→B x→C x→D x→Z):Z:=h.elim fun x h=>JL h (k x)
theorem x1a5.{u0} {α:Sort u0} {A B C D E:α→Prop} {Z:Prop} (h:∃ x,A x∧B x∧C x∧D x∧E x) (k:∀ x,A x→B x→C x→D x→E x→Z):Z:=h.elim fun x h=>qM0 h (k x)
theorem x1a6.{u0} {α:Sort u0} {A B C D E F:α→Prop} {Z:Prop} (h:∃ x,A x∧B x∧C x∧D x∧E x∧F x) (k:∀ x,A x→B x→C x→D x→E x→F x→Z):Z:=h.elim fun x h=>YJ h (k x)
theorem x1a7.{u0} {α:Sort u0} {A B C D E F G:α→Prop} {Z:Prop} (h:∃ x,A x∧B x∧C x∧D x∧E x∧F x∧G x) (k:∀ x,A x→B x→C x→D x→E x→F x→G x→Z):Z:=h.elim fun x h=>zq0 h (k x)
theorem x1a9.{u0} {α:Sort u0} {A B C D E F G H I:α→Prop} {Z:Prop} (h:∃ x,A x∧B x∧C x∧D x∧E x∧F x∧G x∧H x∧I x) (k:∀ x,A x→B x→C x→D x→E x→F x→G x→H x→I x→Z):Z:=h.elim fun x h=>xd0 h (k x)
theorem x2a1.{u0,u1} {α:Sort u0} {β:Sort u1} {A:α→β→Prop} {Z:Prop} (h:∃ x y,A x y) (k:∀ x y,A x y→Z):Z:=h.elim fun x h=>x1a1 h (k x)
theorem x2a2.{u0,u1} {α:Sort u0} {β:Sort u1} {A B:α→β→Prop} {Z:Prop} (h:∃ x y,A x y∧B x y) (k:∀ x y,A x y→B x y→Z):Z:=h.elim fun x h=>x1a2 h (k x)
theorem x2a3.{u0,u1} {α:Sort u0} {β:Sort u1} {A B C:α→β→Prop} {Z:Prop} (h:∃ x y,A x y∧B x y∧C x y) (k:∀ x y,A x y→B x y→C x y→Z):Z:=h.elim fun x h=>x1a3 h (k x)
theorem x2a4.{u0,u1} {α:Sort u0} {β:Sort u1} {A B C D:α→β→Prop} {Z:Prop} (h:∃ x y,A x y∧B x y∧C x y∧D x y) (k:∀ x y,A x y→B x y→C x y→D x y→Z):Z:=h.elim fun x h=>x1a4 h (k x)
theorem x2a5.{u0,u1} {α:Sort u0} {β:Sort u1} {A B C D E:α→β→Prop} {Z:Prop} (h:∃ x y,A x y∧B x y∧C x y∧D x y∧E x y) (k:∀ x y,A x y→B x y→C x y→D x y→E x y→Z):Z:=h.elim fun x h=>x1a5 h (k x)
theorem x2a7.{u0,u1} {α:Sort u0} {β:Sort u1} {A B C D E F G:α→β→Prop} {Z:Prop} (h:∃ x y,A x y∧B x y∧C x y∧D x y∧E x y∧F x y∧G x y) (k:∀ x y,A x y→B x y→C x y→D x y→E x y→F x y→G x y→Z):Z:=h.elim fun x h=>x1a7 h (k x)
theorem x3a1.{u0,u1,u2} {α:Sort u0} {β:Sort u1} {γ:Sort u2} {A:α→β→γ→Prop} {Z:Prop} (h:∃ x y z,A x y z) (k:∀ x y z,A x y z→Z):Z:=h.elim fun x h=>x2a1 h (k x)
theorem x3a2.{u0,u1,u2} {α:Sort u0} {β:Sort u1} {γ:Sort u2} {A B:α→β→γ→Prop} {Z:Prop} (h:∃ x y z,A x y z∧B x y z) (k:∀ x y z,A x y z→B x y z→Z):Z:=h.elim fun x h=>x2a2 h (k x)
theorem x3a3.{u0,u1,u2} {α:Sort u0} {β:Sort u1} {γ:Sort u2} {A B C:α→β→γ→Prop} {Z:Prop} (h:∃ x y z,A x y z∧B x y z∧C x y z) (k:∀ x y z,A x y z→B x y z→C x y z→Z):Z:=h.elim fun x h=>x2a3 h (k x)
theorem x3a4.{u0,u1,u2} {α:Sort u0} {β:Sort u1} {γ:Sort u2} {A B C D:α→β→γ→Prop} {Z:Prop} (h:∃ x y z,A x y z∧B x y z∧C x y z∧D x y z) (k:∀ x y z,A x y z→B x y z→C x y z→D x y z→Z):Z:=h.elim fun x h=>x2a4 h (k x)
theorem x3a5.{u0,u1,u2} {α:Sort u0} {β:Sort u1} {γ:Sort u2} {A B C D E:α→β→γ→Prop} {Z:Prop} (h:∃ x y z,A x y z∧B x y z∧C x y z∧D x y z∧E x y z) (k:∀ x y z,A x y z→B x y z→C x y z→D x y z→E x y z→Z):Z:=h.elim fun x h=>x2a5 h (k x)
theorem x3a7.{u0,u1,u2} {α:Sort u0} {β:Sort u1} {γ:Sort u2} {A B C D E F G:α→β→γ→Prop} {Z:Prop} (h:∃ x y z,A x y z∧B x y z∧C x y z∧D x y z∧E x y z∧F x y z∧G x y z) (k:∀ x y z,A x y z→B x y z→C x y z→D x y z→E x y z→F x y z→G x y z→Z):Z:=h.elim fun x h=>x2a7 h (k x)
theorem x4a1.{u0,u1,u2,u3} {α:Sort u0} {β:Sort u1} {γ:Sort u2} {δ:Sort u3} {A:α→β→γ→δ→Prop} {Z:Prop} (h:∃ x y z u,A x y z u) (k:∀ x y z u,A x y z u→Z):Z:=h.elim fun x h=>x3a1 h (k x)
theorem x4a2.{u0,u1,u2,u3} {α:Sort u0} {β:Sort u1} {γ:Sort u2} {δ:Sort u3} {A B:α→β→γ→δ→Prop} {Z:Prop} (h:∃ x y z u,A x y z u∧B x y z u) (k:∀ x y z u,A x y z u→B x y z u→Z):Z:=h.elim fun x h=>x3a2 h (k x)
theorem x4a3.{u0,u1,u2,u3} {α:Sort u0} {β:Sort u1} {γ:Sort u2} {δ:Sort u3} {A B C:α→β→γ→δ→Prop} {Z:Prop} (h:∃ x y z u,A x y z u∧B x y z u∧C x y z u) (k:∀ x y z u,A x y z u→B x y z u→C x y z u→Z):Z:=h.elim fun x h=>x3a3 h (k x)
theorem x4a4.{u0,u1,u2,u3} {α:Sort u0} {β:Sort u1} {γ:Sort u2} {δ:Sort u3} {A B C D:α→β→γ→δ→Prop} {Z:Prop} (h:∃ x y z u,A x y z u∧B x y z u∧C x y z u∧D x y z u) (k:∀ x y z u,A x y z u→B x y z u→C x y z u→D x y z u→Z):Z:=h.elim fun x h=>x3a4 h (k x)
theorem x4a5.{u0,u1,u2,u3} {α:Sort u0} {β:Sort u1} {γ:Sort u2} {δ:Sort u3} {A B C D E:α→β→γ→δ→Prop} {Z:Prop} (h:∃ x y z u,A x y z u∧B x y z u∧C x y z u∧D x y z u∧E x y z u) (k:∀ x y z u,A x y z u→B x y z u→C x y z u→D x y z u→E x y z u→Z):Z:=h.elim fun x h=>x3a5 h (k x)
theorem x4a7.{u0,u1,u2,u3} {α:Sort u0} {β:Sort u1} {γ:Sort u2} {δ:Sort u3} {A B C D E F G:α→β→γ→δ→Prop} {Z:Prop} (h:∃ x y z u,A x y z u∧B x y z u∧C x y z u∧D x y z u∧E x y z u∧F x y z u∧G x y z u) (k:∀ x y z u,A x y z u→B x y z u→C x y z u→D x y z u→E x y z u→F x y z u→G x y z u→Z):Z:=h.elim fun x h=>x3a7 h (k x)
theorem x5a2.{u0,u1,u2,u3,u4} {α:Sort u0} {β:Sort u1} {γ:Sort u2} {δ:Sort u3} {ε:Sort u4} {A B:α→β→γ→δ→ε→Prop} {Z:Prop} (h:∃ x y z u v,A x y z u v∧B x y z u v) (k:∀ x y z u v,A x y z u v→B x y z u v→Z):Z:=h.elim fun x h=>x4a2 h (k x)
theorem x5a3.{u0,u1,u2,u3,u4} {α:Sort u0} {β:Sort u1} {γ:Sort u2} {δ:Sort u3} {ε:Sort u4} {A B C:α→β→γ→δ→ε→Prop} {Z:Prop} (h:∃ x y z u v,A x y z u v∧B x y z u v∧C x y z u v) (k:∀ x y z u v,A x y z u v→B x y z u v→C x y z u v→Z):Z:=h.elim fun x h=>x4a3 h (k x)
theorem x5a4.{u0,u1,u2,u3,u4} {α:Sort u0} {β:Sort u1} {γ:Sort u2} {δ:Sort u3} {ε:Sort u4} {A B C D:α→β→γ→δ→ε→Prop} {Z:Prop} (h:∃ x y z u v,A x y z u v∧B x y z u v∧C x y z u v∧D x y z u v) (k:∀ x y z u v,A x y z u v→B x y z u v→C x y z u v→D x y z u v→Z):Z:=h.elim fun x h=>x4a4 h (k x)
theorem x5a5.{u0,u1,u2,u3,u4} {α:Sort u0} {β:Sort u1} {γ:Sort u2} {δ:Sort u3} {ε:Sort u4} {A B C D E:α→β→γ→δ→ε→Prop} {Z:Prop} (h:∃ x y z u v,A x y z u v∧B x y z u v∧C x y z u v∧D x y z u v∧E x y z u v) (k:∀ x y z u v,A x y z u v→B x y z u v→C x y z u v→D x y z u v→E x y z u v→Z):Z:=h.elim fun x h=>x4a5 h (k x)
theorem x5a7.{u0,u1,u2,u3,u4} {α:Sort u0} {β:Sort u1} {γ:Sort u2} {δ:Sort u3} {ε:Sort u4} {A B C D E F G:α→β→γ→δ→ε→Prop} {Z:Prop} (h:∃ x y z u v,A x y z u v∧B x y z u v∧C x y z u v∧D x y z u v∧E x y z u v∧F x y z u v∧G x y z u v) (k:∀ x y z u v,A x y z u v→B x y z u v→C x y z u v→D x y z u v→E x y z u v→F x y z u v→G x y z u v→Z):Z:=h.elim fun x h=>x4a7 h (k x)
theorem x6a7.{u0,u1,u2,u3,u4,u5} {α:Sort u0} {β:Sort u1} {γ:Sort u2} {δ:Sort u3} {ε:Sort u4} {ζ:Sort u5} {A B C D E F G:α→β→γ→δ→ε→ζ→Prop} {Z:Prop} (h:∃ x y z u v w,A x y z u v w∧B x y z u v w∧C x y z u v w∧D x y z u v w∧E x y z u v w∧F x y z u v w∧G x y z u v w) (k:∀ x y z u v w,A x y z u v w→B x y z u v w→C x y z u v w→D x y z u v w→E x y z u v w→F x y z u v w→G x y z u v w→Z):Z:=h.elim fun x h=>x5a7 h (k x)
theorem yD {A B C:Prop} (a:A) (b:B) (c:C):A∧B∧C:=⟨a,b,c⟩
theorem YH {A B C D:Prop} (a:A) (b:B) (c:C) (d:D):A∧B∧C∧D:=⟨a,b,c,d⟩
theorem qJ0 {A B C D E:Prop} (a:A) (b:B) (c:C) (d:D) (e:E):A∧B∧C∧D∧E:=⟨a,b,c,d,e⟩
theorem xY0 {A B C D E F:Prop} (a:A) (b:B) (c:C) (d:D) (e:E) (f:F):A∧B∧C∧D∧E∧F:=⟨a,b,c,d,e,f⟩
theorem xX0 {A B C D E F G H I:Prop} (a:A) (b:B) (c:C) (d:D) (e:E) (f:F) (g:G) (h:H) (i:I):A∧B∧C∧D∧E∧F∧G∧H∧I:=⟨a,b,c,d,e,f,g,h,i⟩
theorem c1a2.{u0} {α:Sort u0} {A B:α→Prop} (x:α) (a:A x) (b:B x):∃ x,A x∧B x:=⟨x,a,b⟩
theorem c1a3.{u0} {α:Sort u0} {A B C:α→Prop} (x:α) (a:A x) (b:B x) (c:C x):∃ x,A x∧B x∧C x:=⟨x,a,b,c⟩
theorem c1a4.{u0} {α:Sort u0} {A B C D:α→Prop} (x:α) (a:A x) (b:B x) (c:C x) (d:D x):∃ x,A x∧B x∧C x∧D x:=⟨x,a,b,c,d⟩
theorem c1a5.{u0} {α:Sort u0} {A B C D E:α→Prop} (x:α) (a:A x) (b:B x) (c:C x) (d:D x) (e:E x):∃ x,A x∧B x∧C x∧D x∧E x:=⟨x,a,b,c,d,e⟩
theorem c1a6.{u0} {α:Sort u0} {A B C D E F:α→Prop} (x:α) (a:A x) (b:B x) (c:C x) (d:D x) (e:E x) (f:F x):∃ x,A x∧B x∧C x∧D x∧E x∧F x:=⟨x,a,b,c,d,e,f⟩
theorem c2a1.{u0,u1} {α:Sort u0} {β:Sort u1} {A:α→β→Prop} (x:α) (y:β) (a:A x y):∃ x y,A x y:=⟨x,y,a⟩
theorem c2a2.{u0,u1} {α:Sort u0} {β:Sort u1} {A B:α→β→Prop} (x:α) (y:β) (a:A x y) (b:B x y):∃ x y,A x y∧B x y:=⟨x,y,a,b⟩
theorem c2a3.{u0,u1} {α:Sort u0} {β:Sort u1} {A B C:α→β→Prop} (x:α) (y:β) (a:A x y) (b:B x y) (c:C x y):∃ x y,A x y∧B x y∧C x y:=⟨x,y,a,b,c⟩
theorem c2a4.{u0,u1} {α:Sort u0} {β:Sort u1} {A B C D:α→β→Prop} (x:α) (y:β) (a:A x y) (b:B x y) (c:C x y) (d:D x y):∃ x y,A x y∧B x y∧C x y∧D x y:=⟨x,y,a,b,c,d⟩
theorem c2a5.{u0,u1} {α:Sort u0} {β:Sort u1} {A B C D E:α→β→Prop} (x:α) (y:β) (a:A x y) (b:B x y) (c:C x y) (d:D x y) (e:E x y):∃ x y,A x y∧B x y∧C x y∧D x y∧E x y:=⟨x,y,a,b,c,d,e⟩
theorem c3a1.{u0,u1,u2} {α:Sort u0} {β:Sort u1} {γ:Sort u2} {A:α→β→γ→Prop} (x:α) (y:β) (z:γ) (a:A x y z):∃ x y z,A x y z:=⟨x,y,z,a⟩
theorem c3a2.{u0,u1,u2} {α:Sort u0} {β:Sort u1} {γ:Sort u2} {A B:α→β→γ→Prop} (x:α) (y:β) (z:γ) (a:A x y z) (b:B x y z):∃ x y z,A x y z∧B x y z:=⟨x,y,z,a,b⟩
theorem c3a3.{u0,u1,u2} {α:Sort u0} {β:Sort u1} {γ:Sort u2} {A B C:α→β→γ→Prop} (x:α) (y:β) (z:γ) (a:A x y z) (b:B x y z) (c:C x y z):∃ x y z,A x y z∧B x y z∧C x y z:=⟨x,y,z,a,b,c⟩
theorem c3a4.{u0,u1,u2} {α:Sort u0} {β:Sort u1} {γ:Sort u2} {A B C D:α→β→γ→Prop} (x:α) (y:β) (z:γ) (a:A x y z) (b:B x y z) (c:C x y z) (d:D x y z):∃ x y z,A x y z∧B x y z∧C x y z∧D x y z:=⟨x,y,z,a,b,c,d⟩
theorem c3a5.{u0,u1,u2} {α:Sort u0} {β:Sort u1} {γ:Sort u2} {A B C D E:α→β→γ→Prop} (x:α) (y:β) (z:γ) (a:A x y z) (b:B x y z) (c:C x y z) (d:D x y z) (e:E x y z):∃ x y z,A x y z∧B x y z∧C x y z∧D x y z∧E x y z:=⟨x,y,z,a,b,c,d,e⟩
theorem c4a1.{u0,u1,u2,u3} {α:Sort u0} {β:Sort u1} {γ:Sort u2} {δ:Sort u3} {A:α→β→γ→δ→Prop} (x:α) (y:β) (z:γ) (u:δ) (a:A x y z u):∃ x y z u,A x y z u:=⟨x,y,z,u,a⟩
theorem c4a2.{u0,u1,u2,u3} {α:Sort u0} {β:Sort u1} {γ:Sort u2} {δ:Sort u3} {A B:α→β→γ→δ→Prop} (x:α) (y:β) (z:γ) (u:δ) (a:A x y z u) (b:B x y z u):∃ x y z u,A x y z u∧B x y z u:=⟨x,y,z,u,a,b⟩
theorem c4a4.{u0,u1,u2,u3} {α:Sort u0} {β:Sort u1} {γ:Sort u2} {δ:Sort u3} {A B C D:α→β→γ→δ→Prop} (x:α) (y:β) (z:γ) (u:δ) (a:A x y z u) (b:B x y z u) (c:C x y z u) (d:D x y z u):∃ x y z u,A x y z u∧B x y z u∧C x y z u∧D x y z u:=⟨x,y,z,u,a,b,c,d⟩
theorem c4a5.{u0,u1,u2,u3} {α:Sort u0} {β:Sort u1} {γ:Sort u2} {δ:Sort u3} {A B C D E:α→β→γ→δ→Prop} (x:α) (y:β) (z:γ) (u:δ) (a:A x y z u) (b:B x y z u) (c:C x y z u) (d:D x y z u) (e:E x y z u):∃ x y z u,A x y z u∧B x y z u∧C x y z u∧D x y z u∧E x y z u:=⟨x,y,z,u,a,b,c,d,e⟩
theorem c5a1.{u0,u1,u2,u3,u4} {α:Sort u0} {β:Sort u1} {γ:Sort u2} {δ:Sort u3} {ε:Sort u4} {A:α→β→γ→δ→ε→Prop} (x:α) (y:β) (z:γ) (u:δ) (v:ε) (a:A x y z u v):∃ x y z u v,A x y z u v:=⟨x,y,z,u,v,a⟩
theorem c5a2.{u0,u1,u2,u3,u4} {α:Sort u0} {β:Sort u1} {γ:Sort u2} {δ:Sort u3} {ε:Sort u4} {A B:α→β→γ→δ→ε→Prop} (x:α) (y:β) (z:γ) (u:δ) (v:ε) (a:A x y z u v) (b:B x y z u v):∃ x y z u v,A x y z u v∧B x y z u v:=⟨x,y,z,u,v,a,b⟩
theorem c5a3.{u0,u1,u2,u3,u4} {α:Sort u0} {β:Sort u1} {γ:Sort u2} {δ:Sort u3} {ε:Sort u4} {A B C:α→β→γ→δ→ε→Prop} (x:α) (y:β) (z:γ) (u:δ) (v:ε) (a:A x y z u v) (b:B x y z u v) (c:C x y z u v):∃ x y z u v,A x y z u v∧B x y z u v∧C x y z u v:=⟨x,y,z,u,v,a,b,c⟩
theorem c5a4.{u0,u1,u2,u3,u4} {α:Sort u0} {β:Sort u1} {γ:Sort u2} {δ:Sort u3} {ε:Sort u4} {A B C D:α→β→γ→δ→ε→Prop} (x:α) (y:β) (z:γ) (u:δ) (v:ε) (a:A x y z u v) (b:B x y z u v) (c:C x y z u v) (d:D x y z u v):∃ x y z u v,A x y z u v∧B x y z u v∧C x y z u v∧D x y z u v:=⟨x,y,z,u,v,a,b,c,d⟩
theorem c5a5.{u0,u1,u2,u3,u4} {α:Sort u0} {β:Sort u1} {γ:Sort u2} {δ:Sort u3} {ε:Sort u4} {A B C D E:α→β→γ→δ→ε→Prop} (x:α) (y:β) (z:γ) (u:δ) (v:ε) (a:A x y z u v) (b:B x y z u v) (c:C x y z u v) (d:D x y z u v) (e:E x y z u v):∃ x y z u v,A x y z u v∧B x y z u v∧C x y z u v∧D x y z u v∧E x y z u v:=⟨x,y,z,u,v,a,b,c,d,e⟩
theorem c6a7.{u0,u1,u2,u3,u4,u5} {α:Sort u0} {β:Sort u1} {γ:Sort u2} {δ:Sort u3} {ε:Sort u4} {ζ:Sort u5} {A B C D E F G:α→β→γ→δ→ε→ζ→Prop} (x:α) (y:β) (z:γ) (u:δ) (v:ε) (w:ζ) (a:A x y z u v w) (b:B x y z u v w) (c:C x y z u v w) (d:D x y z u v w) (e:E x y z u v w) (f:F x y z u v w) (g:G x y z u v w):∃ x y z u v w,A x y z u v w∧B x y z u v w∧C x y z u v w∧D x y z u v w∧E x y z u v w∧F x y z u v w∧G x y z u v w:=⟨x,y,z,u,v,w,a,b,c,d,e,f,g⟩
theorem c7a4.{u0,u1,u2,u3,u4,u5,u6} {α:Sort u0} {β:Sort u1} {γ:Sort u2} {δ:Sort u3} {ε:Sort u4} {ζ:Sort u5} {η:Sort u6} {A B C D:α→β→γ→δ→ε→ζ→η→Prop} (x:α) (y:β) (z:γ) (u:δ) (v:ε) (w:ζ) (t:η) (a:A x y z u v w t) (b:B x y z u v w t) (c:C x y z u v w t) (d:D x y z u v w t):∃ x y z u v w t,A x y z u v w t∧B x y z u v w t∧C x y z u v w t∧D x y z u v w t:=⟨x,y,z,u,v,w,t,a,b,c,d⟩
inductive Tm where
 | v (i:Nat)
 | n (k:Nat)
 | p (a b:Tm)
 | m (k:Nat) (a:Tm)
noncomputable abbrev qa:Tm:=.v 0
noncomputable abbrev qb:Tm:=.v 1
noncomputable abbrev qg:Tm:=.v 2
noncomputable abbrev qh:Tm:=.n 1
noncomputable abbrev qj:Tm:=.v 3
noncomputable abbrev qw:Tm:=.v 4
noncomputable abbrev qC:Tm:=.n 2
noncomputable abbrev qG:Tm:=.n 1000
noncomputable abbrev qJ:Tm:=.n 4096
noncomputable abbrev qQ:Tm:=.n 200
noncomputable abbrev qP:Tm:=.n 900
inductive Cn where
 | le (a b:Tm)
 | lt (a b:Tm)
 | eq (a b:Tm)
 | qe (a b:Tm)
 | nl (a b:Tm)
 | ng (a b:Tm)
 | ff
 | k (j:Nat) (h:Cn)
noncomputable def xY:List Nat→Nat→Nat
 | [],_=>0
 | a::c,i=>Nat.rec a (fun i _=>xY c i) i
noncomputable def Tm.den (c:List Nat):Tm→Nat
 | .v i=>xY c i
 | .n k=>k
 | .p a b=>a.den c+b.den c
 | .m k a=>k*a.den c
noncomputable def Cn.L:Cn→Tm
 | .le a _=>a
 | .lt a _=>.p a qh
 | .eq a _=>a
 | .qe _ b=>b
 | .nl _ b=>b
 | .ng _ b=>.p b qh
 | .ff=>.n 1
 | .k j h=>.m j h.L
noncomputable def Cn.R:Cn→Tm
 | .le _ b=>b
 | .lt _ b=>b
 | .eq _ b=>b
 | .qe a _=>a
 | .nl a _=>a
 | .ng a _=>a
 | .ff=>.n 0
 | .k j h=>.m j h.R
noncomputable def Cn.den (c:List Nat):Cn→Prop
 | .le a b=>a.den c≤b.den c
 | .lt a b=>a.den c<b.den c
 | .eq a b=>a.den c=b.den c
 | .qe a b=>a.den c=b.den c
 | .nl a b=>¬ a.den c<b.den c
 | .ng a b=>¬ a.den c≤b.den c
 | .ff=>False
 | .k _ h=>h.den c
noncomputable def Cn.aim:Cn→Bool
 | .eq _ _=>false
 | .qe _ _=>false
 | .k _ _=>false
 | _=>true
noncomputable def JV:Nat→List Nat
 | 0=>[1]
 | i+1=>0::JV i
noncomputable def qL0:List Nat→List Nat→List Nat
 | [],b=>b
 | a::as,b=>match b with
  | []=>a::as
  | b::bs=>(a+b)::qL0 as bs
noncomputable def qC0 (k:Nat):List Nat→List Nat
 | []=>[]
 | a::as=>(k*a)::qC0 k as
noncomputable def leL:List Nat→List Nat→Bool
 | [],_=>true
 | a::as,b=>match b with
  | []=>vp0 a 0&&leL as []
  | b::bs=>yS0 a b&&leL as bs
noncomputable def dot:List Nat→List Nat→Nat
 | [],_=>0
 | a::as,z=>match z with
  | []=>0
  | x::xs=>a*x+dot as xs
noncomputable def Tm.nf:Tm→List Nat
 | .v i=>0::JV i
 | .n k=>[k]
 | .p a b=>qL0 a.nf b.nf
 | .m k a=>qC0 k a.nf
noncomputable def chk:List Cn→Tm→Tm→Bool
 | [],a,b=>leL a.nf b.nf
 | h::hs,a,b=>chk hs (.p a h.R) (.p b h.L)
noncomputable def arr (c:List Nat):List Cn→Prop→Prop
 | [],P=>P
 | h::hs,P=>h.den c→arr c hs P
theorem ftB {P:Prop} (h:false=true):P:=us0 h
theorem tfB {P:Prop} (h:true=false):P:=us0 h
theorem qO {α:Type} (f:α→Nat) {P:Prop} {a b:α} (h:a=b) (k:vp0 (f a) (f b)=false):P:=by subst h; rw [Nat.beq_refl] at k; exact tfB k
theorem nsO {α:Type} {a:α} {P:Prop} (h:none=some a):P:=qO ue0 h rfl
theorem snO {α:Type} {a:α} {P:Prop} (h:some a=none):P:=qO ue0 h rfl
theorem eoX {α β:Type} {a:α} {b:β} {P:Prop} (h:Except.error a=Except.ok b):P:=qO Except.ctorIdx h rfl
theorem oeX {α β:Type} {a:α} {b:β} {P:Prop} (h:Except.ok b=Except.error a):P:=qO Except.ctorIdx h rfl
theorem zv {α:Type} {a:α} {P:Prop} (h:a∈([]:List α)):P:=(List.not_mem_nil h).elim
theorem Ym (a:List Nat):dot a []=0:=by cases a <;> rfl
theorem Yo (a b z:List Nat):dot (qL0 a b) z=dot a z+dot b z:=by
 induction a generalizing b z with
 | nil=>exact (yI0 _).symm
 | cons a as ih =>
  cases b with
  | nil=>exact (va0 _).symm
  | cons b bs =>
   cases z with
   | nil=>rfl
   | cons x xs =>
    show (a+b)*x+dot (qL0 as bs) xs=a*x+dot as xs+(b*x+dot bs xs)
    rw [ih,Nat.add_mul,Nat.add_add_add_comm]
theorem Yn (k:Nat) (a z:List Nat):dot (qC0 k a) z=k*dot a z:=by
 induction a generalizing z with
 | nil=>rfl
 | cons a as ih =>
  cases z with
  | nil=>rfl
  | cons x xs =>
   show k*a*x+dot (qC0 k as) xs=k*(a*x+dot as xs)
   rw [ih,Nat.mul_add,Nat.mul_assoc]
theorem Qq (i:Nat) (c:List Nat):dot (JV i) c=xY c i:=by
 induction c generalizing i with
 | nil=>cases i <;> rfl
 | cons x xs ih =>
  cases i with
  | zero=>exact Nat.one_mul x
  | succ i =>
   show 0*x+dot (JV i) xs=xY xs i
   rw [ih,vi0,yI0]
theorem qi0 (a b z:List Nat) (h:leL a b=true):dot a z≤dot b z:=by
 induction a generalizing b z with
 | nil=>exact yq0 _
 | cons a as ih =>
  cases z with
  | nil=>rw [Ym]; exact yq0 _
  | cons x xs =>
   cases b with
   | nil =>
    have h:=uf0.mp h
    show a*x+dot as xs≤0
    rw [yW0 h.1,vi0,yI0]
    exact ih [] xs h.2
   | cons b bs =>
    have h:=uf0.mp h
    exact vf0 (Nat.mul_le_mul_right x (yc0 h.1)) (ih bs xs h.2)
theorem Nd (c:List Nat) (t:Tm):t.den c=dot t.nf (1::c):=by
 induction t with
 | v i =>
  show _=0*1+dot (JV i) c
  rw [Qq,yI0]; rfl
 | n k=>exact (Nat.mul_one k).symm
 | p a b ha hb=>exact (congr (congrArg _ ha) hb).trans (Yo ..).symm
 | m k a ha=>exact (congrArg _ ha).trans (Yn ..).symm
theorem Cn.use (c:List Nat) (h:Cn) (d:h.den c):h.L.den c≤h.R.den c:=by
 induction h with
 | le a b=>exact d
 | lt a b=>exact d
 | eq a b=>exact yi0 d
 | qe a b=>exact yi0 (Eq.symm d)
 | nl a b=>exact yo0 d
 | ng a b=>exact Nat.lt_of_not_le d
 | ff=>exact d.elim
 | k j h ih=>exact Nat.mul_le_mul_left j (ih d)
theorem Cn.get (c:List Nat) (h:Cn) (a:h.aim=true) (d:h.L.den c≤h.R.den c):h.den c:=by
 cases h with
 | le a b=>exact d
 | lt a b=>exact d
 | nl a b=>exact Nat.not_lt_of_le d
 | ng a b=>exact Nat.not_le_of_lt d
 | ff=>exact absurd d (Nat.not_succ_le_zero 0)
 | eq a b=>exact ftB a
 | qe a b=>exact ftB a
 | k j h=>exact ftB a
theorem qv0 (c:List Nat) (hs:List Cn) (P:Prop) (a b:Tm) (h:chk hs a b=true) (f:a.den c≤b.den c→P):arr c hs P:=by
 induction hs generalizing a b with
 | nil=>exact f (by rw [Nd,Nd]; exact qi0 _ _ _ h)
 | cons x hs ih =>
  intro d
  exact ih _ _ h fun e=>f (Nat.le_of_add_le_add_right (ye0 e (Nat.add_le_add_left (x.use c d) _)))
theorem far (c:List Nat) (hs:List Cn) (g:Cn) (ck:(g.aim&&chk hs g.L g.R)=true):arr c hs (g.den c) :=
 have k:=uf0.mp ck
 qv0 c hs _ _ _ k.2 fun e=>g.get c k.1 e
theorem lsa (x y:Nat):x≤x-y+y:=yl0.mp (yh0 _)
theorem slt {a b m:Nat} (h:0<m) (k:a<m+b):a-b<m:=by omega
theorem sad {x a b n:Nat} (h:x≤n) (k:x+a≤n+b):x+(a-b)≤n:=by omega
theorem sa2 {x a b n:Nat} (h:x≤n) (k:x+2*a≤n+2*b):x+2*(a-b)≤n:=by omega
theorem o0:∀ (x0 x1 x2:Nat),x0≤x1→x2≠0→x0<x1+x2:=fun _ _ _ a b=>yf0 a (Nat.lt_add_of_pos_right (yH0 b))
theorem o1:∀ (x0 x1 x2 x3:Nat),x1-x2≤0→x2<x3→x3≤x1→x0≤0+1:=by intros; lia
theorem o3:∀ (x0:Int),-1000000<x0→x0<1000000→x0.natAbs≤4611686018427387904:=by intros; lia
theorem o4:∀ (x0 x1:Nat),x0=x1→¬(↑x0:Int)<(↑x1:Int):=fun _ _ a=>a▸Int.lt_irrefl _
theorem o6:∀ (x0 x1:Nat),x1<x0→¬x1+1<x0→(↑x0:Int)-1=(↑x1:Int):=by intros; lia
theorem o7:∀ (x0 x1:Nat),(↑x0:Int)-1=(↑x1:Int)→x0≤x1+1:=by intros; lia
theorem o8:∀ (x0 x1:Int) (x2:Nat),x0≤x1+1+(↑x2:Int)→x0≤x1+(↑(x2+1):Int):=by intros; lia
theorem o9:∀ (x0 x1 x2 x3 x4 x5 x6:Nat),x4<x5→x3<x4→x6≤x4-x3→x5<x2→x0-(x1+x6)≤x2-x5→x0-x1≤x2-x3:=fun _ _ _ _ _ _ _ a b c d e =>
 yl0.mpr (far [_,_,_,_,_,_,_,_,_] [.le qa (.p qg (.p qb qj)),.le (.p qj qw) (.v 5),.lt (.v 5) (.v 6),.le (.p qg (.v 6)) (.v 7),.le (.v 7) (.p (.v 8) qw)] (.le qa (.p (.v 8) qb)) rfl (yl0.mp e) (Nat.add_le_of_le_sub (ym0 b) c) a (yi0 (yg0 (ym0 d))) (lsa _ _))
theorem o10:∀ (x0 x1 x2 x3:Nat),x3≤x1+1→x0≤max (x1+1) (max x2 x3)→x0≤max (x1+1) x2:=fun _ _ _ _ a b=>ye0 b (yP0.mpr ⟨yB0 ..,yP0.mpr ⟨yD0 ..,ye0 a (yB0 ..)⟩⟩)
theorem o12:∀ (x0 x1 x2 x3 x4:Nat),x2<x3→x0-0≤x4-x3→x4≤x1→x0≤x1+1-x2:=fun _ _ _ _ _ a b c=>ye0 b (ye0 (yO0 (yT0 c) _) (yQ0 (ym0 a) _))
theorem o13:∀ (x0 x1 x2 x3:Nat) (x4:Prop),x2-x3<0→0<x0→x1+(x2-x3)≤1000→x4:=fun _ _ _ _ _ a _ _=>absurd a (yC0 _)
theorem o14:∀ (x0:Int) (x1:Nat),x0+(↑(x1+1):Int)<900→x0+1+(↑x1:Int)<900:=by intros; lia
theorem o15:∀ (x0:Int),-800<x0→-900<x0+1:=by intros; lia
theorem o16:∀ (x0:Int) (x1:Nat),x0+(↑x1:Int)<800→x0+1+(↑x1:Int)<900:=by intros; lia
theorem o17:∀ (x0 x1 x2 x3 x4:Nat),x1≤x4-x3→x4<x2→x0+x1-x0≤x2-x3:=fun _ _ _ _ _ a b=>ye0 (yi0 (Nat.add_sub_cancel_left ..)) (ye0 a (yO0 (ym0 b) _))
theorem o18:∀ (x0 x1 x2 x3 x4 x5 x6:Nat),x3<x4→x5≤x4-x3→x4<x6→x6<x2→x0-(x1+x5)≤x2-x6→x0-x1≤x2-x3:=fun x0 x1 x2 x3 x4 x5 x6 a b c d e=>o9 x0 x1 x2 x3 x4 x6 x5 c a b d e
theorem o19:∀ (x0 x1:Nat),x1+1+x0≤100→¬160<(↑x0:Int):=fun _ _ a b=>absurd (kw0.mp b) (yR0.mpr (ye0 (yw0 ..) (ye0 a (by decide))))
theorem o20:∀ (x0 x1:Int),-900<x1→x0=x1+1→-1000<x0:=by intros; omega
theorem o21:∀ (x0 x1:Int),x1<40→x0=x1+1→x0<1000:=by intros; omega
theorem o22:∀ (x0 x1 x2 x3:Nat) (x4:Int) (x5:Nat) (x6:Prop),x2-x3<0→0<x0→x1+(x2-x3)≤1000→-800<x4→x4+(↑x5:Int)<40→x6:=fun _ _ _ _ _ _ _ a _ _ _ _=>absurd a (yC0 _)
theorem o23:∀ (x0:Int) (x1:Nat),x0+(↑(x1+1):Int)<40→x0+1+(↑x1:Int)<40:=by intros; omega
theorem o24:∀ (x0 x1:Nat),x0=x1+1→(↑x0:Int)-1=(↑x1:Int):=fun _ x1 a=>a▸Int.add_sub_cancel (x1:Int) 1
theorem o25:∀ (x0 x1:Nat),x1-x0≤0→¬(↑x0:Int)<(↑x1:Int):=fun _ _ a b=>absurd (kw0.mp b) (yR0.mpr (yz0 (yy0 a)))
theorem o26:∀ (x0 x1 x2:Nat),x0=x2→x1-x2≤0→¬(↑x0:Int)<(↑x1:Int):=fun x0 x1 _ a b=>o25 x0 x1 (a▸b)
theorem o27:∀ (x0 x1 x2:Nat),x0=x2→x2<x1→(↑x0:Int)<(↑x1:Int):=fun _ _ _ a b=>kw0.mpr (a▸b)
theorem o28:∀ (x0 x1 x2:Nat),x0=x2→¬x2<x1→¬(↑x0:Int)<(↑x1:Int):=fun _ _ _ a b c=>b (a▸kw0.mp c)
theorem o29:∀ (x0 x1:Int),x0+x1+1=x0+1+x1:=by intros; lia
theorem o30:∀ (x0:Int),-700<x0→-800<x0-1:=by intros; lia
theorem o31:∀ (x0:Int) (x1:Nat),x0+(↑x1:Int)<40→x0-1+(↑x1:Int)<40:=by intros; lia
theorem o32:∀ (x0:Int),-700<x0→-1000000<x0-1:=by intros; lia
theorem o33:∀ (x0:Int) (x1:Nat),x0+(↑x1:Int)<40→x0-1<1000000:=by intros; omega
theorem o35:∀ (x0:Int) (x1 x2:Nat),x2≤x1→x0≤7*(↑x2:Int)→x0≤7*(↑x1:Int):=by intros; lia
theorem o36:∀ (x0:Int) (x1:Nat) (x2:Int),x0≤x2+7→x2≤7*(↑x1:Int)→x0≤7*(↑(x1+1):Int):=by intros; lia
theorem o38:∀ (x0 x1:Int),x0=x1→x0≤x1+7:=fun _ x1 a=>a▸ku0 (by decide)
theorem o39:∀ (x0 x1:Int),0≤x1→x0=x1→-800<x0:=fun _ _ a b=>kI0 (by decide) (b▸a)
theorem o40:∀ (x0:Int) (x1:Nat) (x2:Int),x1≤4→x2≤7*(↑x1:Int)→x0=x2→x0+(↑6:Int)<800:=by intros; lia
theorem o41:∀ (x0:Int) (x1:Nat),x1≤4→x0≤7*(↑x1:Int)→x0+(↑6:Int)<40:=by intros; lia
theorem o42:∀ (x0 x1 x2:Int),0≤x1→x2=x1→x2≤x0→0≤x0:=fun _ _ _ a b c=>kM0 (b▸a) c
theorem o43:∀ (x0 x1:Nat),(↑x0:Int)<(↑x1:Int)↔x0<x1:=fun _ _=>kw0
theorem o45:∀ (x0:Nat),¬x0<6→¬x0=6→x0<9→¬x0=7→x0=8:=by intros; lia
theorem o46:∀ (x0:Nat),¬x0<9→¬x0=7:=fun _ a b=>a (b▸by decide)
theorem o47:∀ (x0:Nat),¬x0<9→¬x0=8:=fun _ a b=>a (b▸by decide)
theorem o48:∀ (x0:Nat),x0<4→(↑(x0+2):Int)<1000:=fun _ a=>kw0.mpr (yF0 (yY0 a 2) (by decide))
theorem o49:∀ (x0:Nat),x0<2→(↑(x0+1):Int)<1000:=fun _ a=>kw0.mpr (yF0 (yY0 a 1) (by decide))
theorem o50:∀ (x0 x1:Nat),x1≤14→2*x0≤x1+0→x0≤7:=by intros; lia
theorem o51:∀ (x0:Nat),x0≠0→1≤min 40 x0:=fun _ a=>Nat.le_min.mpr ⟨by decide,yH0 a⟩
theorem o52:∀ (x0:Int),x0 % 9973<10000:=fun x0=>kv0 (kL0 x0 (by decide)) (by decide)
theorem o53:∀ (x0:Nat),1≤x0→(↑x0:Int)≠0:=fun _ a b=>absurd (Int.ofNat_eq_zero.mp b) (Nat.ne_of_gt a)
theorem o54:∀ (x0:Int) (x1 x2:Nat),x0.toNat<x2→x2=x1→x0<(↑x1:Int):=by intros; lia
theorem o57:∀ (x0 x1:Nat),x1=x0→(↑x0:Int)-(↑x1:Int)≤0:=fun _ x1 a=>a▸Int.le_of_eq (Int.sub_self (x1:Int))
theorem o59:∀ (x0:Int),0≤x0→x0<1000→(-9223372036854775808≤x0∧x0<9223372036854775808)∧(x0=0∨-9223372036854775808≤x0∧x0<9223372036854775808):=by intros; omega
theorem o60:∀ (x0:Int),x0.natAbs≤4611686018427387904→-4611686018427387904≤x0∧x0≤4611686018427387904:=by intros; omega
theorem o61:∀ (x0:Int),-4611686018427387904≤x0→x0≤4611686018427387904→x0.natAbs<9223372036854775808:=by intros; lia
theorem o62:∀ (x0:Int) (x1:Nat),x0.toNat<x1→¬x0<0→0≤x0∧x0<(↑x1:Int):=by intros; lia
theorem o63:∀ (x0:Int) (x1:Nat),max 0 (min x0 (↑x1:Int))=(↑(min x0.toNat x1):Int):=by
 intro x0 x1
 cases x0 with
 | ofNat n =>
  cases vj0 n x1 with
  | inl h=>rw [kP0 (show kC0 n≤(x1:Int) from kB0.mpr h)]; exact (kO0 (kt0 n)).trans (congrArg kC0 (ys0 h).symm)
  | inr h=>rw [Int.min_eq_right (show (x1:Int)≤kC0 n from kB0.mpr h),kO0 (kt0 x1)]; exact congrArg kC0 (yL0 h).symm
 | negSucc n=>rw [kP0 (kM0 (kE0 (kK0 n)) (kt0 x1)),Int.max_eq_left (kE0 (kK0 n))]; exact congrArg kC0 (Nat.zero_min x1).symm
theorem o65:∀ (x0:Nat) (x1 x2:Int) (x3:Nat),x0<min x1.toNat x3-min x2.toNat x3→x0<x1.toNat-x2.toNat:=fun _ _ x2 x3 h =>
 (vj0 x2.toNat x3).elim (fun k=>yF0 h (ye0 (yO0 (yv0 ..) _) (yQ0 (yi0 (ys0 k).symm) _)))
  fun k=>absurd h (yR0.mpr (ye0 (yi0 (Nat.sub_eq_zero_of_le (ye0 (yp0 ..) (yi0 (yL0 k).symm)))) (yq0 _)))
theorem o67:∀ (x0 x1 x2:Nat),x0-x1=x2→x0≤x2→min (x0-x1) (x2-x1)=x2:=by
 intro x0 x1 x2 h k
 subst h
 have e:=yk0 (yn0 x0 x1) k
 rw [e,e,Nat.min_self]
theorem o68:∀ (x0 x1 x2:Nat),min (x2-x0) (x1-x0)=x1→¬x1=0→x0=0∧x1≤x2:=fun _ _ _ h k =>
 ⟨yV0 fun p=>absurd (Nat.sub_lt (yH0 k) p) (yR0.mpr (ye0 (yi0 h.symm) (yp0 ..))),ye0 (yi0 h.symm) (ye0 (yv0 ..) (yn0 ..))⟩
end Mine
local macro_rules
  | `(tactic| rw [$rs,*]) => do
    let ts : Array (Lean.TSyntax `tactic) ← rs.getElems.mapM fun r => do
      let e : Lean.TSyntax `term := ⟨r.raw[1]⟩
      let e2 ← match e with
        | `($f $xs*) => `($f $xs* ..)
        | _ => `($e ..)
      let q := r.raw[0].getNumArgs == 0
      let f : Lean.TSyntax `term := Lean.mkIdent (if q then `Mine.rwG else `Mine.rwB)
      let b : Lean.TSyntax `tactic ← if q then `(tactic| rewrite [$e:term]) else `(tactic| rewrite [← $e:term])
      if (e.raw.find? (·.isOfKind `Lean.Parser.Term.byTactic)).isSome then `(tactic| first | refine $f $e ?_ | $b:tactic)
      else `(tactic| first | with_reducible_and_instances refine $f $e ?_ | with_reducible_and_instances refine $f $e2 ?_ | $b:tactic)
    `(tactic| ($[$ts]*; try (with_reducible rfl)))
local macro_rules
  | `(tactic| show $t:term) => `(tactic| refine (?_ : $t))
local macro_rules
  | `(tactic| change $t:term) => `(tactic| refine (?_ : $t))
  | `(tactic| change $t:term at $h:ident) => `(tactic| replace $h : $t := $h)
namespace Mine
inductive V where
 | none
 | bool (b:Bool)
 | int (i:Int)
 | str (s:List Nat)
 | tup (vs:List V)
 | lst (vs:List V)
 | obj (c:Nat) (fs:List V)
 | ref (n:Nat)
mutual
noncomputable def veq:V→V→Bool
 | .none,.none=>true
 | .bool a,.bool b=>a==b
 | .int a,.int b=>a==b
 | .bool a,.int b=>(if a then 1 else 0)==b
 | .int a,.bool b=>a==(if b then 1 else 0)
 | .str a,.str b=>a==b
 | .tup a,.tup b=>YF a b
 | .lst a,.lst b=>YF a b
 | _,_=>false
noncomputable def YF:List V→List V→Bool
 | [],[]=>true
 | a::as,b::bs=>veq a b&&YF as bs
 | _,_=>false
end
mutual
noncomputable def plain:V→Bool
 | .obj _ _=>false
 | .ref _=>false
 | .str s=>s.all (·<0x110000)
 | .tup vs=>xO vs
 | .lst vs=>xO vs
 | _=>true
noncomputable def xO:List V→Bool
 | []=>true
 | v::vs=>plain v&&xO vs
end
mutual
noncomputable def dep:V→Nat
 | .tup vs=>Yq vs+1
 | .lst vs=>Yq vs+1
 | _=>0
noncomputable def Yq:List V→Nat
 | []=>0
 | v::vs=>max (dep v) (Yq vs)
end
noncomputable def flat (v:V):Bool:=plain v&&decide (dep v≤60)
inductive O where
 | list (vs:List V)
 | dict (es:List (V×V))
 | inst (c:Nat) (fs:List V)
inductive LV where
 | val (v:V)
 | own (vs:List V)
noncomputable def V.ctorIdx (x:V):Nat:=V.casesOn x 0 (fun _=>1) (fun _=>2) (fun _=>3) (fun _=>4) (fun _=>5) (fun _ _=>6) (fun _=>7)
noncomputable def O.ctorIdx (x:O):Nat:=O.casesOn x (fun _=>0) (fun _=>1) (fun _ _=>2)
noncomputable def LV.ctorIdx (x:LV):Nat:=LV.casesOn x (fun _=>0) (fun _=>1)
abbrev H:=List O
structure St where
 ρ:List (Option LV)
 σ:H
inductive R (α:Type) where
 | ok (a:α) (st:St)
 | exc (st:St)
 | bad
noncomputable def R.ctorIdx {α:Type} (r:R α):Nat:=R.casesOn r (fun _ _=>0) (fun _=>1) 2
theorem boR {α:Type} {a:α} {s:St} {P:Prop} (h:R.bad=R.ok a s):P:=qO R.ctorIdx h rfl
theorem beR {α:Type} {s:St} {P:Prop} (h:(R.bad:R α)=R.exc s):P:=qO R.ctorIdx h rfl
theorem oeR {α:Type} {a:α} {s t:St} {P:Prop} (h:R.ok a s=R.exc t):P:=qO R.ctorIdx h rfl
theorem eoR {α:Type} {a:α} {s t:St} {P:Prop} (h:R.exc t=R.ok a s):P:=qO R.ctorIdx h rfl
theorem obR {α:Type} {a:α} {s:St} {P:Prop} (h:R.ok a s=R.bad):P:=qO R.ctorIdx h rfl
theorem ebR {α:Type} {s:St} {P:Prop} (h:(R.exc s:R α)=R.bad):P:=qO R.ctorIdx h rfl
noncomputable def R.bind {α β:Type} (r:R α) (f:α→St→R β):R β:=match r with
 | .ok a st=>f a st
 | .exc st=>.exc st
 | .bad=>.bad
noncomputable def R.strict {α β:Type} (r:R α) (f:α→St→R β):R β:=match r with
 | .ok a st=>f a st
 | _=>.bad
inductive RC where
 | ok (v:V) (σ:H)
 | exc (σ:H)
 | bad
noncomputable def RC.ctorIdx (x:RC):Nat:=RC.casesOn x (fun _ _=>0) (fun _=>1) 2
set_option genCtorIdx true in
inductive Cmp where
 | eq | ne | lt | le | gt | ge
deriving DecidableEq
set_option genCtorIdx true in
inductive Bin where
 | add | sub | mul | mod | div
deriving DecidableEq
mutual
inductive E where
 | loc (i:Nat)
 | cst (v:V)
 | attr (e:E) (f:Nat)
 | idx (a b:E)
 | slice (hp:Bool) (a lo hi:E)
 | tup (es:Es)
 | lst (hp:Bool) (es:Es)
 | dict (ks:List (List Nat)) (es:Es)
 | comp (x:Nat) (body iter:E)
 | callF (f:Nat) (es:Es)
 | meth (e:E) (m:Nat) (es:Es)
 | new (c:Nat) (es:Es)
 | len (e:E)
 | tuple (e:E)
 | split (e:E)
 | bin (o:Bin) (a b:E)
 | cmp (o:Cmp) (a b:E)
 | cmp2 (o:Cmp) (a b c:E)
 | isin (neg:Bool) (a b:E)
 | isNone (e:E)
 | not (e:E)
 | and (a b:E)
 | or (a b:E)
 | ite (c a b:E)
 | pop (e:E)
 | popOwn (i:Nat)
 | bad
inductive Es where
 | nil
 | cons (e:E) (es:Es)
end
mutual
inductive S where
 | asg (i:Nat) (e:E)
 | asgOwn (i:Nat) (es:Es)
 | unpack (is:List Nat) (e:E)
 | setAttr (o:E) (f:Nat) (e:E)
 | setIdx (o i e:E)
 | augLoc (i:Nat) (o:Bin) (e:E)
 | augAttr (x:E) (f:Nat) (o:Bin) (e:E)
 | append (o e:E)
 | appendOwn (i:Nat) (e:E)
 | extendOwn (i:Nat) (e:E)
 | expr (e:E)
 | ifs (c:E) (a b:Ss)
 | whl (c:E) (b:Ss)
 | forr (i:Nat) (n:E) (b:Ss)
 | fore (i:Nat) (e:E) (b:Ss)
 | ret (e:E)
 | raise (e:E)
 | tryy (b:Ss) (i:Nat) (v:V)
 | brk
 | bad
inductive Ss where
 | nil
 | cons (s:S) (ss:Ss)
end
inductive Flow where
 | next | brk
 | ret (v:V)
noncomputable def E.ctorIdx (x:E):Nat:=E.casesOn x (fun _=>0) (fun _=>1) (fun _ _=>2) (fun _ _=>3) (fun _ _ _ _=>4) (fun _=>5) (fun _ _=>6) (fun _ _=>7) (fun _ _ _=>8) (fun _ _=>9) (fun _ _ _=>10) (fun _ _=>11) (fun _=>12) (fun _=>13) (fun _=>14) (fun _ _ _=>15) (fun _ _ _=>16) (fun _ _ _ _=>17) (fun _ _ _=>18) (fun _=>19) (fun _=>20) (fun _ _=>21) (fun _ _=>22) (fun _ _ _=>23) (fun _=>24) (fun _=>25) 26
noncomputable def Es.ctorIdx (x:Es):Nat:=Es.casesOn x 0 (fun _ _=>1)
noncomputable def S.ctorIdx (x:S):Nat:=S.casesOn x (fun _ _=>0) (fun _ _=>1) (fun _ _=>2) (fun _ _ _=>3) (fun _ _ _=>4) (fun _ _ _=>5) (fun _ _ _ _=>6) (fun _ _=>7) (fun _ _=>8) (fun _ _=>9) (fun _=>10) (fun _ _ _=>11) (fun _ _=>12) (fun _ _ _=>13) (fun _ _ _=>14) (fun _=>15) (fun _=>16) (fun _ _ _=>17) 18 19
noncomputable def Ss.ctorIdx (x:Ss):Nat:=Ss.casesOn x 0 (fun _ _=>1)
noncomputable def Flow.ctorIdx (x:Flow):Nat:=Flow.casesOn x 0 1 (fun _=>2)
structure Fn where
 n:Nat
 slots:Nat
 defs:List V
 body:Ss
structure Cls where
 heap:Bool
 fields:List Nat
 n:Nat
 defs:List V
 init:List E
structure P where
 fn:Nat→Option Fn
 cls:Nat→Option Cls
 meth:Nat→Nat→Option Nat
 split:List Nat→Option (List (List Nat))
@[irreducible] noncomputable def YQ (x y:List Nat):Bool:=!decide (y<x)
noncomputable def uA:V→Bool
 | .none=>true
 | .bool _=>true
 | .str _=>true
 | _=>false
noncomputable def xE:V→Bool
 | .none=>true
 | _=>false
noncomputable def truthy:V→H→Option Bool
 | .bool b,_=>some b
 | _,_=>none
noncomputable def Gl:Int:=4611686018427387904
noncomputable def qD:Nat:=4096
noncomputable def okI (i:Int):Bool:=yS0 i.natAbs 4611686018427387904
noncomputable def asI:V→Option Int
 | .int a=>some a
 | _=>none
noncomputable def asS:V→Option (List Nat)
 | .str a=>some a
 | _=>none
noncomputable def asL:V→Option (List V)
 | .lst a=>some a
 | _=>none
noncomputable def two {α β:Type} (f:V→Option α) (x y:V) (g:α→α→Option β):Option β:=match f x with
 | some a=>(match f y with
  | some b=>g a b
  | none=>none)
 | none=>none
noncomputable def orO {α:Type} (a b:Option α):Option α:=match a with
 | some x=>some x
 | none=>b
noncomputable def xb0 (x y:V):Option V:=two asI x y fun a b=>if okI a&&okI b then some (.int (a+b)) else none
noncomputable def zG0 (x y:V):Option V:=two asI x y fun a b=>if okI a&&okI b then some (.int (a-b)) else none
noncomputable def jS (o:Bin) (x y:V):Option V:=match o with
 | .add=>orO (xb0 x y) (orO (two asS x y fun a b=>if a.length+b.length≤qD then some (.str (a++b)) else none) (two asL x y fun a b=>if a.length+b.length≤qD then some (.lst (a++b)) else none))
 | .sub=>zG0 x y
 | .mul=>two asI x y fun a b=>if okI a&&okI b then some (.int (a*b)) else none
 | .mod=>two asI x y fun a b=>if decide (0<b)&&okI b then some (.int (a % b)) else none
 | .div=>two asI x y fun a b=>if decide (0<b)&&okI b&&okI a then some (.int (a / b)) else none
noncomputable def xc (o:Bin) (x y:V):Option V:=match o with
 | .add=>xb0 x y
 | .sub=>zG0 x y
 | _=>none
noncomputable def qF (o:Cmp) (x y:V):Option Bool:=match o with
 | .eq=>if flat x&&flat y then some (veq x y) else none
 | .ne=>if flat x&&flat y then some (!veq x y) else none
 | .lt=>two asI x y fun a b=>some (decide (a<b))
 | .le=>orO (two asI x y fun a b=>some (decide (a≤b))) (two asS x y fun a b=>some (YQ a b))
 | .gt=>two asI x y fun a b=>some (decide (a>b))
 | .ge=>two asI x y fun a b=>some (decide (a≥b))
noncomputable def jB (k:V):List (V×V)→Option V
 | []=>none
 | (k',v)::r=>if veq k k' then some v else jB k r
noncomputable def jx (k v:V):List (V×V)→List (V×V)
 | []=>[(k,v)]
 | (k',v')::r=>if veq k k' then (k',v)::r else (k',v')::jx k v r
theorem xy {v:V} {vs:List V} (h:xO (v::vs)=true):plain v=true∧xO vs=true:=uf0.mp h
theorem MN {v:V} (h:flat v=true):plain v=true∧dep v≤60:=(uf0.mp h).imp_right of_decide_eq_true
theorem nF {b:Bool} (h:b=false):¬b=true:=fun k=>ftB (h.symm.trans k)
theorem UO {k k' v':V} {r:List (V×V)} (h:veq k k'=true):jB k ((k',v')::r)=some v':=if_pos h
theorem UP {k k' v':V} {r:List (V×V)} (h:veq k k'=false):jB k ((k',v')::r)=jB k r:=if_neg (nF h)
theorem UM {k v k' v':V} {r:List (V×V)} (h:veq k k'=true):jx k v ((k',v')::r)=(k',v)::r:=if_pos h
theorem UN {k v k' v':V} {r:List (V×V)} (h:veq k k'=false):jx k v ((k',v')::r)=(k',v')::jx k v r:=if_neg (nF h)
theorem vJ (x:List Nat):veq (.str x) (.str x)=true:=beq_self_eq_true x
theorem vK (x:Int):veq (.int x) (.int x)=true:=beq_self_eq_true x
theorem zu0 {a b:Int} {v:List Nat}:veq (.int a) (.str v)=false:=rfl
theorem zt0 {a:Int} {v:List Nat}:veq (.str v) (.int a)=false:=rfl
noncomputable def isS:V→Bool
 | .str _=>true
 | _=>false
noncomputable def isI:V→Bool
 | .int _=>true
 | _=>false
noncomputable def KB (k:V) (es:List (V×V)):Bool:=(isS k&&es.all (fun e=>isS e.1))||(isI k&&es.all (fun e=>isI e.1))
noncomputable def UC (a:V):Option O→Option Bool
 | some (.dict es)=>if KB a es then some (jB a es).isSome else none
 | _=>none
noncomputable def jB0 (y:List Nat):List Nat→Option Bool
 | [c]=>some (y.contains c)
 | _=>none
noncomputable def jC0 (a b:V) (σ:H):Option Bool:=match b with
 | .str y=>(asS a).bind (jB0 y)
 | .tup vs=>(match a with
  | .str x=>if vs.all isS then some (vs.any (veq (.str x))) else none
  | .int x=>if vs.all isI then some (vs.any (veq (.int x))) else none
  | _=>none)
 | .ref n=>UC a σ[n]?
 | _=>none
noncomputable def xl (neg:Bool) (a b:V) (σ:H):Option Bool:=if neg&&isS b then none else jC0 a b σ
noncomputable def atI (vs:List V):V→Option V
 | .int i=>if i<0||!okI i then none else vs[i.toNat]?
 | _=>none
noncomputable def atO (k:V):O→Option V
 | .list vs=>atI vs k
 | .dict es=>if KB k es then jB k es else none
 | _=>none
noncomputable def zB (a b:V) (σ:H):Option V:=match a with
 | .tup vs=>atI vs b
 | .lst vs=>atI vs b
 | .str s=>(match b with
  | .int i=>if i<0||!okI i then none else (s[i.toNat]?).map fun c=>.str [c]
  | _=>none)
 | .ref n=>σ[n]?.bind (atO b)
 | _=>none
noncomputable def ji0:V→Option (Option Nat)
 | .none=>some none
 | .int i=>(match i with
  | .ofNat n=>some (some n)
  | .negSucc _=>none)
 | _=>none
noncomputable def xv0 {α:Type} (xs:List α) (a b:Option Nat):List α:=a.elim (b.elim xs fun j=>xs.take j) fun i=>(b.elim xs fun j=>xs.take j).drop i
noncomputable def JI {α:Type} (xs:List α) (lo hi:V):Option (List α):=(ji0 lo).bind fun a=>(ji0 hi).map (xv0 xs a)
theorem jh0 {α:Type} {Pr:R α→Prop} {o:Option (Option LV)} {F:List V→R α} (h:∀ vs,o=some (some (.own vs))→Pr (F vs)) (b:Pr .bad):Pr (match (generalizing:=false) o with | some (some (.own vs))=>F vs | _=>.bad):=by
 cases o with
 | none=>exact b
 | some o=>cases o with
  | none=>exact b
  | some l=>cases l with
   | own vs=>exact h vs rfl
   | _=>exact b
theorem xf0 {α:Type} {Pr:R α→Prop} {o:Option (Option LV)} {F:V→R α} (h:∀ v,o=some (some (.val v))→Pr (F v)) (b:Pr .bad):Pr (match (generalizing:=false) o with | some (some (.val v))=>F v | _=>.bad):=by
 cases o with
 | none=>exact b
 | some o=>cases o with
  | none=>exact b
  | some l=>cases l with
   | val vs=>exact h vs rfl
   | _=>exact b
theorem jv0 {α:Type} {Pr:R α→Prop} {o:Option O} {F:List V→R α} (h:∀ vs,o=some (.list vs)→Pr (F vs)) (b:Pr .bad):Pr (match (generalizing:=false) o with | some (.list vs)=>F vs | _=>.bad):=by
 cases o with
 | none=>exact b
 | some l=>cases l with
  | list vs=>exact h vs rfl
  | _=>exact b
noncomputable def GZ {α:Type} (o:Option O) (F:Nat→List V→Option α):Option α:=match o with
 | some (.inst c fs)=>F c fs
 | _=>none
noncomputable def vh {α:Type} (o:Option O) (F:List V→Option α):Option α:=match o with
 | some (.list vs)=>F vs
 | _=>none
theorem vM {α:Type} {o:Option O} {F:Nat→List V→Option α} {r:α} (e:GZ o F=some r):∃ c fs,o=some (.inst c fs)∧F c fs=some r:=by
 cases o with
 | none=>exact nsO e
 | some o=>cases o with
  | inst c fs=>exact c2a2 c fs rfl e
  | _=>exact nsO e
theorem uM {α:Type} {o:Option O} {F:List V→Option α} {r:α} (e:vh o F=some r):∃ vs,o=some (.list vs)∧F vs=some r:=by
 cases o with
 | none=>exact nsO e
 | some o=>cases o with
  | list vs=>exact c1a2 vs rfl e
  | _=>exact nsO e
theorem ifn {α:Type} {c:Prop} [Decidable c] {r:Option α} {v:α} (h:(if c then none else r)=some v):¬c∧r=some v:=by
 by_cases q:c
 ·rw [if_pos q] at h; exact nsO h
 ·rw [if_neg q] at h; exact ⟨q,h⟩
theorem ift {α:Type} {c:Prop} [Decidable c] {r:Option α} {v:α} (h:(if c then r else none)=some v):c∧r=some v:=by
 by_cases q:c
 ·rw [if_pos q] at h; exact ⟨q,h⟩
 ·rw [if_neg q] at h; exact nsO h
noncomputable def zb (v:V) (σ:H):Option Int:=match v with
 | .str s=>if s.length≤qD then some s.length else none
 | .lst vs=>if vs.length≤qD then some vs.length else none
 | .ref n=>vh σ[n]? fun vs=>some vs.length
 | _=>none
noncomputable def qB (st:St) (i:Nat) (v:LV):St:={st with ρ:=st.ρ.set i (some v)}
noncomputable def bindArgs (n slots:Nat) (defs args:List V):Option (List (Option LV)) :=
 if args.length≤n∧n≤args.length+defs.length then
  some (((args++defs.drop (args.length+defs.length-n)).map fun v=>some (LV.val v))++wF0 (slots-n) none)
 else none
noncomputable def kE (ks:List (List Nat)):Bool:=decide ks.Nodup&&decide (ks.length≤15)
noncomputable def GK (hp:Bool) (vs:List V) (l h:V) (st:St):R V :=
 if vs.length≤qD then
  match JI vs l h with
  | some ws=>if hp then .ok (.ref st.σ.length) {st with σ:=st.σ++[.list ws]} else .ok (.lst ws) st
  | none=>.bad
 else .bad
noncomputable def jO (hp:Bool) (x l h:V) (st:St):R V:=match x with
 | .str s=>if hp then .bad else if s.length≤qD then
   match JI s l h with
   | some ws=>.ok (.str ws) st
   | none=>.bad
  else .bad
 | .lst vs=>GK hp vs l h st
 | .ref n=>match st.σ[n]? with
  | some (.list vs)=>GK hp vs l h st
  | _=>.bad
 | _=>.bad
noncomputable def Xj (k v:V):O→Option O
 | .list vs=>(match k with
  | .int j=>if 0≤j∧j.toNat<vs.length then some (.list (vs.set j.toNat v)) else none
  | _=>none)
 | .dict es=>if KB k es&&decide (es.length<qD) then some (.dict (jx k v es)) else none
 | _=>none
noncomputable def xa (st:St) (x k v:V):R Flow:=match x with
 | .ref n=>(match st.σ[n]?.bind (Xj k v) with
  | some o=>.ok .next {st with σ:=st.σ.set n o}
  | none=>.bad)
 | _=>.bad
noncomputable def zA (c:St→R Bool) (b:St→R Flow):Nat→St→R Flow
 | 0,_=>.bad
 | n+1,st=>(c st).bind fun t st1=>if t then (b st1).bind fun f st2=>(match f with
   | .next=>zA c b n st2
   | .brk=>.ok .next st2
   | .ret v=>.ok (.ret v) st2) else .ok .next st1
noncomputable def xG (i:Nat) (b:St→R Flow):List V→St→R Flow
 | [],st=>.ok .next st
 | v::vs,st=>(b (qB st i (.val v))).bind fun f st2=>(match f with
   | .next=>xG i b vs st2
   | .brk=>.ok .next st2
   | .ret v=>.ok (.ret v) st2)
noncomputable def yJ (x:V) (i:Nat) (σ:H):Option (Option V):=match x with
 | .lst vs=>some vs[i]?
 | .ref n=>vh σ[n]? fun vs=>some vs[i]?
 | _=>none
noncomputable def ju (x:V) (f:V→H→R V):Nat→Nat→St→List V→R V
 | 0,_,_,_=>.bad
 | k+1,i,st,acc=>match yJ x i st.σ with
  | none=>.bad
  | some none=>.ok (.lst acc.reverse) st
  | some (some v)=>match f v st.σ with
   | .ok w st2=>ju x f k (i+1) {st with σ:=st2.σ} (w::acc)
   | _=>.bad
noncomputable def qy:Nat:=1000
noncomputable def jE0 (p:P) (f c:Nat) (fs:List V):Option V:=(p.cls c).bind fun k=>(k.fields.idxOf? f).bind fun i=>fs[i]?
noncomputable def jK (p:P) (σ:H) (v:V) (f:Nat):Option V:=match v with
 | .obj c fs=>jE0 p f c fs
 | .ref n=>GZ σ[n]? (jE0 p f)
 | _=>none
noncomputable def jp (p:P) (σ:H) (v:V) (f:Nat) (x:V):Option H:=match v with
 | .ref n=>GZ σ[n]? fun c fs=>(p.cls c).bind fun k=>(k.fields.idxOf? f).map fun i=>σ.set n (.inst c (fs.set i x))
 | _=>none
noncomputable def Bm (σ:H):V→Option Nat
 | .obj c _=>some c
 | .ref n=>GZ σ[n]? fun c _=>some c
 | _=>none
noncomputable def toB (r:R V):R Bool:=r.bind fun v st=>match truthy v st.σ with
 | some b=>.ok b st
 | none=>.bad
noncomputable def qu0 (p:P) (f:Nat) (r:R V):R V:=r.bind fun v st=>match jK p st.σ v f with
 | some x=>.ok x st
 | none=>.bad
noncomputable def zP0 (r:R V) (s:St→R V):R V:=r.bind fun x st=>(s st).bind fun y st=>match zB x y st.σ with
 | some v=>.ok v st
 | none=>.bad
noncomputable def YA (call:Nat→List V→H→RC) (f:Nat) (r:R (List V)):R V:=r.bind fun vs st=>match call f vs st.σ with
 | .ok v σ=>.ok v {st with σ:=σ}
 | .exc σ=>.exc {st with σ:=σ}
 | .bad=>.bad
noncomputable def ZF (p:P) (call:Nat→List V→H→RC) (m:Nat) (r:R V) (s:St→R (List V)):R V:=r.bind fun o st=>match (Bm st.σ o).bind fun c=>p.meth c m with
 | some f=>(s st).bind fun vs st=>(match call f (o::vs) st.σ with
  | .ok v σ=>.ok v {st with σ:=σ}
  | .exc σ=>.exc {st with σ:=σ}
  | .bad=>.bad)
 | none=>.bad
noncomputable def xZ0 (o:Bin) (r:R V) (s:St→R V):R V:=r.bind fun x st=>(s st).bind fun y st=>match jS o x y with
 | some v=>.ok v st
 | none=>.bad
noncomputable def QR (o:Cmp) (r:R V) (s:St→R V):R V:=r.bind fun x st=>(s st).bind fun y st=>match qF o x y with
 | some v=>.ok (.bool v) st
 | none=>.bad
noncomputable def QS (o:Cmp) (r:R V) (s t:St→R V):R V:=r.bind fun x st=>(s st).bind fun y st=>match qF o x y with
 | some true=>(t st).bind fun z st=>(match qF o y z with | some v=>.ok (.bool v) st | none=>.bad)
 | some false=>.ok (.bool false) st
 | none=>.bad
noncomputable def OZ (neg:Bool) (r:R V) (s:St→R V):R V:=r.bind fun x st=>(s st).bind fun y st=>match xl neg x y st.σ with
 | some v=>.ok (.bool (v != neg)) st
 | none=>.bad
section
variable (p:P) (call:Nat→List V→H→RC) (mk:Nat→List V→H→RC)
mutual
noncomputable def ev:E→St→R V
 | .loc i,st=>match st.ρ[i]? with
  | some (some (.val v))=>.ok v st
  | some (some (.own vs))=>.ok (.lst vs) (qB st i (.val (.lst vs)))
  | _=>.bad
 | .cst v,st=>.ok v st
 | .attr e f,st=>qu0 p f (ev e st)
 | .idx a b,st=>zP0 (ev a st) (ev b)
 | .slice hp a lo hi,st=>(ev a st).bind fun x st=>(ev lo st).bind fun l st=>(ev hi st).bind fun h st=>jO hp x l h st
 | .tup es,st=>(evs es st).bind fun vs st=>if vs.length≤qD then .ok (.tup vs) st else .bad
 | .lst hp es,st=>(evs es st).bind fun vs st=>if qD<vs.length then .bad else if hp then .ok (.ref st.σ.length) {st with σ:=st.σ++[.list vs]} else .ok (.lst vs) st
 | .dict ks es,st=>(evs es st).strict fun vs st=>if ks.length=vs.length∧kE ks=true then .ok (.ref st.σ.length) {st with σ:=st.σ++[.dict ((ks.map V.str).zip vs)]} else .bad
 | .comp _ body iter,st=>(ev iter st).bind fun x st=>ju x (fun v σ=>ev body ⟨[some (.val v)],σ⟩) qy 0 st []
 | .callF f es,st=>YA call f (evs es st)
 | .meth e m es,st=>ZF p call m (ev e st) (evs es)
 | .new c es,st=>YA mk c (evs es st)
 | .len e,st=>(ev e st).bind fun v st=>match zb v st.σ with
  | some n=>.ok (.int n) st
  | none=>.bad
 | .tuple e,st=>(ev e st).bind fun v st=>match v with
  | .lst vs=>if vs.length≤qD then .ok (.tup vs) st else .bad
  | _=>.bad
 | .split e,st=>(ev e st).bind fun v st=>match v with
  | .str s=>(match p.split s with | some ws=>.ok (.lst (ws.map V.str)) st | none=>.bad)
  | _=>.bad
 | .bin o a b,st=>xZ0 o (ev a st) (ev b)
 | .cmp o a b,st=>QR o (ev a st) (ev b)
 | .cmp2 o a b c,st=>QS o (ev a st) (ev b) (ev c)
 | .isin neg a b,st=>OZ neg (ev a st) (ev b)
 | .isNone e,st=>(ev e st).bind fun v st=>.ok (.bool (xE v)) st
 | .not e,st=>(ev e st).bind fun v st=>match truthy v st.σ with
  | some b=>.ok (.bool (!b)) st
  | none=>.bad
 | .and a b,st=>(ev a st).bind fun v st=>match truthy v st.σ with
  | some true=>ev b st
  | some false=>.ok v st
  | none=>.bad
 | .or a b,st=>(ev a st).bind fun v st=>match truthy v st.σ with
  | some false=>ev b st
  | some true=>.ok v st
  | none=>.bad
 | .ite c a b,st=>(tst c st).bind fun t st=>if t then ev a st else ev b st
 | .pop e,st=>(ev e st).bind fun v st=>match v with
  | .ref n=>(match st.σ[n]? with
   | some (.list vs)=>(match vs.getLast? with
    | some x=>.ok x {st with σ:=st.σ.set n (.list vs.dropLast)}
    | none=>.bad)
   | _=>.bad)
  | _=>.bad
 | .popOwn i,st=>match st.ρ[i]? with
  | some (some (.own vs))=>(match vs.getLast? with
   | some x=>.ok x (qB st i (.own vs.dropLast))
   | none=>.bad)
  | _=>.bad
 | .bad,_=>.bad
termination_by structural e=>e
noncomputable def evs:Es→St→R (List V)
 | .nil,st=>.ok [] st
 | .cons e es,st=>(ev e st).bind fun v st=>(evs es st).bind fun vs st=>.ok (v::vs) st
termination_by structural e=>e
noncomputable def tst:E→St→R Bool
 | .not e,st=>(tst e st).bind fun b st=>.ok (!b) st
 | .and a b,st=>(tst a st).bind fun t st=>if t then tst b st else .ok false st
 | .or a b,st=>(tst a st).bind fun t st=>if t then .ok true st else tst b st
 | .loc i,st=>match st.ρ[i]? with
  | some (some (.val v))=>(match truthy v st.σ with | some b=>.ok b st | none=>.bad)
  | some (some (.own vs))=>.ok (!vs.isEmpty) st
  | _=>.bad
 | .attr e f,st=>toB (qu0 p f (ev e st))
 | .idx a b,st=>toB (zP0 (ev a st) (ev b))
 | .callF f es,st=>toB (YA call f (evs es st))
 | .meth e m es,st=>toB (ZF p call m (ev e st) (evs es))
 | .cmp o a b,st=>toB (QR o (ev a st) (ev b))
 | .cmp2 o a b c,st=>toB (QS o (ev a st) (ev b) (ev c))
 | .isin neg a b,st=>toB (OZ neg (ev a st) (ev b))
 | .isNone e,st=>toB ((ev e st).bind fun v st=>.ok (.bool (xE v)) st)
 | _,_=>.bad
termination_by structural e=>e
end
noncomputable def NU (st:St):List Nat→List V→Option St
 | [],[]=>some st
 | i::is,v::vs=>NU (qB st i (.val v)) is vs
 | _,_=>none
mutual
noncomputable def ex:S→St→R Flow
 | .asg i e,st=>(ev p call mk e st).bind fun v st=>.ok .next (qB st i (.val v))
 | .asgOwn i es,st=>(evs p call mk es st).bind fun vs st=>if vs.length≤qD&&st.ρ.all (fun x=>match x with | some (.own _)=>false | _=>true) then .ok .next (qB st i (.own vs)) else .bad
 | .unpack is e,st=>(ev p call mk e st).bind fun v st=>match v with
  | .tup vs=>(match NU st is vs with | some st=>.ok .next st | none=>.bad)
  | _=>.bad
 | .setAttr o f e,st=>(ev p call mk e st).bind fun v st=>(ev p call mk o st).bind fun x st=>match jp p st.σ x f v with
  | some σ=>.ok .next {st with σ:=σ}
  | none=>.bad
 | .setIdx o i e,st=>(ev p call mk e st).bind fun v st=>(ev p call mk o st).bind fun x st=>(ev p call mk i st).bind fun k st=>xa st x k v
 | .augLoc i o e,st=>match st.ρ[i]? with
  | some (some (.val x))=>(ev p call mk e st).bind fun y st=>(match xc o x y with
   | some v=>.ok .next (qB st i (.val v))
   | none=>.bad)
  | _=>.bad
 | .augAttr x f o e,st=>(ev p call mk x st).bind fun x st=>match jK p st.σ x f with
  | some a=>(ev p call mk e st).bind fun y st=>(match xc o a y with
   | some v=>(match jp p st.σ x f v with
    | some σ=>.ok .next {st with σ:=σ}
    | none=>.bad)
   | none=>.bad)
  | none=>.bad
 | .append o e,st=>(ev p call mk o st).bind fun x st=>match x with
  | .ref n=>(match st.σ[n]? with
   | some (.list _)=>(ev p call mk e st).bind fun v st=>(match st.σ[n]? with
    | some (.list vs)=>if vs.length<qD then .ok .next {st with σ:=st.σ.set n (.list (vs++[v]))} else .bad
    | _=>.bad)
   | _=>.bad)
  | _=>.bad
 | .appendOwn i e,st=>match st.ρ[i]? with
  | some (some (.own _))=>(ev p call mk e st).bind fun v st=>(match st.ρ[i]? with
   | some (some (.own vs))=>if vs.length<qD then .ok .next (qB st i (.own (vs++[v]))) else .bad
   | _=>.bad)
  | _=>.bad
 | .extendOwn i e,st=>match st.ρ[i]? with
  | some (some (.own _))=>(ev p call mk e st).bind fun v st=>(match st.ρ[i]? with
   | some (some (.own vs))=>(match v with
    | .lst ws=>if vs.length+ws.length<qD then .ok .next (qB st i (.own (vs++ws))) else .bad
    | _=>.bad)
   | _=>.bad)
  | _=>.bad
 | .expr e,st=>(ev p call mk e st).bind fun _ st=>.ok .next st
 | .ifs c a b,st=>(tst p call mk c st).bind fun t st=>if t then exs a st else exs b st
 | .whl c b,st=>zA (fun st=>tst p call mk c st) (fun st=>exs b st) qy st
 | .forr i n b,st=>(ev p call mk n st).bind fun v st=>match v with
  | .int k=>if 0≤k∧k<1000 then xG i (fun st=>exs b st) ((wd0 k.toNat).map fun (j:Nat)=>V.int j) st else .bad
  | _=>.bad
 | .fore i e b,st=>(ev p call mk e st).bind fun v st=>match v with
  | .tup vs=>xG i (fun st=>exs b st) vs st
  | .lst vs=>xG i (fun st=>exs b st) vs st
  | _=>.bad
 | .ret e,st=>(ev p call mk e st).bind fun v st=>.ok (.ret v) st
 | .raise e,st=>(ev p call mk e st).bind fun v st=>match v with
  | .int i=>if okI i then .exc st else .bad
  | _=>.bad
 | .tryy b i v,st=>match exs b st with
  | .exc st=>if uA v then .ok .next (qB st i (.val v)) else .bad
  | r=>r
 | .brk,st=>.ok .brk st
 | .bad,_=>.bad
noncomputable def exs:Ss→St→R Flow
 | .nil,st=>.ok .next st
 | .cons s ss,st=>(ex s st).bind fun f st=>match f with
  | .next=>exs ss st
  | f=>.ok f st
end
noncomputable def uW:List E→St→List V→R (List V)
 | [],st,acc=>.ok acc.reverse st
 | e::es,st,acc=>(ev p call mk e st).bind fun v st1=>uW es st1 (v::acc)
end
noncomputable def Oq:R Flow→RC
 | .ok (.ret v) st=>.ok v st.σ
 | .ok .next st=>.ok .none st.σ
 | .ok .brk _=>.bad
 | .exc st=>.exc st.σ
 | .bad=>.bad
noncomputable def qB0 (c:Nat) (k:Cls):R (List V)→RC
 | .ok fs st=>if k.heap then .ok (.ref st.σ.length) (st.σ++[.inst c fs]) else .ok (.obj c fs) st.σ
 | _=>.bad
@[irreducible] noncomputable def QU (p:P) (call mk:Nat→List V→H→RC) (f:Nat) (args:List V) (σ:H):RC:=match p.fn f with
 | none=>.bad
 | some k=>match bindArgs k.n k.slots k.defs args with
  | none=>.bad
  | some ρ=>Oq (exs p call mk k.body ⟨ρ,σ⟩)
@[irreducible] noncomputable def mkW (p:P) (call mk:Nat→List V→H→RC) (c:Nat) (args:List V) (σ:H):RC:=match p.cls c with
 | none=>.bad
 | some k=>if args.length+k.defs.length=k.n then
   qB0 c k (uW p call mk k.init ⟨none::(args++k.defs).map (fun v=>some (LV.val v)),σ⟩ [])
  else .bad
mutual
noncomputable def qk (p:P):Nat→Nat→List V→H→RC
 | 0,_,_,_=>.bad
 | d+1,f,args,σ=>QU p (qk p d) (mkD p d) f args σ
noncomputable def mkD (p:P):Nat→Nat→List V→H→RC
 | 0,_,_,_=>.bad
 | d+1,c,args,σ=>mkW p (qk p d) (mkD p d) c args σ
end
theorem NC {p:P} {d f:Nat} {args:List V} {σ:H}:qk p (d+1) f args σ=QU p (qk p d) (mkD p d) f args σ:=rfl
theorem ZE {p:P} {d c:Nat} {args:List V} {σ:H}:mkD p (d+1) c args σ=mkW p (qk p d) (mkD p d) c args σ:=rfl
noncomputable abbrev qc:E:=.loc 0
noncomputable abbrev qi:E:=.loc 1
noncomputable abbrev qm:E:=.loc 2
noncomputable abbrev qo:E:=.cst (.int 0)
noncomputable abbrev qu:E:=.cst (.int 1)
noncomputable abbrev qp:E:=.cst (.str [])
noncomputable abbrev qq:E:=.loc 4
noncomputable abbrev qt:E:=.loc 3
noncomputable abbrev qH:E:=.cst (.int 2)
noncomputable abbrev qL:E:=.loc 5
noncomputable abbrev qK:E:=.loc 6
noncomputable abbrev qT:E:=.cst (.int 5)
noncomputable abbrev qS:E:=.cst (.int 4)
noncomputable abbrev qR:E:=.cst (.str [44])
noncomputable abbrev jb:E:=.cst (.bool false)
noncomputable abbrev jm:E:=.cst (.int 3)
noncomputable abbrev jo:E:=.cst (.str [62])
noncomputable abbrev jn:E:=.cst (.str [97,98,99,100])
noncomputable abbrev jv:E:=.cst (.str [99])
noncomputable abbrev jD:E:=.cst (.str [62,61])
noncomputable abbrev jC:E:=.cst (.str [112])
noncomputable abbrev jT:E:=.cst (.str [41])
noncomputable abbrev ze:E:=.cst (.str [109,97,114,107,115])
noncomputable abbrev zd:E:=.cst (.str [115,114,99])
noncomputable abbrev zt:E:=.cst (.str [60])
noncomputable abbrev zD:E:=.cst (.str [32])
noncomputable abbrev zR:E:=.cst (.str [100,101,101,112])
noncomputable abbrev xt:E:=.cst (.str [116,111,108,100])
noncomputable abbrev yt:E:=.cst (.str [60,32,100,32,62])
noncomputable abbrev yr:E:=.cst (.str [60,32,100,32,62,61])
noncomputable abbrev yq:E:=.cst (.str [60,32,100])
noncomputable abbrev yo:E:=.cst (.str [60,32,99,32,60,32,100,32,62,32,62])
noncomputable abbrev yn:E:=.cst (.str [60,32,98,32,44,32,100,32,62])
noncomputable abbrev AA:E:=.cst (.str [40,32,98,32,60,32,99,32,62,32,44,32,41])
noncomputable def UT:Cls:=⟨false,[0,1,2,3],4,[],[qi,qm,qt,qq]⟩
noncomputable def NE:Cls:=⟨true,[4,3],1,[(.str [])],[(.lst true .nil),qi]⟩
noncomputable def ND:Cls:=⟨false,[5,6,7,1,8,9],6,[],[qi,qm,qt,qq,qL,qK]⟩
noncomputable def US:Cls:=⟨false,[1,10,12,13,14,15,16,17,18,19,20,21,22,23],1,[],[(.attr qi 1),(.len (.attr (.attr qi 11) 4)),(.len (.attr qi 12)),(.slice false (.attr qi 13) (.cst .none) (.cst .none)),(.attr qi 14),(.attr qi 15),(.attr qi 16),(.attr qi 17),(.attr qi 18),(.attr qi 19),(.slice false (.attr qi 20) (.cst .none) (.cst .none)),(.attr qi 21),(.attr qi 22),(.attr qi 23)]⟩
noncomputable def c_Parser:Cls:=⟨true,[24,1,11,25,26,27,28,14,15,16,17,18,19,20,21,22,23,13,29,30,12,31],2,[],[(.slice true qi (.cst .none) (.cst .none)),qo,qm,(.dict [] .nil),(.dict [] .nil),(.dict [] .nil),(.dict [] .nil),qo,(.tup (.cons qp (.cons qo (.cons qo .nil)))),(.cst (.bool true)),qo,qo,qo,(.lst false .nil),jb,jb,qo,(.lst false .nil),(.dict [] .nil),(.dict [] .nil),(.lst true .nil),(.lst true .nil)]⟩
noncomputable def UR:Cls:=⟨false,[5,32,33,34,1,35],5,[],[qi,qm,qt,qq,qL,qo]⟩
noncomputable def Aw:Cls:=⟨false,[],0,[],[]⟩
noncomputable def yO:Cls:=⟨false,[],0,[],[]⟩
noncomputable def yP:Cls:=⟨false,[],0,[],[]⟩
noncomputable def An:Fn:=⟨1,1,[],
 (.cons (.ret (.tup (.cons (.attr qc 0) (.cons (.attr qc 1) (.cons (.attr qc 2) .nil))))) .nil)⟩
noncomputable def ua:Fn:=⟨4,4,[],
 (.cons (.append (.attr qc 4) (.new 0 (.cons qi (.cons qm (.cons qt (.cons (.attr qc 3) .nil)))))) .nil)⟩
noncomputable def yi:Fn:=⟨2,4,[],
 (.cons (.setAttr qi 1 (.attr qc 1)) (.cons (.expr (.callF 3 (.cons (.attr (.attr qi 11) 4) (.cons (.attr qc 10) .nil)))) (.cons (.setAttr qi 13 (.attr qc 13)) (.cons (.whl (.cmp .gt (.len (.attr qi 12)) (.attr qc 12)) (.cons (.unpack [2,3] (.pop (.attr qi 12))) (.cons (.setIdx (.attr qi 24) qm qt) .nil))) (.cons (.setAttr qi 14 (.attr qc 14)) (.cons (.setAttr qi 15 (.attr qc 15)) (.cons (.setAttr qi 16 (.attr qc 16)) (.cons (.setAttr qi 17 (.attr qc 17)) (.cons (.setAttr qi 18 (.attr qc 18)) (.cons (.setAttr qi 19 (.attr qc 19)) (.cons (.setAttr qi 20 (.attr qc 20)) (.cons (.setAttr qi 21 (.attr qc 21)) (.cons (.setAttr qi 22 (.attr qc 22)) (.cons (.setAttr qi 23 (.attr qc 23)) .nil))))))))))))))⟩
noncomputable def Am:Fn:=⟨2,2,[],
 (.cons (.whl (.cmp .gt (.len qc) qi) (.cons (.expr (.pop qc)) .nil)) .nil)⟩
noncomputable def wv:Fn:=⟨1,1,[],
 (.cons (.ret (.idx (.attr qc 24) (.attr qc 1))) .nil)⟩
noncomputable def yN:Fn:=⟨2,3,[],
 (.cons (.asg 2 (.bin .add (.attr qc 1) qi)) (.cons (.ifs (.cmp .ge qm (.len (.attr qc 24))) (.cons (.asg 2 (.bin .sub (.len (.attr qc 24)) qu)) .nil) .nil) (.cons (.ret (.idx (.attr qc 24) qm)) .nil)))⟩
noncomputable def vy:Fn:=⟨1,2,[],
 (.cons (.asg 1 (.idx (.attr qc 24) (.attr qc 1))) (.cons (.ifs (.cmp .ne (.attr qi 5) qo) (.cons (.augAttr qc 1 .add qu) .nil) .nil) (.cons (.ret qi) .nil)))⟩
noncomputable def xS:Fn:=⟨2,2,[],
 (.cons (.ret (.callF 22 (.cons (.idx (.attr qc 24) (.attr qc 1)) (.cons qT (.cons qi .nil))))) .nil)⟩
noncomputable def xR:Fn:=⟨2,2,[],
 (.cons (.ret (.callF 22 (.cons (.idx (.attr qc 24) (.attr qc 1)) (.cons qH (.cons qi .nil))))) .nil)⟩
noncomputable def xT:Fn:=⟨2,2,[],
 (.cons (.ret (.callF 22 (.cons (.idx (.attr qc 24) (.attr qc 1)) (.cons qu (.cons qi .nil))))) .nil)⟩
noncomputable def xo:Fn:=⟨2,2,[],
 (.cons (.ret (.callF 24 (.cons qc (.cons qT (.cons qi .nil))))) .nil)⟩
noncomputable def zX:Fn:=⟨2,2,[],
 (.cons (.ifs (.not (.callF 24 (.cons qc (.cons qT (.cons qi .nil))))) (.cons (.expr (.meth qc 0 (.cons (.cst (.int 1005)) (.cons (.tup (.cons qi .nil)) .nil)))) .nil) .nil) .nil)⟩
noncomputable def zY:Fn:=⟨1,1,[],
 (.cons (.ifs (.cmp .ne (.attr (.meth qc 1 .nil) 5) qu) (.cons (.expr (.meth qc 0 (.cons (.cst (.int 1003)) (.cons (.cst (.tup [])) .nil)))) .nil) .nil) (.cons (.ret (.attr (.meth qc 2 .nil) 6)) .nil))⟩
noncomputable def yM:Fn:=⟨3,3,[],
 (.cons (.expr (.meth qc 3 (.cons qi (.cons (.attr (.meth qc 1 .nil) 1) (.cons qm .nil))))) .nil)⟩
noncomputable def xn:Fn:=⟨4,4,[],
 (.cons (.expr (.meth (.attr qc 11) 4 (.cons qi (.cons qm (.cons qt .nil))))) (.cons (.raise qi) .nil))⟩
noncomputable def vB:Fn:=⟨1,1,[],
 (.cons (.augAttr qc 14 .add qu) (.cons (.ifs (.cmp .gt (.attr qc 14) (.cst (.int 40))) (.cons .bad .nil) .nil) .nil))⟩
noncomputable def kZ:Fn:=⟨1,1,[],
 (.cons (.augAttr qc 14 .sub qu) .nil)⟩
noncomputable def xI:Fn:=⟨2,3,[],
 (.cons (.ifs (.isin true qi (.attr qc 25)) (.cons .bad .nil) .nil) (.cons (.expr (.meth qc 5 .nil)) (.cons (.ifs (.isin false qi (.cst (.tup [(.int 3),(.int 4),(.int 5),(.int 6)]))) (.cons .bad .nil) (.cons (.asg 2 (.meth (.idx (.attr qc 25) qi) 6 (.cons qc .nil))) .nil)) (.cons (.ifs (.cmp .eq (.attr qc 14) qu) (.cons (.expr (.callF 23 (.cons qc (.cons qm .nil)))) .nil) .nil) (.cons (.expr (.meth qc 7 .nil)) (.cons (.ret qm) .nil))))))⟩
noncomputable def vz:Fn:=⟨1,1,[],
 (.cons (.append (.attr qc 31) (.new 3 (.cons qc .nil))) (.cons (.ret (.bin .sub (.len (.attr qc 31)) qu)) .nil))⟩
noncomputable def vC:Fn:=⟨2,2,[],
 (.cons (.expr (.meth (.callF 21 (.cons qc (.cons qi .nil))) 8 (.cons qc .nil))) .nil)⟩
noncomputable def vA:Fn:=⟨2,2,[],
 (.cons (.expr (.callF 21 (.cons qc (.cons qi .nil)))) .nil)⟩
noncomputable def kR:Fn:=⟨2,3,[],
 (.cons (.ifs (.or (.cmp .lt qi qo) (.cmp .ge qi (.len (.attr qc 31)))) (.cons .bad .nil) .nil) (.cons (.asg 2 (.idx (.attr qc 31) qi)) (.cons (.expr (.callF 3 (.cons (.attr qc 31) (.cons qi .nil)))) (.cons (.ret qm) .nil))))⟩
noncomputable def Al:Fn:=⟨3,3,[],
 (.cons (.ret (.and (.cmp .eq (.attr qc 5) qi) (.cmp .eq (.attr qc 6) qm))) .nil)⟩
noncomputable def yL:Fn:=⟨2,6,[],
 (.cons (.asgOwn 2 (.cons (.tup (.cons qi (.cons qu .nil))) .nil)) (.cons (.whl qm (.cons (.unpack [4,5] (.popOwn 2)) (.cons (.ifs (.isNone qq) (.cons .bad .nil) .nil) (.cons (.ifs (.cmp .gt qL (.cst (.int 160))) (.cons .bad .nil) .nil) (.cons (.fore 3 (.attr qq 33) (.cons (.appendOwn 2 (.tup (.cons qt (.cons (.bin .add qL qu) .nil)))) .nil)) .nil))))) .nil))⟩
noncomputable def kY:Fn:=⟨3,3,[],
 (.cons (.ifs (.not (.callF 22 (.cons (.meth qc 1 .nil) (.cons qi (.cons qm .nil))))) (.cons (.ret jb) .nil) .nil) (.cons (.expr (.meth qc 2 .nil)) (.cons (.ret (.cst (.bool true))) .nil)))⟩
noncomputable def kQ:Fn:=⟨1,1,[],
 (.cons (.ifs (.or (.cmp .eq (.attr qc 5) qT) (.cmp .eq (.attr qc 5) qH)) (.cons (.ret (.attr qc 6)) .nil) .nil) (.cons (.ifs (.cmp .eq (.attr qc 5) qu) (.cons (.ret (.cst (.str [35,110,97,109,101]))) .nil) .nil) (.cons (.ifs (.cmp .eq (.attr qc 5) jm) (.cons (.ret (.cst (.str [35,110,117,109]))) .nil) .nil) (.cons (.ifs (.cmp .eq (.attr qc 5) qS) (.cons (.ret (.cst (.str [35,115,116,114]))) .nil) .nil) (.cons (.ifs (.or (.cmp .eq (.attr qc 5) (.cst (.int 6))) (.cmp .eq (.attr qc 5) (.cst (.int 7)))) (.cons (.ret (.cst (.str [35,116,112,108]))) .nil) .nil) (.cons (.ret qp) .nil))))))⟩
noncomputable def zW:Fn:=⟨1,4,[],
 (.cons (.asg 1 (.meth qc 1 .nil)) (.cons (.ifs (.not (.callF 22 (.cons qi (.cons qT (.cons jD .nil))))) (.cons (.expr (.meth qc 9 (.cons jo .nil))) (.cons (.ret (.cst .none)) .nil)) .nil) (.cons (.asg 2 (.meth qc 10 (.cons qu .nil))) (.cons (.append (.attr qc 12) (.tup (.cons (.attr qc 1) (.cons qi .nil)))) (.cons (.asg 3 (.bin .add (.cst (.str [61])) (.attr qm 6))) (.cons (.ifs (.or (.cmp .ne (.attr qm 5) qT) (.or (.cmp .ne (.attr qm 1) (.attr qi 8)) (.isin true qt (.cst (.tup [(.str [61,62]),(.str [61,61]),(.str [61,61,61])]))))) (.cons (.setIdx (.attr qc 24) (.attr qc 1) (.new 2 (.cons qT (.cons (.cst (.str [61])) (.cons qo (.cons (.bin .add (.attr qi 1) qu) (.cons (.attr qi 8) (.cons jb .nil)))))))) (.cons (.ret (.cst .none)) .nil)) .nil) (.cons (.append (.attr qc 12) (.tup (.cons (.bin .add (.attr qc 1) qu) (.cons qm .nil)))) (.cons (.setIdx (.attr qc 24) (.attr qc 1) (.new 2 (.cons qT (.cons jo (.cons qo (.cons (.attr qi 1) (.cons (.bin .add (.attr qi 1) qu) (.cons (.attr qi 9) .nil)))))))) (.cons (.setIdx (.attr qc 24) (.bin .add (.attr qc 1) qu) (.new 2 (.cons qT (.cons qt (.cons qo (.cons (.bin .add (.attr qi 1) qu) (.cons (.attr qm 8) (.cons jb .nil)))))))) (.cons (.expr (.meth qc 2 .nil)) .nil))))))))))⟩
noncomputable def UG:Fn:=⟨3,3,[],
 (.cons (.ret (.new 5 (.cons qc (.cons qi (.cons (.lst false .nil) (.cons qo (.cons qm .nil))))))) .nil)⟩
noncomputable def UF:Fn:=⟨4,4,[],
 (.cons (.ret (.new 5 (.cons qc (.cons qi (.cons qm (.cons qo (.cons qt .nil))))))) .nil)⟩
noncomputable def Dp:Fn:=⟨5,5,[],
 (.cons (.ret (.new 5 (.cons qc (.cons qi (.cons qm (.cons qt (.cons qq .nil))))))) .nil)⟩
noncomputable def Dm:Fn:=⟨2,2,[],
 (.cons (.ret (.new 5 (.cons (.cst (.int 71)) (.cons qp (.cons qc (.cons qo (.cons qi .nil))))))) .nil)⟩
noncomputable def xQ:Fn:=⟨2,2,[],
 (.cons (.ret (.callF 32 (.cons qi .nil))) .nil)⟩
noncomputable def zg:Fn:=⟨1,2,[],
 (.cons (.asg 1 (.callF 33 (.cons qc .nil))) (.cons (.ifs (.or (.attr qc 21) (.or (.not (.callF 34 (.cons qc (.cons qi .nil)))) (.isin true (.cst (.str [35,99,111,110,100])) (.attr qc 28)))) (.cons (.ret qi) .nil) .nil) (.cons .bad .nil)))⟩
noncomputable def vw:Fn:=⟨1,1,[],
 (.cons (.ifs (.and (.isin false (.cst (.str [35,102,117,110,99])) (.attr qc 28)) .bad) (.cons .bad .nil) .nil) (.cons (.ret (.callF 36 (.cons qc .nil))) .nil))⟩
noncomputable def yK:Fn:=⟨2,2,[],
 (.cons (.ifs (.or (.cmp .eq (.attr qi 5) (.cst (.int 27))) (.attr (.meth qc 1 .nil) 9)) (.cons (.ret jb) .nil) .nil) (.cons (.ret (.meth qc 11 (.cons (.cst (.str [101,120,116,101,110,100,115])) .nil))) .nil))⟩
noncomputable def yU:Fn:=⟨2,4,[],
 (.cons (.asg 2 (.attr qc 21)) (.cons (.setAttr qc 21 qi) (.cons (.asg 3 (.meth qc 12 (.cons qu .nil))) (.cons (.setAttr qc 21 qm) (.cons (.ret qt) .nil)))))⟩
noncomputable def yf:Fn:=⟨1,3,[],
 (.cons (.expr (.meth qc 13 (.cons (.cst (.str [124])) .nil))) (.cons (.asg 1 (.callF 37 (.cons qc .nil))) (.cons (.ifs (.not (.meth qc 14 (.cons (.cst (.str [124])) .nil))) (.cons (.ret qi) .nil) .nil) (.cons .bad .nil))))⟩
noncomputable def yh:Fn:=⟨1,3,[],
 (.cons (.expr (.meth qc 13 (.cons (.cst (.str [38])) .nil))) (.cons (.asg 1 (.callF 38 (.cons qc .nil))) (.cons (.ifs (.not (.meth qc 14 (.cons (.cst (.str [38])) .nil))) (.cons (.ret qi) .nil) .nil) (.cons .bad .nil))))⟩
noncomputable def yg:Fn:=⟨1,2,[],
 (.cons (.asg 1 (.meth qc 1 .nil)) (.cons (.ifs (.and (.cmp .eq (.attr qi 5) qu) (.and (.isin false (.attr qi 6) (.cst (.tup [(.str [107,101,121,111,102]),(.str [114,101,97,100,111,110,108,121]),(.str [105,110,102,101,114])]))) (.isin false (.attr qi 6) (.attr qc 28)))) (.cons .bad .nil) .nil) (.cons (.ret (.callF 39 (.cons qc .nil))) .nil)))⟩
noncomputable def zu:Fn:=⟨1,6,[],
 (.cons (.asg 1 (.attr qc 21)) (.cons (.setAttr qc 21 jb) (.cons (.asg 2 (.callF 25 (.cons (.meth qc 1 .nil) .nil))) (.cons (.ifs (.isin true qm (.attr qc 28)) (.cons (.expr (.meth qc 0 (.cons (.cst (.int 1110)) (.cons (.cst (.tup [])) .nil)))) .nil) .nil) (.cons (.asg 3 (.meth (.idx (.attr qc 28) qm) 15 (.cons qc (.cons (.cst .none) .nil)))) (.cons (.asg 4 qo) (.cons (.whl (.and (.meth qc 14 (.cons (.cst (.str [91])) .nil)) (.not (.attr (.meth qc 1 .nil) 9))) (.cons .bad .nil)) (.cons (.setAttr qc 21 qi) (.cons (.ret qt) .nil)))))))))⟩
noncomputable def jw:Fn:=⟨3,6,[],
 (.cons (.asg 3 (.meth qi 1 .nil)) (.cons (.ifs (.isin false (.attr qt 6) (.cst (.tup [(.str [97,110,121]),(.str [117,110,107,110,111,119,110]),(.str [110,101,118,101,114]),(.str [117,110,100,101,102,105,110,101,100]),(.str [115,116,114,105,110,103]),(.str [110,117,109,98,101,114]),(.str [98,111,111,108,101,97,110]),(.str [111,98,106,101,99,116])]))) (.cons .bad .nil) .nil) (.cons (.expr (.callF 41 (.cons qi .nil))) (.cons (.asg 4 (.callF 42 (.cons qi .nil))) (.cons (.asg 5 (.lst false .nil)) (.cons (.ifs (.and (.meth qi 14 (.cons zt .nil)) (.not (.attr (.meth qi 1 .nil) 9))) (.cons (.asg 5 (.callF 43 (.cons qi .nil))) .nil) .nil) (.cons (.ret (.callF 28 (.cons (.cst (.int 81)) (.cons qq (.cons qL (.cons (.attr qt 1) .nil)))))) .nil)))))))⟩
noncomputable def xm:Fn:=⟨1,2,[],
 (.cons (.asg 1 (.meth qc 10 (.cons qu .nil))) (.cons (.ifs (.or (.meth qc 16 (.cons (.cst (.str [115,121,109,98,111,108])) .nil)) (.meth qc 16 (.cons (.cst (.str [98,105,103,105,110,116])) .nil))) (.cons .bad .nil) .nil) (.cons (.ifs (.and (.meth qc 16 (.cons (.cst (.str [117,110,105,113,117,101])) .nil)) (.callF 22 (.cons qi (.cons qu (.cons (.cst (.str [115,121,109,98,111,108])) .nil))))) (.cons .bad .nil) .nil) (.cons (.ifs (.and (.meth qc 16 (.cons (.cst (.str [97,98,115,116,114,97,99,116])) .nil)) (.callF 22 (.cons qi (.cons qH (.cons (.cst (.str [110,101,119])) .nil))))) (.cons .bad .nil) .nil) .nil))))⟩
noncomputable def vu:Fn:=⟨1,4,[],
 (.cons (.asg 1 (.attr (.meth qc 1 .nil) 1)) (.cons (.asg 2 (.meth qc 17 .nil)) (.cons (.asg 3 qo) (.cons (.whl (.meth qc 13 (.cons (.cst (.str [46])) .nil)) (.cons .bad .nil)) (.cons (.ifs (.cmp .gt qt qu) (.cons .bad .nil) .nil) (.cons (.ret qm) .nil))))))⟩
noncomputable def xP:Fn:=⟨1,2,[],
 (.cons (.expr (.meth qc 9 (.cons zt .nil))) (.cons (.asgOwn 1 (.cons (.callF 35 (.cons qc (.cons jb .nil))) .nil)) (.cons (.whl (.meth qc 13 (.cons qR .nil)) (.cons (.appendOwn 1 (.callF 35 (.cons qc (.cons jb .nil)))) .nil)) (.cons (.expr (.callF 26 (.cons qc .nil))) (.cons (.ret qi) .nil)))))⟩
noncomputable def vx:Fn:=⟨1,1,[],
 (.cons (.ret (.or (.cmp .eq (.attr qc 5) (.cst (.int 6))) (.cmp .eq (.attr qc 5) (.cst (.int 7))))) .nil)⟩
noncomputable def xH:Fn:=⟨1,4,[],
 (.cons (.asg 1 (.attr (.meth qc 1 .nil) 1)) (.cons (.expr (.meth qc 9 (.cons (.cst (.str [40])) .nil))) (.cons (.asg 2 (.attr qc 16)) (.cons (.setAttr qc 16 (.cst (.bool true))) (.cons (.asgOwn 3 .nil) (.cons (.whl (.not (.meth qc 14 (.cons jT .nil))) (.cons (.appendOwn 3 (.callF 46 (.cons qc .nil))) (.cons (.ifs (.not (.meth qc 13 (.cons qR .nil))) (.cons .brk .nil) .nil) .nil))) (.cons (.expr (.meth qc 9 (.cons jT .nil))) (.cons (.setAttr qc 16 qm) (.cons (.ret (.callF 30 (.cons qt (.cons qi .nil)))) .nil)))))))))⟩
noncomputable def kS:Fn:=⟨1,2,[],
 (.cons (.asg 1 (.attr (.meth qc 1 .nil) 1)) (.cons (.ifs (.meth qc 13 (.cons (.cst (.str [46,46,46])) .nil)) (.cons .bad .nil) .nil) (.cons (.ret (.meth qc 12 (.cons qH .nil))) .nil)))⟩
noncomputable def zO:Fn:=⟨4,6,[],
 (.cons (.asg 4 (.callF 48 (.cons qi .nil))) (.cons (.ifs (.isNone qq) (.cons (.ret (.cst .none)) .nil) .nil) (.cons (.asg 5 (.callF 45 (.cons qi .nil))) (.cons (.ret (.callF 29 (.cons (.cst (.int 18)) (.cons qp (.cons (.lst false (.cons qm (.cons qL (.cons qq .nil)))) (.cons qt (.cons (.attr qm 1) .nil))))))) .nil))))⟩
noncomputable def zN:Fn:=⟨1,6,[],
 (.cons (.ifs (.isin true qu (.attr qc 25)) (.cons .bad .nil) .nil) (.cons (.asg 1 (.attr (.meth qc 1 .nil) 1)) (.cons (.asg 2 (.meth qc 18 .nil)) (.cons (.asg 3 (.lst false .nil)) (.cons (.asg 4 jb) (.cons (.tryy (.cons (.augAttr qc 14 .sub qu) (.cons (.asg 3 (.callF 43 (.cons qc .nil))) (.cons (.augAttr qc 14 .add qu) (.cons (.asg 5 (.meth qc 14 (.cons (.cst (.str [40])) .nil))) (.cons (.asg 4 (.callF 44 (.cons (.meth qc 1 .nil) .nil))) .nil))))) 5 (.bool false)) (.cons (.ifs qL (.cons (.expr (.meth qc 19 (.cons qm .nil))) (.cons (.ret (.callF 30 (.cons qt (.cons qi .nil)))) .nil)) .nil) (.cons (.expr (.meth qc 20 (.cons qm .nil))) (.cons (.ifs qq (.cons .bad .nil) .nil) (.cons (.ret (.cst .none)) .nil))))))))))⟩
noncomputable def vX:Fn:=⟨2,4,[],
 (.cons (.asg 2 (.idx qc (.cst (.str [110,101,120,116])))) (.cons (.setIdx qc (.cst (.str [110,101,120,116])) (.bin .add qm qu)) (.cons (.asg 3 (.len (.idx qc (.cst (.str [110,117,109,115]))))) (.cons (.ret (.bin .mod (.bin .add (.idx (.idx qc (.cst (.str [110,117,109,115]))) (.bin .mod qm qt)) (.bin .mul (.cst (.int 7)) (.bin .div qm qt))) qi)) .nil))))⟩
noncomputable def kT:Fn:=⟨2,2,[],
 (.cons (.ifs (.and (.isin false (.idx qc qo) (.cst (.str [60,62,61]))) (.isin false (.idx qi qo) (.cst (.str [60,62,61])))) (.cons (.ret (.isin false (.bin .add (.bin .add qc zD) qi) (.tup (.cons (.cst (.str [62,32,62])) (.cons (.cst (.str [62,32,62,61])) (.cons (.cst (.str [62,61,32,61])) (.cons (.cst (.str [62,61,32,61,61])) (.cons (.cst (.str [62,61,32,62])) .nil)))))))) .nil) .nil) (.cons (.ret (.not (.and (.cmp2 .le (.cst (.str [97])) qc (.cst (.str [122]))) (.cmp2 .le (.cst (.str [97])) qi (.cst (.str [122])))))) .nil))⟩
noncomputable def Dn:Fn:=⟨1,5,[],
 (.cons (.asgOwn 1 .nil) (.cons (.forr 2 (.bin .add qu (.callF 49 (.cons qc (.cons qH .nil)))) (.cons (.extendOwn 1 (.lst false (.cons (.idx jn (.callF 49 (.cons qc (.cons qS .nil)))) (.cons zt .nil)))) (.cons (.forr 3 (.bin .add qu (.callF 49 (.cons qc (.cons qH .nil)))) (.cons (.extendOwn 1 (.ite (.cmp .gt qt qo) (.lst false (.cons qR (.cons (.idx jn (.callF 49 (.cons qc (.cons qS .nil)))) .nil))) (.lst false (.cons (.idx jn (.callF 49 (.cons qc (.cons qS .nil)))) .nil)))) (.cons (.asg 4 (.idx (.tup (.cons qp (.cons qp (.cons qp (.cons yt (.cons yr (.cons yq (.cons yo (.cons yn .nil))))))))) (.callF 49 (.cons qc (.cons (.cst (.int 8)) .nil))))) (.cons (.extendOwn 1 (.split qq)) .nil)))) (.cons (.appendOwn 1 (.idx (.tup (.cons jD (.cons jo (.cons jD (.cons jD (.cons qR .nil)))))) (.callF 49 (.cons qc (.cons qT .nil))))) (.cons (.extendOwn 1 (.split (.idx (.tup (.cons (.cst (.str [61])) (.cons (.cst (.str [40,32,41])) (.cons (.cst (.str [61,61])) (.cons (.cst (.str [61,62])) (.cons jo (.cons qp (.cons (.cst (.str [40,32,99,32,41])) (.cons (.cst (.str [61,61,61])) (.cons jD (.cons AA .nil))))))))))) (.callF 49 (.cons qc (.cons (.cst (.int 10)) .nil)))))) .nil))))) (.cons (.ret (.slice false qi (.cst .none) (.cst (.int 14)))) .nil)))⟩
noncomputable def Ac:Fn:=⟨1,5,[],
 (.cons (.asg 1 qp) (.cons (.asg 2 qp) (.cons (.fore 3 (.callF 51 (.cons qc .nil)) (.cons (.asg 4 (.idx (.tup (.cons qp (.cons qp (.cons qp (.cons zD (.cons (.cst (.str [10])) .nil)))))) (.callF 49 (.cons qc (.cons qT .nil))))) (.cons (.ifs (.and (.cmp .ne qm qp) (.and (.cmp .eq qq qp) (.not (.callF 50 (.cons qm (.cons qt .nil)))))) (.cons (.asg 4 zD) .nil) .nil) (.cons (.asg 1 (.bin .add (.bin .add qi (.ite (.cmp .ne qm qp) qq qp)) qt)) (.cons (.asg 2 qt) .nil))))) (.cons (.ret qi) .nil))))⟩
noncomputable def Ae:Fn:=⟨2,5,[],
 (.cons (.asg 2 qi) (.cons (.whl (.and (.cmp .lt qm (.len qc)) (.isin false (.idx qc qm) (.cst (.str [32,10])))) (.cons (.augLoc 2 .add qu) .nil)) (.cons (.asg 3 (.slice false qc qm (.bin .add qm qu))) (.cons (.fore 4 (.tup (.cons jD (.cons (.cst (.str [61,61])) (.cons (.cst (.str [61,62])) (.cons (.cst (.str [61,61,61])) .nil))))) (.cons (.ifs (.cmp .eq (.slice false qc qm (.bin .add qm (.len qq))) qq) (.cons (.asg 3 qq) .nil) .nil) .nil)) (.cons (.ret (.tup (.cons qt (.cons qm (.cons (.bin .add qm (.len qt)) (.cons (.isin false (.cst (.str [10])) (.slice false qc qi qm)) .nil)))))) .nil)))))⟩
noncomputable def Do:Fn:=⟨2,7,[],
 (.cons (.asgOwn 2 .nil) (.cons (.asg 3 (.cst (.str [109,111,114,101]))) (.cons (.whl (.cmp .ne qt qp) (.cons (.unpack [3,5,1,6] (.callF 53 (.cons qc (.cons qi .nil)))) (.cons (.asg 4 (.ite (.cmp .eq qt qp) qo (.ite (.cmp2 .le (.cst (.str [97])) qt (.cst (.str [122]))) qu qT))) (.cons (.appendOwn 2 (.tup (.cons qq (.cons qt (.cons qo (.cons qL (.cons qi (.cons qK .nil)))))))) .nil)))) (.cons (.ret qm) .nil))))⟩
noncomputable def Af:Fn:=⟨2,2,[],
 (.cons (.ret (.comp 0 (.tup (.cons (.attr qc 5) (.cons (.attr qc 6) (.cons (.attr qc 7) (.cons (.attr qc 1) (.cons (.attr qc 8) (.cons (.attr qc 9) .nil))))))) (.slice false (.attr qc 24) qi (.cst .none)))) .nil)⟩
noncomputable def wa:Fn:=⟨3,9,[],
 (.cons (.unpack [5,6,7,8] (.callF 53 (.cons qc (.cons qi .nil)))) (.cons (.ifs (.not (.cmp2 .le (.cst (.str [97])) qL (.cst (.str [122])))) (.cons (.ret (.tup (.cons (.cst (.str [107,105,110,100])) (.cons qi (.cons qm (.cons (.cst (.tup [])) .nil)))))) .nil) .nil) (.cons (.asg 3 (.callF 53 (.cons qc (.cons (.loc 7) .nil)))) (.cons (.ifs (.or (.cmp .ne (.idx qt qo) zt) (.idx qt jm)) (.cons (.ret (.tup (.cons qp (.cons (.loc 7) (.cons qm (.cons (.tup (.cons qL (.cons qK (.cons (.cst (.tup [])) .nil)))) .nil)))))) .nil) .nil) (.cons (.asg 4 (.callF 57 (.cons qc (.cons (.loc 7) (.cons qm .nil))))) (.cons (.ret (.tup (.cons (.idx qq qo) (.cons (.idx qq qu) (.cons (.idx qq qH) (.cons (.tup (.cons qL (.cons qK (.cons (.idx qq jm) .nil)))) .nil)))))) .nil))))))⟩
noncomputable def wu:Fn:=⟨3,7,[],
 (.cons (.asg 3 (.callF 53 (.cons qc (.cons qi .nil)))) (.cons (.ifs (.cmp .ne (.idx qt qo) zt) (.cons (.ret (.tup (.cons zt (.cons qi (.cons qm (.cons (.cst (.tup [])) .nil)))))) .nil) .nil) (.cons (.asgOwn 4 .nil) (.cons (.asg 5 (.cst (.bool true))) (.cons (.whl qL (.cons (.asg 6 (.callF 56 (.cons qc (.cons (.idx qt qH) (.cons (.bin .add qm qu) .nil))))) (.cons (.ifs (.cmp .ne (.idx qK qo) qp) (.cons (.ret qK) .nil) .nil) (.cons (.appendOwn 4 (.idx qK jm)) (.cons (.asg 3 (.callF 53 (.cons qc (.cons (.idx qK qu) .nil)))) (.cons (.asg 5 (.cmp .eq (.idx qt qo) qR)) .nil)))))) (.cons (.ifs (.cmp .ne (.slice false (.idx qt qo) (.cst .none) qu) jo) (.cons (.ret (.tup (.cons jo (.cons (.idx qK qu) (.cons qm (.cons (.cst (.tup [])) .nil)))))) .nil) .nil) (.cons (.ret (.tup (.cons qp (.cons (.bin .add (.idx qt qu) qu) (.cons qm (.cons (.tuple qq) .nil)))))) .nil)))))))⟩
noncomputable def Aj:Fn:=⟨3,10,[],
 (.cons (.asg 3 (.callF 57 (.cons qc (.cons qi (.cons qm .nil))))) (.cons (.asg 4 (.callF 53 (.cons qc (.cons (.idx qt qu) .nil)))) (.cons (.ifs (.or (.cmp .ne (.idx qt qo) qp) (.cmp .ne (.idx qq qo) (.cst (.str [40])))) (.cons (.ret (.tup (.cons qp (.cons qi (.cons qm (.cons (.cst .none) .nil)))))) .nil) .nil) (.cons (.asg 5 (.idx qq qu)) (.cons (.asgOwn 6 .nil) (.cons (.asg 7 (.idx qq qH)) (.cons (.asg 8 (.cmp .ne (.idx (.callF 53 (.cons qc (.cons (.loc 7) .nil))) qo) jT)) (.cons (.whl (.loc 8) (.cons (.asg 9 (.callF 56 (.cons qc (.cons (.loc 7) (.cons (.bin .add qm qu) .nil))))) (.cons (.ifs (.cmp .ne (.idx (.loc 9) qo) qp) (.cons (.ret (.loc 9)) .nil) .nil) (.cons (.appendOwn 6 (.idx (.loc 9) jm)) (.cons (.asg 7 (.idx (.loc 9) qu)) (.cons (.asg 4 (.callF 53 (.cons qc (.cons (.loc 7) .nil)))) (.cons (.asg 8 (.cmp .eq (.idx qq qo) qR)) (.cons (.ifs (.loc 8) (.cons (.asg 7 (.idx qq qH)) (.cons (.asg 8 (.cmp .ne (.idx (.callF 53 (.cons qc (.cons (.loc 7) .nil))) qo) jT)) .nil)) .nil) .nil)))))))) (.cons (.asg 4 (.callF 53 (.cons qc (.cons (.loc 7) .nil)))) (.cons (.ifs (.cmp .ne (.idx qq qo) jT) (.cons (.ret (.tup (.cons jT (.cons (.loc 7) (.cons qm (.cons (.cst (.tup [])) .nil)))))) .nil) .nil) (.cons (.ret (.tup (.cons qp (.cons (.idx qq qH) (.cons qm (.cons (.tup (.cons (.idx (.callF 53 (.cons qc (.cons qi .nil))) qu) (.cons (.idx qt jm) (.cons qL (.cons (.tuple qK) .nil))))) .nil)))))) .nil)))))))))))⟩
noncomputable def vY:Fn:=⟨1,1,[],
 (.cons (.ret (.tup (.cons (.ite (.cmp .eq (.attr qc 5) (.cst (.int 81))) (.attr qc 32) qp) (.cons (.attr qc 1) (.cons (.tuple (.comp 0 (.callF 59 (.cons qc .nil)) (.attr qc 33))) .nil))))) .nil)⟩
noncomputable def Ag:Fn:=⟨1,3,[],
 (.cons (.asg 1 (.idx qc jC)) (.cons (.asg 2 (.comp 0 (.meth qc 21 .nil) (.attr (.attr qi 11) 4))) (.cons (.ifs (.or (.cmp .ne qm (.idx qc xt)) (.or (.cmp .ne (.attr qi 14) (.idx qc zR)) (.cmp .ne (.len (.attr qi 31)) (.len (.idx qc ze))))) (.cons (.ret jb) .nil) .nil) (.cons (.ret (.cmp .eq (.callF 55 (.cons qi (.cons (.attr qi 1) .nil))) (.callF 54 (.cons (.idx qc zd) (.cons (.idx qc jv) .nil))))) .nil))))⟩
noncomputable def vZ:Fn:=⟨2,3,[],
 (.cons (.setIdx qc jv (.idx qi qu)) (.cons (.setIdx qc zR (.idx qi qH)) (.cons (.asg 2 (.idx (.callF 53 (.cons (.idx qc zd) (.cons (.idx qi qu) .nil))) qu)) (.cons (.ifs (.cmp .eq (.idx qi qo) (.cst (.str [107,105,110,100]))) (.cons (.setIdx qc xt (.bin .add (.idx qc xt) (.lst false (.cons (.tup (.cons (.cst (.int 1110)) (.cons qm (.cons (.cst (.tup [])) .nil)))) .nil)))) .nil) (.cons (.ifs (.cmp .ne (.idx qi qo) qp) (.cons (.setIdx qc xt (.bin .add (.idx qc xt) (.lst false (.cons (.tup (.cons (.cst (.int 1005)) (.cons qm (.cons (.tup (.cons (.idx qi qo) .nil)) .nil)))) .nil)))) .nil) .nil) .nil)) .nil))))⟩
noncomputable def Iz:Fn:=⟨2,3,[],
 (.cons (.asg 2 (.callF 53 (.cons (.idx qc zd) (.cons (.idx qc jv) .nil)))) (.cons (.whl (.and (.cmp .ne (.idx qm qo) qp) (.cmp .ne (.idx (.idx qm qo) qo) qi)) (.cons (.expr (.meth (.idx qc jC) 2 .nil)) (.cons (.setIdx qc jv (.idx qm qH)) (.cons (.asg 2 (.callF 53 (.cons (.idx qc zd) (.cons (.idx qc jv) .nil)))) .nil)))) .nil))⟩
noncomputable def kX:Fn:=⟨1,8,[],
 (.cons (.asg 1 (.idx qc jC)) (.cons (.unpack [3,4,5,6] (.callF 53 (.cons (.idx qc zd) (.cons (.idx qc jv) .nil)))) (.cons (.asg 2 (.cmp .eq (.slice false qt (.cst .none) qu) jo)) (.cons (.tryy (.cons (.expr (.callF 26 (.cons qi .nil))) (.cons (.asg 7 (.cst (.bool true))) .nil)) 7 (.bool false)) (.cons (.expr (.callF 61 (.cons qc (.cons (.ite qm (.tup (.cons qp (.cons (.bin .add qq qu) (.cons (.idx qc zR) (.cons (.cst (.tup [])) .nil))))) (.tup (.cons jo (.cons (.idx qc jv) (.cons (.idx qc zR) (.cons (.cst (.tup [])) .nil)))))) .nil)))) (.cons (.ifs (.and qm (.or (.cmp .eq qt jo) (.cmp .ne (.idx (.callF 53 (.cons (.idx qc zd) (.cons (.bin .add qq qu) .nil))) qo) (.cst (.str [61]))))) (.cons (.ifs (.cmp .ne (.idx (.callF 55 (.cons qi (.cons qo .nil))) (.bin .sub (.attr qi 1) qu)) (.tup (.cons qT (.cons jo (.cons qo (.cons qq (.cons (.bin .add qq qu) (.cons qK .nil)))))))) (.cons (.ret jb) .nil) .nil) .nil) .nil) (.cons (.ret (.and (.cmp .eq (.loc 7) qm) (.callF 60 (.cons qc .nil)))) .nil)))))))⟩
noncomputable def kW:Fn:=⟨1,3,[],
 (.cons (.asg 1 (.callF 57 (.cons (.idx qc zd) (.cons (.idx qc jv) (.cons (.idx qc zR) .nil))))) (.cons (.tryy (.cons (.asg 2 (.tuple (.comp 0 (.callF 59 (.cons qc .nil)) (.callF 43 (.cons (.idx qc jC) .nil))))) .nil) 2 .none) (.cons (.expr (.callF 61 (.cons qc (.cons qi .nil)))) (.cons (.ret (.and (.cmp .eq qm (.ite (.cmp .eq (.idx qi qo) qp) (.idx qi jm) (.cst .none))) (.callF 60 (.cons qc .nil)))) .nil))))⟩
noncomputable def Ad:Fn:=⟨1,7,[],
 (.cons (.asg 1 (.callF 58 (.cons (.idx qc zd) (.cons (.idx qc jv) (.cons (.idx qc zR) .nil))))) (.cons (.asg 2 (.callF 27 (.cons (.cst (.int 8)) (.cons (.cst (.str [102])) (.cons (.idx qc jv) .nil))))) (.cons (.asg 3 (.cst (.str [115,116,111,112,112,101,100]))) (.cons (.tryy (.cons (.asg 4 (.meth (.new 8 .nil) 15 (.cons (.idx qc jC) (.cons qm (.cons qS .nil))))) (.cons (.ifs (.isNone qq) (.cons (.asg 3 (.cst .none)) .nil) (.cons (.ifs (.cmp .eq (.lst false (.cons (.attr qq 5) (.cons (.attr qq 32) (.cons (.attr qq 34) (.cons (.attr qq 1) (.cons (.len (.attr qq 33)) (.cons (.attr (.idx (.attr qq 33) qo) 32) .nil))))))) (.lst false (.cons (.cst (.int 18)) (.cons qp (.cons qS (.cons (.idx qc jv) (.cons jm (.cons (.cst (.str [102])) .nil)))))))) (.cons (.asg 5 (.idx (.attr qq 33) qu)) (.cons (.asg 6 (.idx (.attr qq 33) qH)) (.cons (.ifs (.and (.cmp .eq (.attr qL 5) (.cst (.int 71))) (.cmp .eq (.attr qK 5) (.cst (.int 71)))) (.cons (.asg 3 (.tup (.cons (.attr qK 1) (.cons (.idx (.callF 59 (.cons qK .nil)) qH) (.cons (.attr qL 1) (.cons (.idx (.callF 59 (.cons qL .nil)) qH) .nil)))))) .nil) .nil) .nil))) .nil) .nil)) .nil)) 3 (.str [102,97,117,108,116])) (.cons (.expr (.callF 61 (.cons qc (.cons qi .nil)))) (.cons (.ret (.and (.cmp .eq qt (.ite (.cmp .eq (.idx qi qo) qp) (.idx qi jm) (.cst (.str [102,97,117,108,116])))) (.callF 60 (.cons qc .nil)))) .nil))))))⟩
noncomputable def kU:Fn:=⟨1,1,[],
 (.cons (.ret (.tup (.cons (.callF 55 (.cons qc (.cons qo .nil))) (.cons (.attr qc 1) (.cons (.attr qc 14) (.cons (.len (.attr qc 12)) (.cons (.comp 0 (.meth qc 21 .nil) (.attr (.attr qc 11) 4)) (.cons (.attr qc 21) .nil)))))))) .nil)⟩
noncomputable def Ah:Fn:=⟨1,3,[],
 (.cons (.asg 1 (.callF 66 (.cons (.idx qc jC) .nil))) (.cons (.asg 2 (.meth (.idx qc jC) 18 .nil)) (.cons (.append (.idx qc ze) (.tup (.cons (.idx qc jv) (.cons (.idx qc zR) (.cons (.idx qc xt) (.cons qi .nil)))))) (.cons (.ret (.and (.cmp .eq qm (.bin .sub (.len (.idx qc ze)) qu)) (.callF 60 (.cons qc .nil)))) .nil))))⟩
noncomputable def Ak:Fn:=⟨2,3,[],
 (.cons (.expr (.meth (.idx qc jC) 20 (.cons qi .nil))) (.cons (.asg 2 (.idx (.idx qc ze) qi)) (.cons (.setIdx qc jv (.idx qm qo)) (.cons (.setIdx qc zR (.idx qm qu)) (.cons (.setIdx qc xt (.idx qm qH)) (.cons (.setIdx qc ze (.slice true (.idx qc ze) (.cst .none) qi)) (.cons (.ret (.and (.cmp .eq (.callF 66 (.cons (.idx qc jC) .nil)) (.idx qm jm)) (.callF 60 (.cons qc .nil)))) .nil)))))))⟩
noncomputable def Ai:Fn:=⟨2,3,[],
 (.cons (.asg 2 (.callF 66 (.cons (.idx qc jC) .nil))) (.cons (.expr (.meth (.idx qc jC) 19 (.cons qi .nil))) (.cons (.setIdx qc ze (.slice true (.idx qc ze) (.cst .none) qi)) (.cons (.ret (.and (.cmp .eq (.callF 66 (.cons (.idx qc jC) .nil)) qm) (.callF 60 (.cons qc .nil)))) .nil))))⟩
noncomputable def IA:Fn:=⟨2,3,[],
 (.cons (.asg 2 (.len (.idx qc ze))) (.cons (.ifs (.cmp .lt qi qH) (.cons (.expr (.callF 62 (.cons qc (.cons zt .nil)))) (.cons (.ret (.callF 64 (.cons qc .nil))) .nil)) .nil) (.cons (.ifs (.cmp .lt qi qS) (.cons (.expr (.callF 62 (.cons qc (.cons zt .nil)))) (.cons (.ret (.callF 65 (.cons qc .nil))) .nil)) .nil) (.cons (.ifs (.cmp .lt qi (.cst (.int 6))) (.cons (.expr (.callF 62 (.cons qc (.cons jo .nil)))) (.cons (.ret (.callF 63 (.cons qc .nil))) .nil)) .nil) (.cons (.ifs (.or (.cmp .eq qi (.cst (.int 6))) (.and (.cmp .eq qm qo) (.cmp .lt qi (.cst (.int 9))))) (.cons (.ret (.callF 67 (.cons qc .nil))) .nil) .nil) (.cons (.ifs (.cmp .eq qi (.cst (.int 7))) (.cons (.ret (.callF 68 (.cons qc (.cons (.callF 49 (.cons qc (.cons qm .nil))) .nil)))) .nil) .nil) (.cons (.ifs (.cmp .eq qi (.cst (.int 8))) (.cons (.ret (.callF 69 (.cons qc (.cons (.callF 49 (.cons qc (.cons qm .nil))) .nil)))) .nil) .nil) (.cons (.ret (.callF 63 (.cons qc .nil))) .nil))))))))⟩
noncomputable def f_law:Fn:=⟨1,6,[],
 (.cons (.asg 1 (.comp 0 (.bin .mod qc (.cst (.int 9973))) (.slice false qc (.cst .none) (.cst (.int 40))))) (.cons (.ifs (.cmp .eq (.len qi) qo) (.cons (.asg 1 (.lst false (.cons qo (.cons qo (.cons qo (.cons qu (.cons qo (.cons qo (.cons qo (.cons qo (.cons qo (.cons qo (.cons qo (.cons qo (.cons qo (.cons qu (.cons qH (.cons (.cst (.int 6)) (.cons qo .nil))))))))))))))))))) .nil) .nil) (.cons (.asg 2 (.dict [[110,117,109,115],[110,101,120,116],[99],[100,101,101,112],[116,111,108,100],[109,97,114,107,115]] (.cons qi (.cons qo (.cons qo (.cons qo (.cons (.lst false .nil) (.cons (.lst true .nil) .nil)))))))) (.cons (.setIdx qm zd (.callF 52 (.cons qm .nil))) (.cons (.asg 3 (.comp 0 (.new 2 (.cons (.idx qc qo) (.cons (.idx qc qu) (.cons (.idx qc qH) (.cons (.idx qc jm) (.cons (.idx qc qS) (.cons (.idx qc qT) .nil))))))) (.callF 54 (.cons (.idx qm zd) (.cons qo .nil))))) (.cons (.asg 4 (.new 4 (.cons qt (.cons (.new 1 .nil) .nil)))) (.cons (.setIdx (.attr qq 25) qu (.new 6 .nil)) (.cons (.setIdx (.attr qq 25) qH (.new 6 .nil)) (.cons (.setIdx (.attr qq 28) (.cst (.str [35,110,97,109,101])) (.new 7 .nil)) (.cons (.setIdx qm jC qq) (.cons (.ifs (.not (.callF 67 (.cons qm .nil))) (.cons (.ret jb) .nil) .nil) (.cons (.forr 5 (.bin .add qH (.callF 49 (.cons qm (.cons qS .nil)))) (.cons (.ifs (.not (.callF 70 (.cons qm (.cons (.callF 49 (.cons qm (.cons (.cst (.int 10)) .nil))) .nil)))) (.cons (.ret jb) .nil) .nil) .nil)) (.cons (.ifs (.and (.cmp .gt (.len (.idx qm ze)) qo) (.not (.callF 68 (.cons qm (.cons qo .nil))))) (.cons (.ret jb) .nil) .nil) (.cons (.expr (.callF 62 (.cons qm (.cons jo .nil)))) (.cons (.ifs (.or (.not (.callF 67 (.cons qm .nil))) (.or (.not (.callF 63 (.cons qm .nil))) (.not (.callF 68 (.cons qm (.cons qo .nil)))))) (.cons (.ret jb) .nil) .nil) (.cons (.ret (.callF 63 (.cons qm .nil))) .nil))))))))))))))))⟩
noncomputable def fnTab:List Fn:=[An,ua,yi,Am,wv,yN,vy,xS,xR,xT,xo,zX,zY,yM,xn,vB,kZ,xI,vz,vC,vA,kR,Al,yL,kY,kQ,zW,UG,UF,Dp,Dm,xQ,zg,vw,yK,yU,yf,yh,yg,zu,jw,xm,vu,xP,vx,xH,kS,zO,zN,vX,kT,Dn,Ac,Ae,Do,Af,wa,wu,Aj,vY,Ag,vZ,Iz,kX,kW,Ad,kU,Ah,Ak,Ai,IA,f_law]
noncomputable def clsTab:List Cls:=[UT,NE,ND,US,c_Parser,UR,Aw,yO,yP]
noncomputable def methTab:List (Nat×Nat×Nat):=[(0,21,0),(1,4,1),(3,8,2),(4,1,4),(4,10,5),(4,2,6),(4,14,7),(4,11,8),(4,16,9),(4,13,10),(4,9,11),(4,17,12),(4,0,13),(4,3,14),(4,5,15),(4,7,16),(4,12,17),(4,18,18),(4,20,19),(4,19,20),(6,6,31),(7,15,40),(8,15,47)]
noncomputable def ji (c m:Nat):Option Nat:=(methTab.find? fun x=>x.1==c&&x.2.1==m).map (·.2.2)
noncomputable def tabSplit:List (List Nat×List (List Nat)):=[([],[]),([40,32,41],[[40],[41]]),([40,32,98,32,60,32,99,32,62,32,44,32,41],[[40],[98],[60],[99],[62],[44],[41]]),([40,32,99,32,41],[[40],[99],[41]]),([44],[[44]]),([60],[[60]]),([60,32,98,32,44,32,100,32,62],[[60],[98],[44],[100],[62]]),([60,32,99,32,60,32,100,32,62,32,62],[[60],[99],[60],[100],[62],[62]]),([60,32,100],[[60],[100]]),([60,32,100,32,62],[[60],[100],[62]]),([60,32,100,32,62,61],[[60],[100],[62,61]]),([61],[[61]]),([61,61],[[61,61]]),([61,61,61],[[61,61,61]]),([61,62],[[61,62]]),([62],[[62]]),([62,61],[[62,61]]),([97,98,99,100],[[97,98,99,100]])]
noncomputable def prog:P:=⟨fun f=>fnTab[f]?,fun c=>clsTab[c]?,ji,fun s=>tabSplit.lookup s⟩
theorem ja0:ji 0 21=some 0:=rfl
theorem zF0:ji 1 4=some 1:=rfl
theorem zE0:ji 3 8=some 2:=rfl
theorem zC0:ji 4 1=some 4:=rfl
theorem qZ0:ji 4 10=some 5:=rfl
theorem zB0:ji 4 2=some 6:=rfl
theorem qV0:ji 4 14=some 7:=rfl
theorem qY0:ji 4 11=some 8:=rfl
theorem qU0:ji 4 16=some 9:=rfl
theorem qW0:ji 4 13=some 10:=rfl
theorem zx0:ji 4 9=some 11:=rfl
theorem qT0:ji 4 17=some 12:=rfl
theorem zD0:ji 4 0=some 13:=rfl
theorem zA0:ji 4 3=some 14:=rfl
theorem zz0:ji 4 5=some 15:=rfl
theorem zy0:ji 4 7=some 16:=rfl
theorem qX0:ji 4 12=some 17:=rfl
theorem qS0:ji 4 18=some 18:=rfl
theorem qQ0:ji 4 20=some 19:=rfl
theorem qR0:ji 4 19=some 20:=rfl
theorem zw0:ji 6 6=some 31:=rfl
theorem qP0:ji 7 15=some 40:=rfl
theorem qO0:ji 8 15=some 47:=rfl
noncomputable def attrNames:List String:=["number", "at", "args", "file", "rows", "kind", "text", "num", "end", "line_before", "told", "diags", "splits", "covers", "deep", "pending", "allow_in", "in_func", "in_loop", "in_switch", "labels", "no_cond", "ret_bar", "in_literal", "tokens", "parts", "firsts", "tails", "types", "commas", "not_arrow", "saved", "a", "kids", "flags", "nid"]
noncomputable def methNames:List String:=["fault", "now", "step", "fault_at", "put", "down", "parse", "up", "put_back", "need_sign", "ahead", "is_word", "part", "eat_sign", "is_sign", "take", "is_name", "need_name", "mark", "keep", "back", "row"]
noncomputable def slotNames:List (List String):=[["self"],
 ["self", "number", "at", "args"],
 ["self", "p", "place", "token"],
 ["rows", "count"],
 ["self"],
 ["self", "n", "place"],
 ["self", "token"],
 ["self", "text"],
 ["self", "text"],
 ["self", "text"],
 ["self", "text"],
 ["self", "text"],
 ["self"],
 ["self", "number", "args"],
 ["self", "number", "at", "args"],
 ["self"],
 ["self"],
 ["self", "n", "node"],
 ["self"],
 ["self", "number"],
 ["self", "number"],
 ["p", "number", "mark"],
 ["token", "kind", "text"],
 ["p", "root", "stack", "kid", "node", "level"],
 ["p", "kind", "text"],
 ["token"],
 ["p", "token", "behind", "joined"],
 ["kind", "a", "at"],
 ["kind", "a", "kids", "at"],
 ["kind", "a", "kids", "flags", "at"],
 ["nodes", "at"],
 ["self", "p"],
 ["p", "node"],
 ["p"],
 ["p", "check"],
 ["p", "no_cond", "saved", "node"],
 ["p", "node", "parts"],
 ["p", "node", "parts"],
 ["p", "token"],
 ["p", "saved", "key", "node", "links", "index"],
 ["self", "p", "left", "token", "name", "args"],
 ["p", "behind"],
 ["p", "at", "name", "links"],
 ["p", "args"],
 ["token"],
 ["p", "at", "allow_in", "rows"],
 ["p", "at"],
 ["self", "p", "left", "flags", "targs", "args"],
 ["p", "at", "spot", "rows", "tagged", "fine"],
 ["w", "n", "at", "size"],
 ["one", "two"],
 ["w", "out", "group", "place", "inside"],
 ["w", "out", "last", "sign", "gap"],
 ["src", "c", "at", "text", "sign"],
 ["src", "c", "out", "text", "sort", "at", "line"],
 ["p", "start"],
 ["src", "c", "deep", "beyond", "got", "name", "at", "end", "line"],
 ["src", "c", "deep", "sign", "out", "more", "got"],
 ["src", "c", "deep", "head", "sign", "opens", "out", "end", "more", "got"],
 ["node"],
 ["w", "p", "told"],
 ["w", "got", "at"],
 ["w", "letter", "sign"],
 ["w", "p", "fine", "text", "at", "end", "line", "said"],
 ["w", "got", "said"],
 ["w", "got", "left", "said", "node", "args", "kinds"],
 ["p"],
 ["w", "stand", "number"],
 ["w", "number", "held"],
 ["w", "number", "stand"],
 ["w", "pick", "many"],
 ["script", "nums", "w", "tokens", "p", "go"]]
open PySem PySem.W PySem.Calls PyProof.Rows PySem.Spec
structure TT where
 ca:Nat→uP0
 fld:Nat→List Str
 kh:Str→Int
 stop:uP0
 fa:Nat→uP0
 sl:Nat→List Str
noncomputable def toS (s:List Nat):Str:=⟨s.toArray⟩
mutual
inductive VRel (T:TT) (φ:List uP0) (bad:uP0→Prop) (h:Heap):V→Value→Prop
 | none:VRel T φ bad h .none .none
 | bool (b:Bool):VRel T φ bad h (.bool b) (.bool b)
 | int (i:Int) (t:Tok):VRel T φ bad h (.int i) (.int i t)
 | str (s:List Nat) (t:Tok):VRel T φ bad h (.str s) (.str (toS s) t)
 | tup {a:uP0} {vs:List V} {its:Array Value}:IsTup h a its→¬ bad a→VsRel T φ bad h vs its.toList→VRel T φ bad h (.tup vs) (.ref a)
 | lst {a:uP0} {vs:List V} {its:Array Value}:h.IsList a its→¬ bad a→VsRel T φ bad h vs its.toList→VRel T φ bad h (.lst vs) (.ref a)
 | obj {c:Nat} {fs:List V} {x dx:uP0} {es:List DictEntry} {n:Nat}:h.get? x=some (instObj (T.ca c) dx)→h.get? dx=some (dictOf es n)→¬ bad x→¬ bad dx→EsRel T φ bad h (T.fld c) fs es→VRel T φ bad h (.obj c fs) (.ref x)
 | ref {n:Nat} {a:uP0}:φ[n]?=some a→VRel T φ bad h (.ref n) (.ref a)
inductive VsRel (T:TT) (φ:List uP0) (bad:uP0→Prop) (h:Heap):List V→List Value→Prop
 | nil:VsRel T φ bad h [] []
 | cons {v:V} {vs:List V} {p:Value} {ps:List Value}:VRel T φ bad h v p→VsRel T φ bad h vs ps→VsRel T φ bad h (v::vs) (p::ps)
inductive EsRel (T:TT) (φ:List uP0) (bad:uP0→Prop) (h:Heap):List Str→List V→List DictEntry→Prop
 | nil:EsRel T φ bad h [] [] []
 | cons {x:Str} {t:Tok} {hs:Int} {v:V} {p:Value} {xs:List Str} {vs:List V} {es:List DictEntry}:VRel T φ bad h v p→EsRel T φ bad h xs vs es→EsRel T φ bad h (x::xs) (v::vs) (⟨hs,.str x t,p⟩::es)
end
section
variable {T:TT} {φ φ':List uP0} {bad bad':uP0→Prop} {h h':Heap}
noncomputable def noF (o:Obj):Prop:=∀ vs,o.data≠.fields vs
structure Mono (φ φ':List uP0) (bad bad':uP0→Prop) (h h':Heap):Prop where
 pre:φ <+: φ'
 keep:∀ a o,h.get? a=some o→¬ bad a→noF o→h'.get? a=some o
 good:∀ a o,h.get? a=some o→¬ bad a→¬ bad' a
theorem IW {α:Type} {a b:List α} (p:a <+: b) {n:Nat} {x:α} (e:a[n]?=some x):b[n]?=some x:=by
 refine x1a1 p fun c uQ0=>?_; subst uQ0
 rw [vD0 (vv0.mp e).1]; exact e
theorem zs0 {M:V→Value→Prop} {N:List V→List Value→Prop} {O:List Str→List V→List DictEntry→Prop} (a0:M .none .none) (a1:∀ b,M (.bool b) (.bool b)) (a2:∀ i t,M (.int i) (.int i t)) (a3:∀ s t,M (.str s) (.str (toS s) t))
  (a4:∀ a vs its,IsTup h a its→¬ bad a→N vs its.toList→M (.tup vs) (.ref a)) (a5:∀ a vs its,h.IsList a its→¬ bad a→N vs its.toList→M (.lst vs) (.ref a))
  (a6:∀ c fs x dx es n,h.get? x=some (instObj (T.ca c) dx)→h.get? dx=some (dictOf es n)→¬ bad x→¬ bad dx→O (T.fld c) fs es→M (.obj c fs) (.ref x)) (a7:∀ n a,φ[n]?=some a→M (.ref n) (.ref a))
  (b0:N [] []) (b1:∀ v vs p ps,M v p→N vs ps→N (v::vs) (p::ps)) (c0:O [] [] []) (c1:∀ x t hs v p xs vs es,M v p→O xs vs es→O (x::xs) (v::vs) (⟨hs,.str x t,p⟩::es)) :
  (∀ {v p},VRel T φ bad h v p→M v p)∧(∀ {vs ps},VsRel T φ bad h vs ps→N vs ps)∧∀ {xs vs es},EsRel T φ bad h xs vs es→O xs vs es :=
 ⟨fun r=>r.rec (motive_1:=fun v p _=>M v p) (motive_2:=fun v p _=>N v p) (motive_3:=fun x v p _=>O x v p) a0 a1 a2 a3 (fun i b _ k=>a4 _ _ _ i b k) (fun i b _ k=>a5 _ _ _ i b k) (fun i j b c _ k=>a6 _ _ _ _ _ _ i j b c k) (fun e=>a7 _ _ e) b0 (fun _ _ x y=>b1 _ _ _ _ x y) c0 (fun _ _ x y=>c1 _ _ _ _ _ _ _ _ x y),
  fun r=>r.rec (motive_1:=fun v p _=>M v p) (motive_2:=fun v p _=>N v p) (motive_3:=fun x v p _=>O x v p) a0 a1 a2 a3 (fun i b _ k=>a4 _ _ _ i b k) (fun i b _ k=>a5 _ _ _ i b k) (fun i j b c _ k=>a6 _ _ _ _ _ _ i j b c k) (fun e=>a7 _ _ e) b0 (fun _ _ x y=>b1 _ _ _ _ x y) c0 (fun _ _ x y=>c1 _ _ _ _ _ _ _ _ x y),
  fun r=>r.rec (motive_1:=fun v p _=>M v p) (motive_2:=fun v p _=>N v p) (motive_3:=fun x v p _=>O x v p) a0 a1 a2 a3 (fun i b _ k=>a4 _ _ _ i b k) (fun i b _ k=>a5 _ _ _ i b k) (fun i j b c _ k=>a6 _ _ _ _ _ _ i j b c k) (fun e=>a7 _ _ e) b0 (fun _ _ x y=>b1 _ _ _ _ x y) c0 (fun _ _ x y=>c1 _ _ _ _ _ _ _ _ x y)⟩
theorem IN {N:List V→List Value→Prop} (b0:N [] []) (b1:∀ {v vs p ps},VRel T φ bad h v p→VsRel T φ bad h vs ps→N vs ps→N (v::vs) (p::ps)) {vs:List V} {ps:List Value} (r:VsRel T φ bad h vs ps):N vs ps :=
 r.rec (motive_1:=fun _ _ _=>True) (motive_2:=fun v p _=>N v p) (motive_3:=fun _ _ _ _=>True) trivial (fun _=>trivial) (fun _ _=>trivial) (fun _ _=>trivial) (fun _ _ _ _=>trivial) (fun _ _ _ _=>trivial) (fun _ _ _ _ _ _=>trivial) (fun _=>trivial) b0 (fun a b _ k=>b1 a b k) trivial (fun _ _ _ _=>trivial)
theorem qg0 {O:List Str→List V→List DictEntry→Prop} (c0:O [] [] []) (c1:∀ {x t hs v p xs vs es},VRel T φ bad h v p→EsRel T φ bad h xs vs es→O xs vs es→O (x::xs) (v::vs) (⟨hs,.str x t,p⟩::es)) {xs:List Str} {vs:List V} {es:List DictEntry} (r:EsRel T φ bad h xs vs es):O xs vs es :=
 r.rec (motive_1:=fun _ _ _=>True) (motive_2:=fun _ _ _=>True) (motive_3:=fun x v p _=>O x v p) trivial (fun _=>trivial) (fun _ _=>trivial) (fun _ _=>trivial) (fun _ _ _ _=>trivial) (fun _ _ _ _=>trivial) (fun _ _ _ _ _ _=>trivial) (fun _=>trivial) trivial (fun _ _ _ _=>trivial) c0 (fun a b _ k=>c1 a b k)
theorem zL0 {o:Obj} {d:Data} (hd:o.data=d) (n:∀ vs:Array Value,d≠.fields vs):noF o:=fun vs q=>n vs (hd.symm.trans q)
theorem AX (M:Mono φ φ' bad bad' h h'):(∀ {v p},VRel T φ bad h v p→VRel T φ' bad' h' v p)∧(∀ {vs ps},VsRel T φ bad h vs ps→VsRel T φ' bad' h' vs ps)∧∀ {xs vs es},EsRel T φ bad h xs vs es→EsRel T φ' bad' h' xs vs es :=
 zs0 .none .bool .int .str (fun _ _ _ i b k=>x1a1 i fun o i=>zz i fun ho i=>zz i fun hc i=>x1a1 i fun n hd=>.tup ⟨o,M.keep _ _ ho b (zL0 hd fun _ q=>qO PySem.Data.ctorIdx q rfl),hc,n,hd⟩ (M.good _ _ ho b) k)
  (fun _ _ _ i b k=>x1a1 i fun o i=>zz i fun ho i=>zz i fun hc i=>x1a1 i fun n hd=>.lst ⟨o,M.keep _ _ ho b (zL0 hd fun _ q=>qO PySem.Data.ctorIdx q rfl),hc,n,hd⟩ (M.good _ _ ho b) k)
  (fun _ _ _ _ _ _ i j b c k=>.obj (M.keep _ _ i b fun _ q=>qO PySem.Data.ctorIdx q rfl) (M.keep _ _ j c fun _ q=>qO PySem.Data.ctorIdx q rfl) (M.good _ _ i b) (M.good _ _ j c) k) (fun _ _ e=>.ref (IW M.pre e)) .nil (fun _ _ _ _ a b=>.cons a b) .nil fun _ _ _ _ _ _ _ _ a b=>.cons a b
theorem VRel.mono (M:Mono φ φ' bad bad' h h') {v:V} {p:Value} (r:VRel T φ bad h v p):VRel T φ' bad' h' v p:=(AX M).1 r
theorem VsRel.mono (M:Mono φ φ' bad bad' h h') {v:List V} {p:List Value} (r:VsRel T φ bad h v p):VsRel T φ' bad' h' v p:=(AX M).2.1 r
theorem EsRel.mono (M:Mono φ φ' bad bad' h h') {x:List Str} {v:List V} {p:List DictEntry} (r:EsRel T φ bad h x v p):EsRel T φ' bad' h' x v p:=(AX M).2.2 r
theorem VsRel.length {vs:List V} {ps:List Value} (r:VsRel T φ bad h vs ps):vs.length=ps.length:=IN (N:=fun vs ps=>vs.length=ps.length) rfl (fun _ _ k=>congrArg vn0 k) r
theorem VsRel.append {vs ws:List V} {ps qs:List Value} (r:VsRel T φ bad h vs ps) (k:VsRel T φ bad h ws qs):VsRel T φ bad h (vs++ws) (ps++qs) :=
 IN (N:=fun vs ps=>VsRel T φ bad h (vs++ws) (ps++qs)) k (fun a _ k=>.cons a k) r
theorem VsRel.get {vs:List V} {ps:List Value} {i:Nat} {v:V} (r:VsRel T φ bad h vs ps) (e:vs[i]?=some v):∃ p,ps[i]?=some p∧VRel T φ bad h v p :=
 IN (N:=fun vs ps=>∀ i v,vs[i]?=some v→∃ p,ps[i]?=some p∧VRel T φ bad h v p) (fun _ _ e=>nsO e) (fun a _ k i v e=>by cases i with | zero=>cases e; exact (c1a2 _ rfl a) | succ i=>exact k i v e) r i v e
theorem VsRel.take {vs:List V} {ps:List Value} (n:Nat) (r:VsRel T φ bad h vs ps):VsRel T φ bad h (vs.take n) (ps.take n) :=
 IN (N:=fun vs ps=>∀ n:Nat,VsRel T φ bad h (vs.take n) (ps.take n)) (fun n=>by cases n <;> exact .nil) (fun a _ k n=>by cases n with | zero=>exact .nil | succ n=>exact .cons a (k n)) r n
theorem VsRel.drop {vs:List V} {ps:List Value} (n:Nat) (r:VsRel T φ bad h vs ps):VsRel T φ bad h (vs.drop n) (ps.drop n) :=
 IN (N:=fun vs ps=>∀ n:Nat,VsRel T φ bad h (vs.drop n) (ps.drop n)) (fun n=>by cases n <;> exact .nil) (fun a r k n=>by cases n with | zero=>exact .cons a r | succ n=>exact k n) r n
theorem VsRel.set {vs:List V} {ps:List Value} (n:Nat) {v:V} {p:Value} (r:VsRel T φ bad h vs ps) (q:VRel T φ bad h v p):VsRel T φ bad h (vs.set n v) (ps.set n p) :=
 IN (N:=fun vs ps=>∀ n:Nat,VsRel T φ bad h (vs.set n v) (ps.set n p)) (fun _=>.nil) (fun a r k n=>by cases n with | zero=>exact .cons q r | succ n=>exact .cons a (k n)) r n
theorem EsRel.lengths {xs:List Str} {vs:List V} {es:List DictEntry} (r:EsRel T φ bad h xs vs es):xs.length=vs.length∧es.length=vs.length :=
 qg0 (O:=fun xs vs es=>xs.length=vs.length∧es.length=vs.length) ⟨rfl,rfl⟩ (fun _ _ k=>⟨congrArg vn0 k.1,congrArg vn0 k.2⟩) r
theorem xj (x y:Str) (t:Tok):(Value.str x t).isStr y=(x==y):=rfl
theorem EsRel.noRef {xs:List Str} {vs:List V} {es:List DictEntry} (r:EsRel T φ bad h xs vs es):es.any (·.refKey)=false :=
 qg0 (O:=fun _ _ es=>es.any (·.refKey)=false) rfl (fun _ _ k=>k) r
theorem EsRel.find:∀ {xs:List Str} {vs:List V} {es:List DictEntry} {i:Nat} {x:Str} {v:V},EsRel T φ bad h xs vs es→xs.idxOf? x=some i→vs[i]?=some v →
  ∃ p,getL x es=some (some p)∧VRel T φ bad h v p:=by
 intro xs
 induction xs with
 | nil=>intro vs es i x v r e; simp at e
 | cons y ys ih =>
  intro vs es i x v r e ev
  cases r with
  | @cons _ t hs w p _ ws es a r =>
   rw [wy0] at e
   by_cases hy:(y==x)=true
   ·rw [if_pos hy] at e
    cases e
    cases ev
    exact (c1a2 p (by unfold getL; rw [wV0,xj,hy]) a)
   ·rw [if_neg hy] at e
    refine x1a2 (kS0.mp e) fun j hj uQ0=>?_; subst uQ0
    refine x1a2 (ih r hj (by simpa using ev)) fun q hq hr=>?_
    refine (c1a2 q ?_ hr)
    unfold getL at hq ⊢
    rw [wV0,xj,Bool.eq_false_iff.mpr hy]
    have hn:=EsRel.noRef r
    have hn':(List.any (⟨hs,Value.str y t,p⟩::es:List DictEntry) (·.refKey))=false:=by rw [wm0,hn]; rfl
    dsimp only at hq ⊢
    rw [hn']
    rw [hn] at hq
    exact hq
theorem EsRel.miss {xs:List Str} {vs:List V} {es:List DictEntry} {x:Str} (r:EsRel T φ bad h xs vs es) (hx:xs.contains x=false):getL x es=some none:=by
 have:∀ {xs:List Str} {vs:List V} {es:List DictEntry},EsRel T φ bad h xs vs es→xs.contains x=false→es.find? (·.key.isStr x)=none:=by
  intro xs
  induction xs with
  | nil=>intro vs es r _; cases r; rfl
  | cons y ys ih =>
   intro vs es r hc
   cases r with
   | cons a r =>
    rw [wb0,ul0] at hc
    rw [wV0,xj,show (y==x)=false from by rw [uo0]; exact hc.1]
    exact ih r hc.2
 unfold getL
 rw [this r hx,EsRel.noRef r]
 rfl
theorem EsRel.put:∀ {xs:List Str} {vs:List V} {es:List DictEntry} {i:Nat} {x:Str} {v:V} {p:Value} {hs:Int} {k:Value},EsRel T φ bad h xs vs es→xs.idxOf? x=some i→VRel T φ bad h v p →
  EsRel T φ bad h xs (vs.set i v) (putL x hs k p es):=by
 intro xs
 induction xs with
 | nil=>intro vs es i x v p hs k r e; simp at e
 | cons y ys ih =>
  intro vs es i x v p hs k r e ev
  cases r with
  | cons a r =>
   rw [wy0] at e
   by_cases hy:(y==x)=true
   ·rw [if_pos hy] at e
    cases e
    unfold putL
    rw [xj,if_pos hy]
    exact .cons ev r
   ·rw [if_neg hy] at e
    refine x1a2 (kS0.mp e) fun j hj uQ0=>?_; subst uQ0
    unfold putL
    rw [xj,if_neg hy]
    exact .cons a (ih r hj ev)
end
structure G where
 φ:List uP0
 μ:List uP0
 own:List uP0
structure Cx where
 A:Around
 env:Env
 envs:List Env
 hid:uP0→Prop
noncomputable def Cx.fr (C:Cx):List uP0:=C.envs.filterMap (·.frame)
noncomputable def may (C:Cx) (g:G) (b:uP0):Prop:=b∈g.μ∨b∈g.own∨b=C.env.locals∨b∈C.fr
noncomputable def bad (C:Cx) (g:G) (b:uP0):Prop:=may C g b∨C.hid b
noncomputable def qx0 (es:List (V×V)):Prop:=∀ e∈es,∃ s,e.1=.str s
noncomputable def qy0 (es:List (V×V)):Prop:=∀ e∈es,∃ s,e.1=.int s
section
variable (prog:Program) (w:World) (T:TT)
inductive KS (φ:List uP0) (bd:uP0→Prop) (h:Heap):List (V×V)→List (Str×Value)→Prop
 | nil:KS φ bd h [] []
 | cons {s:List Nat} {v:V} {p:Value} {es:List (V×V)} {ks:List (Str×Value)}:VRel T φ bd h v p→KS φ bd h es ks→KS φ bd h ((.str s,v)::es) ((toS s,p)::ks)
inductive KI (φ:List uP0) (bd:uP0→Prop) (h:Heap):List (V×V)→List (Int×Value)→Prop
 | nil:KI φ bd h [] []
 | cons {s:Int} {v:V} {p:Value} {es:List (V×V)} {ks:List (Int×Value)}:VRel T φ bd h v p→KI φ bd h es ks→KI φ bd h ((.int s,v)::es) ((s,p)::ks)
inductive ORel (φ:List uP0) (bd:uP0→Prop) (h:Heap):O→uP0→uP0→Prop
 | list {vs:List V} {x:uP0} {its:Array Value}:h.PlainList x its→VsRel T φ bd h vs its.toList→vs.length≤qD→ORel φ bd h (.list vs) x x
 | dict {es:List (V×V)} {x:uP0}:(qx0 es→∃ ks,h.DictOf (PySem.strKind prog w) x ks∧KS T φ bd h es ks)→(qy0 es→∃ ks,h.DictOf (PySem.intKind prog w) x ks∧KI T φ bd h es ks)→es.length≤qD→(∃ q,h.get? x=some q∧noF q)→ORel φ bd h (.dict es) x x
 | inst {c:Nat} {fs:List V} {x d:uP0} {es:List DictEntry} {n:Nat}:h.get? x=some (instObj (T.ca c) d)→¬ bd x→h.get? d=some (dictOf es n)→EsRel T φ bd h (T.fld c) fs es→ORel φ bd h (.inst c fs) x d
structure Inv (b₀:Heap) (C:Cx) (g:G) (σ:H) (h:Heap):Prop where
 lφ:g.φ.length=σ.length
 lμ:g.μ.length=σ.length
 nodup:(g.μ++g.own).Nodup
 sep:∀ b,b∈g.μ∨b∈g.own→b≠C.env.locals∧b∉C.fr∧¬ C.hid b
 fresh:∀ b,bad C g b→b₀.get? b=none
 stay:b₀.StaysIn h
 frames:h.FunFrames b₀ C.envs
 objs:∀ (i:Nat) (o:O),σ[i]?=some o→∃ x d,g.φ[i]?=some x∧g.μ[i]?=some d∧ORel prog w T g.φ (bad C g) h o x d
 hidden:∀ b,C.hid b→∃ o,h.get? b=some o∧noF o
 ownT:∀ b,b∈g.own→∃ o,h.get? b=some o∧noF o
structure Loc (C:Cx) (g:G) (names:List Str) (ρ:List (Option LV)) (m:Str→Option Value) (h:Heap):Prop where
 ns:h.Ns C.env.locals m
 val:∀ (i:Nat) (x:Str) (v:V),names[i]?=some x→ρ[i]?=some (some (.val v))→∃ p,m x=some p∧VRel T g.φ (bad C g) h v p
 own:∀ (i:Nat) (x:Str) (vs:List V),names[i]?=some x→ρ[i]?=some (some (.own vs))→∃ a its,m x=some (.ref a)∧g.own=[a]∧h.PlainList a its∧VsRel T g.φ (bad C g) h vs its.toList∧vs.length≤qD
 one:∀ (i j:Nat) (vs ws:List V),ρ[i]?=some (some (.own vs))→ρ[j]?=some (some (.own ws))→i=j
 len:ρ.length=names.length
end
structure Step (C:Cx) (g:G) (h:Heap) (g':G) (h':Heap):Prop where
 φ:g.φ <+: g'.φ
 μ:g.μ <+: g'.μ
 newμ:∀ b∈g'.μ,b∈g.μ∨h.get? b=none
 newOwn:∀ b∈g'.own,b∈g.own∨h.get? b=none
 keep:∀ b o,h.get? b=some o→¬ may C g b→h'.get? b=some o
 slots:∀ b∈C.fr,b≠C.env.locals→∀ o,h.get? b=some o→∃ sl,h'.get? b=some {o with slots:=sl}
 there:∀ b o,h.get? b=some o→∃ o',h'.get? b=some o'∧(noF o→noF o')
section
variable {C:Cx} {g g₁ g₂:G} {h h₁ h₂:Heap}
theorem Step.refl (C:Cx) (g:G) (h:Heap):Step C g h g h :=
 ⟨vw0,vw0,fun _ m=>.inl m,fun _ m=>.inl m,fun _ _ e _=>e,fun _ _ _ o e=>⟨o.slots,e⟩,fun _ o e=>(c1a2 o e id)⟩
theorem Step.may_of (s:Step C g h g₁ h₁) {b:uP0} {o:Obj} (e:h.get? b=some o) (n:¬ may C g b):¬ may C g₁ b:=by
 intro m
 rcases m with m | m | m | m
 ·rcases s.newμ b m with q | q
  ·exact n (.inl q)
  ·rw [e] at q; exact snO q
 ·rcases s.newOwn b m with q | q
  ·exact n (.inr (.inl q))
  ·rw [e] at q; exact snO q
 ·exact n (.inr (.inr (.inl m)))
 ·exact n (.inr (.inr (.inr m)))
theorem Step.trans (s:Step C g h g₁ h₁) (t:Step C g₁ h₁ g₂ h₂):Step C g h g₂ h₂ where
 φ:=s.φ.trans t.φ
 μ:=s.μ.trans t.μ
 newμ:=fun b m=>by
  rcases t.newμ b m with q | q
  ·exact s.newμ b q
  ·right
   cases e:h.get? b with
   | none=>rfl
   | some o=>refine x1a2 (s.there b o e) fun o' e' _=>?_; rw [e'] at q; exact snO q
 newOwn:=fun b m=>by
  rcases t.newOwn b m with q | q
  ·exact s.newOwn b q
  ·right
   cases e:h.get? b with
   | none=>rfl
   | some o=>refine x1a2 (s.there b o e) fun o' e' _=>?_; rw [e'] at q; exact snO q
 keep:=fun b o e n=>t.keep b o (s.keep b o e n) (s.may_of e n)
 slots:=fun b m n o e=>by
  refine x1a1 (s.slots b m n o e) fun sl e₁=>?_
  refine x1a1 (t.slots b m n _ e₁) fun sl' e₂=>?_
  exact ⟨sl',e₂⟩
 there:=fun b o e=>let ⟨o₁,e₁,k₁⟩:=s.there b o e; let ⟨o₂,e₂,k₂⟩:=t.there b o₁ e₁; ⟨o₂,e₂,fun n=>k₂ (k₁ n)⟩
theorem Step.mono (s:Step C g h g₁ h₁):Mono g.φ g₁.φ (bad C g) (bad C g₁) h h₁ where
 pre:=s.φ
 keep:=fun a o e n _=>s.keep a o e fun q=>n (.inl q)
 good:=fun a o e n q=>by
  rcases q with q | q
  ·exact s.may_of e (fun z=>n (.inl z)) q
  ·exact n (.inr q)
end
noncomputable def yE (C:Cx) (g:G):List uP0:=g.μ++g.own++C.env.locals::C.fr
theorem mem_hideL {C:Cx} {g:G} {b:uP0}:b∈yE C g↔may C g b:=by
 unfold yE may
 simp only [vH0,vI0,or_assoc]
noncomputable def UW (base:Heap) (l:List Env) (e:uP0) (cls a0 fl:Value) (h:Heap):Prop:=base.StaysIn h∧base.get? e=none∧h.FunFrames base l∧h.TracedAtW base e cls a0 fl
noncomputable def zm0 (e:uP0) (cls a0:Value) (h:Heap):Prop:=∃ oe vs,h.get? e=some oe∧(oe.cls=cls∧vs[0]?=some a0)∧oe.data=.fields vs∧vs[1]?=some .none
noncomputable def FlyAt (base:Heap) (l:List Env) (e:uP0) (cls a0 fl:Value) (h:Heap):Prop:=UW base l e cls a0 fl h∨(fl=.none∧base.StaysIn h∧base.get? e=none∧h.FunFrames base l∧zm0 e cls a0 h)
theorem FlyAt.stays {base:Heap} {l:List Env} {e:uP0} {cls a0 fl:Value} {h:Heap} (f:FlyAt base l e cls a0 fl h):base.StaysIn h:=f.elim (·.1) (·.2.1)
theorem Dk {base base':Heap} {l:List Env} {e:uP0} {cls a0 fl:Value} {h:Heap} (k:base.StaysIn base') (f:UW base' l e cls a0 fl h):UW base l e cls a0 fl h:=by
 refine JL f fun f1 f2 f3 uQ0=>?_; obtain ⟨oe,vs,t,ot,ts,he,hc,hd,h1,hnt,r⟩:=uQ0
 exact ⟨fun b o q=>f1 b o (k b o q),fresh_of_stays k f2,funFrames_base k f3,oe,vs,t,ot,ts,he,hc,hd,h1,fresh_of_stays k hnt,r⟩
theorem Ab {base base':Heap} {l:List Env} {e:uP0} {cls a0 fl:Value} {h:Heap} (k:base.StaysIn base') (f:FlyAt base' l e cls a0 fl h):FlyAt base l e cls a0 fl h:=by
 rcases f with f | ⟨q,f1,f2,f3,r⟩
 ·exact .inl (Dk k f)
 ·exact .inr (qJ0 q (fun b o q=>f1 b o (k b o q)) (fresh_of_stays k f2) (funFrames_base k f3) r)
noncomputable def Fly (T:TT) (C:Cx) (g:G) (h:Heap) (e:uP0) (h':Heap):Prop:=∃ a0 fl,(fl=.none∨∃ L,C.env.frame=some L∧fl=rawInt L)∧FlyAt (hideAll h (yE C g)) C.envs e (.ref T.stop) a0 fl h'
theorem Jr {C:Cx} {g g₁:G} {h h₁:Heap} (s:Step C g h g₁ h₁):(hideAll h (yE C g)).StaysIn (hideAll h₁ (yE C g₁)):=by
 intro b o e
 have e':=of_hideAll _ e
 have n:¬ may C g b:=fun q=>by rw [hideAll_none _ (mem_hideL.mpr q)] at e; exact nsO e
 exact hideAll_get _ (s.keep b o e' n) fun q=>s.may_of e' n (mem_hideL.mp q)
theorem Fly.back {T:TT} {C:Cx} {g g₁:G} {h h₁ h₂:Heap} {e:uP0} (s:Step C g h g₁ h₁) (f:Fly T C g₁ h₁ e h₂):Fly T C g h e h₂ :=
 let ⟨a0,fl,q,f⟩:=f; ⟨a0,fl,q,Ab (Jr s) f⟩
section
variable (prog:Program) (w:World) (T:TT) (b₀:Heap)
structure Post (C:Cx) (names:List Str) (m:Str→Option Value) (g:G) (h:Heap) (st:St) (g':G) (h':Heap):Prop where
 inv:Inv prog w T b₀ C g' st.σ h'
 loc:Loc T C g' names st.ρ m h'
 step:Step C g h g' h'
noncomputable def Den {α β:Type} (Rv:(Heap→G→α→β→Prop)) (C:Cx) (names:List Str) (m:Str→Option Value) (g:G) (s:Shared) (t:Sem β) (r:R α):Prop :=
 ∀ (Q:β→Shared→Prop) (E:Value→Shared→Prop),
  (∀ a st,r=.ok a st→∀ g' h' tk p,Post prog w T b₀ C names m g s.heap st g' h'→Rv h' g' a p→Q p {s with heap:=h',toks:=tk}) →
  (∀ st,r=.exc st→∀ g' h' tk e,Post prog w T b₀ C names m g s.heap st g' h'→Fly T C g s.heap e h'→E (.ref e) {s with heap:=h',toks:=tk}) →
  (r=.bad→False)→wpAny (model prog w) C.A t Q E s
noncomputable def RvV (C:Cx):Heap→G→V→Value→Prop:=fun h g v p=>VRel T g.φ (bad C g) h v p
noncomputable def yb0 (C:Cx):Heap→G→List V→List Value→Prop:=fun h g v p=>VsRel T g.φ (bad C g) h v p
noncomputable def RvB:Heap→G→Bool→Bool→Prop:=fun _ _ a b=>a=b
end
section
variable {prog:Program} {w:World} {T:TT} {b₀:Heap} {C:Cx} {names:List Str} {m:Str→Option Value} {g:G} {s:Shared}
variable {α β α' β':Type} {Rv:Heap→G→α→β→Prop} {Rv':Heap→G→α'→β'→Prop}
theorem Post.trans {h:Heap} {st st':St} {g₁ g₂:G} {h₁ h₂:Heap} (p:Post prog w T b₀ C names m g h st g₁ h₁) (q:Post prog w T b₀ C names m g₁ h₁ st' g₂ h₂):Post prog w T b₀ C names m g h st' g₂ h₂ :=
 ⟨q.inv,q.loc,p.step.trans q.step⟩
theorem Post.here {h:Heap} {st:St} (i:Inv prog w T b₀ C g st.σ h) (l:Loc T C g names st.ρ m h):Post prog w T b₀ C names m g h st g h:=⟨i,l,Step.refl ..⟩
theorem Den.bad {t:Sem β}:Den prog w T b₀ Rv C names m g s t .bad:=fun _ _ _ _ h=>(h rfl).elim
theorem Den.bind {t:Sem β} {k:β→Sem β'} {r:R α} {f:α→St→R α'} (d:Den prog w T b₀ Rv C names m g s t r)
  (n:∀ a st,r=.ok a st→∀ g' h' tk p,Post prog w T b₀ C names m g s.heap st g' h'→Rv h' g' a p→Den prog w T b₀ Rv' C names m g' {s with heap:=h',toks:=tk} (k p) (f a st)) :
  Den prog w T b₀ Rv' C names m g s (t >>= k) (r.bind f):=by
 intro Q E hq he hb
 refine uF0 (d _ _ (fun a st e g' h' tk p P V=>?_) (fun st e g' h' tk x P F=>?_) fun e=>?_)
 ·subst e
  exact n a st rfl g' h' tk p P V _ _ (fun a' st' e' g₂ h₂ tk₂ p₂ P₂ V₂=>hq a' st' e' g₂ h₂ tk₂ p₂ (P.trans P₂) V₂)
   (fun st' e' g₂ h₂ tk₂ x P₂ F=>he st' e' g₂ h₂ tk₂ x (P.trans P₂) (F.back P.step)) hb
 ·subst e
  exact he st rfl g' h' tk x P F
 ·subst e
  exact hb rfl
theorem Den.seq {t:Sem Unit} {k:Sem β} {r:R α} (h:∀ Q E,Q () s→wpAny (model prog w) C.A t Q E s) (d:Den prog w T b₀ Rv C names m g s k r):Den prog w T b₀ Rv C names m g s (t >>= fun _=>k) r :=
 fun Q E hq he hb=>uF0 (h _ _ (d Q E hq he hb))
theorem Den.holding {vs:List Value} {t:Sem β} {r:R α} (d:Den prog w T b₀ Rv C names m g s t r):Den prog w T b₀ Rv C names m g s (holding vs t) r :=
 fun Q E hq he hb=>uH0 (d Q E hq he hb)
theorem Den.standAt {pos:Pos} {k:Sem β} {r:R α} (d:Den prog w T b₀ Rv C names m g s k r):Den prog w T b₀ Rv C names m g s (standAt pos >>= fun _=>k) r :=
 Den.seq (fun _ _ q=>uI0 q) d
theorem Den.of_wp {t:Sem β} {r:R α} {a:α} {st:St} (e:r=.ok a st) (h:∀ Q E,(∀ g' h' tk p,Post prog w T b₀ C names m g s.heap st g' h'→Rv h' g' a p→Q p {s with heap:=h',toks:=tk})→wpAny (model prog w) C.A t Q E s) :
  Den prog w T b₀ Rv C names m g s t r:=fun Q E hq _ _=>h Q E fun g' h' tk p P V=>hq a st e g' h' tk p P V
theorem Den.pure {a:α} {p:β} {st:St} (i:Inv prog w T b₀ C g st.σ s.heap) (l:Loc T C g names st.ρ m s.heap) (v:Rv s.heap g a p):Den prog w T b₀ Rv C names m g s (pure p) (.ok a st) :=
 fun _ _ hq _ _=>uG0 (hq a st rfl g s.heap s.toks p (.here i l) v)
theorem Den.cast {t:Sem β} {r r':R α} (e:r=r') (d:Den prog w T b₀ Rv C names m g s t r):Den prog w T b₀ Rv C names m g s t r':=e▸d
theorem xu {M:Model} {A:Around} {vs:List Value} {t:Sem Value} {Q:Value→Shared→Prop} {E:Value→Shared→Prop} (h:wpAny M A t Q E s):wpAny M A (operate vs t) Q E s :=
 fun Γ p hΓ=>by rw [Sem.wp_operate]; exact h Γ p hΓ
theorem Den.operate {vs:List Value} {t:Sem Value} {Rv:Heap→G→α→Value→Prop} {r:R α} (d:Den prog w T b₀ Rv C names m g s t r):Den prog w T b₀ Rv C names m g s (operate vs t) r :=
 fun Q E hq he hb=>xu (d Q E hq he hb)
theorem RvV.lift {h h':Heap} {g g':G} {v:V} {p:Value} (V:RvV T C h g v p) (s:Step C g h g' h'):RvV T C h' g' v p:=VRel.mono s.mono V
end
structure COk (C:Cx) (names:List Str):Prop where
 kind:C.env.scope.kind=.function
 loc:∀ x∈names,C.env.kindOf x=some .local
 nodup:names.Nodup
 dbg:∀ x∈names,(x==("__debug__" : Str))=false
 gl:C.env.globals=uK0
 bl:C.env.builtins=builtinsNs
 fr:C.A.frames=some C.envs
 hd:C.A.handled=none
 top:∃ envF outer L,C.envs=envF::outer∧envF.frame=some L∧C.env.frame=some L
structure BOk (K:Frag) (b₀:Heap):Prop where
 X:K.In b₀
 g:∃ mg,b₀.Ns uK0 mg
 b:∃ mb,b₀.Ns builtinsNs mb∧∀ x:Str,x ≠ "__name__" → mb x=bootBuiltins x
 nolimit:b₀.NoLimit
 mods:∃ o,b₀.get? sysModules=some o
section
variable {prog:Program} {w:World} {T:TT} {b₀:Heap} {C:Cx} {names:List Str} {m:Str→Option Value} {g:G} {h h':Heap} {s:Shared}
theorem KS.mono {φ φ':List uP0} {bd bd':uP0→Prop} (M:Mono φ φ' bd bd' h h') {es:List (V×V)} {ks:List (Str×Value)} (k:KS T φ bd h es ks):KS T φ' bd' h' es ks:=by
 induction k with
 | nil=>exact .nil
 | cons v _ ih=>exact .cons (v.mono M) ih
theorem KI.mono {φ φ':List uP0} {bd bd':uP0→Prop} (M:Mono φ φ' bd bd' h h') {es:List (V×V)} {ks:List (Int×Value)} (k:KI T φ bd h es ks):KI T φ' bd' h' es ks:=by
 induction k with
 | nil=>exact .nil
 | cons v _ ih=>exact .cons (v.mono M) ih
theorem ORel.mono {φ φ':List uP0} {bd bd':uP0→Prop} (M:Mono φ φ' bd bd' h h') {o:O} {x d:uP0} (r:ORel prog w T φ bd h o x d) (kx:∀ q,h.get? d=some q→h'.get? d=some q):ORel prog w T φ' bd' h' o x d:=by
 cases r with
 | list a b c=>refine x1a1 a fun n a=>?_; exact .list ⟨n,kx _ a⟩ (b.mono M) c
 | dict a b c e =>
  refine .dict (fun q=>?_) (fun q=>?_) c (e.elim fun q hq=>(c1a2 q (kx q hq.1) hq.2))
  ·refine x1a2 (a q) fun ks uQ0 k=>?_; obtain ⟨o,es,ep,ho,r⟩:=uQ0; exact (c1a2 ks ⟨o,es,ep,kx _ ho,r⟩ (k.mono M))
  ·refine x1a2 (b q) fun ks uQ0 k=>?_; obtain ⟨o,es,ep,ho,r⟩:=uQ0; exact (c1a2 ks ⟨o,es,ep,kx _ ho,r⟩ (k.mono M))
 | inst a b c e=>exact .inst (M.keep _ _ a b (fun vs q=>by exact qO PySem.Data.ctorIdx q rfl)) (M.good _ _ a b) (kx _ c) (e.mono M)
theorem Mono.keeps {φ:List uP0} {bd:uP0→Prop} (k:∀ b o,h.get? b=some o→h'.get? b=some o):Mono φ φ bd bd h h':=⟨vw0,fun a o e _ _=>k a o e,fun _ _ _ e=>e⟩
theorem Inv.keeps {σ:H} (i:Inv prog w T b₀ C g σ h) (k:∀ b o,h.get? b=some o→h'.get? b=some o):Inv prog w T b₀ C g σ h' where
 lφ:=i.lφ
 lμ:=i.lμ
 nodup:=i.nodup
 sep:=i.sep
 fresh:=i.fresh
 stay:=fun b o e=>k b o (i.stay b o e)
 frames:=i.frames.of_keeps fun b o e _=>(c1a2 o (k b o e) rfl)
 objs:=fun n o e=>let ⟨x,d,h1,h2,r⟩:=i.objs n o e; (c2a3 x d h1 h2 (r.mono (Mono.keeps k) fun q=>k d q))
 hidden:=fun b e=>let ⟨o,ho,n⟩:=i.hidden b e; ⟨o,k _ _ ho,n⟩
 ownT:=fun b e=>let ⟨o,ho,n⟩:=i.ownT b e; ⟨o,k _ _ ho,n⟩
theorem zM {a:uP0} {its:Array Value} (k:∀ b o,h.get? b=some o→h'.get? b=some o) (p:h.PlainList a its):h'.PlainList a its:=let ⟨n,e⟩:=p; ⟨n,k _ _ e⟩
theorem Loc.keeps {ρ:List (Option LV)} (l:Loc T C g names ρ m h) (k:∀ b o,h.get? b=some o→h'.get? b=some o):Loc T C g names ρ m h' where
 ns:=l.ns.keeps k
 val:=fun i x v a b=>let ⟨p,h1,h2⟩:=l.val i x v a b; ⟨p,h1,h2.mono (Mono.keeps k)⟩
 own:=fun i x vs a b=>let ⟨q,its,h1,h2,h3,h4,h5⟩:=l.own i x vs a b; (c2a5 q its h1 h2 (zM k h3) (h4.mono (Mono.keeps k)) h5)
 one:=l.one
 len:=l.len
theorem Step.keeps (k:∀ b o,h.get? b=some o→h'.get? b=some o):Step C g h g h' :=
 ⟨vw0,vw0,fun _ e=>.inl e,fun _ e=>.inl e,fun b o e _=>k b o e,fun b _ _ o e=>⟨o.slots,k b o e⟩,fun b o e=>(c1a2 o (k b o e) id)⟩
theorem Post.keeps {st:St} (i:Inv prog w T b₀ C g st.σ h) (l:Loc T C g names st.ρ m h) (k:∀ b o,h.get? b=some o→h'.get? b=some o):Post prog w T b₀ C names m g h st g h' :=
 ⟨i.keeps k,l.keeps k,Step.keeps k⟩
theorem qX (h:Heap) (o:Obj):∀ b q,h.get? b=some q→(h.push o).get? b=some q:=fun _ _ e=>Heap.get?_push_of_some o e
theorem Inv.notBad {σ:H} (i:Inv prog w T b₀ C g σ h) {b:uP0} (n:∃ o,b₀.get? b=some o):¬ bad C g b:=fun q=>by
 refine x1a1 n fun o e=>?_
 rw [i.fresh b q] at e; exact nsO e
theorem vt {l:List Env} (f:h.FunFrames b₀ l) {b:uP0} (hb:b∈l.filterMap (·.frame)):∃ o,h.get? b=some o∧noF o:=(f.mem hb).2
theorem Inv.may_there {σ:H} {ρ:List (Option LV)} (i:Inv prog w T b₀ C g σ h) (l:Loc T C g names ρ m h) {b:uP0} (q:bad C g b):∃ o,h.get? b=some o∧noF o:=by
 rcases q with (q | q | q | q) | q
 ·refine x1a1 (wY0.mp q) fun n hn=>?_
  have hl:n<σ.length:=by rw [← i.lμ]; exact (vv0.mp hn).1
  refine x2a3 (i.objs n _ (vB0 hl)) fun x d _ h2 r=>?_
  rw [hn] at h2; cases h2
  generalize hσ:σ[n]=o at r
  cases r with
  | list a _ _=>refine x1a1 a fun k a=>?_; exact (c1a2 _ a (fun _ q=>by exact qO PySem.Data.ctorIdx q rfl))
  | dict _ _ _ e=>exact e
  | inst _ _ c _=>exact (c1a2 _ c (fun _ q=>by exact qO PySem.Data.ctorIdx q rfl))
 ·exact i.ownT b q
 ·subst q
  refine x3a3 l.ns fun o _ _ e d _=>?_
  exact (c1a2 o e (fun _ q=>by rw [d] at q; exact qO PySem.Data.ctorIdx q rfl))
 ·exact vt i.frames q
 ·exact i.hidden b q
theorem Inv.new {σ:H} {ρ:List (Option LV)} (i:Inv prog w T b₀ C g σ h) (l:Loc T C g names ρ m h):¬ bad C g h.objs.size:=fun q=>by
 refine x1a2 (i.may_there l q) fun o e _=>?_
 exact absurd (Heap.lt_size e) (vg0 _)
theorem Inv.none {σ:H} {ρ:List (Option LV)} (i:Inv prog w T b₀ C g σ h) (l:Loc T C g names ρ m h) {b:uP0} (e:h.get? b=none):¬ bad C g b:=fun q=>by
 refine x1a2 (i.may_there l q) fun o e' _=>?_
 rw [e] at e'; exact nsO e'
theorem Mono.disown {φ μ own:List uP0}:Mono φ φ (bad C ⟨φ,μ,own⟩) (bad C ⟨φ,μ,[]⟩) h h :=
 ⟨vw0,fun _ _ e _ _=>e,fun _ _ _ n q=>n (q.elim (fun q=>.inl (by
  rcases q with q | q | q | q
  ·exact .inl q
  ·exact zv q
  ·exact .inr (.inr (.inl q))
  ·exact .inr (.inr (.inr q)))) .inr)⟩
theorem JK {φ μ own:List uP0} {b:uP0} (q:bad C ⟨φ,μ,[]⟩ b):bad C ⟨φ,μ,own⟩ b:=q.elim (fun q=>.inl (by
  rcases q with q | q | q | q
  ·exact .inl q
  ·exact zv q
  ·exact .inr (.inr (.inl q))
  ·exact .inr (.inr (.inr q)))) .inr
theorem Inv.disown {σ:H} (i:Inv prog w T b₀ C g σ h):Inv prog w T b₀ C ⟨g.φ,g.μ,[]⟩ σ h where
 lφ:=i.lφ
 lμ:=i.lμ
 nodup:=by have:=i.nodup; rw [vA0] at this; simpa using this.1
 sep:=fun b q=>i.sep b (q.elim .inl fun q=>by exact zv q)
 fresh:=fun b q=>i.fresh b (JK q)
 stay:=i.stay
 frames:=i.frames
 objs:=fun n o e=>let ⟨x,d,h1,h2,r⟩:=i.objs n o e; (c2a3 x d h1 h2 (r.mono Mono.disown fun _ q=>q))
 hidden:=i.hidden
 ownT:=fun b q=>by exact zv q
theorem jg {st:St} {i j:Nat} {v:LV} {x:LV} (e:(qB st i v).ρ[j]?=some (some x)):(j=i∧x=v)∨(j≠i∧st.ρ[j]?=some (some x)):=by
 unfold qB at e
 rw [kj0] at e
 by_cases hj:i=j
 ·subst hj
  rw [if_pos rfl] at e
  split at e
  ·simp only [kT0.injEq] at e; exact .inl ⟨rfl,e.symm⟩
  ·exact nsO e
 ·rw [if_neg hj] at e
  exact .inr ⟨fun q=>hj q.symm,e⟩
theorem xv (st:St) (i:Nat) (v:LV):(qB st i v).ρ.length=st.ρ.length:=by simp [qB]
theorem ul {st:St} {i:Nat} {x:Str} {v:V} {pos:Pos} (k:COk C names) (I:Inv prog w T b₀ C g st.σ s.heap) (L:Loc T C g names st.ρ m s.heap) (hi:names[i]?=some x) (hv:st.ρ[i]?=some (some (.val v))) :
  Den prog w T b₀ (RvV T C) C names m g s (eval (.Name x pos) C.env) (.ok v st):=by
 refine x1a2 (L.val i x v hi hv) fun p hp V=>?_
 have hx:=vx0 hi
 exact Den.of_wp rfl fun Q E hq=>wpAny_Name (uL0 k.kind (k.loc x hx) L.ns hp (hq g s.heap s.toks p (.here I L) V)) (k.dbg x hx)
theorem Gq {st:St} {i:Nat} {x:Str} {vs:List V} (I:Inv prog w T b₀ C g st.σ h) (L:Loc T C g names st.ρ m h) (hi:names[i]?=some x) (hv:st.ρ[i]?=some (some (.own vs))) :
  Post prog w T b₀ C names m g h (qB st i (.val (.lst vs))) ⟨g.φ,g.μ,[]⟩ h∧∃ p,m x=some p∧RvV T C h ⟨g.φ,g.μ,[]⟩ (.lst vs) p:=by
 refine x2a5 (L.own i x vs hi hv) fun a its hm ho hl V hb=>?_
 have nb:¬ bad C ⟨g.φ,g.μ,[]⟩ a:=by
  have sp:=I.sep a (.inr (by rw [ho]; exact vu0.mpr rfl))
  have nd:=I.nodup
  rw [ho,vA0] at nd
  rintro ((q | q | q | q) | q)
  ·exact nd.2.2 a q a (vu0.mpr rfl) rfl
  ·exact zv q
  ·exact sp.1 q
  ·exact sp.2.1 q
  ·exact sp.2.2 q
 have V':RvV T C h ⟨g.φ,g.μ,[]⟩ (.lst vs) (.ref a):=by
  refine x1a1 hl fun n hl=>?_
  exact .lst ⟨_,hl,rfl,n,rfl⟩ nb (V.mono Mono.disown)
 refine ⟨⟨I.disown,⟨L.ns,fun j y v hj hv'=>?_,fun j y ws hj hv'=>?_,fun j k vs ws h1 h2=>?_,by rw [xv]; exact L.len⟩,?_⟩,.ref a,hm,V'⟩
 ·rcases jg hv' with ⟨rfl,e⟩ | ⟨hne,e⟩
  ·cases e
   rw [hi] at hj; cases hj
   exact (c1a2 _ hm V')
  ·refine x1a2 (L.val j y v hj e) fun p hp W=>?_
   exact (c1a2 p hp (W.mono Mono.disown))
 ·rcases jg hv' with ⟨rfl,e⟩ | ⟨hne,e⟩
  ·exact qO LV.ctorIdx e rfl
  ·exact absurd (L.one _ _ _ _ e hv) hne
 ·rcases jg h1 with ⟨_,e⟩ | ⟨hne,e⟩
  ·exact qO LV.ctorIdx e rfl
  ·exact absurd (L.one _ _ _ _ e hv) hne
 ·exact ⟨vw0,vw0,fun _ e=>.inl e,(fun b q=>by exact zv q),fun b o e _=>e,fun b _ _ o e=>⟨o.slots,e⟩,fun b o e=>(c1a2 o e id)⟩
theorem Gz {st:St} {i:Nat} {x:Str} {vs:List V} {pos:Pos} (k:COk C names) (I:Inv prog w T b₀ C g st.σ s.heap) (L:Loc T C g names st.ρ m s.heap) (hi:names[i]?=some x) (hv:st.ρ[i]?=some (some (.own vs))) :
  Den prog w T b₀ (RvV T C) C names m g s (eval (.Name x pos) C.env) (.ok (.lst vs) (qB st i (.val (.lst vs)))):=by
 refine zz (Gq I L hi hv) fun P uQ0=>?_; obtain ⟨p,hp,V⟩:=uQ0
 have hx:=vx0 hi
 exact Den.of_wp rfl fun Q E hq=>wpAny_Name (uL0 k.kind (k.loc x hx) L.ns hp (hq _ s.heap s.toks p P V)) (k.dbg x hx)
theorem Qr {st:St} {k:Nat} {pos:Pos} (I:Inv prog w T b₀ C g st.σ s.heap) (L:Loc T C g names st.ρ m s.heap):Den prog w T b₀ (RvV T C) C names m g s (eval (.Constant .none k pos) C.env) (.ok .none st):=Den.pure I L .none
theorem Qv {st:St} {k:Nat} {pos:Pos} {b:Bool} (I:Inv prog w T b₀ C g st.σ s.heap) (L:Loc T C g names st.ρ m s.heap):Den prog w T b₀ (RvV T C) C names m g s (eval (.Constant (.bool b) k pos) C.env) (.ok (.bool b) st):=Den.pure I L (.bool b)
theorem Yt {st:St} {k:Nat} {pos:Pos} {i:Int} (I:Inv prog w T b₀ C g st.σ s.heap) (L:Loc T C g names st.ρ m s.heap):Den prog w T b₀ (RvV T C) C names m g s (eval (.Constant (.int i) k pos) C.env) (.ok (.int i) st) :=
 Den.of_wp rfl fun _ _ hq=>wpAny_Constant_int (hq g s.heap _ _ (.here I L) (.int i _))
theorem Yr {st:St} {k:Nat} {pos:Pos} {x:Str} {c:List Nat} (hx:x=toS c) (I:Inv prog w T b₀ C g st.σ s.heap) (L:Loc T C g names st.ρ m s.heap):Den prog w T b₀ (RvV T C) C names m g s (eval (.Constant (.str x) k pos) C.env) (.ok (.str c) st):=by
 subst hx
 exact Den.of_wp rfl fun _ _ hq=>Constant_str (hq g s.heap _ _ (.here I L) (.str c _))
theorem Qt {K:Frag} {st:St} {x:Str} {v:V} {p:Value} {pos:Pos} (B:BOk K b₀) (k:COk C names) (I:Inv prog w T b₀ C g st.σ s.heap) (L:Loc T C g names st.ρ m s.heap) (hx:C.env.kindOf x=some .globalImplicit) (hd:(x==("__debug__" : Str))=false)
  (e:nsIn K uK0 x=some (some p)) (V:RvV T C s.heap g v p):Den prog w T b₀ (RvV T C) C names m g s (eval (.Name x pos) C.env) (.ok v st):=by
 refine x1a1 B.g fun mg hg=>?_
 exact Den.of_wp rfl fun Q E hq=>Name_function_global k.kind hx (loadGlobal_global (by rw [k.gl]; exact hg.keeps I.stay) (mg_of B.X hg e) (hq g s.heap s.toks p (.here I L) V)) hd
theorem DD {K:Frag} {σ:H} {x:Str} {p:Value} {pos:Pos} {Q:Value→Shared→Prop} {E:Value→Shared→Prop} (B:BOk K b₀) (k:COk C names) (I:Inv prog w T b₀ C g σ s.heap) (hx:C.env.kindOf x=some .globalImplicit) (hd:(x==("__debug__" : Str))=false)
  (e:nsIn K uK0 x=some (some p)) (q:Q p s):wpAny (model prog w) C.A (eval (.Name x pos) C.env) Q E s:=by
 refine x1a1 B.g fun mg hg=>?_
 exact Name_function_global k.kind hx (loadGlobal_global (by rw [k.gl]; exact hg.keeps I.stay) (mg_of B.X hg e) q) hd
theorem uG {K:Frag} {σ:H} {x:Str} {p:Value} {pos:Pos} {Q:Value→Shared→Prop} {E:Value→Shared→Prop} (B:BOk K b₀) (k:COk C names) (I:Inv prog w T b₀ C g σ s.heap) (hx:C.env.kindOf x=some .globalImplicit) (hd:(x==("__debug__" : Str))=false)
  (e:nsIn K uK0 x=some none) (hv:bootBuiltins x=some p) (hn:x ≠ "__name__") (q:Q p s):wpAny (model prog w) C.A (eval (.Name x pos) C.env) Q E s:=by
 refine x1a1 B.g fun mg hg=>?_
 refine x1a2 B.b fun mb hb hbb=>?_
 exact Name_function_global k.kind hx (loadGlobal_builtin (by rw [k.gl]; exact hg.keeps I.stay) (mg_none_of B.X hg e) (by rw [k.bl]; exact hb.keeps I.stay) ((hbb x hn).trans hv) q) hd
end
structure ClsOk (K:Frag) (T:TT) (an:Nat→Str) (c:Nat) (k:Cls):Prop where
 fld:T.fld c=k.fields.map an
 inj:∀ a∈k.fields,∀ b∈k.fields,an a=an b→a=b
 ga:findIn K (.ref (T.ca c)) "__getattribute__" = some (some (.builtin "object.__getattribute__"))
 gx:findIn K (.ref (T.ca c)) "__getattr__" = some none
 hasDict:hasDictIn K (T.ca c)=true
 attr:∀ f∈k.fields,∃ a,findIn K (.ref (T.ca c)) (an f)=some a∧noGet K a=true
 sa:findIn K (.ref (T.ca c)) "__setattr__" = some (some (.builtin "object.__setattr__"))
 over:plainOver K (T.ca c)=true
 taker:∀ f∈k.fields,takerIn K (T.ca c) (an f)=some none
 few:k.fields.length≤100
noncomputable def jy:Expr→Bool
 | .Call (.Name id _) _ _ _=>id != ("super" : Str)
 | _=>true
theorem zP {o:Expr} (h:jy o=true) (attr:Str) (env:Env) (t:Sem Value):attributeBase o attr env t=t:=by
 cases o with
 | Call f a k p =>
  cases f with
  | Name id q =>
   cases a with
   | nil =>
    cases k with
    | nil =>
     exact if_pos (by rw [show (id != ("super" : Str))=true from h]; rfl)
    | cons _ _=>rfl
   | cons _ _=>rfl
  | _=>rfl
 | _=>rfl
theorem Df {an:Nat→Str} {l:List Nat} {f i:Nat} (inj:∀ a∈l,∀ b∈l,an a=an b→a=b) (e:l.idxOf? f=some i):(l.map an).idxOf? (an f)=some i∧f∈l:=by
 induction l generalizing i with
 | nil=>simp at e
 | cons x l ih =>
  rw [wy0] at e
  rw [vJ0,wy0]
  by_cases hx:x=f
  ·subst hx
   simp only [beq_self_eq_true,if_true] at e ⊢
   exact ⟨e,vV0 ..⟩
  ·have h1:(x==f)=false:=beq_eq_false_iff_ne.mpr hx
   rw [h1] at e
   simp only [ui0,if_false] at e
   refine x1a2 (kS0.mp e) fun j hj uQ0=>?_; rw [← uQ0]
   refine zz (ih (fun a ha b hb=>inj a (.tail _ ha) b (.tail _ hb)) hj) fun h2 h3=>?_
   have h4:(an x==an f)=false:=beq_eq_false_iff_ne.mpr fun q=>hx (inj x (.head _) f (.tail _ h3) q)
   rw [h4]
   simp only [ui0,if_false,h2,ud0]
   exact ⟨trivial,List.Mem.tail _ h3⟩
section
variable {prog:Program} {w:World} {K:Frag} {T:TT} {b₀:Heap} {C:Cx} {names:List Str} {m:Str→Option Value} {g:G} {h h':Heap} {s:Shared} {an:Nat→Str} {P:P}
theorem qa0 {φ:List uP0} {bd:uP0→Prop} {v:V} {p:Value} (V:VRel T φ bd h v p):handedIn p=true:=by cases V <;> rfl
theorem vq {x C dx:uP0} {od:Obj} (h1:h.get? x=some (instObj C dx)) (h2:h.get? dx=some od):PySem.W.InstAt h x (instObj C dx) C (some od):=⟨h1,rfl,rfl,h2⟩
theorem Dc {σ:H} {v:V} {p:Value} {c:Nat} {fs:List V} (I:Inv prog w T b₀ C g σ h) (V:RvV T C h g v p) (e:v=.obj c fs∨∃ n,v=.ref n∧σ[n]?=some (.inst c fs)) :
  ∃ x dx es n,p=.ref x∧h.get? x=some (instObj (T.ca c) dx)∧h.get? dx=some (dictOf es n)∧EsRel T g.φ (bad C g) h (T.fld c) fs es:=by
 rcases e with rfl | ⟨n,rfl,e⟩
 ·cases V with
  | obj h1 h2 _ _ h3=>exact (c4a4 _ _ _ _ rfl h1 h2 h3)
 ·cases V with
  | ref hn =>
   refine x2a3 (I.objs n _ e) fun x d h1 _ r=>?_
   rw [hn] at h1; cases h1
   cases r with
   | inst a _ b r=>exact (c4a4 _ _ _ _ rfl a b r)
theorem Gs {σ:H} {v x:V} {f:Nat} (e:jK P σ v f=some x):∃ c fs k i,(v=.obj c fs∨∃ n,v=.ref n∧σ[n]?=some (.inst c fs))∧P.cls c=some k∧k.fields.idxOf? f=some i∧fs[i]?=some x:=by
 have fld:∀ {c fs},(v=.obj c fs∨∃ n,v=.ref n∧σ[n]?=some (.inst c fs))→jE0 P f c fs=some x→∃ c fs k i,(v=.obj c fs∨∃ n,v=.ref n∧σ[n]?=some (.inst c fs))∧P.cls c=some k∧k.fields.idxOf? f=some i∧fs[i]?=some x:=fun {c fs} hv e=>by
  refine x1a2 (kU0.mp e) fun k hk e=>?_
  exact x1a2 (kU0.mp e) fun i hi e=>c4a4 c fs k i hv hk hi e
 cases v with
 | obj c fs=>exact fld (.inl rfl) e
 | ref n=>exact x2a2 (vM e) fun c fs hs e=>fld (.inr (c1a2 n rfl hs)) e
 | _=>exact nsO e
theorem um {st:St} {v x:V} {p:Value} {f:Nat} {b:Bool} (B:BOk K b₀) (TC:∀ c k,P.cls c=some k→ClsOk K T an c k) (I:Inv prog w T b₀ C g st.σ s.heap) (L:Loc T C g names st.ρ m s.heap) (V:RvV T C s.heap g v p) (e:jK P st.σ v f=some x) :
  Den prog w T b₀ (RvV T C) C names m g s (getAttr p (an f) b) (.ok x st):=by
 refine x4a4 (Gs e) fun c fs k i hv hk hi hx=>?_
 refine x4a4 (Dc I V hv) fun a dx es n uQ0 h1 h2 r=>?_; rw [uQ0]
 have tc:=TC c k hk
 refine zz (Df tc.inj hi) fun hi' hf=>?_
 rw [tc.fld] at r
 refine x1a2 (r.find hi' hx) fun q hq V'=>?_
 refine x1a2 (tc.attr f hf) fun at' ha hn=>?_
 exact Den.of_wp rfl fun Q E hQ=>get_value (B.X.keeps I.stay) (vq h1 h2) tc.ga (findObj_own tc.hasDict ha hn (by rw [lookIn_dict]; exact hq)) (qa0 V') (hQ g s.heap _ q (.here I L) V')
theorem Qw {value:Expr} {f:Nat} {pos:Pos} {r:R V} (B:BOk K b₀) (TC:∀ c k,P.cls c=some k→ClsOk K T an c k) (hb:jy value=true) (d:Den prog w T b₀ (RvV T C) C names m g s (eval value C.env) r) :
  Den prog w T b₀ (RvV T C) C names m g s (eval (.Attribute value (an f) pos) C.env) (r.bind fun v st=>match jK P st.σ v f with | some x=>.ok x st | none=>.bad):=by
 have e:eval (.Attribute value (an f) pos) C.env=(do
   let o ← attributeBase value (an f) C.env (eval value C.env)
   standAt pos.atName
   let r ← holding [o] (getAttr o (an f) true)
   letTemporaryGo value o r
   pure r):=by with_unfolding_all rfl
 rw [e,zP hb]
 refine d.bind fun v st _ g' h' tk p Po V=>Den.standAt ?_
 cases ef:jK P st.σ v f with
 | none=>exact Den.bad
 | some x =>
  intro Q E hq he hbd
  refine uF0 (uH0 ((um (b:=true) B TC Po.inv Po.loc V ef) _ _ (fun a st' e' g₂ h₂ tk₂ p₂ P₂ V₂=>uF0 (wpAny_letTemporaryGo (uG0 (hq a st' e' g₂ h₂ tk₂ p₂ P₂ V₂)))) (fun st' e'=>by exact oeR e') fun e'=>by exact obR e'))
theorem vi {a:Int} (h:okI a=true):-Gl≤a∧a≤Gl:=by
 have:=yc0 h
 unfold Gl
 exact o60 _ this
theorem Qf {a b:Int} (h:okI a=true):IntMulOk a b:=by
 have:=vi h
 unfold Gl at this
 exact .of_left (intBits_le_64 (by omega) (by omega))
theorem Ze {σ:H} {ρ:List (Option LV)} (I:Inv prog w T b₀ C g σ s.heap) (L:Loc T C g names ρ m s.heap):Post prog w T b₀ C names m g s.heap ⟨ρ,σ⟩ g s.heap:=.here I L
theorem KR {x y:Str} {t u:Tok} {Q:Value→Shared→Prop} (hz:x.length+y.length≤sizeLine) (h:∀ t k,Q (.str (x++y) t) {s with toks:=k}) :
  (if x.length==0 then Made.val (.str y u) else if y.length==0 then Made.val (.str x t) else Made.str (x++y)).post Q s:=by
 have emp:∀ {z:Str},(z.length==0)=true→z=⟨#[]⟩:=fun {z} e=>by
  obtain ⟨c⟩:=z
  have e':(Array.size c==0)=true:=e
  have:c=#[]:=Array.eq_empty_of_size_eq_zero (beq_iff_eq.mp e')
  rw [this]
 split
 ·rename_i e
  have:=h u s.toks
  rw [emp e] at this
  have e2:(⟨#[]⟩:Str)++y=y:=Str.empty_append y
  rw [e2] at this
  exact this
 ·split
  ·rename_i e
   have:=h t s.toks
   rw [emp e] at this
   have e2:x++(⟨#[]⟩:Str)=x:=by
    obtain ⟨c⟩:=x
    show (⟨c++#[]⟩:Str)=⟨c⟩
    rw [Array.append_empty]
   rw [e2] at this
   exact this
  ·exact ⟨by rw [Str.length_append]; exact hz,h _ _⟩
theorem IP (a b:List Nat):toS a++toS b=toS (a++b):=by
 show (⟨a.toArray++b.toArray⟩:Str)=⟨(a++b).toArray⟩
 rw [List.append_toArray]
theorem zk (a:List Nat):(toS a).length=a.length:=by
 show a.toArray.size=_
 rw [wN0]
theorem IZ {x y:Int} (h:y.natAbs<9223372036854775808):Builtin.divisionGoesByPylong x y=false:=by
 refine PyProof.noPylong_of_log2 ?_
 by_cases h0:y.natAbs=0
 ·rw [h0]; decide +kernel
 ·have h30:y.natAbs.log2<63:=(vo0 h0).mpr h
  exact yd0 h30
theorem Ql {a b:Int} (h:0<b):a.fmod b=a % b:=Int.fmod_eq_emod_of_nonneg _ (kE0 h)
theorem Qm {a b:Int} (h:0<b):a.fdiv b=a / b:=Int.fdiv_eq_ediv_of_nonneg _ (kE0 h)
noncomputable def QW:Bin→Operator
 | .add=>.Add
 | .sub=>.Sub
 | .mul=>.Mult
 | .mod=>.Mod
 | .div=>.FloorDiv
theorem jJ {vs:List V} {p:Value} {φ:List uP0} {bd:uP0→Prop} (V:VRel T φ bd h (.lst vs) p):∃ a its,p=.ref a∧h.IsList a its∧¬ bd a∧VsRel T φ bd h vs its.toList:=by
 cases V with
 | lst a b c=>exact (c2a4 _ _ rfl a b c)
theorem xD {vs:List V} {p:Value} {φ:List uP0} {bd:uP0→Prop} (V:VRel T φ bd h (.tup vs) p):∃ a its,p=.ref a∧IsTup h a its∧¬ bd a∧VsRel T φ bd h vs its.toList:=by
 cases V with
 | tup a b c=>exact (c2a4 _ _ rfl a b c)
theorem zS {x:List Nat} {p:Value} {φ:List uP0} {bd:uP0→Prop} (V:VRel T φ bd h (.str x) p):∃ t,p=.str (toS x) t:=by cases V; exact ⟨_,rfl⟩
theorem xk {x:Int} {p:Value} {φ:List uP0} {bd:uP0→Prop} (V:VRel T φ bd h (.int x) p):∃ t,p=.int x t:=by cases V; exact ⟨_,rfl⟩
theorem Br {A:Around} {E:Value→Shared→Prop} {l b:uP0} {vs ws:List Value} {Q:Value→Shared→Prop} (hl:s.heap.IsList l vs.toArray) (hb:s.heap.IsList b ws.toArray)
  (h:Q (.ref s.heap.objs.size) {s with heap:=s.heap.push {cls:=.type "list",data:=.seq (vs++ws).toArray}}) (hsz:vs.length+ws.length≤sizeLine) :
  wpAny (model prog w) A (binaryOp .Add (.ref l) (.ref b)) Q E s:=by
 refine x1a3 (id hl) fun uQ0 ho hc uR0=>?_; obtain ⟨cls,dd,data,sl⟩:=uQ0; obtain ⟨n,hd⟩:=uR0
 refine x1a3 (id hb) fun uQ0 ho2 hc2 uR0=>?_; obtain ⟨cls2,dd2,data2,sl2⟩:=uQ0; obtain ⟨n2,hd2⟩:=uR0
 simp only at hc hd hc2 hd2
 subst hc hd hc2 hd2
 have e:vs.toArray++ws.toArray=(vs++ws).toArray:=by simp
 refine concat_meets ⟨_,ho,rfl⟩ ⟨_,ho2,rfl⟩ noFill_list_add seq_list_add PySem.F.slot_list_add PySem.F.entry_list_add (PySem.F.args_list_add_2 _ _) (list_addW l b vs.toArray ws.toArray n n2 dd dd2 sl sl2 (by simpa using hsz)) (yD ho ho2 ?_)
 rw [e]
 exact h
theorem kt {st:St} {vs:List V} {ps:List Value} (I:Inv prog w T b₀ C g st.σ h) (L:Loc T C g names st.ρ m h) (V:VsRel T g.φ (bad C g) h vs ps) :
  Post prog w T b₀ C names m g h st g (h.push {cls:=.type "list",data:=.seq ps.toArray})∧RvV T C (h.push {cls:=.type "list",data:=.seq ps.toArray}) g (.lst vs) (.ref h.objs.size) :=
 ⟨.keeps I L (qX _ _),.lst ⟨_,Heap.get?_push_size _ rfl,rfl,0,rfl⟩ (I.new L) (V.mono (Mono.keeps (qX _ _)))⟩
theorem KO {st:St} {vs:List V} {ps:List Value} (I:Inv prog w T b₀ C g st.σ h) (L:Loc T C g names st.ρ m h) (V:VsRel T g.φ (bad C g) h vs ps) :
  Post prog w T b₀ C names m g h st g (h.push {cls:=.type "tuple",data:=.seq ps.toArray})∧RvV T C (h.push {cls:=.type "tuple",data:=.seq ps.toArray}) g (.tup vs) (.ref h.objs.size) :=
 ⟨.keeps I L (qX _ _),.tup ⟨_,Heap.get?_push_size _ rfl,rfl,0,rfl⟩ (I.new L) (V.mono (Mono.keeps (qX _ _)))⟩
theorem NN {x:V} {a:Int} (h:asI x=some a):x=.int a:=by cases x <;> first | (cases h; rfl) | exact nsO h
theorem NL {x:V} {a:List Nat} (h:asS x=some a):x=.str a:=by cases x <;> first | (cases h; rfl) | exact nsO h
theorem NM {x:V} {a:List V} (h:asL x=some a):x=.lst a:=by cases x <;> first | (cases h; rfl) | exact nsO h
theorem DG {α β:Type} {f:V→Option α} {x y:V} {g:α→α→Option β} {v:β} (h:two f x y g=some v):∃ a b,f x=some a∧f y=some b∧g a b=some v:=by
 unfold two at h
 cases h1:f x with
 | none=>rw [h1] at h; exact nsO h
 | some a =>
  rw [h1] at h
  cases h2:f y with
  | none=>rw [h2] at h; exact nsO h
  | some b=>rw [h2] at h; exact (c2a3 a b rfl rfl h)
theorem DU {α:Type} {a b:Option α} {v:α} (h:orO a b=some v):a=some v∨b=some v:=by
 cases a <;> first | exact .inl h | exact .inr h
theorem zo {α:Type} {c:Prop} [Decidable c] {a v:α} (h:(if c then some a else none)=some v):c∧a=v:=by
 split at h
 ·cases h; exact ⟨‹_›,rfl⟩
 ·exact nsO h
theorem uw {α:Type} {bd:uP0→Prop} {φ:List uP0} {x y:V} {p q:Value} {g:Int→Int→Option α} {v:α} (V:VRel T φ bd h x p) (W:VRel T φ bd h y q) (e:two asI x y g=some v):∃ a b t u,x=.int a∧y=.int b∧p=.int a t∧q=.int b u∧g a b=some v:=by
 refine x2a3 (DG e) fun a b h1 h2 e=>?_
 obtain rfl:=NN h1
 obtain rfl:=NN h2
 refine x1a1 (xk V) fun t uQ0=>?_; subst uQ0
 refine x1a1 (xk W) fun u uQ0=>?_; subst uQ0
 exact (c4a5 _ _ _ _ rfl rfl rfl rfl e)
theorem YP {α:Type} {bd:uP0→Prop} {φ:List uP0} {x y:V} {p q:Value} {g:List Nat→List Nat→Option α} {v:α} (V:VRel T φ bd h x p) (W:VRel T φ bd h y q) (e:two asS x y g=some v):∃ a b t u,x=.str a∧y=.str b∧p=.str (toS a) t∧q=.str (toS b) u∧g a b=some v:=by
 refine x2a3 (DG e) fun a b h1 h2 e=>?_
 obtain rfl:=NL h1
 obtain rfl:=NL h2
 refine x1a1 (zS V) fun t uQ0=>?_; subst uQ0
 refine x1a1 (zS W) fun u uQ0=>?_; subst uQ0
 exact (c4a5 _ _ _ _ rfl rfl rfl rfl e)
theorem Nf {st:St} {o:Bin} {x y v:V} {p q:Value} (I:Inv prog w T b₀ C g st.σ s.heap) (L:Loc T C g names st.ρ m s.heap) (V:RvV T C s.heap g x p) (W:RvV T C s.heap g y q) (e:jS o x y=some v) :
  Den prog w T b₀ (RvV T C) C names m g s (binaryOp (QW o) p q) (.ok v st):=by
 refine Den.of_wp rfl fun Q E hq=>?_
 cases o with
 | add =>
  rcases DU e with e | e
  ·refine x4a5 (uw V W e) fun a b t u uQ0 uR0 uS0 uT0 e=>?_; subst uQ0; subst uR0; subst uS0; subst uT0
   refine zz (zo e) fun _ uQ0=>?_; subst uQ0
   exact wpAny_add_int (hq g s.heap _ _ (.here I L) (.int _ _))
  rcases DU e with e | e
  ·refine x4a5 (YP V W e) fun a b t u uQ0 uR0 uS0 uT0 e=>?_; subst uQ0; subst uR0; rw [uS0]; rw [uT0]
   refine zz (zo e) fun hk uQ0=>?_; subst uQ0
   refine PySem.P.add_str (KR (by rw [zk,zk,uJ0]; unfold qD at hk; exact yd0 hk) fun t k=>?_)
   rw [IP]
   exact hq g s.heap k _ (.here I L) (.str _ _)
  ·refine x2a3 (DG e) fun a b h1 h2 e=>?_
   obtain rfl:=NM h1
   obtain rfl:=NM h2
   refine zz (zo e) fun hk uQ0=>?_; subst uQ0
   refine x2a4 (jJ V) fun a its uQ0 hl _ V'=>?_; rw [uQ0]
   refine x2a4 (jJ W) fun b its2 uQ0 hl2 _ W'=>?_; rw [uQ0]
   have hN:=kt I L (V'.append W')
   have h1:=V'.length
   have h2:=W'.length
   exact Br (vs:=its.toList) (ws:=its2.toList) hl hl2 (hq g _ s.toks _ hN.1 hN.2) (by rw [uJ0]; unfold qD at hk; exact far [_,_,_,_] [.le (.p qg qj) qJ,.qe qg qa,.qe qj qb] (.le (.p qa qb) (.n 16777216)) rfl hk h1 h2)
 | sub =>
  refine x4a5 (uw V W e) fun a b t u uQ0 uR0 uS0 uT0 e=>?_; subst uQ0; subst uR0; subst uS0; subst uT0
  refine zz (zo e) fun _ uQ0=>?_; subst uQ0
  exact sub_int' (hq g s.heap _ _ (.here I L) (.int _ _))
 | mul =>
  refine x4a5 (uw V W e) fun a b t u uQ0 uR0 uS0 uT0 e=>?_; subst uQ0; subst uR0; subst uS0; subst uT0
  refine zz (zo e) fun hk uQ0=>?_; subst uQ0
  exact PySem.P.mul_int (hq g s.heap _ _ (.here I L) (.int _ _)) (Qf (uf0.mp hk).1)
 | mod =>
  refine x4a5 (uw V W e) fun a b t u uQ0 uR0 uS0 uT0 e=>?_; subst uQ0; subst uR0; subst uS0; subst uT0
  refine zz (zo e) fun hk uQ0=>?_; subst uQ0
  have hk:=of_decide_eq_true (uf0.mp hk).1
  exact mod_int' (by exact kR0 hk) (by rw [Ql hk]; exact hq g s.heap _ _ (.here I L) (.int _ _))
 | div =>
  refine x4a5 (uw V W e) fun a b t u uQ0 uR0 uS0 uT0 e=>?_; subst uQ0; subst uR0; subst uS0; subst uT0
  refine zz (zo e) fun hk uQ0=>?_; subst uQ0
  have hk:=uf0.mp hk
  have h0:=of_decide_eq_true (uf0.mp hk.1).1
  have ha:=vi hk.2
  have hb:=vi (uf0.mp hk.1).2
  unfold Gl at ha hb
  exact floordiv_int (by exact kR0 h0) (by rw [Qm h0]; exact hq g s.heap _ _ (.here I L) (.int _ _)) (.inl (IZ (by exact o61 _ hb.1 hb.2)))
mutual
noncomputable def toP:V→PyData
 | .none=>.none
 | .bool b=>.bool b
 | .int i=>.int i
 | .str x=>.str (toS x)
 | .tup vs=>.tuple (Ka vs)
 | .lst vs=>.list (Ka vs)
 | .obj _ _=>.none
 | .ref _=>.none
noncomputable def Ka:List V→List PyData
 | []=>[]
 | v::vs=>toP v::Ka vs
end
theorem reads_both {φ:List uP0} {bd:uP0→Prop}:(∀ {v:V} {p:Value},VRel T φ bd h v p→plain v=true→∃ as,Reads h p (toP v) as)∧(∀ {v:List V} {p:List Value},VsRel T φ bd h v p→xO v=true→∃ as,ReadsAll h p (Ka v) as)∧∀ {x:List Str} {v:List V} {es:List DictEntry},EsRel T φ bd h x v es→True :=
 zs0 (fun _=>⟨_,.none⟩) (fun b _=>⟨_,.bool b⟩) (fun i t _=>⟨_,.int i t⟩) (fun _ t _=>⟨_,.str _ t⟩) (fun _ _ _ i _ k q=>x1a1 i fun o i=>zz i fun ho i=>zz i fun hc i=>x1a1 i fun n hd=>x1a1 (k q) fun as q=>⟨as,.tuple ho hc hd q⟩)
  (fun _ _ _ i _ k q=>x1a1 i fun o i=>zz i fun ho i=>zz i fun hc i=>x1a1 i fun n hd=>x1a1 (k q) fun _ q=>⟨_,.list ho hc hd q⟩) (fun _ _ _ _ _ _ _ _ _ _ _ k=>ftB k) (fun _ _ _ k=>ftB k) (fun _=>⟨_,.nil⟩) (fun _ _ _ _ a b k=>x1a1 (a (xy k).1) fun as q=>x1a1 (b (xy k).2) fun bs q'=>⟨_,.cons q q'⟩) trivial fun _ _ _ _ _ _ _ _ _ _=>trivial
theorem wG {φ:List uP0} {bd:uP0→Prop} {v:V} {p:Value} (r:VRel T φ bd h v p) (k:plain v=true):∃ as,Reads h p (toP v) as:=reads_both.1 r k
theorem Zb {φ:List uP0} {bd:uP0→Prop} {v:List V} {p:List Value} (r:VsRel T φ bd h v p) (k:xO v=true):∃ as,ReadsAll h p (Ka v) as:=reads_both.2.1 r k
theorem JZ (x y:List Nat):((toS x:Str)==toS y)=(x==y):=by
 by_cases e:x=y
 ·subst e; simp
 ·rw [beq_eq_false_iff_ne.mpr e,beq_eq_false_iff_ne]
  intro q
  apply e
  have:x.toArray=y.toArray:=congrArg Str.cps q
  simpa using this
mutual
theorem DF:∀ a b:V,plain a=true→plain b=true→veq a b=PyData.eqv (toP a) (toP b)
 | .tup as,b,h1,h2=>by cases b with | tup bs=>exact AC as bs h1 h2 | obj=>exact ftB h2 | ref=>exact ftB h2 | _=>rfl
 | .lst as,b,h1,h2=>by cases b with | lst bs=>exact AC as bs h1 h2 | obj=>exact ftB h2 | ref=>exact ftB h2 | _=>rfl
 | .str a,b,_,h=>by cases b with | str b=>exact (JZ a b).symm | obj=>exact ftB h | ref=>exact ftB h | _=>rfl
 | .none,b,_,h=>by cases b <;> first | rfl | exact ftB h
 | .bool a,b,_,h=>by cases b <;> first | rfl | exact ftB h
 | .int a,b,_,h=>by cases b <;> first | rfl | exact ftB h
 | .obj _ _,_,h,_=>ftB h
 | .ref _,_,h,_=>ftB h
theorem AC:∀ a b:List V,xO a=true→xO b=true→YF a b=PyData.eqvAll (Ka a) (Ka b)
 | [],[],_,_=>rfl
 | [],_::_,_,_=>rfl
 | _::_,[],_,_=>rfl
 | a::as,b::bs,h1,h2=>by
  have h1:=xy h1
  have h2:=xy h2
  show (veq a b&&YF as bs)=(PyData.eqv (toP a) (toP b)&&PyData.eqvAll (Ka as) (Ka bs))
  rw [DF a b h1.1 h2.1,AC as bs h1.2 h2.2]
end
mutual
theorem Uw:∀ v:V,plain v=true→(toP v).canLay0=true∧(toP v).depth=dep v
 | .none,_=>⟨rfl,rfl⟩
 | .bool _,_=>⟨rfl,rfl⟩
 | .int _,_=>⟨rfl,rfl⟩
 | .str x,h=>by
  refine ⟨?_,rfl⟩
  show x.toArray.all _=true
  rw [List.all_toArray]; exact h
 | .tup vs,h=>(Go vs h).imp_right (congrArg (·+1))
 | .lst vs,h=>(Go vs h).imp_right (congrArg (·+1))
 | .obj _ _,h=>ftB h
 | .ref _,h=>ftB h
theorem Go:∀ v:List V,xO v=true→PyData.canLayAll0 (Ka v)=true∧PyData.depthAll (Ka v)=Yq v
 | [],_=>⟨rfl,rfl⟩
 | v::vs,h=>by
  have h:=xy h
  have h1:=Uw v h.1
  have h2:=Go vs h.2
  exact ⟨uf0.mpr ⟨h1.1,h2.1⟩,congr (congrArg max h1.2) h2.2⟩
end
theorem vf {v:V} (h:flat v=true):SeqAt.shaped (toP v)=true:=by
 have h:=MN h
 have:=Uw v h.1
 unfold SeqAt.shaped
 rw [this.1,this.2,Bool.true_and,decide_eq_true_eq]
 exact yd0 h.2
noncomputable def zi:Cmp→CmpOp
 | .eq=>.Eq
 | .ne=>.NotEq
 | .lt=>.Lt
 | .le=>.LtE
 | .gt=>.Gt
 | .ge=>.GtE
theorem wc {st:St} {o:Cmp} {x y:V} {v:Bool} {p q:Value} (hu:C.A.units+64<cLine) (I:Inv prog w T b₀ C g st.σ s.heap) (L:Loc T C g names st.ρ m s.heap) (V:RvV T C s.heap g x p) (W:RvV T C s.heap g y q) (e:qF o x y=some v) :
  Den prog w T b₀ (fun _ _ (a:Bool) (b:Value)=>b=.bool a) C names m g s (compareOp (zi o) p q) (.ok v st):=by
 refine Den.of_wp rfl fun Q E hq=>?_
 cases o with
 | eq =>
  refine zz (zo e) fun hk uQ0=>?_; subst uQ0
  have hk:=uf0.mp hk
  have f1:=(uf0.mp hk.1).1
  have f2:=(uf0.mp hk.2).1
  refine x1a1 (wG V f1) fun as ra=>?_
  refine x1a1 (wG W f2) fun bs rb=>?_
  exact eq_dataH ra rb (vf hk.1) (vf hk.2) hu (by rw [← DF _ _ f1 f2]; exact hq g s.heap s.toks _ (.here I L) rfl)
 | ne =>
  refine zz (zo e) fun hk uQ0=>?_; subst uQ0
  have hk:=uf0.mp hk
  have f1:=(uf0.mp hk.1).1
  have f2:=(uf0.mp hk.2).1
  refine x1a1 (wG V f1) fun as ra=>?_
  refine x1a1 (wG W f2) fun bs rb=>?_
  exact ne_dataH ra rb (vf hk.1) (vf hk.2) hu (by rw [← DF _ _ f1 f2]; exact hq g s.heap s.toks _ (.here I L) rfl)
 | lt=>refine x4a5 (uw V W e) fun a b t u uQ0 uR0 uS0 uT0 e=>?_; subst uQ0; subst uR0; subst uS0; subst uT0; cases e; exact PySem.P.lt_int (hq g s.heap s.toks _ (.here I L) rfl)
 | le =>
  rcases DU e with e | e
  ·refine x4a5 (uw V W e) fun a b t u uQ0 uR0 uS0 uT0 e=>?_; subst uQ0; subst uR0; subst uS0; subst uT0; cases e; exact PySem.P.le_int (hq g s.heap s.toks _ (.here I L) rfl)
  ·refine x4a5 (YP V W e) fun a b t u uQ0 uR0 uS0 uT0 e=>?_; subst uQ0; subst uR0; subst uS0; subst uT0; cases e; exact PySem.P.le_str (hq g s.heap s.toks _ (.here I L) (by unfold YQ; rfl))
 | gt=>refine x4a5 (uw V W e) fun a b t u uQ0 uR0 uS0 uT0 e=>?_; subst uQ0; subst uR0; subst uS0; subst uT0; cases e; exact PySem.P.gt_int (hq g s.heap s.toks _ (.here I L) rfl)
 | ge=>refine x4a5 (uw V W e) fun a b t u uQ0 uR0 uS0 uT0 e=>?_; subst uQ0; subst uR0; subst uS0; subst uT0; cases e; exact PySem.P.ge_int (hq g s.heap s.toks _ (.here I L) rfl)
noncomputable def jh (prog:Program) (w:World) (T:TT) (b₀:Heap) (C:Cx) (names:List Str) (t:Sem Value) (f:St→R V):Prop :=
 ∀ m g s st,Inv prog w T b₀ C g st.σ s.heap→Loc T C g names st.ρ m s.heap→Den prog w T b₀ (RvV T C) C names m g s t (f st)
noncomputable def Bs (prog:Program) (w:World) (T:TT) (b₀:Heap) (C:Cx) (names:List Str) (t:Sem Bool) (f:St→R Bool):Prop :=
 ∀ m g s st,Inv prog w T b₀ C g st.σ s.heap→Loc T C g names st.ρ m s.heap→Den prog w T b₀ RvB C names m g s t (f st)
theorem QP {l r:Expr} {pos:Pos} {o:Bin} {fl fr:St→R V} (dl:jh prog w T b₀ C names (eval l C.env) fl) (dr:jh prog w T b₀ C names (eval r C.env) fr) :
  jh prog w T b₀ C names (eval (.BinOp l (QW o) r pos) C.env) (fun st=>(fl st).bind fun x st=>(fr st).bind fun y st=>match jS o x y with | some v=>.ok v st | none=>.bad):=by
 intro m g s st I L
 rw [eval_BinOp]
 refine (dl m g s st I L).bind fun x st1 _ g1 h1 tk1 p P1 V1=>?_
 refine (Den.holding (dr m g1 _ st1 P1.inv P1.loc)).bind fun y st2 _ g2 h2 tk2 q P2 V2=>?_
 refine Den.standAt (Den.operate ?_)
 cases e:jS o x y with
 | none=>exact Den.bad
 | some v=>exact Nf P2.inv P2.loc (V1.lift P2.step) V2 e
theorem Den.mapB {t:Sem Value} {r:R Bool} (d:Den prog w T b₀ (fun _ _ (a:Bool) (b:Value)=>b=.bool a) C names m g s t r):Den prog w T b₀ (RvV T C) C names m g s t (r.bind fun b st=>.ok (.bool b) st):=by
 intro Q E hq he hb
 refine d Q E (fun a st e g' h' tk p P V=>?_) (fun st e=>?_) fun e=>?_
 ·subst e; subst V
  exact hq _ _ rfl g' h' tk _ P (.bool a)
 ·subst e; exact he st rfl
 ·subst e; exact hb rfl
theorem QO {l r:Expr} {pos:Pos} {o:Cmp} {fl fr:St→R V} (hu:C.A.units+64<cLine) (hm:behindInMarks (zi o) r=false) (dl:jh prog w T b₀ C names (eval l C.env) fl) (dr:jh prog w T b₀ C names (eval r C.env) fr) :
  jh prog w T b₀ C names (eval (.Compare l [zi o] [r] pos) C.env) (fun st=>(fl st).bind fun x st=>(fr st).bind fun y st=>match qF o x y with | some v=>.ok (.bool v) st | none=>.bad):=by
 intro m g s st I L
 rw [eval_Compare1,uO0 hm]
 refine (dl m g s st I L).bind fun x st1 _ g1 h1 tk1 p P1 V1=>?_
 refine (Den.holding (dr m g1 _ st1 P1.inv P1.loc)).bind fun y st2 _ g2 h2 tk2 q P2 V2=>?_
 refine Den.standAt (Den.operate ?_)
 cases e:qF o x y with
 | none=>exact Den.bad
 | some v=>exact (wc hu P2.inv P2.loc (V1.lift P2.step) V2 e).mapB
end
section
variable {prog:Program} {w:World} {K:Frag} {T:TT} {b₀:Heap} {C:Cx} {names:List Str} {m:Str→Option Value} {g:G} {h h':Heap} {s:Shared} {an:Nat→Str} {P:P}
theorem uu {b:Bool} {p:Value} {φ:List uP0} {bd:uP0→Prop} (V:VRel T φ bd h (.bool b) p):p=.bool b:=by cases V; rfl
theorem yu {v:V} {σ:H} {b:Bool} (e:truthy v σ=some b):v=.bool b:=by
 cases v with
 | bool c=>exact congrArg V.bool (kT0.inj e)
 | _=>exact nsO e
theorem As {e:Expr} {f:St→R V} (hi:∀ t,isTrue e C.env t=(do let v ← t; standAt e.pos; PySem.holding [v] (PySem.truthy v))) (d:jh prog w T b₀ C names (eval e C.env) f) :
  Bs prog w T b₀ C names (isTrue e C.env (eval e C.env)) (fun st=>(f st).bind fun v st=>match truthy v st.σ with | some b=>.ok b st | none=>.bad):=by
 intro m g s st I L
 rw [hi]
 refine (d m g s st I L).bind fun v st1 _ g1 h1 tk1 p P1 V1=>Den.standAt (Den.holding ?_)
 cases e:truthy v st1.σ with
 | none=>exact Den.bad
 | some b =>
  obtain rfl:=yu e
  obtain rfl:=uu V1
  exact Den.of_wp rfl fun Q E hq=>uN0 (hq g1 h1 tk1 b (.here P1.inv P1.loc) rfl)
theorem Dt {x:Str} {i:Nat} {pos:Pos} {st:St} {vs:List V} (k:COk C names) (I:Inv prog w T b₀ C g st.σ s.heap) (L:Loc T C g names st.ρ m s.heap) (hi:names[i]?=some x) (hv:st.ρ[i]?=some (some (.own vs))) :
  Den prog w T b₀ RvB C names m g s (isTrue (.Name x pos) C.env (eval (.Name x pos) C.env)) (.ok (!vs.isEmpty) st):=by
 refine x2a5 (L.own i x vs hi hv) fun a its hm ho hl V hb=>?_
 have hx:=vx0 hi
 refine Den.of_wp rfl fun Q E hq=>?_
 show wpAny _ _ (do let v ← eval (.Name x pos) C.env; standAt _; PySem.holding [v] (PySem.truthy v)) _ _ _
 refine uF0 (wpAny_Name (uL0 k.kind (k.loc x hx) L.ns hm (uF0 (uI0 (uH0 ?_)))) (k.dbg x hx))
 refine x1a1 hl fun n hl=>?_
 have hlen:=V.length
 have he:its.isEmpty=vs.isEmpty:=by
  obtain ⟨its⟩:=its
  cases V <;> rfl
 refine wpAny_truthy_list ⟨_,hl,rfl,n,rfl⟩ (by rw [← uB0,← hlen]; unfold qD at hb; omega) ?_
 rw [he]
 exact hq g s.heap _ _ (.here I L) rfl
theorem Qx {x:Expr} {pos:Pos} {f:St→R Bool} (d:Bs prog w T b₀ C names (isTrue x C.env (eval x C.env)) f) (t:Sem Value) :
  Bs prog w T b₀ C names (isTrue (.UnaryOp .Not x pos) C.env t) (fun st=>(f st).bind fun b st=>.ok (!b) st):=by
 intro m g s st I L
 show Den _ _ _ _ _ _ _ _ _ _ (do return !(← isTrue x C.env (eval x C.env))) _
 refine (d m g s st I L).bind fun b st1 _ g1 h1 tk1 p P1 V1=>?_
 cases V1
 exact Den.pure P1.inv P1.loc rfl
theorem ym (op:BoolOp) (x:Expr) (r:List Expr) (env:Env):allTrue op (x::r) env=(do
  match op,← isTrue x env (eval x env) with
  | .And,false=>pure false
  | .Or,true=>pure true
  | _,_=>allTrue op r env):=rfl
theorem Du {op:BoolOp} {x:Expr} {f:St→R Bool} (d:Bs prog w T b₀ C names (isTrue x C.env (eval x C.env)) f):Bs prog w T b₀ C names (allTrue op [x] C.env) f:=by
 intro m g s st I L Q E hq he hb
 rw [ym]
 refine uF0 (d m g s st I L _ _ (fun a st' e g' h' tk p P V=>?_) he hb)
 cases V
 have q:=hq a st' e g' h' tk a P rfl
 cases op <;> cases a <;> exact uG0 q
theorem IF {x y:Expr} {r:List Expr} {f fr:St→R Bool} (d:Bs prog w T b₀ C names (isTrue x C.env (eval x C.env)) f) (dr:Bs prog w T b₀ C names (allTrue .And (y::r) C.env) fr) :
  Bs prog w T b₀ C names (allTrue .And (x::y::r) C.env) (fun st=>(f st).bind fun t st=>if t then fr st else .ok false st):=by
 intro m g s st I L
 rw [ym]
 refine (d m g s st I L).bind fun t st1 _ g1 h1 tk1 p P1 V1=>?_
 cases V1
 cases t
 ·exact Den.pure P1.inv P1.loc rfl
 ·exact dr m g1 _ st1 P1.inv P1.loc
theorem Nh {x y:Expr} {r:List Expr} {f fr:St→R Bool} (d:Bs prog w T b₀ C names (isTrue x C.env (eval x C.env)) f) (dr:Bs prog w T b₀ C names (allTrue .Or (y::r) C.env) fr) :
  Bs prog w T b₀ C names (allTrue .Or (x::y::r) C.env) (fun st=>(f st).bind fun t st=>if t then .ok true st else fr st):=by
 intro m g s st I L
 rw [ym]
 refine (d m g s st I L).bind fun t st1 _ g1 h1 tk1 p P1 V1=>?_
 cases V1
 cases t
 ·exact dr m g1 _ st1 P1.inv P1.loc
 ·exact Den.pure P1.inv P1.loc rfl
theorem Den.truth {t:Sem Value} {r:R Bool} (d:Den prog w T b₀ (fun _ _ (a:Bool) (b:Value)=>b=.bool a) C names m g s t r):Den prog w T b₀ RvB C names m g s (do let c ← t; PySem.holding [c] (PySem.truthy c)) r:=by
 intro Q E hq he hb
 refine uF0 (d _ _ (fun a st e g' h' tk p P V=>?_) he hb)
 subst V
 exact uH0 (uN0 (hq a st e g' h' tk a P rfl))
theorem Qy {l r:Expr} {pos:Pos} {o:Cmp} {fl fr:St→R V} {t:Sem Value} (hu:C.A.units+64<cLine) (hm:behindInMarks (zi o) r=false) (dl:jh prog w T b₀ C names (eval l C.env) fl) (dr:jh prog w T b₀ C names (eval r C.env) fr) :
  Bs prog w T b₀ C names (isTrue (.Compare l [zi o] [r] pos) C.env t) (fun st=>(fl st).bind fun x st=>(fr st).bind fun y st=>match qF o x y with | some v=>.ok v st | none=>.bad):=by
 intro m g s st I L
 rw [isTrue_Compare1,uO0 hm]
 refine (dl m g s st I L).bind fun x st1 _ g1 h1 tk1 p P1 V1=>?_
 refine (Den.holding (dr m g1 _ st1 P1.inv P1.loc)).bind fun y st2 _ g2 h2 tk2 q P2 V2=>?_
 refine Den.standAt ?_
 cases e:qF o x y with
 | none=>exact Den.bad
 | some v=>exact Den.truth (Den.operate (wc hu P2.inv P2.loc (V1.lift P2.step) V2 e))
theorem QI {x:Expr} {pos:Pos} {f:St→R V} (d:jh prog w T b₀ C names (eval x C.env) f) :
  jh prog w T b₀ C names (eval (.UnaryOp .Not x pos) C.env) (fun st=>(f st).bind fun v st=>match truthy v st.σ with | some b=>.ok (.bool (!b)) st | none=>.bad):=by
 intro m g s st I L
 show Den _ _ _ _ _ _ _ _ _ _ (do let v ← eval x C.env; standAt pos; PySem.holding [v] (unaryOp .Not v)) _
 refine (d m g s st I L).bind fun v st1 _ g1 h1 tk1 p P1 V1=>Den.standAt (Den.holding ?_)
 cases e:truthy v st1.σ with
 | none=>exact Den.bad
 | some b =>
  obtain rfl:=yu e
  obtain rfl:=uu V1
  exact Den.of_wp rfl fun Q E hq=>not_value (uN0 (hq g1 h1 tk1 _ (.here P1.inv P1.loc) (.bool _)))
theorem uv (pos:Pos) (op:BoolOp) (x y:Sem Value) (r:List (Sem Value)):boolOp pos op (x::y::r)=(do
  let v ← x
  standAt pos
  let t ← PySem.holding [v] (PySem.truthy v)
  match op,t with
  | .And,false | .Or,true=>pure v
  | _,_=>boolOp pos op (y::r)):=rfl
theorem IJ {pos:Pos} {x y:Sem Value} {r:List (Sem Value)} {f fr:St→R V} (d:jh prog w T b₀ C names x f) (dr:jh prog w T b₀ C names (boolOp pos .And (y::r)) fr) :
  jh prog w T b₀ C names (boolOp pos .And (x::y::r)) (fun st=>(f st).bind fun v st=>match truthy v st.σ with | some true=>fr st | some false=>.ok v st | none=>.bad):=by
 intro m g s st I L
 rw [uv]
 refine (d m g s st I L).bind fun v st1 _ g1 h1 tk1 p P1 V1=>Den.standAt ?_
 cases e:truthy v st1.σ with
 | none=>exact Den.bad
 | some b =>
  obtain rfl:=yu e
  obtain rfl:=uu V1
  intro Q E hq he hb
  refine uF0 (uH0 (uN0 ?_))
  cases b
  ·exact uG0 (hq _ _ rfl g1 h1 tk1 _ (.here P1.inv P1.loc) V1)
  ·exact dr m g1 {s with heap:=h1,toks:=tk1} st1 P1.inv P1.loc Q E hq he hb
theorem Nr {pos:Pos} {x y:Sem Value} {r:List (Sem Value)} {f fr:St→R V} (d:jh prog w T b₀ C names x f) (dr:jh prog w T b₀ C names (boolOp pos .Or (y::r)) fr) :
  jh prog w T b₀ C names (boolOp pos .Or (x::y::r)) (fun st=>(f st).bind fun v st=>match truthy v st.σ with | some false=>fr st | some true=>.ok v st | none=>.bad):=by
 intro m g s st I L
 rw [uv]
 refine (d m g s st I L).bind fun v st1 _ g1 h1 tk1 p P1 V1=>Den.standAt ?_
 cases e:truthy v st1.σ with
 | none=>exact Den.bad
 | some b =>
  obtain rfl:=yu e
  obtain rfl:=uu V1
  intro Q E hq he hb
  refine uF0 (uH0 (uN0 ?_))
  cases b
  ·exact dr m g1 {s with heap:=h1,toks:=tk1} st1 P1.inv P1.loc Q E hq he hb
  ·exact uG0 (hq _ _ rfl g1 h1 tk1 _ (.here P1.inv P1.loc) V1)
theorem QM {c a b:Expr} {pos:Pos} {fc:St→R Bool} {fa fb:St→R V} (dc:Bs prog w T b₀ C names (isTrue c C.env (eval c C.env)) fc) (da:jh prog w T b₀ C names (eval a C.env) fa) (db:jh prog w T b₀ C names (eval b C.env) fb) :
  jh prog w T b₀ C names (eval (.IfExp c a b pos) C.env) (fun st=>(fc st).bind fun t st=>if t then fa st else fb st):=by
 intro m g s st I L
 show Den _ _ _ _ _ _ _ _ _ _ (do if ← isTrue c C.env (eval c C.env) then eval a C.env else eval b C.env) _
 refine (dc m g s st I L).bind fun t st1 _ g1 h1 tk1 p P1 V1=>?_
 cases V1
 cases t
 ·exact db m g1 _ st1 P1.inv P1.loc
 ·exact da m g1 _ st1 P1.inv P1.loc
theorem jM {M:Model} {A:Around} {vs ks:List Value} {Q:Unit→Shared→Prop} {E:Value→Shared→Prop} (h:Q () s):wpAny M A (release vs ks) Q E s:=fun Γ p _=>by rw [Sem.wp_release]; exact h
theorem Nq {l y z:Expr} {pos:Pos} {o:Cmp} {fl fy fz:St→R V} (hu:C.A.units+64<cLine) (h2:behindInMarks (zi o) z=false)
  (dl:jh prog w T b₀ C names (eval l C.env) fl) (dy:jh prog w T b₀ C names (eval y C.env) fy) (dz:jh prog w T b₀ C names (eval z C.env) fz) :
  jh prog w T b₀ C names (eval (.Compare l [zi o,zi o] [y,z] pos) C.env) (fun st=>(fl st).bind fun a st=>(fy st).bind fun b st=>match qF o a b with
   | some true=>(fz st).bind fun c st=>(match qF o b c with | some v=>.ok (.bool v) st | none=>.bad)
   | some false=>.ok (.bool false) st
   | none=>.bad):=by
 intro m g s st I L
 have e0:eval (.Compare l [zi o,zi o] [y,z] pos) C.env=(do
   let left ← eval l C.env
   let rv ← PySem.holding [left] (eval y C.env)
   standAt pos
   let c ← PySem.holding [left,rv] (compareOp (zi o) left rv)
   release [left,rv] [c]
   if ← PySem.holding [c,rv] (PySem.truthy c) then (do
    let rv2 ← PySem.holding [rv] (markedBehindIn (zi o) z (eval z C.env))
    standAt pos
    PySem.operate [rv,rv2] (compareOp (zi o) rv rv2)) else pure c):=rfl
 rw [e0,uO0 h2]
 refine (dl m g s st I L).bind fun a st1 _ g1 h1 tk1 p P1 V1=>?_
 refine (Den.holding (dy m g1 _ st1 P1.inv P1.loc)).bind fun b st2 _ g2 h2 tk2 q P2 V2=>Den.standAt ?_
 cases e:qF o a b with
 | none=>exact Den.bad
 | some t =>
  intro Q E hq he hb
  refine uF0 (uH0 (wc hu P2.inv P2.loc (V1.lift P2.step) V2 e _ _ (fun a' st' e' g3 h3 tk3 p3 P3 V3=>?_) (fun st e=>by exact oeR e) fun e=>by exact obR e))
  cases e'
  subst V3
  refine uF0 (jM (uF0 (uH0 (uN0 ?_))))
  cases t
  ·exact uG0 (hq _ _ rfl g3 h3 tk3 _ P3 (.bool _))
  ·have D:Den prog w T b₀ (RvV T C) C names m g3 {s with heap:=h3,toks:=tk3} (do
     let rv2 ← PySem.holding [q] (eval z C.env)
     standAt pos
     PySem.operate [q,rv2] (compareOp (zi o) q rv2)) ((fz st2).bind fun c st=>(match qF o b c with | some v=>.ok (.bool v) st | none=>.bad)):=by
    refine (Den.holding (dz m g3 _ st2 P3.inv P3.loc)).bind fun c st4 _ g4 h4 tk4 r P4 V4=>Den.standAt (Den.operate ?_)
    cases e2:qF o b c with
    | none=>exact Den.bad
    | some v=>exact (wc hu P4.inv P4.loc ((V2.lift P3.step).lift P4.step) V4 e2).mapB
   exact D Q E (fun a st e g' h' tk p P V=>hq a st e g' h' tk p (P3.trans P) V) (fun st e g' h' tk x P F=>he st e g' h' tk x (P3.trans P) (F.back P3.step)) hb
theorem GI {x:Expr} {k:Nat} {pos cp:Pos} {f:St→R V} (d:jh prog w T b₀ C names (eval x C.env) f) :
  jh prog w T b₀ C names (eval (.Compare x [.Is] [.Constant .none k cp] pos) C.env) (fun st=>(f st).bind fun v st=>.ok (.bool (xE v)) st):=by
 intro m g s st I L
 rw [eval_Compare1,uO0 rfl]
 refine (d m g s st I L).bind fun v st1 _ g1 h1 tk1 p P1 V1=>?_
 refine Den.of_wp rfl fun Q E hq=>uF0 (uH0 (uG0 (uF0 (uI0 (xu ?_)))))
 have fin:∀ b,xE v=b→Q (.bool b) {s with heap:=h1,toks:=tk1}:=fun b e=>hq g1 h1 tk1 _ (.here P1.inv P1.loc) (by rw [e]; exact .bool _)
 cases V1
 ·exact wpAny_is_plain rfl (fin _ rfl)
 all_goals exact wpAny_is_plain rfl (fin _ rfl)
end
noncomputable def wL:Expr→Bool
 | .Slice _ _ _ _=>false
 | _=>true
theorem jt {e:Expr} (h:wL e=true) (o i:Value):subscripted e false o i=operate [o,i] (getItem o i):=by
 cases e <;> first | rfl | exact ftB h
section
variable {prog:Program} {w:World} {K:Frag} {T:TT} {b₀:Heap} {C:Cx} {names:List Str} {m:Str→Option Value} {g:G} {h h':Heap} {s:Shared} {an:Nat→Str} {P:P}
theorem VsRel.size {φ:List uP0} {bd:uP0→Prop} {vs:List V} {its:Array Value} (k:VsRel T φ bd h vs its.toList):vs.length=its.size:=k.length.trans uB0
theorem wk {i:Int} {n:Nat} (h0:0≤i) (h1:i.toNat<n):seqIndex? i n=some i.toNat:=by
 unfold seqIndex?
 have a:¬ i<0:=by exact kD0.mpr h0
 simp only [a,if_false]
 rw [if_pos (by simp; exact o62 _ _ h1 a)]
theorem Iq {vs:List V} {its:Array Value} {i:Int} {v:V} {bd:uP0→Prop} {φ:List uP0} (V:VsRel T φ bd h vs its.toList) (e:vs[i.toNat]?=some v):∃ q,its[i.toNat]?=some q∧VRel T φ bd h v q∧i.toNat<its.size:=by
 refine x1a2 (V.get e) fun q hq W=>?_
 rw [ux0] at hq
 exact (c1a3 q hq W ((uz0.mp hq).1))
theorem KS.find {φ:List uP0} {bd:uP0→Prop} {es:List (V×V)} {ks:List (Str×Value)} (k:KS T φ bd h es ks) {x:List Nat}:(jB (.str x) es=none∧valueAt ks (toS x)=none)∨∃ v p,jB (.str x) es=some v∧valueAt ks (toS x)=some p∧VRel T φ bd h v p:=by
 induction k with
 | nil=>exact .inl ⟨rfl,rfl⟩
 | @cons y v p es ks V _ ih =>
  by_cases hy:x=y
  ·subst hy
   refine .inr (c2a3 v p (UO (vJ x)) ?_ V)
   ·simp [valueAt]
  ·have h1:veq (.str x) (.str y)=false:=beq_eq_false_iff_ne.mpr hy
   have h2:¬ (toS y:Str)=toS x:=fun q=>hy (by
    have:y.toArray=x.toArray:=congrArg Str.cps q
    simpa using this.symm)
   have e1:jB (.str x) ((.str y,v)::es)=jB (.str x) es:=UP h1
   have e2:valueAt ((toS y,p)::ks) (toS x)=valueAt ks (toS x):=by simp [valueAt,h2]
   rw [e1,e2]; exact ih
theorem KI.find {φ:List uP0} {bd:uP0→Prop} {es:List (V×V)} {ks:List (Int×Value)} (k:KI T φ bd h es ks) {x:Int}:(jB (.int x) es=none∧valueAt ks x=none)∨∃ v p,jB (.int x) es=some v∧valueAt ks x=some p∧VRel T φ bd h v p:=by
 induction k with
 | nil=>exact .inl ⟨rfl,rfl⟩
 | @cons y v p es ks V _ ih =>
  by_cases hy:x=y
  ·subst hy
   refine .inr (c2a3 v p (UO (vK x)) ?_ V)
   ·simp [valueAt]
  ·have h1:veq (.int x) (.int y)=false:=beq_eq_false_iff_ne.mpr hy
   have h2:¬ y=x:=fun q=>hy q.symm
   have e1:jB (.int x) ((.int y,v)::es)=jB (.int x) es:=UP h1
   have e2:valueAt ((y,p)::ks) x=valueAt ks x:=by simp [valueAt,h2]
   rw [e1,e2]; exact ih
theorem KS.got {φ:List uP0} {bd:uP0→Prop} {es:List (V×V)} {ks:List (Str×Value)} (k:KS T φ bd h es ks) {x:List Nat} {v:V} (e:jB (.str x) es=some v):∃ p,valueAt ks (toS x)=some p∧VRel T φ bd h v p :=
 k.find.elim (fun q=>nsO (q.1.symm.trans e)) fun q=>x2a3 q fun v' p q1 q2 Z=>c1a2 p q2 (kT0.inj (q1.symm.trans e)▸Z)
theorem KI.got {φ:List uP0} {bd:uP0→Prop} {es:List (V×V)} {ks:List (Int×Value)} (k:KI T φ bd h es ks) {x:Int} {v:V} (e:jB (.int x) es=some v):∃ p,valueAt ks x=some p∧VRel T φ bd h v p :=
 k.find.elim (fun q=>nsO (q.1.symm.trans e)) fun q=>x2a3 q fun v' p q1 q2 Z=>c1a2 p q2 (kT0.inj (q1.symm.trans e)▸Z)
theorem kg {k:V} {es:List (V×V)} (e:KB k es=true):(∃ x,k=.str x∧qx0 es)∨∃ x,k=.int x∧qy0 es:=by
 unfold KB at e
 rw [uq0,ug0,ug0] at e
 rcases e with ⟨a,b⟩ | ⟨a,b⟩
 ·left
  cases k <;> simp [isS] at a
  refine (c1a2 _ rfl (fun q hq=>?_))
  have:=vE0.mp b q hq
  generalize hq1:q.1=z at this
  cases z <;> simp [isS] at this
  exact ⟨_,rfl⟩
 ·right
  cases k <;> simp [isI] at a
  refine (c1a2 _ rfl (fun q hq=>?_))
  have:=vE0.mp b q hq
  generalize hq1:q.1=z at this
  cases z <;> simp [isI] at this
  exact ⟨_,rfl⟩
theorem yH {σ:H} {n:Nat} {o:O} {p:Value} (I:Inv prog w T b₀ C g σ h) (V:RvV T C h g (.ref n) p) (e:σ[n]?=some o):∃ x d,p=.ref x∧g.φ[n]?=some x∧g.μ[n]?=some d∧ORel prog w T g.φ (bad C g) h o x d:=by
 cases V with
 | ref hn =>
  refine x2a3 (I.objs n _ e) fun x d h1 h2 r=>?_
  rw [hn] at h1; cases h1
  exact (c2a4 _ d rfl hn h2 r)
theorem jY {x:uP0} {its:Array Value} (p:h.PlainList x its):h.IsList x its:=let ⟨n,e⟩:=p; ⟨_,e,rfl,n,rfl⟩
theorem Inv.low {K:Frag} {σ:H} (B:BOk K b₀) (I:Inv prog w T b₀ C g σ h) {b:uP0} (q:bad C g b):(b==sysModules)=false:=beq_eq_false_iff_ne.mpr fun e=>by
 subst e
 exact I.notBad B.mods q
theorem Iv {i:Int} (h:¬ ((decide (i<0)||!okI i)=true)):0≤i∧i<2 ^ 63:=by
 rw [uq0,decide_eq_true_eq,up0,not_or,Bool.not_eq_false] at h
 have:=vi h.2
 unfold Gl at this
 omega
theorem NK {vs:List V} {k v:V} (e:atI vs k=some v):∃ i,k=.int i∧(0≤i∧i<2 ^ 63)∧vs[i.toNat]?=some v:=by
 cases k with
 | int i=>exact c1a3 i rfl (Iv (ifn e).1) (ifn e).2
 | _=>exact nsO e
theorem Yu {st:St} {x y v:V} {p q:Value} {value slice:Expr} (hs:wL slice=true) (I:Inv prog w T b₀ C g st.σ s.heap) (L:Loc T C g names st.ρ m s.heap) (V:RvV T C s.heap g x p) (W:RvV T C s.heap g y q) (e:zB x y st.σ=some v) :
  Den prog w T b₀ (RvV T C) C names m g s (subscriptTail value slice p q) (.ok v st):=by
 refine Den.of_wp rfl fun Q E hq=>?_
 have atList:∀ {a its vs},p=.ref a→s.heap.IsList a its→VsRel T g.φ (bad C g) s.heap vs its.toList→atI vs y=some v→wpAny (model prog w) C.A (subscriptTail value slice p q) Q E s:=fun {a its vs} h1 hl V' e=>by
  subst h1
  refine x1a3 (NK e) fun i uR0 hi e2=>?_; subst uR0
  refine x1a1 (xk W) fun t uQ0=>?_; rw [uQ0]
  refine x1a3 (Iq V' e2) fun z hz Z hlt=>?_
  exact tail_any hl.typeIs slot_list_getitem.lookup (wpAny_getItem_list hl (by exact hi.1) (by exact hi.2) hz (hq g s.heap s.toks z (.here I L) Z)) (jt hs _ _)
 cases x with
 | tup vs =>
  refine x1a3 (NK e) fun i uR0 hi e2=>?_; subst uR0
  refine x2a4 (xD V) fun a its uQ0 ht _ V'=>?_; rw [uQ0]
  refine x1a1 (xk W) fun t uQ0=>?_; rw [uQ0]
  refine x1a3 (Iq V' e2) fun z hz Z hlt=>?_
  exact tail_any ht.typeIs slot_tuple_getitem.lookup (getItem_tuple ht (by omega) (by exact hi.2) (wk (by exact hi.1) hlt) hz (hq g s.heap s.toks z (.here I L) Z)) (jt hs _ _)
 | lst vs=>exact x2a4 (jJ V) fun a its h1 hl _ V'=>atList h1 hl V' e
 | str a =>
  cases y with
  | int i =>
   have hi:=Iv (ifn e).1
   refine x1a1 (zS V) fun u uQ0=>?_; rw [uQ0]
   refine x1a1 (xk W) fun t uQ0=>?_; rw [uQ0]
   refine x1a2 (kS0.mp (ifn e).2) fun c hc uQ0=>?_; subst uQ0
   have hlt:i.toNat<a.length:=(vv0.mp hc).1
   refine tail_any (typeIs_str s _ _) PySem.F.slot_str_getitem.lookup (PySem.P.getItem_str (c:=c) ?_ ?_ (hq g s.heap _ _ (.here I L) (.str [c] _))) (jt hs _ _)
   ·rw [ul0]; exact ⟨decide_eq_false (by omega),decide_eq_false (by exact kQ0.mpr hi.2)⟩
   ·rw [wk (by exact hi.1) (by rw [zk]; exact hlt),kZ0]
    show a.toArray[i.toNat]?=some c
    rw [List.getElem?_toArray]; exact hc
  | _=>exact nsO e
 | ref n =>
  refine x1a2 (kU0.mp e) fun o ho e=>?_
  refine x2a4 (yH I V ho) fun x d uQ0 hn _ r=>?_
  cases r with
  | list hl V' _=>exact atList uQ0 (jY hl) V' e
  | dict hS hI _ _ =>
   rw [uQ0]
   have e:=ift e
   rcases kg e.1 with ⟨k,rfl,hk2⟩ | ⟨k,rfl,hk2⟩
   ·refine x1a1 (zS W) fun t uQ0=>?_; subst uQ0
    refine x1a2 (hS hk2) fun ks hd k'=>?_
    exact x1a2 (k'.got e.2) fun z q2 Z=>tail_any hd.typeIs PySem.slot_dict_getitem.lookup (wpAny_getItem_of (strKind_is prog w (toS k) t) hd.mapOf q2 (hq g s.heap _ z (.here I L) Z)) (jt hs _ _)
   ·refine x1a1 (xk W) fun t uQ0=>?_; subst uQ0
    refine x1a2 (hI hk2) fun ks hd k'=>?_
    exact x1a2 (k'.got e.2) fun z q2 Z=>tail_any hd.typeIs PySem.slot_dict_getitem.lookup (wpAny_getItem_of (intKind_is prog w k t) hd.mapOf q2 (hq g s.heap _ z (.here I L) Z)) (jt hs _ _)
  | inst=>exact nsO e
 | _=>exact nsO e
theorem yj (value slice:Expr) (pos:Pos) (env:Env):eval (.Subscript value slice pos) env=(do
  let o ← eval value env
  let i ← PySem.holding [o] (eval slice env)
  standAt pos
  subscriptTail value slice o i):=rfl
theorem QN {a b:Expr} {pos:Pos} {fa fb:St→R V} (hs:wL b=true) (da:jh prog w T b₀ C names (eval a C.env) fa) (db:jh prog w T b₀ C names (eval b C.env) fb) :
  jh prog w T b₀ C names (eval (.Subscript a b pos) C.env) (fun st=>(fa st).bind fun x st=>(fb st).bind fun y st=>match zB x y st.σ with | some v=>.ok v st | none=>.bad):=by
 intro m g s st I L
 rw [yj]
 refine (da m g s st I L).bind fun x st1 _ g1 h1 tk1 p P1 V1=>?_
 refine (Den.holding (db m g1 _ st1 P1.inv P1.loc)).bind fun y st2 _ g2 h2 tk2 q P2 V2=>Den.standAt ?_
 cases e:zB x y st2.σ with
 | none=>exact Den.bad
 | some v=>exact Yu hs P2.inv P2.loc (V1.lift P2.step) V2 e
theorem Ys {st:St} {v:V} {n:Int} {p:Value} (I:Inv prog w T b₀ C g st.σ s.heap) (L:Loc T C g names st.ρ m s.heap) (V:RvV T C s.heap g v p) (e:zb v st.σ=some n) :
  Den prog w T b₀ (RvV T C) C names m g s (call (.builtin "len") [p]) (.ok (.int n) st):=by
 refine Den.of_wp rfl fun Q E hq=>?_
 have lst:∀ {a its} {vs:List Mine.V},p=.ref a→s.heap.IsList a its→VsRel T g.φ (bad C g) s.heap vs its.toList→vs.length≤qD→(vs.length:Int)=n→wpAny (model prog w) C.A (call (.builtin "len") [p]) Q E s:=fun {a its vs} h0 hl V' hk en=>by
  rw [h0]
  have h1:=V'.size
  refine PyProof.Rows.len_list hl (by rw [← h1]; unfold qD at hk; omega) ?_
  rw [← h1,en]
  exact hq g s.heap _ _ (.here I L) (.int _ _)
 cases v with
 | str a =>
  refine x1a1 (zS V) fun u uQ0=>?_; rw [uQ0]
  have e:=ift e
  have hk:=e.1
  have h1:=zk a
  refine PySem.P.len_str (by rw [h1]; unfold qD at hk; omega) ?_
  rw [h1,kT0.inj e.2]
  exact hq g s.heap _ _ (.here I L) (.int _ _)
 | lst vs=>exact x2a4 (jJ V) fun a its h0 hl _ V'=>lst h0 hl V' (ift e).1 (kT0.inj (ift e).2)
 | ref r =>
  refine x1a2 (uM e) fun vs ho e=>?_
  refine x2a4 (yH I V ho) fun x d h0 hn _ r=>?_
  cases r with
  | list hl V' hk=>exact lst h0 (jY hl) V' hk (kT0.inj e)
 | _=>exact nsO e
end
noncomputable def qU:Expr→Bool
 | .Starred _ _=>false
 | _=>true
theorem jN {e:Expr} (h:qU e=true) (r:List Expr) (env:Env):starEach (e::r) env=(false,eval e env)::starEach r env:=by
 cases e <;> first | rfl | exact ftB h
section
variable {prog:Program} {w:World} {K:Frag} {T:TT} {b₀:Heap} {C:Cx} {names:List Str} {m:Str→Option Value} {g:G} {h h':Heap} {s:Shared} {an:Nat→Str} {P:P}
theorem NQ {φ:List uP0} {bd:uP0→Prop}:∀ {vs:List V} {ps:List Value},VsRel T φ bd h vs ps→vs.all isS=true→∀ x:List Nat,(∀ y∈ps,∃ z t,y=.str (toS z) t)∧vs.any (veq (.str x))=ps.any (fun y=>match y with | .str z _=>z==toS x | _=>false)
 | _,_,.nil,_,_=>⟨fun _ h=>(nomatch h),rfl⟩
 | _,_,.cons (v:=v) a r,k,x=>by
  rw [wv0,ug0] at k
  refine zz (NQ r k.2 x) fun h1 h2=>?_
  cases v with
  | str z =>
   refine x1a1 (zS a) fun t uQ0=>?_; subst uQ0
   refine ⟨fun y hy=>?_,?_⟩
   ·rcases vI0.mp hy with rfl | hy
    ·exact (c2a1 _ _ rfl)
    ·exact h1 y hy
   ·rw [wm0,wm0,h2]
    show (veq (.str x) (.str z)||_)=((toS z==toS x)||_)
    rw [JZ,uo0]; rfl
  | _=>exact ftB k.1
theorem NR {φ:List uP0} {bd:uP0→Prop}:∀ {vs:List V} {ps:List Value},VsRel T φ bd h vs ps→vs.all isI=true→∀ x:Int,(∀ y∈ps,∃ z t,y=.int z t)∧vs.any (veq (.int x))=ps.any (fun y=>match y with | .int z _=>z==x | _=>false)
 | _,_,.nil,_,_=>⟨fun _ h=>(nomatch h),rfl⟩
 | _,_,.cons (v:=v) a r,k,x=>by
  rw [wv0,ug0] at k
  refine zz (NR r k.2 x) fun h1 h2=>?_
  cases v with
  | int z =>
   refine x1a1 (xk a) fun t uQ0=>?_; subst uQ0
   refine ⟨fun y hy=>?_,?_⟩
   ·rcases vI0.mp hy with rfl | hy
    ·exact (c2a1 _ _ rfl)
    ·exact h1 y hy
   ·rw [wm0,wm0,h2]
    show (veq (.int x) (.int z)||_)=((z==x)||_)
    rw [uo0]; rfl
  | _=>exact ftB k.1
noncomputable def UB:Bool→CmpOp
 | false=>.In
 | true=>.NotIn
theorem Bq {its:Array Value} {f:Value→Bool}:its.any f=its.toList.any f:=(uC0 ..).symm
theorem UL {st:St} {x y:V} {neg v:Bool} {p q:Value} (B:BOk K b₀) (I:Inv prog w T b₀ C g st.σ s.heap) (L:Loc T C g names st.ρ m s.heap) (V:RvV T C s.heap g x p) (W:RvV T C s.heap g y q) (hn:neg=false∨∀ z,y≠.str z) (e:jC0 x y st.σ=some v) :
  Den prog w T b₀ (fun _ _ (a:Bool) (b:Value)=>b=.bool a) C names m g s (compareOp (UB neg) p q) (.ok (v != neg) st):=by
 refine Den.of_wp rfl fun Q E hq=>?_
 have fin:∀ tk,Q (.bool (v != neg)) {s with toks:=tk}:=fun tk=>hq g s.heap tk _ (.here I L) rfl
 cases y with
 | str z =>
  cases x with
  | str l =>
   rcases l with _ | ⟨c,_ | _⟩
   ·exact nsO e
   ·refine x1a1 (zS V) fun t uQ0=>?_; rw [uQ0]
    refine x1a1 (zS W) fun u uQ0=>?_; rw [uQ0]
    cases e
    rcases hn with rfl | hn
    ·refine PySem.P.in_str ?_
     have:(!(PySem.Builtin.Str.occurrences (toS z) (toS [c]) 0 (toS z).length 1).isEmpty)=z.contains c:=by
      rw [show (toS [c]:Str)=⟨#[c]⟩ from rfl,StrLaws.found_one]
      show decide (c∈z.toArray.toList)=_
      rw [ww0,ke0]
     rw [this]
     simpa using fin s.toks
    ·exact absurd rfl (hn z)
   ·exact nsO e
  | _=>exact nsO e
 | tup vs =>
  cases x with
  | str x =>
   refine x1a1 (zS V) fun t uQ0=>?_; subst uQ0
   refine x2a4 (xD W) fun a its uQ0 ht _ V'=>?_; subst uQ0
   refine zz (zo e) fun hk q1=>?_; subst q1
   refine zz (NQ V' hk x) fun h1 h2=>?_
   have he:∀ z,z∈its→SeqAt.EqAt C.A.in1 s z (.str (toS x) t) (match z with | .str z _=>z==toS x | _=>false):=fun z hz=>by
    refine x2a1 (h1 z (uD0.mpr hz)) fun k u uQ0=>?_; rw [uQ0]
    exact SeqAt.EqAt.str_str _ _ _ _
   cases neg
   ·exact SeqAt.in_tupleAt _ ht he (by rw [Bq,← h2]; simpa using fin s.toks)
   ·exact SeqAt.notIn_tupleAt _ ht he (by rw [Bq,← h2]; simpa using fin s.toks)
  | int x =>
   refine x1a1 (xk V) fun t uQ0=>?_; subst uQ0
   refine x2a4 (xD W) fun a its uQ0 ht _ V'=>?_; subst uQ0
   refine zz (zo e) fun hk q1=>?_; subst q1
   refine zz (NR V' hk x) fun h1 h2=>?_
   have he:∀ z,z∈its→SeqAt.EqAt C.A.in1 s z (.int x t) (match z with | .int z _=>z==x | _=>false):=fun z hz=>by
    refine x2a1 (h1 z (uD0.mpr hz)) fun k u uQ0=>?_; rw [uQ0]
    exact SeqAt.EqAt.int_int _ _ _ _
   cases neg
   ·exact SeqAt.in_tupleAt _ ht he (by rw [Bq,← h2]; simpa using fin s.toks)
   ·exact SeqAt.notIn_tupleAt _ ht he (by rw [Bq,← h2]; simpa using fin s.toks)
  | _=>exact nsO e
 | ref n =>
  have e:UC x st.σ[n]?=some v:=e
  cases ho:st.σ[n]? with
  | none=>rw [ho] at e; exact nsO e
  | some o =>
   rw [ho] at e
   cases o with
   | dict es =>
    refine x2a4 (yH I W ho) fun x' d uQ0 hx hd r=>?_; rw [uQ0]
    cases r with
    | dict hS hI _ _ =>
     have lo:(x'==sysModules)=false:=I.low B (.inl (.inl (vx0 hd)))
     refine zz (zo e) fun hk q1=>?_; subst q1
     rcases kg hk with ⟨k,rfl,hk2⟩ | ⟨k,rfl,hk2⟩
     ·refine x1a1 (zS V) fun t uQ0=>?_; subst uQ0
      refine x1a2 (hS hk2) fun ks hd k'=>?_
      have hv:(valueAt ks (toS k)).isSome=(jB (.str k) es).isSome:=by
       rcases k'.find (x:=k) with ⟨q1,q2⟩ | ⟨v',z,q1,q2,Z⟩ <;> rw [q1,q2] <;> rfl
      cases neg
      ·exact wpAny_in_of (strKind_is prog w (toS k) t) lo hd.mapOf (by rw [hv]; simpa using fin (s.toks+1))
      ·exact wpAny_notIn_of (strKind_is prog w (toS k) t) lo hd.mapOf (by rw [hv]; simpa using fin (s.toks+1))
     ·refine x1a1 (xk V) fun t uQ0=>?_; subst uQ0
      refine x1a2 (hI hk2) fun ks hd k'=>?_
      have hv:(valueAt ks k).isSome=(jB (.int k) es).isSome:=by
       rcases k'.find (x:=k) with ⟨q1,q2⟩ | ⟨v',z,q1,q2,Z⟩ <;> rw [q1,q2] <;> rfl
      cases neg
      ·exact wpAny_in_of (intKind_is prog w k t) lo hd.mapOf (by rw [hv]; simpa using fin (s.toks+1))
      ·exact wpAny_notIn_of (intKind_is prog w k t) lo hd.mapOf (by rw [hv]; simpa using fin (s.toks+1))
   | _=>exact nsO e
 | _=>exact nsO e
noncomputable def yZ (prog:Program) (w:World) (T:TT) (b₀:Heap) (C:Cx) (names:List Str) (es:List Expr) (f:St→R (List V)):Prop :=
 ∀ (pos:Pos) m g s st,Inv prog w T b₀ C g st.σ s.heap→Loc T C g names st.ρ m s.heap→Den prog w T b₀ (yb0 T C) C names m g s (spliced (backTo pos (starEach es C.env))) (f st)
theorem zy:yZ prog w T b₀ C names [] (fun st=>.ok [] st):=fun _ _ _ _ _ I L=>Den.pure I L .nil
theorem zr {e:Expr} {r:List Expr} {f:St→R V} {fr:St→R (List V)} (hs:qU e=true) (d:jh prog w T b₀ C names (eval e C.env) f) (dr:yZ prog w T b₀ C names r fr) :
  yZ prog w T b₀ C names (e::r) (fun st=>(f st).bind fun v st=>(fr st).bind fun vs st=>.ok (v::vs) st):=by
 intro pos m g s st I L
 rw [jN hs]
 show Den _ _ _ _ _ _ _ _ _ _ (eval e C.env >>= fun v=>PySem.holding [v] (spliced (backTo pos (starEach r C.env))) >>= fun vs=>pure (v::vs)) _
 refine (d m g s st I L).bind fun v st1 _ g1 h1 tk1 p P1 V1=>?_
 refine (Den.holding (dr pos m g1 _ st1 P1.inv P1.loc)).bind fun vs st2 _ g2 h2 tk2 ps P2 V2=>?_
 exact Den.pure P2.inv P2.loc (.cons (V1.mono P2.step.mono) V2)
theorem IH {es:List Expr} {k:Nat} {pos:Pos} {f:St→R (List V)} (d:yZ prog w T b₀ C names es f) :
  jh prog w T b₀ C names (eval (.Tuple es k pos) C.env) (fun st=>(f st).bind fun vs st=>if vs.length≤qD then .ok (.tup vs) st else .bad):=by
 intro m g s st I L
 show Den _ _ _ _ _ _ _ _ _ _ (do standAt pos; newTuple (← spliced (backTo pos (starEach es C.env)))) _
 refine Den.standAt ((d pos m g s st I L).bind fun vs st1 _ g1 h1 tk1 ps P1 V1=>?_)
 split
 ·rename_i hk
  have N:=KO P1.inv P1.loc V1
  have hl:=V1.length
  exact Den.of_wp rfl fun Q E hq=>wpAny_newTuple (hq g1 _ _ _ N.1 N.2) (by rw [← hl,uJ0]; unfold qD at hk; exact yd0 hk)
 ·exact Den.bad
noncomputable def G.add (g:G) (x d:uP0):G:=⟨g.φ++[x],g.μ++[d],g.own⟩
theorem XJ {g:G} {x d b:uP0}:may C (g.add x d) b↔may C g b∨b=d:=by
 unfold may G.add
 simp only [vH0,vu0]
 constructor
 ·rintro ((q | q) | q | q | q)
  ·exact .inl (.inl q)
  ·exact .inr q
  ·exact .inl (.inr (.inl q))
  ·exact .inl (.inr (.inr (.inl q)))
  ·exact .inl (.inr (.inr (.inr q)))
 ·rintro ((q | q | q | q) | q)
  ·exact .inl (.inl q)
  ·exact .inr (.inl q)
  ·exact .inr (.inr (.inl q))
  ·exact .inr (.inr (.inr q))
  ·exact .inl (.inr q)
theorem bad_add {g:G} {x d b:uP0}:bad C (g.add x d) b↔bad C g b∨b=d:=by
 unfold bad
 rw [XJ]
 constructor
 ·rintro ((q | q) | q)
  ·exact .inl (.inl q)
  ·exact .inr q
  ·exact .inl (.inr q)
 ·rintro ((q | q) | q)
  ·exact .inl (.inl q)
  ·exact .inr q
  ·exact .inl (.inr q)
theorem GW {st:St} {o:O} {x d:uP0} (I:Inv prog w T b₀ C g st.σ h) (L:Loc T C g names st.ρ m h) (k:∀ b q,h.get? b=some q→h'.get? b=some q) (hd:h.get? d=none) (hx:ORel prog w T (g.φ++[x]) (bad C (g.add x d)) h' o x d) :
  Post prog w T b₀ C names m g h ⟨st.ρ,st.σ++[o]⟩ (g.add x d) h'∧RvV T C h' (g.add x d) (.ref st.σ.length) (.ref x):=by
 have nd:¬ bad C g d:=I.none L hd
 have M:Mono g.φ (g.add x d).φ (bad C g) (bad C (g.add x d)) h h':=⟨vP0 _ _,fun a o e _ _=>k a o e,fun a o e n q=>by
  rcases bad_add.mp q with q | q
  ·exact n q
  ·rw [q,hd] at e; exact nsO e⟩
 have base:b₀.get? d=none:=by
  cases q:b₀.get? d with
  | none=>rfl
  | some o=>rw [I.stay _ _ q] at hd; exact snO hd
 have hd':∃ q,h'.get? d=some q:=by
  cases hx with
  | list a _ _=>refine x1a1 a fun n a=>?_; exact ⟨_,a⟩
  | dict _ _ _ e=>exact ⟨_,e.choose_spec.1⟩
  | inst _ _ c _=>exact ⟨_,c⟩
 refine ⟨⟨⟨?_,?_,?_,?_,?_,?_,?_,?_,?_,?_⟩,⟨L.ns.keeps k,?_,?_,L.one,L.len⟩,⟨vP0 _ _,vP0 _ _,?_,fun b q=>.inl q,fun b o e _=>k b o e,fun b _ _ o e=>⟨o.slots,k b o e⟩,fun b o e=>(c1a2 o (k b o e) id)⟩⟩,?_⟩
 ·show (g.φ++[x]).length=(st.σ++[o]).length
  simp [I.lφ]
 ·show (g.μ++[d]).length=(st.σ++[o]).length
  simp [I.lμ]
 ·show ((g.μ++[d])++g.own).Nodup
  have n:=I.nodup
  rw [vA0] at n
  rw [vM0,vA0,vA0]
  refine (yD n.1 (yD (by simp) n.2.1 ?_) ?_)
  ·intro a ha b hb e
   rw [vu0.mp ha] at e
   subst e
   exact nd (.inl (.inr (.inl hb)))
  ·intro a ha b hb e
   rcases vH0.mp hb with hb | hb
   ·rw [vu0.mp hb] at e
    subst e
    exact nd (.inl (.inl ha))
   ·exact n.2.2 a ha b hb e
 ·intro b q
  rcases q with q | q
  ·rcases vH0.mp q with q | q
   ·exact I.sep b (.inl q)
   ·rw [vu0.mp q]
    exact (yD (fun e=>nd (.inl (.inr (.inr (.inl e))))) (fun e=>nd (.inl (.inr (.inr (.inr e))))) (fun e=>nd (.inr e)))
  ·exact I.sep b (.inr q)
 ·intro b q
  rcases bad_add.mp q with q | q
  ·exact I.fresh b q
  ·rw [q]; exact base
 ·exact fun b o e=>k b o (I.stay b o e)
 ·exact I.frames.of_keeps fun b o e _=>(c1a2 o (k b o e) rfl)
 ·intro i o' e
  have e:(st.σ++[o])[i]?=some o':=e
  by_cases hi:i<st.σ.length
  ·rw [vD0 hi] at e
   refine x2a3 (I.objs i o' e) fun y z h1 h2 r=>?_
   refine (c2a3 y z ?_ ?_ (r.mono M fun q hq=>k _ _ hq))
   ·show (g.φ++[x])[i]?=_
    rw [vD0 (by rw [I.lφ]; exact hi)]; exact h1
   ·show (g.μ++[d])[i]?=_
    rw [vD0 (by rw [I.lμ]; exact hi)]; exact h2
  ·have hl:=(vv0.mp e).1
   rw [vt0,wc0] at hl
   have hi':i=st.σ.length:=by exact yk0 (yj0 hl) (yo0 hi)
   subst hi'
   rw [vz0 (yh0 _),yt0] at e
   cases e
   refine (c2a3 x d ?_ ?_ hx)
   ·show (g.φ++[x])[st.σ.length]?=_
    rw [← I.lφ,vz0 (yh0 _),yt0]; rfl
   ·show (g.μ++[d])[st.σ.length]?=_
    rw [← I.lμ,vz0 (yh0 _),yt0]; rfl
 ·exact fun b q=>let ⟨o,e,n⟩:=I.hidden b q; ⟨o,k _ _ e,n⟩
 ·exact fun b q=>let ⟨o,e,n⟩:=I.ownT b q; ⟨o,k _ _ e,n⟩
 ·exact fun i y v a b=>let ⟨p,h1,h2⟩:=L.val i y v a b; ⟨p,h1,h2.mono M⟩
 ·exact fun i y vs a b=>let ⟨q,its,h1,h2,h3,h4,h5⟩:=L.own i y vs a b; (c2a5 q its h1 h2 (zM k h3) (h4.mono M) h5)
 ·intro b q
  rcases vH0.mp q with q | q
  ·exact .inl q
  ·right; rw [vu0.mp q]; exact hd
 ·refine .ref ?_
  show (g.φ++[x])[st.σ.length]?=_
  rw [← I.lφ,vz0 (yh0 _),yt0]; rfl
theorem OG {x d:uP0} (k:∀ b q,h.get? b=some q→h'.get? b=some q) (hd:h.get? d=none):Mono g.φ (g.φ++[x]) (bad C g) (bad C (g.add x d)) h h' :=
 ⟨vP0 _ _,fun a o e _ _=>k a o e,fun a o e n q=>by
  rcases bad_add.mp q with q | q
  ·exact n q
  ·rw [q,hd] at e; exact nsO e⟩
theorem jd (h:Heap):h.get? h.objs.size=none:=Heap.get?_none_of_le (yh0 _)
theorem wo {st:St} {vs:List V} {ps:List Value} (I:Inv prog w T b₀ C g st.σ h) (L:Loc T C g names st.ρ m h) (V:VsRel T g.φ (bad C g) h vs ps) (hl:vs.length≤qD) :
  Post prog w T b₀ C names m g h ⟨st.ρ,st.σ++[.list vs]⟩ (g.add h.objs.size h.objs.size) (h.push {cls:=.type "list",data:=.seq ps.toArray})∧RvV T C (h.push {cls:=.type "list",data:=.seq ps.toArray}) (g.add h.objs.size h.objs.size) (.ref st.σ.length) (.ref h.objs.size) :=
 GW I L (qX _ _) (jd h) (.list ⟨0,Heap.get?_push_size _ rfl⟩ (V.mono (OG (qX _ _) (jd h))) hl)
theorem QK {hp:Bool} {es:List Expr} {pos:Pos} {f:St→R (List V)} (d:yZ prog w T b₀ C names es f) :
  jh prog w T b₀ C names (eval (.List es pos) C.env) (fun st=>(f st).bind fun vs st=>if qD<vs.length then .bad else if hp then .ok (.ref st.σ.length) {st with σ:=st.σ++[.list vs]} else .ok (.lst vs) st):=by
 intro m g s st I L
 show Den _ _ _ _ _ _ _ _ _ _ (do standAt pos; newList (← spliced (backTo pos (starEach es C.env)))) _
 refine Den.standAt ((d pos m g s st I L).bind fun vs st1 _ g1 h1 tk1 ps P1 V1=>?_)
 split
 ·exact Den.bad
 ·rename_i hk
  have hl:=V1.length
  have hz:ps.length≤sizeLine:=by rw [← hl,uJ0]; unfold qD at hk; exact far [_] [.nl qJ qa] (.le qa (.n 16777216)) rfl hk
  cases hp
  ·have N:=kt P1.inv P1.loc V1
   exact Den.of_wp rfl fun Q E hq=>wpAny_newList (hq g1 _ _ _ N.1 N.2) hz
  ·have N:=wo P1.inv P1.loc V1 (by exact yo0 hk)
   exact Den.of_wp rfl fun Q E hq=>wpAny_newList (hq _ _ _ _ N.1 N.2) hz
end
noncomputable def xW (lo:Option Int) (n:Nat):Nat:=lo.elim 0 fun i=>min i.toNat n
noncomputable def vQ (hi:Option Int) (n:Nat):Nat:=hi.elim n fun i=>min i.toNat n
theorem OE {a:Option Int} {n:Nat}:xW a n≤n:=by
 cases a with
 | none=>exact yq0 _
 | some i=>exact yp0 _ _
theorem OF {a:Option Int} {n:Nat}:vQ a n≤n:=by
 cases a with
 | none=>exact yh0 _
 | some i=>exact yp0 _ _
theorem Ax {lo hi:Option Int} (h1:∀ i,lo=some i→0≤i) (h2:∀ i,hi=some i→0≤i) (n:Nat):sliceBounds lo hi none n=((xW lo n:Int),(vQ hi n:Int),1):=by
 cases lo with
 | none =>
  cases hi with
  | none=>simp [sliceBounds,xW,vQ,kV0]
  | some j =>
   have:=h2 j rfl
   have e:¬ j<0:=by exact kD0.mpr this
   simp only [sliceBounds,xW,vQ,kV0,ua0,kW0,show (1:Int)>0 by decide,if_true,e,if_false]
   congr 1
   congr 1
   exact o63 _ _
 | some i =>
  have:=h1 i rfl
  have e1:¬ i<0:=by exact kD0.mpr this
  cases hi with
  | none =>
   simp only [sliceBounds,xW,vQ,kV0,ua0,kW0,show (1:Int)>0 by decide,if_true,e1,if_false]
   congr 1
   exact o63 _ _
  | some j =>
   have:=h2 j rfl
   have e:¬ j<0:=by exact kD0.mpr this
   simp only [sliceBounds,xW,vQ,kV0,ua0,kW0,show (1:Int)>0 by decide,if_true,e,e1,if_false]
   congr 1
   ·exact o63 _ _
   ·congr 1
    exact o63 _ _
theorem uL {α:Type} (xs:Array α) {lo hi:Option Int} (h1:∀ i,lo=some i→0≤i) (h2:∀ i,hi=some i→0≤i) :
  (sliceRange (sliceBounds lo hi none xs.size).1 (sliceBounds lo hi none xs.size).2.1 (sliceBounds lo hi none xs.size).2.2).filterMap (xs[·]?)=(xs.toList.drop (xW lo xs.size)).take (vQ hi xs.size-xW lo xs.size):=by
 rw [Ax h1 h2]
 simp only [sliceRange_one,pick_run]
noncomputable def Zh (v:V):Option (Option Int):=(ji0 v).map (kX0 kC0)
theorem NZ {α:Type} (l:List α) (j:Nat):l.take (min j l.length)=l.take j:=by
 by_cases h:j≤l.length
 ·rw [ys0 h]
 ·rw [yL0 (by exact far [_,_] [.ng qb qa] (.le qa qb) rfl h),vT0,vQ0 (by exact far [_,_] [.ng qb qa] (.le qa qb) rfl h)]
theorem IC {α:Type} (l:List α) (j:Nat):l.drop (min j l.length)=l.drop j:=by
 by_cases h:j≤l.length
 ·rw [ys0 h]
 ·rw [yL0 (by exact far [_,_] [.ng qb qa] (.le qa qb) rfl h),wS0,wW0 (by exact far [_,_] [.ng qb qa] (.le qa qb) rfl h)]
theorem uq {α:Type} {l r:List α} {lo hi:V} (e:JI l lo hi=some r):∃ a b,Zh lo=some a∧Zh hi=some b∧(∀ i,a=some i→0≤i)∧(∀ i,b=some i→0≤i)∧(l.drop (xW a l.length)).take (vQ b l.length-xW a l.length)=r:=by
 have nn:∀ (a:Option Nat) (i:Int),a.map kC0=some i→0≤i:=fun a i q=>by
  refine x1a2 (kS0.mp q) fun n _ q=>?_
  rw [← q]; exact kt0 n
 refine x1a2 (kU0.mp e) fun a ha e=>?_
 refine x1a2 (kS0.mp e) fun b hb e=>?_
 refine (c2a5 (a.map kC0) (b.map kC0) (congrArg (kX0 (kX0 kC0)) ha) (congrArg (kX0 (kX0 kC0)) hb) (nn a) (nn b) ?_)
 rw [← e]
 cases a with
 | none =>
  cases b with
  | none=>exact vT0
  | some j=>exact NZ l j
 | some i =>
  cases b with
  | none =>
   show (l.drop (min i l.length)).take (l.length-min i l.length)=l.drop i
   rw [IC]
   exact vQ0 (by rw [wa0]; exact yQ0 (yv0 _ _) _)
  | some j =>
   show (l.drop (min i l.length)).take (min j l.length-min i l.length)=(l.take j).drop i
   rw [IC,kp0]
   apply List.ext_getElem?
   intro k
   simp only [wI0,wJ0]
   by_cases h1:k<min j l.length-min i l.length
   ·rw [if_pos h1,if_pos (by exact o65 _ (j:Int) (i:Int) _ h1)]
   ·rw [if_neg h1]
    by_cases h2:k<j-i
    ·rw [if_pos h2,wz0 (by omega)]
    ·rw [if_neg h2]
section
variable {prog:Program} {w:World} {K:Frag} {T:TT} {b₀:Heap} {C:Cx} {names:List Str} {m:Str→Option Value} {g:G} {h h':Heap} {s:Shared} {an:Nat→Str} {P:P}
theorem wI {φ:List uP0} {bd:uP0→Prop} {v:V} {p:Value} {a:Option Int} (V:VRel T φ bd h v p) (e:Zh v=some a):IsPart p a∧∃ t:Option (Int×Tok),p=partValue t∧t.map (·.1)=a:=by
 cases v with
 | none=>cases V; cases e; exact ⟨.none,none,rfl,rfl⟩
 | int i =>
  cases V
  cases i with
  | ofNat n=>cases e; exact ⟨.int _ _,some (_,_),rfl,rfl⟩
  | negSucc n=>exact nsO e
 | _=>exact nsO e
theorem AH {its:Array Value} {a b:Option Int} (h1:∀ i,a=some i→0≤i) (h2:∀ i,b=some i→0≤i):slicePick its a b none=((its.toList.drop (xW a its.size)).take (vQ b its.size-xW a its.size)).toArray:=by
 unfold slicePick
 rw [uL its h1 h2]
theorem VsRel.cut {φ:List uP0} {bd:uP0→Prop} {vs ws:List V} {its:Array Value} {lo hi:V} (V:VsRel T φ bd h vs its.toList) (e:JI vs lo hi=some ws) :
  ∃ a b,Zh lo=some a∧Zh hi=some b∧VsRel T φ bd h ws (slicePick its a b none).toList:=by
 refine x2a5 (uq e) fun a b h1 h2 h3 h4 uQ0=>?_; rw [← uQ0]
 refine (c2a3 a b h1 h2 ?_)
 rw [AH h3 h4,ww0,← V.size]
 exact (V.drop _).take _
theorem Nt {α:Type} {l r:List α} {lo hi:V} (e:JI l lo hi=some r):r.length≤l.length:=by
 refine x2a5 (uq e) fun a b _ _ _ _ uQ0=>?_; rw [← uQ0]
 rw [vC0,wa0]
 exact far [_,_,_] [.le qb qa,.le qg qb] (.le qg qa) rfl (yn0 _ _) (yp0 _ _)
theorem uz (h:Heap) (l u st:Value):(h.push {cls:=.type "slice",data:=.fields #[l,u,st]}).IsSliceOf h.objs.size l u st:=Heap.IsSliceOf.new ..
theorem Bu {value:Expr} {lo hi:Option Expr} {sp:Pos} {st:St} {hp:Bool} {x:V} {ws:List V} {vs:List V} {a b:V} {p pl pu:Value} (I:Inv prog w T b₀ C g st.σ s.heap) (L:Loc T C g names st.ρ m s.heap) (V:RvV T C s.heap g x p) (Vl:RvV T C s.heap g a pl) (Vu:RvV T C s.heap g b pu)
  (hx:(x=.lst vs∨∃ n,x=.ref n∧st.σ[n]?=some (.list vs))) (hl:vs.length≤qD) (e:JI vs a b=some ws) :
  Den prog w T b₀ (RvV T C) C names m g {s with heap:=s.heap.push {cls:=.type "slice",data:=.fields #[pl,pu,.none]}} (subscriptTail value (.Slice lo hi none sp) p (.ref s.heap.objs.size))
   (if hp then .ok (.ref st.σ.length) {st with σ:=st.σ++[.list ws]} else .ok (.lst ws) st):=by
 have ⟨y,its,hy,hli,V'⟩:∃ y its,p=.ref y∧s.heap.IsList y its∧VsRel T g.φ (bad C g) s.heap vs its.toList:=by
  rcases hx with rfl | ⟨n,rfl,ho⟩
  ·refine x2a4 (jJ V) fun y its h1 h2 _ h3=>?_
   exact (c2a3 y its h1 h2 h3)
  ·refine x2a4 (yH I V ho) fun y d h1 _ _ r=>?_
   cases r with
   | list a b _=>exact (c2a3 _ _ h1 (jY a) b)
 subst hy
 refine x2a3 (V'.cut e) fun la lb o1 o2 W=>?_
 have k1:=qX s.heap {cls:=.type "slice",data:=.fields #[pl,pu,.none]}
 have I':=I.keeps k1
 have L':=L.keeps k1
 have W':=W.mono (Mono.keeps k1)
 have sz:=V'.size
 have wl:=Nt e
 have P1:Post prog w T b₀ C names m g s.heap st g (s.heap.push {cls:=.type "slice",data:=.fields #[pl,pu,.none]}):=.keeps I L k1
 have main:∀ (Q:Value→Shared→Prop) (E:Value→Shared→Prop),Q (.ref (s.heap.push {cls:=.type "slice",data:=.fields #[pl,pu,.none]}).objs.size) {s with heap:=(s.heap.push {cls:=.type "slice",data:=.fields #[pl,pu,.none]}).push {cls:=.type "list",data:=.seq (slicePick its la lb none)}} →
   wpAny (model prog w) C.A (subscriptTail value (.Slice lo hi none sp) (.ref y) (.ref s.heap.objs.size)) Q E {s with heap:=s.heap.push {cls:=.type "slice",data:=.fields #[pl,pu,.none]}}:=fun Q E q =>
  tail_any (Heap.IsList.typeIs (s:={s with heap:=s.heap.push {cls:=.type "slice",data:=.fields #[pl,pu,.none]}}) (hli.push _)) slot_list_getitem.lookup
   (wpAny_getItem_list_slice (hli.push _) (uz ..) (wI Vl o1).1 (wI Vu o2).1 .none (by simp) q (by rw [← sz,uJ0]; unfold qD at hl; exact yd0 hl)) rfl
 cases hp
 ·have N:=kt I' L' W'
  exact Den.of_wp rfl fun Q E hq=>main _ _ (hq g _ s.toks _ N.1 N.2)
 ·have N:=wo I' L' W' (by exact ye0 wl hl)
  exact Den.of_wp rfl fun Q E hq=>main _ _ (hq _ _ s.toks _ N.1 N.2)
theorem DC {value:Expr} {lo hi:Option Expr} {sp:Pos} {st:St} {x ws:List Nat} {a b:V} {p pl pu:Value} (I:Inv prog w T b₀ C g st.σ s.heap) (L:Loc T C g names st.ρ m s.heap) (V:RvV T C s.heap g (.str x) p) (Vl:RvV T C s.heap g a pl) (Vu:RvV T C s.heap g b pu)
  (hl:x.length≤qD) (e:JI x a b=some ws) :
  Den prog w T b₀ (RvV T C) C names m g {s with heap:=s.heap.push {cls:=.type "slice",data:=.fields #[pl,pu,.none]}} (subscriptTail value (.Slice lo hi none sp) p (.ref s.heap.objs.size)) (.ok (.str ws) st):=by
 refine x1a1 (zS V) fun t uQ0=>?_; subst uQ0
 have wl:=Nt e
 refine x2a5 (uq e) fun la lb o1 o2 h3 h4 uQ0=>?_; subst uQ0
 refine zz (wI Vl o1) fun _ uQ0=>?_; obtain ⟨tl,rfl,el⟩:=uQ0
 refine zz (wI Vu o2) fun _ uQ0=>?_; obtain ⟨tu,rfl,eu⟩:=uQ0
 have k1:=qX s.heap {cls:=.type "slice",data:=.fields #[partValue tl,partValue tu,.none]}
 have P1:Post prog w T b₀ C names m g s.heap st g (s.heap.push {cls:=.type "slice",data:=.fields #[partValue tl,partValue tu,.none]}):=.keeps I L k1
 have pk:(slicePicked (toS x) tl tu none).filterMap ((toS x).cps[·]?)=(x.drop (xW la x.length)).take (vQ lb x.length-xW la x.length):=by
  have:=uL (toS x).cps h3 h4
  unfold slicePicked
  rw [el,eu]
  have e1:(toS x).cps.size=x.length:=zk x
  have e2:(toS x).cps.toList=x:=ww0 ..
  rw [e1,e2] at this
  exact this
 refine Den.of_wp rfl fun Q E hq=>tail_any (typeIs_str _ _ _) PySem.F.slot_str_getitem.lookup (wpAny_getItem_str_slice (l:=tl) (u:=tu) (st:=none) ⟨_,Heap.get?_push_size _ rfl,rfl,rfl⟩ rfl ?_) rfl
 unfold sliceMade
 split
 ·rename_i hk
  rw [ug0,beq_iff_eq,beq_iff_eq] at hk
  have all:(slicePicked (toS x) tl tu none).filterMap ((toS x).cps[·]?)=x:=by
   rw [pk]
   have hlen:((x.drop (xW la x.length)).take (vQ lb x.length-xW la x.length)).length=x.length:=by
    have h5:=hk.2
    have e1:(toS x).length=x.length:=zk x
    unfold slicePicked at h5
    rw [el,eu,e1] at h5
    have e0:PySem.Builtin.Str.strSliceIndices la lb 1 x.length=sliceRange (sliceBounds la lb none x.length).1 (sliceBounds la lb none x.length).2.1 (sliceBounds la lb none x.length).2.2:=rfl
    rw [show ((kX0 (fun (x:Int×Tok)=>x.1) none).getD 1)=(1:Int) from rfl,e0,Ax h3 h4,sliceRange_one,vq0,vN0] at h5
    rw [vC0,wa0]
    have:vQ lb x.length≤x.length:=OF
    exact o67 _ _ _ h5 this
   have h6:xW la x.length=0∧x.length≤vQ lb x.length:=by
    rw [vC0,wa0] at hlen
    by_cases hx:x.length=0
    ·have:xW la x.length≤x.length:=OE
     exact ⟨yk0 (far [_,_] [.eq qb (.n 0),.le qa qb] (.le qa (.n 0)) rfl hx this) (far [_] [] (.le (.n 0) qa) rfl),far [_,_] [.eq qa (.n 0)] (.le qa qb) rfl hx⟩
    ·exact o68 _ _ _ hlen hx
   rw [h6.1,wG0,vk0,vQ0 h6.2]
  exact hq g _ s.toks (.str (toS x) t) (.here P1.inv P1.loc) (by rw [← pk,all]; exact .str x t)
 ·refine ⟨?_,?_⟩
  ·rw [pk]
   show ((x.drop _).take _).toArray.size≤_
   rw [wN0,uJ0]; unfold qD at hl; exact ye0 (ye0 wl hl) (yc0 rfl)
  ·rw [pk]
   exact hq g _ _ _ (.here P1.inv P1.loc) (.str _ _)
theorem Gv (lo hi:Option Expr) (sp:Pos) (env:Env):eval (.Slice lo hi none sp) env=(do
  let l ← valueOrNone (evalOpt lo env)
  let u ← PySem.holding [l] (valueOrNone (evalOpt hi env))
  let t ← PySem.holding [l,u] (valueOrNone (evalOpt none env))
  newFields "slice" [l,u,t]):=rfl
theorem JF {hp:Bool} {a:Expr} {lo hi:Option Expr} {sp pos:Pos} {fa fl fh:St→R V} (da:jh prog w T b₀ C names (eval a C.env) fa) (dl:jh prog w T b₀ C names (valueOrNone (evalOpt lo C.env)) fl) (dh:jh prog w T b₀ C names (valueOrNone (evalOpt hi C.env)) fh) :
  jh prog w T b₀ C names (eval (.Subscript a (.Slice lo hi none sp) pos) C.env) (fun st=>(fa st).bind fun x st=>(fl st).bind fun l st=>(fh st).bind fun u st=>jO hp x l u st):=by
 intro m g s st I L
 rw [yj,Gv]
 refine (da m g s st I L).bind fun x st1 _ g1 h1 tk1 p P1 V1=>?_
 intro Q E hq he hb
 refine uF0 (uH0 (uF0 ?_))
 refine dl m g1 {s with heap:=h1,toks:=tk1} st1 P1.inv P1.loc _ _ (fun l st2 e2 g2 h2 tk2 pl P2 V2=>?_) (fun st2 e2 g2 h2 tk2 x P2 F=>he st2 (by rw [e2]; rfl) g2 h2 tk2 x P2 F) fun e2=>hb (by rw [e2]; rfl)
 refine uF0 (uH0 ?_)
 refine dh m g2 {s with heap:=h2,toks:=tk2} st2 P2.inv P2.loc _ _ (fun u st3 e3 g3 h3 tk3 pu P3 V3=>?_) (fun st3 e3 g3 h3 tk3 x P3 F=>he st3 (by rw [e2]; show (fh st2).bind _=_; rw [e3]; rfl) g3 h3 tk3 x (P2.trans P3) (F.back P2.step)) fun e3=>hb (by rw [e2]; show (fh st2).bind _=_; rw [e3]; rfl)
 refine uF0 (uH0 (uG0 ?_))
 refine wpAny_newObj_type (uF0 (uI0 ?_))
 have hq':∀ a st,jO hp x l u st3=.ok a st→∀ g' h' tk p,Post prog w T b₀ C names m g3 h3 st g' h'→RvV T C h' g' a p→Q p {s with heap:=h',toks:=tk}:=fun a st e g' h' tk p P V =>
  hq a st (by rw [e2]; show (fh st2).bind _=_; rw [e3]; exact e) g' h' tk p ((P2.trans P3).trans P) V
 have hb':jO hp x l u st3≠.bad:=fun e=>hb (by rw [e2]; show (fh st2).bind _=_; rw [e3]; exact e)
 have k3:=qX h3 {cls:=.type "slice",data:=.fields #[pl,pu,.none]}
 have P4:Post prog w T b₀ C names m g3 h3 st3 g3 (h3.push {cls:=.type "slice",data:=.fields #[pl,pu,.none]}):=.keeps P3.inv P3.loc k3
 have Vx:=(V1.lift P2.step).lift P3.step
 have Vl:=V2.lift P3.step
 have use:∀ {r:R V},jO hp x l u st3=r→Den prog w T b₀ (RvV T C) C names m g3 {s with heap:=h3.push {cls:=.type "slice",data:=.fields #[pl,pu,.none]},toks:=tk3} (subscriptTail a (.Slice lo hi none sp) p (.ref h3.objs.size)) r→(∀ st,r≠.exc st) →
   wpAny (model prog w) C.A (subscriptTail a (.Slice lo hi none sp) p (.ref h3.objs.size)) Q E {s with heap:=h3.push {cls:=.type "slice",data:=.fields #[pl,pu,.none]},toks:=tk3}:=fun {r} er D hx =>
  D Q E (fun a st e g' h' tk p P V=>hq' a st (er.trans e) g' h' tk p (P4.trans P) V) (fun st e=>absurd e (hx st)) fun e=>hb' (er.trans e)
 have cut:∀ {vs:List V},(x=.lst vs∨∃ n,x=.ref n∧st3.σ[n]?=some (.list vs))→jO hp x l u st3=GK hp vs l u st3 →
   wpAny (model prog w) C.A (subscriptTail a (.Slice lo hi none sp) p (.ref h3.objs.size)) Q E {s with heap:=h3.push {cls:=.type "slice",data:=.fields #[pl,pu,.none]},toks:=tk3}:=fun {vs} hx ec=>by
  unfold GK at ec
  split at ec
  ·rename_i hl
   cases ecut:JI vs l u with
   | none=>rw [ecut] at ec; exact absurd ec hb'
   | some ws =>
    rw [ecut] at ec
    exact use ec (Bu (s:={s with heap:=h3,toks:=tk3}) (hp:=hp) P3.inv P3.loc Vx Vl V3 hx hl ecut) fun st=>by cases hp <;> exact fun q=>by exact oeR q
  ·exact absurd ec hb'
 cases x with
 | str z =>
  cases hp with
  | true=>exact absurd rfl hb'
  | false =>
   by_cases hl:z.length≤qD
   ·cases ecut:JI z l u with
    | none=>exact absurd (by simp [jO,hl,ecut]) hb'
    | some ws=>exact use (by simp [jO,hl,ecut]) (DC (s:={s with heap:=h3,toks:=tk3}) P3.inv P3.loc Vx Vl V3 hl ecut) fun st q=>by exact oeR q
   ·exact absurd (by simp [jO,hl]) hb'
 | lst vs=>exact cut (.inl rfl) rfl
 | ref n =>
  cases eo:st3.σ[n]? with
  | none=>exact absurd (by simp [jO,eo]) hb'
  | some o =>
   cases o with
   | list vs=>exact cut (.inr (c1a2 n rfl eo)) (by simp [jO,eo])
   | dict _=>exact absurd (by simp [jO,eo]) hb'
   | inst _ _=>exact absurd (by simp [jO,eo]) hb'
 | none=>exact absurd rfl hb'
 | bool _=>exact absurd rfl hb'
 | int _=>exact absurd rfl hb'
 | tup _=>exact absurd rfl hb'
 | obj _ _=>exact absurd rfl hb'
theorem GH:jh prog w T b₀ C names (valueOrNone (evalOpt none C.env)) (fun st=>.ok .none st):=fun _ _ _ _ I L=>Den.pure I L .none
end
theorem zm {α β:Type} [BEq α] [LawfulBEq α]:∀ {xs:List α} {vs:List β} {i:Nat} {x:α} {v:β},xs.Nodup→xs[i]?=some x→vs[i]?=some v→(xs.zip vs).lookup x=some v
 | y::xs,w::vs,0,_,_,_,e,f=>by cases e; cases f; simp
 | y::xs,w::vs,i+1,x,v,n,e,f=>by
  rw [wn0] at n
  have hne:¬ x=y:=fun q=>n.1 (q▸vx0 (by simpa using e))
  rw [List.zip_cons_cons,vX0,beq_eq_false_iff_ne.mpr hne]
  exact zm n.2 (by simpa using e) (by simpa using f)
 | [],_,_,_,_,_,e,_=>by exact nsO e
 | _::_,[],_,_,_,_,_,f=>by exact nsO f
theorem Bi {α β:Type} [BEq α] [LawfulBEq α] {xs:List α} {vs:List β} (n:xs.Nodup) (hl:vs.length=xs.length):xs.filterMap (fun x=>((xs.zip vs).lookup x).map (x,·))=xs.zip vs:=by
 have:∀ k,k≤xs.length→(xs.take k).filterMap (fun x=>((xs.zip vs).lookup x).map (x,·))=(xs.zip vs).take k:=by
  intro k
  induction k with
  | zero=>intro _; simp
  | succ k ih =>
   intro hk
   have hx:xs[k]?=some xs[k]:=vB0 (by exact hk)
   have hv:vs[k]?=some (vs[k]'(by omega)):=vB0 (by omega)
   rw [kk0,List.filterMap_append,ih (by omega),kk0,hx]
   simp only [Option.toList_some,vR0,zm n hx hv,ud0,List.filterMap_nil]
   congr 1
   have:(xs.zip vs)[k]?=some (xs[k],vs[k]'(by omega)):=by
    rw [List.getElem?_zip_eq_some]
    exact ⟨hx,hv⟩
   rw [this]
   rfl
 have:=this xs.length (yh0 _)
 rw [vT0,vQ0 (by rw [kn0]; exact yv0 _ _)] at this
 exact this
theorem JN {M:Model} {A:Around} {α:Type} {c:Bool} {a b:Sem α} {Q:α→Shared→Prop} {E:Value→Shared→Prop} {s:Shared} (h:c=false) (k:wpAny M A b Q E s):wpAny M A (if c=true then a else b) Q E s:=by
 subst h; exact k
noncomputable def YE (r:List (Str×Value)) (x:Str×Value):List (Str×Value):=if (r.lookup x.1).isNone=true then r++[(x.1,x.2)] else r
theorem MM {M:Model} {A:Around} {E:Value→Shared→Prop} {s:Shared} {F:Str×Value→List (Str×Value)→Sem (ForInStep (List (Str×Value)))} (hF:∀ x r,F x r=pure (.yield (YE r x))) {xs:List (Str×Value)} :
  ∀ {r r':List (Str×Value)} {Q:List (Str×Value)→Shared→Prop},xs.foldl YE r=r'→Q r' s→wpAny M A (forIn xs r F) Q E s:=by
 induction xs with
 | nil=>exact fun {_ _ Q} e h=>uG0 ((congrArg (Q · s) e).mpr h)
 | cons x xs ih =>
  intro r r' Q e h
  refine (congrArg (fun m=>wpAny M A m Q E s) (List.forIn_cons ..)).mpr (uF0 ?_)
  rw [hF]
  exact uG0 (ih e h)
theorem Dz {s:Shared} {fd:FuncData} {vals:List Value} {names:List Str} {items:Option (Array Value)} {slots:List (Str×Value)} (hp:fd.params.posonlyargs=[]) (ha:fd.params.args.map (·.arg)=names) (hk:fd.params.kwonlyargs=[]) (hv:fd.params.vararg=none) (hkw:fd.params.kwarg=none)
  (hd:∀ {M:Model} {A:Around} {E:Value→Shared→Prop} {Q:Option (Array Value)→Shared→Prop},Q items s→wpAny M A (seqItems? fd.defaults) Q E s)
  (g1:¬ vals.length>names.length) (k:Nat) (ds:List Value) (hs:(items.getD #[]).toList.drop ((items.getD #[]).toList.length-names.length)=ds) (hk2:names.length-ds.length=k)
  (ms:(names.take k).filter (fun n=>((names.zip vals).lookup n).isNone)=[])
  (lp:((names.drop k).zip ds).foldl YE (names.zip vals)=slots)
  (fz:names.filterMap (fun n=>(slots.lookup n).map (n,·))=slots):BindsTo s fd ⟨vals,[]⟩ slots:=by
 intro M A E Q hq
 obtain ⟨n0,⟨qn⟩,⟨po,as,va,ko,kd,kw,pd⟩,body,scope,gl,cl,df,kwd,doc,pm,ann,code,ct,bi⟩:=fd
 dsimp only at hp ha hk hv hkw hd
 subst hp ha hk hv hkw hk2 hs
 refine uF0 (m:=seqItems? df) (hd ?_)
 refine JN (by exact congrArg (fun b=>b&&true) (decide_eq_false g1)) ?_
 refine JN (c:=!(List.isEmpty _)) (by exact congrArg (fun l:List Str=>!l.isEmpty) ms) ?_
 refine uF0 (MM (r':=slots) (fun x r=>?_) (by exact lp) ?_)
 ·obtain ⟨n,d⟩:=x
  show (if _ then _ else _)=_
  unfold YE
  split <;> rfl
 ·refine uF0 (m:=forIn [] _ _) ((congrArg (fun m=>wpAny M A m _ E s) List.forIn_nil).mpr (uG0 ?_))
  refine JN rfl ?_
  exact uG0 (a:=kc0 (fun n=>(slots.lookup n).map (n,·)) (as.map (·.arg)++[])) ((congrArg (Q · s) ((congrArg (kc0 _) (vU0 _)).trans fz)).mpr hq)
theorem vH {s:Shared} {fd:FuncData} {vals:List Value} {names:List Str} {items:Option (Array Value)} (hp:fd.params.posonlyargs=[]) (ha:fd.params.args.map (·.arg)=names) (hk:fd.params.kwonlyargs=[]) (hv:fd.params.vararg=none) (hkw:fd.params.kwarg=none)
  (hd:∀ {M:Model} {A:Around} {E:Value→Shared→Prop} {Q:Option (Array Value)→Shared→Prop},Q items s→wpAny M A (seqItems? fd.defaults) Q E s) (hn:names.Nodup) (hl:vals.length=names.length):BindsTo s fd ⟨vals,[]⟩ (names.zip vals):=by
 have look:∀ x∈names,((names.zip vals).lookup x).isNone=false:=fun x hx=>by
  refine x1a1 (wY0.mp hx) fun i hi=>?_
  have hlt:=(vv0.mp hi).1
  rw [zm hn hi (vB0 (by exact hl▸hlt:i<vals.length))]; rfl
 refine Dz hp ha hk hv hkw hd (yR0.mpr (yi0 hl)) _ _ rfl rfl ?_ ?_ (Bi hn hl)
 ·exact wX0.mpr fun x hx=>by rw [look x (wf0 hx)]; exact uk0
 ·have keep:∀ {xs:List (Str×Value)},(∀ x∈xs,x.1∈names)→xs.foldl YE (names.zip vals)=names.zip vals:=fun {xs}=>by
   induction xs with
   | nil=>exact fun _=>rfl
   | cons x xs ih =>
    intro h
    rw [List.foldl_cons,show YE (names.zip vals) x=names.zip vals from if_neg (by rw [look x.1 (h x (.head _))]; exact uk0)]
    exact ih fun y hy=>h y (.tail _ hy)
  exact keep fun x hx=>ws0 (wE0 hx).1
theorem AL {M:Model} {A:Around} {E:Value→Shared→Prop} {s:Shared} {v:Value} {Q:Option (Array Value)→Shared→Prop} (e:v=.none) (h:Q none s):wpAny M A (seqItems? v) Q E s:=by rw [e]; exact uG0 h
section
variable {prog:Program} {w:World} {K:Frag} {T:TT} {b₀:Heap} {C:Cx} {names:List Str} {m:Str→Option Value} {g:G} {h h':Heap} {s:Shared} {an:Nat→Str} {P:P}
noncomputable def Cx.sub (C:Cx) (g:G) (env:Env):Cx:=⟨C.A.deeper env,env,env::C.envs,fun b=>C.hid b∨b∈g.own∨b=C.env.locals⟩
theorem NH {g g':G} {env:Env} {b:uP0} {L:uP0} (hL:env.frame=some L) (q:bad C ⟨g'.φ,g'.μ,g.own⟩ b):bad (C.sub g env) g' b:=by
 rcases q with (q | q | q | q) | q
 ·exact .inl (.inl q)
 ·exact .inr (.inr (.inl q))
 ·exact .inr (.inr (.inr q))
 ·refine .inl (.inr (.inr (.inr ?_)))
  show b∈(env::C.envs).filterMap (·.frame)
  rw [vR0,hL]
  exact .tail _ q
 ·exact .inr (.inl q)
theorem Dq {σ:H} {ρ:List (Option LV)} {env:Env} {L:uP0} {m':Str→Option Value} (I:Inv prog w T b₀ C g σ h) (Lc:Loc T C g names ρ m h) (nL:h.get? L=none) (hf:env.frame=some L) (hlo:env.locals=L) (hk:env.scope.kind≠.module)
  (k:∀ b o,h.get? b=some o→h'.get? b=some o) (ns:h'.Ns L m'):Inv prog w T b₀ (C.sub g env) ⟨g.φ,g.μ,[]⟩ σ h'∧Mono g.φ g.φ (bad C g) (bad (C.sub g env) ⟨g.φ,g.μ,[]⟩) h h':=by
 have fr:(C.sub g env).fr=L::C.fr:=by
  show (env::C.envs).filterMap (·.frame)=_
  rw [vR0,hf]; rfl
 have inv:∀ b,bad (C.sub g env) ⟨g.φ,g.μ,[]⟩ b→b=L∨bad C g b:=by
  intro b q
  rcases q with (q | q | q | q) | q | q | q
  ·exact .inr (.inl (.inl q))
  ·exact zv q
  ·exact .inl (q.trans hlo)
  ·rw [fr] at q
   rcases vI0.mp q with q | q
   ·exact .inl q
   ·exact .inr (.inl (.inr (.inr (.inr q))))
  ·exact .inr (.inr q)
  ·exact .inr (.inl (.inr (.inl q)))
  ·exact .inr (.inl (.inr (.inr (.inl q))))
 have M:Mono g.φ g.φ (bad C g) (bad (C.sub g env) ⟨g.φ,g.μ,[]⟩) h h':=⟨vw0,fun a o e _ _=>k a o e,fun a o e n q=>by
  rcases inv a q with rfl | q
  ·rw [nL] at e; exact nsO e
  ·exact n q⟩
 have thr:∀ b,bad C g b→∃ o,h.get? b=some o∧noF o:=fun b q=>I.may_there Lc q
 have base:b₀.get? L=none:=by
  cases q:b₀.get? L with
  | none=>rfl
  | some o=>rw [I.stay _ _ q] at nL; exact snO nL
 refine ⟨⟨I.lφ,I.lμ,?_,?_,?_,fun b o e=>k b o (I.stay b o e),?_,?_,?_,fun b q=>by exact zv q⟩,M⟩
 ·have n:=I.nodup
  rw [vA0] at n
  simpa using n.1
 ·intro b q
  rcases q with q | q
  ·have sp:=I.sep b (.inl q)
   refine x1a2 (thr b (.inl (.inl q))) fun o ho _=>?_
   have nb:b≠L:=fun e=>by rw [e,nL] at ho; exact nsO ho
   refine (yD (by rw [show (C.sub g env).env.locals=L from hlo]; exact nb) ?_ ?_)
   ·rw [fr]
    exact fun z=>(vI0.mp z).elim nb sp.2.1
   ·rintro (z | z | z)
    ·exact sp.2.2 z
    ·have n:=I.nodup
     rw [vA0] at n
     exact n.2.2 b q b z rfl
    ·exact sp.1 z
  ·exact zv q
 ·intro b q
  rcases inv b q with rfl | q
  ·exact base
  ·exact I.fresh b q
 ·show Heap.FunFrames h' b₀ (env::C.envs)
  refine x3a3 ns fun o es ep ho hd _=>?_
  exact ⟨hk,(c2a4 L o hf base ho (fun vs q=>by rw [hd] at q; exact qO PySem.Data.ctorIdx q rfl)),I.frames.of_keeps fun b o e _=>(c1a2 o (k b o e) rfl)⟩
 ·intro n o e
  refine x2a3 (I.objs n o e) fun x d h1 h2 r=>?_
  exact (c2a3 x d h1 h2 (r.mono M fun q hq=>k _ _ hq))
 ·rintro b (q | q | q)
  ·refine x1a2 (I.hidden b q) fun o e n=>?_; exact (c1a2 o (k _ _ e) n)
  ·refine x1a2 (I.ownT b q) fun o e n=>?_; exact (c1a2 o (k _ _ e) n)
  ·refine x1a2 (thr b (.inl (.inr (.inr (.inl q))))) fun o e n=>?_; exact (c1a2 o (k _ _ e) n)
theorem Id {a:uP0} {m:Str→Option Value} {o:Obj} {sl:Array (Option Value)} (n:h.Ns a m) (e:h.get? a=some o) (e':h'.get? a=some {o with slots:=sl}):h'.Ns a m:=by
 refine x3a3 n fun o' es ep ho hd r=>?_
 rw [e] at ho; cases ho
 exact ⟨_,es,ep,e',hd,r⟩
theorem vU {σ':H} {ρ:List (Option LV)} {env:Env} {L:uP0} {g':G} {h₁:Heap} (I1:(g.μ++g.own).Nodup) (I2:∀ b,b∈g.μ∨b∈g.own→b≠C.env.locals∧b∉C.fr∧¬ C.hid b) (Lc:Loc T C g names ρ m h) (nL:h.get? L=none) (hf:env.frame=some L) (hlo:env.locals=L)
  (k:∀ b o,h.get? b=some o→h₁.get? b=some o) (I':Inv prog w T b₀ (C.sub g env) g' σ' h') (S:Step (C.sub g env) ⟨g.φ,g.μ,[]⟩ h₁ g' h') :
  Post prog w T b₀ C names m g h ⟨ρ,σ'⟩ ⟨g'.φ,g'.μ,g.own⟩ h'∧Mono g'.φ g'.φ (bad (C.sub g env) g') (bad C ⟨g'.φ,g'.μ,g.own⟩) h' h':=by
 have fr:(C.sub g env).fr=L::C.fr:=by
  show (env::C.envs).filterMap (·.frame)=_
  rw [vR0,hf]; rfl
 have M:Mono g'.φ g'.φ (bad (C.sub g env) g') (bad C ⟨g'.φ,g'.μ,g.own⟩) h' h':=⟨vw0,fun _ _ e _ _=>e,fun _ _ _ n q=>n (NH hf q)⟩
 have nmay:∀ b o,h.get? b=some o→b∉g.μ→b∉C.fr→¬ may (C.sub g env) ⟨g.φ,g.μ,[]⟩ b:=by
  intro b o e n1 n2 q
  have nb:b≠L:=fun z=>by rw [z,nL] at e; exact nsO e
  rcases q with q | q | q | q
  ·exact n1 q
  ·exact zv q
  ·exact nb (q.trans hlo)
  ·rw [fr] at q
   exact (vI0.mp q).elim nb n2
 have nd:=I1
 rw [vA0] at nd
 have nd':=I'.nodup
 rw [vA0] at nd'
 have S':Step C g h ⟨g'.φ,g'.μ,g.own⟩ h':=by
  refine ⟨S.φ,S.μ,fun b q=>?_,fun b q=>.inl q,fun b o e n=>?_,fun b q n o e=>?_,fun b o e=>S.there b o (k b o e)⟩
  ·rcases S.newμ b q with z | z
   ·exact .inl z
   ·right
    cases e:h.get? b with
    | none=>rfl
    | some o=>rw [k b o e] at z; exact snO z
  ·exact S.keep b o (k b o e) (nmay b o e (fun z=>n (.inl z)) (fun z=>n (.inr (.inr (.inr z)))))
  ·refine S.slots b (by rw [fr]; exact .tail _ q) ?_ o (k b o e)
   intro z
   rw [show (C.sub g env).env.locals=L from hlo] at z
   rw [z,nL] at e; exact nsO e
 have Mm:=S'.mono
 refine ⟨⟨⟨I'.lφ,I'.lμ,?_,?_,?_,I'.stay,I'.frames.2.2,?_,fun b q=>I'.hidden b (.inl q),fun b q=>I'.hidden b (.inr (.inl q))⟩,⟨?_,?_,?_,Lc.one,Lc.len⟩,S'⟩,M⟩
 ·show (g'.μ++g.own).Nodup
  rw [vA0]
  refine (yD nd'.1 nd.2.1 (fun a ha b hb e=>?_))
  subst e
  exact (I'.sep a (.inl ha)).2.2 (.inr (.inl hb))
 ·intro b q
  rcases q with q | q
  ·have sp:=I'.sep b (.inl q)
   refine (yD (fun z=>sp.2.2 (.inr (.inr z))) (fun z=>sp.2.1 (by rw [fr]; exact .tail _ z)) (fun z=>sp.2.2 (.inl z)))
  ·exact I2 b (.inr q)
 ·intro b q
  exact I'.fresh b (NH hf q)
 ·intro n o e
  refine x2a3 (I'.objs n o e) fun x d h1 h2 r=>?_
  exact (c2a3 x d h1 h2 (r.mono M fun _ hq=>hq))
 ·
  refine x3a3 (id Lc.ns) fun o es ep ho hd r=>?_
  by_cases hfr:C.env.locals∈C.fr
  ·obtain ⟨sl,e⟩:=S.slots C.env.locals (by rw [fr]; exact .tail _ hfr) (fun z=>by
    rw [show (C.sub g env).env.locals=L from hlo] at z
    rw [z,nL] at ho; exact nsO ho) o (k _ _ ho)
   exact Id Lc.ns ho e
  ·have e:=S.keep _ _ (k _ _ ho) (nmay _ _ ho (fun z=>(I2 _ (.inl z)).1 rfl) hfr)
   exact ⟨o,es,ep,e,hd,r⟩
 ·intro i x v a b
  refine x1a2 (Lc.val i x v a b) fun p h1 h2=>?_
  exact (c1a2 p h1 (h2.mono Mm))
 ·intro i x vs a b
  refine x2a5 (Lc.own i x vs a b) fun q its h1 h2 uQ0 h4 h5=>?_; obtain ⟨n,h3⟩:=uQ0
  have hq:q∈g.own:=by rw [h2]; exact vu0.mpr rfl
  refine (c2a5 q its h1 h2 ⟨n,S.keep _ _ (k _ _ h3) (nmay _ _ h3 (fun z=>nd.2.2 q z q hq rfl) (I2 q (.inr hq)).2.1)⟩ (h4.mono Mm) h5)
theorem ORel.noF {φ:List uP0} {bd:uP0→Prop} {o:O} {x d:uP0} (r:ORel prog w T φ bd h o x d):∃ q,h.get? d=some q∧Mine.noF q:=by
 cases r with
 | list a _ _=>refine x1a1 a fun n a=>?_; exact (c1a2 _ a (fun _ q=>by exact qO PySem.Data.ctorIdx q rfl))
 | dict _ _ _ e=>exact e
 | inst _ _ c _=>exact (c1a2 _ c (fun _ q=>by exact qO PySem.Data.ctorIdx q rfl))
noncomputable def yV (C:Cx) (e t:uP0) (h:Heap):Heap:=hideAll h (e::t::C.fr)
theorem Gu {e t b:uP0} {o:Obj} (he:∃ oe vs,h.get? e=some oe∧oe.data=.fields vs) (ht:∃ oe vs,h.get? t=some oe∧oe.data=.fields vs) (hb:h.get? b=some o) (n:noF o) (f:b∉C.fr):(yV C e t h).get? b=some o:=by
 refine hideAll_get _ hb fun q=>?_
 rcases vI0.mp q with rfl | q
 ·refine x2a2 he fun oe vs h1 h2=>?_
  rw [hb] at h1; cases h1; exact n _ h2
 ·rcases vI0.mp q with rfl | q
  ·refine x2a2 ht fun oe vs h1 h2=>?_
   rw [hb] at h1; cases h1; exact n _ h2
  ·exact f q
theorem Ol {g₀:G} {h₀ h'':Heap} {st st₀:St} {g':G} {e t:uP0} {m₀:Str→Option Value} (I₀:Inv prog w T b₀ C g₀ st₀.σ h₀) (L₀:Loc T C g₀ names st₀.ρ m₀ h₀) (Po:Post prog w T b₀ C names m g₀ h₀ st g' h')
  (he:∃ oe vs,h'.get? e=some oe∧oe.data=.fields vs) (ht:∃ oe vs,h'.get? t=some oe∧oe.data=.fields vs)
  (k0:(hideAll h₀ (yE C g₀)).StaysIn h'') (kb:(yV C e t h').StaysIn h'') (u:h'.UpToSlots h''):Post prog w T b₀ C names m g₀ h₀ st g' h''∧Mono g'.φ g'.φ (bad C g') (bad C g') h' h'':=by
 have kx:∀ b o,h'.get? b=some o→noF o→b∉C.fr→h''.get? b=some o:=fun b o hb n f=>kb b o (Gu he ht hb n f)
 have M:Mono g'.φ g'.φ (bad C g') (bad C g') h' h'':=⟨vw0,fun a o e n nf=>kx a o e nf fun q=>n (.inl (.inr (.inr (.inr q)))),fun _ _ _ n=>n⟩
 have I:=Po.inv
 have L:=Po.loc
 have S:=Po.step
 have nofU:∀ b o,h'.get? b=some o→noF o→∃ o',h''.get? b=some o'∧noF o':=fun b o hb n=>let ⟨_,e'⟩:=u b o hb n; (c1a2 _ e' n)
 refine ⟨⟨⟨I.lφ,I.lμ,I.nodup,I.sep,I.fresh,fun b o hb=>?_,?_,fun n o eo=>?_,fun b q=>?_,fun b q=>?_⟩,⟨?_,fun i x v a b=>?_,fun i x vs a b=>?_,L.one,L.len⟩,⟨S.φ,S.μ,S.newμ,S.newOwn,fun b o hb n=>?_,fun b q n o hb=>?_,fun b o hb=>?_⟩⟩,M⟩
 ·refine k0 b o (hideAll_get _ (I₀.stay b o hb) fun q=>?_)
  have:=I₀.fresh b (.inl (mem_hideL.mp q))
  rw [hb] at this; exact snO this
 ·exact I.frames.of_keeps fun b o hb n=>let ⟨_,e'⟩:=u b o hb n; (c1a2 _ e' rfl)
 ·refine x2a3 (I.objs n o eo) fun x d h1 h2 r=>?_
  refine (c2a3 x d h1 h2 (r.mono M fun q hq=>?_))
  refine x1a2 r.noF fun q' hq' nf=>?_
  rw [hq] at hq'; cases hq'
  exact kx d q hq nf (I.sep d (.inl (vx0 h2))).2.1
 ·refine x1a2 (I.hidden b q) fun o ho n=>?_
  exact nofU b o ho n
 ·refine x1a2 (I.ownT b q) fun o ho n=>?_
  exact nofU b o ho n
 ·exact u.ns L.ns
 ·refine x1a2 (L.val i x v a b) fun p h1 h2=>?_
  exact (c1a2 p h1 (h2.mono M))
 ·refine x2a5 (L.own i x vs a b) fun q its h1 h2 uQ0 h4 h5=>?_; obtain ⟨n,h3⟩:=uQ0
  exact (c2a5 q its h1 h2 ⟨n,kx _ _ h3 (fun _ z=>by exact qO PySem.Data.ctorIdx z rfl) (I.sep q (.inr (by rw [h2]; exact vu0.mpr rfl))).2.1⟩ (h4.mono M) h5)
 ·exact k0 b o (hideAll_get _ hb fun q=>n (mem_hideL.mp q))
 ·refine x1a1 (S.slots b q n o hb) fun sl e'=>?_
  refine x1a2 (vt I.frames q) fun o' ho' nf=>?_
  rw [e'] at ho'; cases ho'
  refine x1a1 (u _ _ e' nf) fun sl' e''=>?_
  exact ⟨sl',e''⟩
 ·by_cases n:may C g₀ b
  ·refine x1a2 (I₀.may_there L₀ (.inl n)) fun o' ho' nf=>?_
   rw [hb] at ho'; cases ho'
   refine x1a2 (S.there b o hb) fun o₁ h1 n1=>?_
   refine x1a2 (nofU b o₁ h1 (n1 nf)) fun o₂ h2 n2=>?_
   exact (c1a2 o₂ h2 (fun _=>n2))
  ·exact (c1a2 o (k0 b o (hideAll_get _ hb fun q=>n (mem_hideL.mp q))) id)
theorem Bg {g₀ g':G} {h₀:Heap} {st:St} {e:uP0} (Po:Post prog w T b₀ C names m g₀ h₀ st g' h') (F:Fly T C g₀ h₀ e h') :
  ∃ t,(∃ oe vs,h'.get? e=some oe∧oe.data=.fields vs)∧(∃ oe vs,h'.get? t=some oe∧oe.data=.fields vs)∧(∃ a0 fl,(fl=.none∨∃ L,C.env.frame=some L∧fl=rawInt L)∧FlyAt (yV C e t h') C.envs e (.ref T.stop) a0 fl h')∧(hideAll h₀ (yE C g₀)).StaysIn (yV C e t h'):=by
 have fr:∀ t,h'.FunFrames (hideAll h₀ (yE C g₀)) C.envs→h'.FunFrames (yV C e t h') C.envs:=fun t f3=>by
  have:∀ l:List Env,(∀ env∈l,∀ L,env.frame=some L→L∈C.fr)→h'.FunFrames (hideAll h₀ (yE C g₀)) l→h'.FunFrames (yV C e t h') l:=by
   intro l
   induction l with
   | nil=>intro _ _; trivial
   | cons env l ih =>
    intro hm ⟨hk,⟨L,o,hf,hn,ho,hd⟩,hr⟩
    exact ⟨hk,(c2a4 L o hf (hideAll_none _ (.tail _ (.tail _ (hm env (.head _) L hf)))) ho hd),ih (fun en he=>hm en (.tail _ he)) hr⟩
  exact this C.envs (fun en he L hL=>wK0.mpr (c1a2 en he hL)) f3
 have sb:∀ t,(hideAll h₀ (yE C g₀)).StaysIn h'→(hideAll h₀ (yE C g₀)).get? e=none→(hideAll h₀ (yE C g₀)).get? t=none→(hideAll h₀ (yE C g₀)).StaysIn (yV C e t h'):=fun t f1 f2 hnt b o q=>by
  have hq:=f1 b o q
  refine hideAll_get _ hq fun z=>?_
  rcases vI0.mp z with rfl | z
  ·rw [f2] at q; exact nsO q
  ·rcases vI0.mp z with rfl | z
   ·rw [hnt] at q; exact nsO q
   ·rw [hideAll_none _ (mem_hideL.mpr (.inr (.inr (.inr z))))] at q; exact nsO q
 refine x2a2 F fun a0 fl qfl F=>?_
 rcases F with ⟨f1,f2,f3,oe,vs,t,ot,ts,he,hc,hd,h1,hnt,hte,ht,hdt,h3⟩ | ⟨q,f1,f2,f3,oe,vs,he,hc,hd,h1⟩
 ·exact (c1a4 t (c2a2 oe vs he hd) (c2a2 ot ts ht hdt) (c2a2 a0 fl qfl (.inl ⟨fun b o q=>of_hideAll _ q,hideAll_none _ (.head _),fr t f3,oe,vs,t,ot,ts,he,hc,hd,h1,hideAll_none _ (.tail _ (.head _)),hte,ht,hdt,h3⟩)) (sb t f1 f2 hnt))
 ·exact (c1a4 e (c2a2 oe vs he hd) (c2a2 oe vs he hd) (c2a2 a0 fl qfl (.inr ⟨q,fun b o q=>of_hideAll _ q,hideAll_none _ (.head _),fr e f3,oe,vs,he,hc,hd,h1⟩)) (sb e f1 f2 f2))
end
inductive FRel (T:TT) (C:Cx) (h:Heap) (g:G):Mine.Flow→PySem.Flow→Prop
 | next:FRel T C h g .next .next
 | brk:FRel T C h g .brk .brk
 | ret {v:V} {p:Value}:RvV T C h g v p→FRel T C h g (.ret v) (.ret p)
noncomputable def xX (prog:Program) (w:World) (T:TT) (b₀:Heap) (C:Cx) (names:List Str) (t:Sem PySem.Flow) (f:St→R Mine.Flow):Prop :=
 ∀ (m:Str→Option Value) (g:G) (s:Shared) (st:St),Inv prog w T b₀ C g st.σ s.heap→Loc T C g names st.ρ m s.heap→∀ (Q:PySem.Flow→Shared→Prop) (E:Value→Shared→Prop),
  (∀ a st',f st=.ok a st'→∀ m' g' h' tk p,Post prog w T b₀ C names m' g s.heap st' g' h'→FRel T C h' g' a p→Q p {s with heap:=h',toks:=tk}) →
  (∀ st',f st=.exc st'→∀ m' g' h' tk e,Post prog w T b₀ C names m' g s.heap st' g' h'→Fly T C g s.heap e h'→E (.ref e) {s with heap:=h',toks:=tk}) →
  (f st=.bad→False)→wpAny (model prog w) C.A t Q E s
structure FnD where
 name:Str
 params:Arguments
 kV:Value
 doc:Value
 pm:Value
 ct:Value
 oc:Value
 an:Option uP0
 od:Option uP0
 osl:Array (Option Value)
noncomputable def FnD.fn (d:FnD) (body:List Stmt) (qual:Str) (scope:Scope) (cdv:Value):FuncData:=fnOf d.name qual d.params body scope .none d.kV d.doc d.pm d.an cdv d.ct
structure FnOkD (K:Frag) (T:TT) (f:Nat) (k:Fn) (body:List Stmt) (qual:Str) (scope:Scope) (cdv:Value) (d:FnD):Prop where
 look:K.lookup (T.fa f)=some ⟨d.oc,d.od,.func (d.fn body qual scope cdv),d.osl⟩
 code:codeIn K cdv qual=true
 p1:d.params.posonlyargs=[]
 p2:d.params.args.map (·.arg)=(T.sl f).take k.n
 p3:d.params.kwonlyargs=[]
 p4:d.params.vararg=none
 p5:d.params.kwarg=none
 n1:(T.sl f).Nodup
 n2:(T.sl f).length=k.slots
 n3:k.n≤k.slots
 n4:k.defs=[]
 x1:∀ x∈T.sl f,scope.names.lookup x=some .local
 x2:∀ x∈T.sl f,(x==("__debug__" : Str))=false
 s1:scope.isCoroutine=false
 s2:scope.isGenerator=false
 s3:scope.kind=.function
 s4:∀ x∈scope.names,x.2≠.cell
noncomputable def zn0 (K:Frag) (T:TT) (f:Nat) (k:Fn) (body:List Stmt) (qual:Str) (scope:Scope) (cdv:Value):Prop:=∃ d,FnOkD K T f k body qual scope cdv d
section
variable {prog:Program} {w:World} {K:Frag} {T:TT} {b₀:Heap} {C:Cx} {names:List Str} {m:Str→Option Value} {g:G} {h h':Heap} {s:Shared} {an:Nat→Str} {P:P}
noncomputable def zk0 (st:St):R Mine.Flow→R V
 | .ok (.ret v) st'=>.ok v ⟨st.ρ,st'.σ⟩
 | .ok .next st'=>.ok .none ⟨st.ρ,st'.σ⟩
 | .ok .brk _=>.bad
 | .exc st'=>.exc ⟨st.ρ,st'.σ⟩
 | .bad=>.bad
theorem vT {xs:List Str} {ps:List Value} (n:xs.Nodup) (hl:ps.length=xs.length) (x:Str):(xs.zip ps).reverse.lookup x=(xs.zip ps).lookup x:=by
 have nd:((xs.zip ps).map (·.1)).Nodup:=by
  rw [List.map_fst_zip (by exact yi0 (Eq.symm hl))]; exact n
 generalize xs.zip ps=l at nd
 induction l with
 | nil=>rfl
 | cons a l ih =>
  obtain ⟨y,v⟩:=a
  rw [vJ0,wn0] at nd
  have key:∀ (l r:List (Str×Value)),(l++r).lookup x=((l.lookup x).or (r.lookup x)):=by
   intro l r
   rw [List.lookup_append]
  rw [wO0,key,ih nd.2,vX0]
  by_cases hx:x=y
  ·subst hx
   have:l.lookup x=none:=by
    rw [List.lookup_eq_none_iff]
    intro p hp
    have:¬ x=p.1:=fun e=>nd.1 (wk0.mpr (c1a2 p hp e.symm))
    simpa using this
   rw [this]
   simp
  ·have hb:(x==y)=false:=beq_eq_false_iff_ne.mpr hx
   simp only [hb,List.lookup_nil,vX0]
   cases l.lookup x <;> rfl
theorem My {M:Model} {A:Around} {E:Value→Shared→Prop} {s:Shared} {base:Heap} {env:Env} {outer:List Env} {L e:uP0} {cls a0 fl:Value} {Q:Unit→Shared→Prop} (hfr:A.frames=some (env::outer)) (hf:env.frame=some L) (q:fl=.none∨fl=rawInt L) (f:FlyAt base (env::outer) e cls a0 fl s.heap)
  (hQ:∀ h',FlyAt base outer e cls a0 .none h'→s.heap.UpToSlots h'→Q () {s with heap:=h'}):wpAny M A (leaving env (.ref e)) Q E s:=by
 rcases f with f | ⟨rfl,f1,f2,f3,oe,vs,he,⟨rfl,h0⟩,hd,h1⟩
 ·rcases q with rfl | rfl
  ·exact wpAny_leaves_onW hfr hf f fun h' x u=>hQ h' (.inl x) u
  ·unfold leaving
   refine uF0 (wpAny_noteFrame_againW hf f.2.2.2 ?_)
   refine wpAny_landsW f fun h' hfl u=>?_
   refine JL hfl fun k1 k2 uQ0 k4=>?_; obtain ⟨_,_,k3⟩:=uQ0
   exact hQ h' (.inl ⟨k1,k2,k3,k4⟩) u
 ·refine wpAny_leaving_firstW hfr f3 hf he f1 f2 hd h1 h0 fun h' hL=>?_
  refine JL hL fun k1 uQ0 k3 k4=>?_; obtain ⟨_,_,k2⟩:=uQ0
  exact hQ h' (.inl ⟨k1,f2,k2,k3⟩) k4
theorem Qu {f:Nat} {k:Fn} {body:List Stmt} {qual:Str} {scope:Scope} {cdv:Value} {fb:St→R Mine.Flow} {st:St} {vs:List V} {ps:List Value} {ρ₀:List (Option LV)} (B:BOk K b₀) (F:zn0 K T f k body qual scope cdv) (hA:C.A.frames=some C.envs) (hh:C.A.handled=none) (hroom:C.A.depth<recursionLimit)
  (hbody:∀ C' L,COk C' (T.sl f)→C'.env=envOf qual scope L (T.fa f) cdv→C'.A=C.A.deeper C'.env→xX prog w T b₀ C' (T.sl f) (execs body C'.env) fb)
  (I:Inv prog w T b₀ C g st.σ s.heap) (Lc:Loc T C g names st.ρ m s.heap) (V:VsRel T g.φ (bad C g) s.heap vs ps) (hb:Mine.bindArgs k.n k.slots k.defs vs=some ρ₀) :
  Den prog w T b₀ (RvV T C) C names m g s (call (.ref (T.fa f)) ps) (zk0 st (fb ⟨ρ₀,st.σ⟩)):=by
 refine x1a1 F fun d D=>?_
 have n1:=D.n1
 have n2:=D.n2
 unfold Mine.bindArgs at hb
 split at hb
 case isFalse=>exact nsO hb
 rename_i hlen
 rw [D.n4] at hlen hb
 simp only [vy0,va0,List.drop_nil,vU0] at hlen hb
 cases hb
 have hvl:vs.length=k.n:=by exact yk0 hlen.1 hlen.2
 generalize hρ:((vs.map fun v=>some (LV.val v))++wF0 (k.slots-k.n) none:List (Option LV))=ρ₀
 have hpl:ps.length=((T.sl f).take k.n).length:=by rw [← V.length,hvl,vC0,n2]; exact (ys0 D.n3).symm
 have nt:((T.sl f).take k.n).Nodup:=(kl0 ..).nodup n1
 intro Q E hq he hbd
 refine wpAny_call ?_
 refine codeAny_call_def (fd:=d.fn body qual scope cdv) (body:=body) (binds:=((T.sl f).take k.n).zip ps) hroom (I.stay _ _ (B.X _ _ D.look)) rfl (B.nolimit.keeps I.stay) ((codeRec_of B.X D.code).keeps I.stay) rfl
  ((vH (fd:=d.fn body qual scope cdv) D.p1 D.p2 D.p3 D.p4 D.p5 (AL rfl) nt hpl)) D.s4 (fun y hy=>D.x1 _ (wf0 (wE0 hy).1)) (fun h₁ hns hk₁=>?_) D.s1 D.s2 D.s3
 have kk:∀ b o,s.heap.get? b=some o→h₁.get? b=some o:=hk₁
 have hns':h₁.Ns s.heap.objs.size (fun x=>(((T.sl f).take k.n).zip ps).lookup x):=by
  have e:(fun x=>(((T.sl f).take k.n).zip ps).reverse.lookup x)=fun x=>(((T.sl f).take k.n).zip ps).lookup x:=funext fun x=>vT nt hpl x
  rw [← e]; exact hns
 have EI:=Dq (env:=envOf qual scope s.heap.objs.size (T.fa f) cdv) (L:=s.heap.objs.size) I Lc (jd _) rfl rfl (by show scope.kind≠_; rw [D.s3]; decide) kk hns'
 have CK:COk (C.sub g (envOf qual scope s.heap.objs.size (T.fa f) cdv)) (T.sl f):={
  kind:=D.s3
  loc:=fun x hx=>D.x1 x hx
  nodup:=n1
  dbg:=D.x2
  gl:=rfl
  bl:=rfl
  fr:=by show (C.A.deeper _).frames=_; rw [show (C.A.deeper (envOf qual scope s.heap.objs.size (T.fa f) cdv)).frames=C.A.frames.map (_::·) from rfl,hA]; rfl
  hd:=hh
  top:=(c3a3 _ _ _ rfl rfl rfl)}
 have len0:ρ₀.length=(T.sl f).length:=by
  rw [← hρ,vt0,vq0,wZ0,n2,hvl]; exact vb0 D.n3
 have getv:∀ (i:Nat) (x:LV),ρ₀[i]?=some (some x)→∃ v,vs[i]?=some v∧x=.val v:=by
  intro i x hx
  rw [← hρ] at hx
  by_cases hi:i<vs.length
  ·rw [vD0 (by rw [vq0]; exact hi),vG0] at hx
   refine x1a2 (kS0.mp hx) fun v hv e=>?_
   cases e
   exact (c1a2 v hv rfl)
  ·rw [vz0 (by rw [vq0]; exact yo0 hi),wT0] at hx
   split at hx <;> cases hx
 have LC:Loc T (C.sub g (envOf qual scope s.heap.objs.size (T.fa f) cdv)) ⟨g.φ,g.μ,[]⟩ (T.sl f) ρ₀ (fun x=>(((T.sl f).take k.n).zip ps).lookup x) h₁:={
  ns:=hns'
  val:=fun i x v hx hv=>by
   refine x1a2 (getv i _ hv) fun v' hv' e=>?_
   cases e
   refine x1a2 (V.get hv') fun p hp W=>?_
   refine (c1a2 p (zm nt ?_ hp) (W.mono EI.2))
   rw [wI0,if_pos (by rw [← hvl]; exact (vv0.mp hv').1)]
   exact hx
  own:=fun i x ws hx hv=>by refine x1a2 (getv i _ hv) fun v' _ e=>?_; exact qO LV.ctorIdx e rfl
  one:=fun i j ws us h1 h2=>by refine x1a2 (getv i _ h1) fun v' _ e=>?_; exact qO LV.ctorIdx e rfl
  len:=len0}
 refine hbody (C.sub g (envOf qual scope s.heap.objs.size (T.fa f) cdv)) s.heap.objs.size CK rfl rfl _ _ {s with heap:=h₁,toks:=s.toks+(((T.sl f).take k.n).zip ps).length} ⟨ρ₀,st.σ⟩ EI.1 LC _ _ (fun a st' e m' g' h₂ tk p Po Rv=>?_) (fun st' e m' g' h₂ tk x Po Fl=>?_) fun e=>hbd (by rw [e]; rfl)
 ·have LP:=vU I.nodup I.sep Lc (jd _) rfl rfl kk Po.inv Po.step
  cases Rv with
  | next=>exact hq .none ⟨st.ρ,st'.σ⟩ (by rw [e]; rfl) _ h₂ tk .none LP.1 .none
  | brk=>exact (hbd (by rw [e]; rfl)).elim
  | ret Vr=>exact hq _ ⟨st.ρ,st'.σ⟩ (by rw [e]; rfl) _ h₂ tk _ LP.1 (Vr.mono LP.2)
 ·refine x1a4 (Bg Po Fl) fun t ee et uQ0 sb=>?_; obtain ⟨a0,fv,qfl,fl⟩:=uQ0
  refine My (env:=envOf qual scope s.heap.objs.size (T.fa f) cdv) (outer:=C.envs) (L:=s.heap.objs.size) CK.fr rfl (qfl.imp id fun ⟨L',q1,q2⟩=>by cases q1; exact q2) fl fun h₃ fl' u=>?_
  have k0:(hideAll h₁ (yE (C.sub g (envOf qual scope s.heap.objs.size (T.fa f) cdv)) ⟨g.φ,g.μ,[]⟩)).StaysIn h₃:=fun b o q=>fl'.stays b o (sb b o q)
  have Sh:=Ol (st₀:=⟨ρ₀,st.σ⟩) EI.1 LC Po ee et k0 fl'.stays u
  have LP:=vU I.nodup I.sep Lc (jd _) rfl rfl kk Sh.1.inv Sh.1.step
  refine he ⟨st.ρ,st'.σ⟩ (by rw [e]; rfl) _ h₃ tk x LP.1 ⟨a0,.none,.inl rfl,Ab (fun b o q=>sb b o ?_) fl'⟩
  have q':=of_hideAll _ q
  have nm:¬ may C g b:=fun z=>by rw [hideAll_none _ (mem_hideL.mpr z)] at q; exact nsO q
  refine hideAll_get _ (kk b o q') fun z=>?_
  have z:=mem_hideL.mp z
  have nb:b≠s.heap.objs.size:=fun y=>by rw [y,jd] at q'; exact nsO q'
  rcases z with z | z | z | z
  ·exact nm (.inl z)
  ·exact zv z
  ·exact nb z
  ·have z:b∈(envOf qual scope s.heap.objs.size (T.fa f) cdv::C.envs).filterMap (·.frame):=z
   rw [vR0] at z
   exact (vI0.mp z).elim nb fun z=>nm (.inr (.inr (.inr z)))
end
noncomputable def wr (st:St):RC→R V
 | .ok v σ=>.ok v {st with σ:=σ}
 | .exc σ=>.exc {st with σ:=σ}
 | .bad=>.bad
noncomputable def xc0 (A:Around) (n:Nat):Prop:=A.depth+3*n+10<recursionLimit∧A.units+12*n+100<cLine
structure AOk (C:Cx) (n:Nat):Prop where
 fr:C.A.frames=some C.envs
 hd:C.A.handled=none
 room:xc0 C.A n
noncomputable def IL (prog:Program) (w:World) (T:TT) (b₀:Heap) (call':Nat→List V→H→RC) (n:Nat):Prop :=
 ∀ (C:Cx) (names:List Str) (m:Str→Option Value) (g:G) (s:Shared) (st:St) (f:Nat) (vs:List V) (ps:List Value),AOk C n→Inv prog w T b₀ C g st.σ s.heap→Loc T C g names st.ρ m s.heap→VsRel T g.φ (bad C g) s.heap vs ps →
  Den prog w T b₀ (RvV T C) C names m g s (call (.ref (T.fa f)) ps) (wr st (call' f vs st.σ))
noncomputable def zl0 (prog:Program) (w:World) (T:TT) (b₀:Heap) (mk:Nat→List V→H→RC) (n:Nat):Prop :=
 ∀ (C:Cx) (names:List Str) (m:Str→Option Value) (g:G) (s:Shared) (st:St) (c:Nat) (vs:List V) (ps:List Value),AOk C n→Inv prog w T b₀ C g st.σ s.heap→Loc T C g names st.ρ m s.heap→VsRel T g.φ (bad C g) s.heap vs ps →
  Den prog w T b₀ (RvV T C) C names m g s (call (.ref (T.ca c)) ps) (wr st (mk c vs st.σ))
structure MethOk (K:Frag) (T:TT) (mn:Nat→Str) (c m f:Nat):Prop where
 find:findIn K (.ref (T.ca c)) (mn m)=some (some (.ref (T.fa f)))
 type:typeIn K (.ref (T.fa f))=some (.type "function")
 keep:keepIn K (.ref (T.fa f))=true
 miss:(T.fld c).contains (mn m)=false
 ga:findIn K (.ref (T.ca c)) "__getattribute__" = some (some (.builtin "object.__getattribute__"))
 gx:findIn K (.ref (T.ca c)) "__getattr__" = some none
theorem Ga {args:List Expr} (h:args.all qU=true) (pos:Pos) (env:Env):(backTo pos (starEach args env)).any (·.1)=false:=by
 induction args with
 | nil=>rfl
 | cons e r ih =>
  rw [wv0,ug0] at h
  rw [jN h.1]
  show (false||(backTo pos (starEach r env)).any (·.1))=false
  rw [ih h.2]; rfl
theorem Gb {args:List Expr} (h:args.all qU=true) (pos:Pos) (env:Env):(backTo pos (starEach args env)).all (!·.1)=true:=by
 induction args with
 | nil=>rfl
 | cons e r ih =>
  rw [wv0,ug0] at h
  rw [jN h.1]
  show (true&&(backTo pos (starEach r env)).all (!·.1))=true
  rw [ih h.2]; rfl
section
variable {prog:Program} {w:World} {K:Frag} {T:TT} {b₀:Heap} {C:Cx} {names:List Str} {m:Str→Option Value} {g:G} {h h':Heap} {s:Shared} {an mn:Nat→Str} {P:P}
variable {call':Nat→List V→H→RC} {n:Nat}
theorem vD {pos:Pos} {f:Value} {first:List Value} {args:List Expr} {fes:St→R (List V)} {β:Type} {Rv':Heap→G→β→Value→Prop} {kr:List V→St→R β} {st:St} (hs:args.all qU=true) (h0:args=[]→fes=fun st=>.ok [] st)
  (hk:∀ h,b₀.StaysIn h→∃ k,(k=Keeper.frame∨k=Keeper.machine∨k=Keeper.boundFrame)∧Looks (model prog w) h (keeperOf f) k) (d:yZ prog w T b₀ C names args fes) (I:Inv prog w T b₀ C g st.σ s.heap) (L:Loc T C g names st.ρ m s.heap)
  (k:∀ vs st1,fes st=.ok vs st1→∀ g1 h1 tk1 ps,Post prog w T b₀ C names m g s.heap st1 g1 h1→VsRel T g1.φ (bad C g1) h1 vs ps→Den prog w T b₀ Rv' C names m g1 {s with heap:=h1,toks:=tk1} (call f (first++ps)) (kr vs st1)) :
  Den prog w T b₀ Rv' C names m g s (callWith pos f first (backTo pos (starEach args C.env)) []) ((fes st).bind kr):=by
 intro Q E hq he hb
 have plain:((backTo pos (starEach args C.env)).any (·.1)||([]:List (Option Str×Sem Value)).any (·.1.isNone))=false:=by rw [Ga hs]; rfl
 refine callWith_of (P:=fun h=>b₀.StaysIn h) plain hk ?_
 cases args with
 | nil =>
  have e0:=h0 rfl
  subst e0
  refine evalArgs_nil3 ⟨I.stay,?_⟩
  have:=k [] st rfl g s.heap s.toks [] (.here I L) .nil
  exact this Q E hq he hb
 | cons e r =>
  have e1:starEach (e::r) C.env=(false,eval e C.env)::starEach r C.env:=jN (by rw [wv0,ug0] at hs; exact hs.1) r C.env
  have D:=d pos m g s st I L
  rw [e1] at D ⊢
  refine evalArgs_plain (D _ _ (fun vs st1 e g1 h1 tk1 ps P1 V1=>⟨P1.inv.stay,?_⟩) (fun st1 e=>he st1 (by rw [e]; rfl)) fun e=>hb (by rw [e]; rfl))
  exact k vs st1 e g1 h1 tk1 ps P1 V1 Q E (fun a st' e' g' h' tk p P2 V2=>hq a st' (by rw [e]; exact e') g' h' tk p (P1.trans P2) V2)
   (fun st' e' g' h' tk x P2 F=>he st' (by rw [e]; exact e') g' h' tk x (P1.trans P2) (F.back P1.step)) fun e'=>hb (by rw [e]; exact e')
theorem jL {pos:Pos} {f:Value} {first:List Value} {args:List Expr} {fes:St→R (List V)} {kr:List V→St→R V} {st:St} (hs:args.all qU=true) (h0:args=[]→fes=fun st=>.ok [] st)
  (hk:∀ h,b₀.StaysIn h→∃ k,(k=Keeper.frame∨k=Keeper.machine∨k=Keeper.boundFrame)∧Looks (model prog w) h (keeperOf f) k) (d:yZ prog w T b₀ C names args fes) (I:Inv prog w T b₀ C g st.σ s.heap) (L:Loc T C g names st.ρ m s.heap)
  (k:∀ vs st1,fes st=.ok vs st1→∀ g1 h1 tk1 ps,Post prog w T b₀ C names m g s.heap st1 g1 h1→VsRel T g1.φ (bad C g1) h1 vs ps→Den prog w T b₀ (RvV T C) C names m g1 {s with heap:=h1,toks:=tk1} (call f (first++ps)) (kr vs st1)) :
  Den prog w T b₀ (RvV T C) C names m g s (callWith pos f first (backTo pos (starEach args C.env)) []) ((fes st).bind kr):=vD hs h0 hk d I L k
theorem zh (id:Str) (p:Pos) (args:List Expr) (pos:Pos) (env:Env):eval (.Call (.Name id p) args [] pos) env=(do callWith pos (← eval (.Name id p) env) [] (backTo pos (starEach args env)) []):=rfl
theorem JH {f:Nat} {id:Str} {p pos:Pos} {args:List Expr} {fes:St→R (List V)} (B:BOk K b₀) (ck:COk C names) (ao:AOk C n) (hc:IL prog w T b₀ call' n) (hs:args.all qU=true) (h0:args=[]→fes=fun st=>.ok [] st)
  (hx:C.env.kindOf id=some .globalImplicit) (hd:(id==("__debug__" : Str))=false) (e:nsIn K uK0 id=some (some (.ref (T.fa f)))) (hk:keepIn K (.ref (T.fa f))=true) (d:yZ prog w T b₀ C names args fes) :
  jh prog w T b₀ C names (eval (.Call (.Name id p) args [] pos) C.env) (fun st=>(fes st).bind fun vs st=>wr st (call' f vs st.σ)):=by
 intro m g s st I L
 rw [zh]
 intro Q E hq he hb
 refine uF0 (DD B ck I hx hd e ?_)
 exact jL hs h0 (fun h X=>keeps_K hk h (B.X.keeps X)) d I L (fun vs st1 _ g1 h1 tk1 ps P1 V1=>hc C names m g1 _ st1 f vs ps ao P1.inv P1.loc V1) Q E hq he hb
theorem QJ {mk:Nat→List V→H→RC} {c:Nat} {id:Str} {p pos:Pos} {args:List Expr} {fes:St→R (List V)} (B:BOk K b₀) (ck:COk C names) (ao:AOk C n) (hc:zl0 prog w T b₀ mk n) (hs:args.all qU=true) (h0:args=[]→fes=fun st=>.ok [] st)
  (hx:C.env.kindOf id=some .globalImplicit) (hd:(id==("__debug__" : Str))=false) (e:nsIn K uK0 id=some (some (.ref (T.ca c)))) (hk:keepIn K (.ref (T.ca c))=true) (d:yZ prog w T b₀ C names args fes) :
  jh prog w T b₀ C names (eval (.Call (.Name id p) args [] pos) C.env) (fun st=>(fes st).bind fun vs st=>wr st (mk c vs st.σ)):=by
 intro m g s st I L
 rw [zh]
 intro Q E hq he hb
 refine uF0 (DD B ck I hx hd e ?_)
 exact jL hs h0 (fun h X=>keeps_K hk h (B.X.keeps X)) d I L (fun vs st1 _ g1 h1 tk1 ps P1 V1=>hc C names m g1 _ st1 c vs ps ao P1.inv P1.loc V1) Q E hq he hb
theorem NA {σ:H} {v:V} {c:Nat} (e:Bm σ v=some c):∃ fs,v=.obj c fs∨∃ n,v=.ref n∧σ[n]?=some (.inst c fs):=by
 cases v with
 | obj d fs=>exact ⟨fs,.inl (by rw [kT0.inj e])⟩
 | ref n=>exact x2a2 (vM e) fun d fs hs e=>⟨fs,.inr (c1a2 n rfl (by rw [← kT0.inj e]; exact hs))⟩
 | _=>exact nsO e
theorem Bj (o:Expr) (name:Str) (apos pos:Pos) (args:List Expr) (env:Env):eval (.Call (.Attribute o name apos) args [] pos) env=(do
  let ov ← attributeBase o name env (eval o env)
  standAt apos.atName
  let (f,first) ← PySem.holding [ov] (calleeOf (methodCallForm (args.length+0) (backTo pos (starEach args env)) []) o env ov name)
  let callPos ← methodCallPos (methodCallForm (args.length+0) (backTo pos (starEach args env)) []) o env apos pos
  callWith callPos f first (backTo pos (starEach args env)) []):=rfl
theorem jA {o:Expr} {name:Str} {apos pos:Pos} {args:List Expr} {α:Type} {Rv:Heap→G→α→Value→Prop} {r:R α} {kr:α→St→R V} (hb0:jy o=true) (hs:args.all qU=true) (hl:args.length<30) (hp:(apos.endLine==pos.line)=true)
  (d:Den prog w T b₀ Rv C names m g s (eval o C.env) r)
  (k:∀ v st1,r=.ok v st1→∀ g1 h1 tk1 p,Post prog w T b₀ C names m g s.heap st1 g1 h1→Rv h1 g1 v p →
   Den prog w T b₀ (RvV T C) C names m g1 {s with heap:=h1,toks:=tk1} (do let (f,first) ← PySem.holding [p] (getMethod p name (do return (← importBound o C.env).getD true)); callWith pos f first (backTo pos (starEach args C.env)) []) (kr v st1)) :
  Den prog w T b₀ (RvV T C) C names m g s (eval (.Call (.Attribute o name apos) args [] pos) C.env) (r.bind kr):=by
 have hform:methodCallForm (args.length+0) (backTo pos (starEach args C.env)) []=true:=by
  unfold methodCallForm
  rw [Gb hs]
  simp [hl]
 rw [Bj,zP hb0,hform]
 have hpos:methodCallPos true o C.env apos pos=pure pos:=by exact if_pos (c:=(!true||apos.endLine==pos.line)=true) hp
 rw [hpos]
 refine d.bind fun v st1 e g1 h1 tk1 p P1 V1=>Den.standAt ?_
 have:=k v st1 e g1 h1 tk1 p P1 V1
 simpa [calleeOf] using this
theorem Nn {mi:Nat} {o:Expr} {apos pos:Pos} {args:List Expr} {fo:St→R V} {fes:St→R (List V)} (B:BOk K b₀) (ao:AOk C n) (hc:IL prog w T b₀ call' n) (TM:∀ c m f,P.meth c m=some f→MethOk K T mn c m f)
  (hb0:jy o=true) (hs:args.all qU=true) (h0:args=[]→fes=fun st=>.ok [] st) (hl:args.length<30) (hp:(apos.endLine==pos.line)=true)
  (d:jh prog w T b₀ C names (eval o C.env) fo) (de:yZ prog w T b₀ C names args fes) :
  jh prog w T b₀ C names (eval (.Call (.Attribute o (mn mi) apos) args [] pos) C.env) (fun st=>(fo st).bind fun o st=>match (Bm st.σ o).bind fun c=>P.meth c mi with
   | some f=>(fes st).bind fun vs st=>wr st (call' f (o::vs) st.σ)
   | none=>.bad):=by
 intro m g s st I L
 refine jA hb0 hs hl hp (d m g s st I L) fun v st1 e g1 h1 tk1 p P1 V1=>?_
 cases ec:(Bm st1.σ v).bind fun c=>P.meth c mi with
 | none=>exact Den.bad
 | some f =>
  refine x1a2 (kU0.mp ec) fun c hc1 hm=>?_
  refine x1a1 (NA hc1) fun fs hv=>?_
  have M:=TM c mi f hm
  refine x4a4 (Dc P1.inv V1 hv) fun a dx es k uQ0 i1 i2 r=>?_; subst uQ0
  have hsh:shadowIn (some (dictOf es k)) (mn mi)=some false:=by
   show (lookIn (mn mi) (dictOf es k)).map (·.isSome)=_
   rw [lookIn_dict,r.miss M.miss]; rfl
  intro Q E hq he hb
  refine uF0 (uH0 (method_fn (B.X.keeps P1.inv.stay) (vq i1 i2) M.ga M.gx M.find M.type hsh ?_))
  refine jL (st:=st1) hs h0 (fun h X=>keeps_K M.keep h (B.X.keeps X)) de P1.inv P1.loc (fun vs st2 _ g2 h2 tk2 ps P2 V2=>?_) Q E hq he hb
  exact hc C names m g2 _ st2 f (v::vs) (.ref a::ps) ao P2.inv P2.loc (.cons (V1.lift P2.step) V2)
end
open AutoSeq1 (wpAny_loadPart')
theorem BV (l:uP0) (items:Array Value) (n:Nat) (b:uP0) (items2:Array Value) (n2:Nat) (dd2:Option uP0) (sl2:Array (Option Value)) (hc0:¬(!items.isEmpty&&Builtin.List.listTooLong (items.size+items2.size))=true) (hc1:items.size≤sizeLine) (hs2:items.size+items2.size≤sizeLine+1) :
  Meets (Builtin.«list.extend» ⟨[.ref l,.ref b],[]⟩) (fun _ R s=>s.heap.get? l=some {cls:=.type "list",dict:=none,data:=.seq items n,slots:=#[]}∧s.heap.get? b=some {cls:=.type "list",dict:=dd2,data:=.seq items2 n2,slots:=sl2}∧R (.ok (.ret Value.none)) {s with heap:=s.heap.update l (Obj.mapSeq fun x=>x++items2),toks:=s.toks}) :=
 .of_wp fun prog w A R s h=>by
  obtain ⟨hp,g,d,tk,os⟩:=s; refine qz0 h fun hl hb h=>?_; have f1:=AutoSeq1.idx_int; have f2:=AutoSeq1.sub_tuple_tuple; have f3:=AutoSeq1.sub_list_list; have f4:=AutoSeq1.sub_tuple_list; have f5:=AutoSeq1.sub_list_tuple;
  have hz':(items++items2).size≤sizeLine+1:=by rw [Array.size_append]; exact hs2
  wp_walk using (wpAny_updateSeq hl rfl (hz:=hc1) (_hz':=hz')),wpAny_loadPart' hl,wpAny_loadPart' hb; exact (c1a2 _ rfl h)
section
variable {prog:Program} {w:World} {K:Frag} {T:TT} {b₀:Heap} {C:Cx} {names:List Str} {m:Str→Option Value} {g:G} {h h':Heap} {s:Shared} {an mn:Nat→Str} {P:P}
theorem zf {M:Model} (id:String) (h:Heap):∃ k,(k=Keeper.frame∨k=Keeper.machine∨k=Keeper.boundFrame)∧Looks M h (keeperOf (.builtin id)) k:=(c1a2 .machine (.inr (.inl rfl)) (Looks.of_pure rfl))
theorem vV {M:Model} (id:String) (h:Heap):∃ k,(k=Keeper.frame∨k=Keeper.machine∨k=Keeper.boundFrame)∧Looks M h (keeperOf (.type id)) k:=(c1a2 .machine (.inr (.inl rfl)) (Looks.of_pure rfl))
theorem zq {l:List Env} (f:h.FunFrames b₀ l) (k:∀ b o,b∈l.filterMap (·.frame)→h.get? b=some o→noF o→∃ o',h'.get? b=some o'∧noF o'):h'.FunFrames b₀ l:=by
 induction l with
 | nil=>trivial
 | cons env l ih =>
  refine qz0 f fun hk uQ0 hr=>?_; obtain ⟨L,o,hf,hn,ho,hd⟩:=uQ0
  have hm:L∈(env::l).filterMap (·.frame):=wK0.mpr (c1a2 env (.head _) hf)
  refine x1a2 (k L o hm ho hd) fun o' h1 h2=>?_
  exact ⟨hk,(c2a4 L o' hf hn h1 h2),ih hr fun b o hb e=>k b o (by rw [vR0,hf]; exact .tail _ hb) e⟩
theorem wH {ρ:List (Option LV)} {σ:H} {i:Nat} {o o':O} {x d:uP0} (I:Inv prog w T b₀ C g σ h) (L:Loc T C g names ρ m h) (hi:σ[i]?=some o) (hx:g.φ[i]?=some x) (hd:g.μ[i]?=some d)
  (k:∀ b q,b≠d→h.get? b=some q→h'.get? b=some q) (hr:ORel prog w T g.φ (bad C g) h' o' x d):Post prog w T b₀ C names m g h ⟨ρ,σ.set i o'⟩ g h':=by
 have hm:d∈g.μ:=vx0 hd
 have bd:bad C g d:=.inl (.inl hm)
 have M:Mono g.φ g.φ (bad C g) (bad C g) h h':=⟨vw0,fun a o e n _=>k a o (fun q=>n (q▸bd)) e,fun _ _ _ n=>n⟩
 have sp:=I.sep d (.inl hm)
 have nd:=I.nodup
 rw [vA0] at nd
 refine x1a2 hr.noF fun qd hqd nf=>?_
 have hl:i<σ.length:=(vv0.mp hi).1
 refine ⟨⟨?_,?_,I.nodup,I.sep,I.fresh,fun b o e=>?_,?_,fun n o e=>?_,fun b q=>?_,fun b q=>?_⟩,⟨?_,fun j y v a b=>?_,fun j y vs a b=>?_,L.one,L.len⟩,⟨vw0,vw0,fun _ e=>.inl e,fun _ e=>.inl e,fun b o e n=>?_,fun b q n o e=>?_,fun b o e=>?_⟩⟩
 ·show g.φ.length=(σ.set i o').length
  rw [vS0]; exact I.lφ
 ·show g.μ.length=(σ.set i o').length
  rw [vS0]; exact I.lμ
 ·refine k b o (fun q=>?_) (I.stay b o e)
  have:=I.fresh d bd
  rw [← q,e] at this; exact snO this
 ·exact zq I.frames fun b o hb e nf=>(c1a2 o (k b o (fun q=>sp.2.1 (q▸hb)) e) nf)
 ·have e:(σ.set i o')[n]?=some o:=e
  rw [kj0] at e
  split at e
  ·rename_i hni
   cases e
   rw [← hni]
   exact (c2a3 x d hx hd hr)
  ·rename_i hni
   refine x2a3 (I.objs n o e) fun y z h1 h2 r=>?_
   refine (c2a3 y z h1 h2 (r.mono M fun q hq=>k z q (fun e=>hni ?_) hq))
   subst e
   exact (wP0 (vv0.mp hd).1 nd.1).mp (hd.trans h2.symm)
 ·refine x1a2 (I.hidden b q) fun o e n=>?_
  exact (c1a2 o (k b o (fun z=>sp.2.2 (z▸q)) e) n)
 ·refine x1a2 (I.ownT b q) fun o e n=>?_
  exact (c1a2 o (k b o (fun z=>nd.2.2 d hm b q z.symm) e) n)
 ·refine x3a2 L.ns fun o es ep e r=>?_
  exact ⟨o,es,ep,k _ _ (fun z=>sp.1 z.symm) e,r⟩
 ·refine x1a2 (L.val j y v a b) fun p h1 h2=>?_
  exact (c1a2 p h1 (h2.mono M))
 ·refine x2a5 (L.own j y vs a b) fun q its h1 h2 uQ0 h4 h5=>?_; obtain ⟨n,h3⟩:=uQ0
  exact (c2a5 q its h1 h2 ⟨n,k _ _ (fun z=>nd.2.2 d hm q (by rw [h2]; exact vu0.mpr rfl) z.symm) h3⟩ (h4.mono M) h5)
 ·exact k b o (fun z=>n (.inl (z▸hm))) e
 ·exact ⟨o.slots,k b o (fun z=>sp.2.1 (z▸q)) e⟩
 ·by_cases hb:b=d
  ·rw [hb]; exact (c1a2 qd hqd (fun _=>nf))
  ·exact (c1a2 o (k b o hb e) id)
theorem AQ {f:St→R V} {st:St} {k:V→St→R V}:(((f st).bind fun v st=>(R.ok ([]:List V) st).bind fun vs st=>.ok (v::vs) st).bind fun vs st=>match vs with | [v]=>k v st | _=>.bad)=(f st).bind k:=by
 cases f st <;> rfl
theorem xM {id:Str} {p pos:Pos} {fv:Value} {e:Expr} {f:St→R V} {k:V→St→R V} (B:BOk K b₀) (ck:COk C names) (hs:qU e=true) (hx:C.env.kindOf id=some .globalImplicit) (hd:(id==("__debug__" : Str))=false) (hm:nsIn K uK0 id=some none) (hv:bootBuiltins id=some fv) (hn:id ≠ "__name__")
  (hk:∀ h,∃ k,(k=Keeper.frame∨k=Keeper.machine∨k=Keeper.boundFrame)∧Looks (model prog w) h (keeperOf fv) k) (d:jh prog w T b₀ C names (eval e C.env) f)
  (kk:∀ m g s st v p,Inv prog w T b₀ C g st.σ s.heap→Loc T C g names st.ρ m s.heap→RvV T C s.heap g v p→Den prog w T b₀ (RvV T C) C names m g s (call fv [p]) (k v st)) :
  jh prog w T b₀ C names (eval (.Call (.Name id p) [e] [] pos) C.env) (fun st=>(f st).bind k):=by
 intro m g s st I L
 rw [zh]
 intro Q E hq he hb
 refine uF0 (uG B ck I hx hd hm hv hn ?_)
 have D:=jL (first:=[]) (f:=fv) (pos:=pos) (args:=[e]) (kr:=fun vs st=>match vs with | [v]=>k v st | _=>.bad) (by simp [hs]) (fun q=>by cases q) (fun h _=>hk h) (zr hs d zy) I L (fun vs st1 _ g1 h1 tk1 ps P1 V1=>by
  cases V1 with
  | nil=>exact Den.bad
  | cons a r =>
   cases r with
   | nil=>exact kk m g1 _ st1 _ _ P1.inv P1.loc a
   | cons _ _=>exact Den.bad)
 exact (Den.cast AQ D) Q E hq he hb
theorem QL {id:Str} {p pos:Pos} {e:Expr} {f:St→R V} (B:BOk K b₀) (ck:COk C names) (hs:qU e=true) (hi:id = "len") (hx:C.env.kindOf id=some .globalImplicit) (hm:nsIn K uK0 id=some none) (d:jh prog w T b₀ C names (eval e C.env) f) :
  jh prog w T b₀ C names (eval (.Call (.Name id p) [e] [] pos) C.env) (fun st=>(f st).bind fun v st=>match zb v st.σ with | some n=>.ok (.int n) st | none=>.bad):=by
 subst hi
 refine xM (fv:=.builtin "len") B ck hs hx (by decide) hm (by with_unfolding_all rfl) (by decide) (zf _) d fun m g s st v p I L V=>?_
 cases e:zb v st.σ with
 | none=>exact Den.bad
 | some n=>exact Ys I L V e
theorem JD {id:Str} {p pos:Pos} {e:Expr} {f:St→R V} (B:BOk K b₀) (ck:COk C names) (hs:qU e=true) (hi:id = "tuple") (hx:C.env.kindOf id=some .globalImplicit) (hm:nsIn K uK0 id=some none) (d:jh prog w T b₀ C names (eval e C.env) f) :
  jh prog w T b₀ C names (eval (.Call (.Name id p) [e] [] pos) C.env) (fun st=>(f st).bind fun v st=>match v with | .lst vs=>if vs.length≤qD then .ok (.tup vs) st else .bad | _=>.bad):=by
 subst hi
 refine xM (fv:=.type "tuple") B ck hs hx (by decide) hm (by with_unfolding_all rfl) (by decide) (vV _) d fun m g s st v p I L V=>?_
 cases v with
 | lst vs =>
  refine x2a4 (jJ V) fun a its uQ0 hl nb V'=>?_; rw [uQ0]
  dsimp only
  split
  ·rename_i hk
   have hsz:=V'.size
   refine Den.of_wp rfl fun Q E hq=>call_tuple_list hl (fun h' k=>?_) (by rw [← hsz,uJ0]; unfold qD at hk; exact yd0 hk)
   have I':=I.keeps k
   have L':=L.keeps k
   have N:=KO I' L' (V'.mono (Mono.keeps k))
   rw [uy0] at N
   exact hq g _ s.toks _ ((Post.keeps I L k).trans N.1) N.2
  ·exact Den.bad
 | _=>exact Den.bad
theorem Gd {D:uP0} {its:Array Value} {name:Str} {id:String} {pl:Sem Bool} {Q:Value×List Value→Shared→Prop} {A:Around} {E:Value→Shared→Prop} (hl:s.heap.PlainList D its) (slot:Slot "list" name id) (hty:typeOf (.builtin id)=pure (.type "method_descriptor"))
  (h:Q (.builtin id,[.ref D]) s):wpAny (model prog w) A (getMethod (.ref D) name pl) Q E s:=by
 refine x1a1 hl fun n hl=>?_
 exact getMethod_builtin ⟨_,hl,rfl⟩ PySem.F.plainAttrs_list slot hty (fun a e=>by cases e; exact (c1a2 _ hl rfl)) h
theorem wU {φ:List uP0} {bd:uP0→Prop}:∀ (ws:List (List Nat)) (tk:Nat),VsRel T φ bd h (ws.map V.str) (strsFrom tk (ws.map toS))
 | [],_=>.nil
 | x::r,tk=>.cons (.str x tk) (wU r (tk+1))
structure SplitOk (P:Mine.P):Prop where
 ok:∀ s ws,P.split s=some ws→s.length≤qD∧ws.length≤qD∧(Builtin.Str.spaceWords (toS s) ((toS s).length+1)).length≤qD∧(if (Builtin.Str.spaceWords (toS s) ((toS s).length+1)==[(0,(toS s).length)])=true then ws=[s] else PySem.wordsOf (toS s)=ws.map toS)
set_option maxRecDepth 20000 in
theorem JE {o:Expr} {apos pos:Pos} {fo:St→R V} (SO:SplitOk P) (hb0:jy o=true) (hp:(apos.endLine==pos.line)=true) (d:jh prog w T b₀ C names (eval o C.env) fo) :
  jh prog w T b₀ C names (eval (.Call (.Attribute o "split" apos) [] [] pos) C.env) (fun st=>(fo st).bind fun v st=>match v with | .str s=>(match P.split s with | some ws=>.ok (.lst (ws.map V.str)) st | none=>.bad) | _=>.bad):=by
 intro m g s st I L
 refine jA hb0 rfl (by decide) hp (d m g s st I L) fun v st1 _ g1 h1 tk1 p P1 V1=>?_
 cases v with
 | str x =>
  refine x1a1 (zS V1) fun t uQ0=>?_; rw [uQ0]
  dsimp only
  cases e:P.split x with
  | none=>exact Den.bad
  | some ws =>
   refine JL (SO.ok x ws e) fun l1 l2 l3 l4=>?_
   intro Q E hq he hb
   refine uF0 (uH0 ?_)
   with_reducible refine GM.split ?_
   refine (jL (st:=st1) (args:=[]) (fes:=fun st=>.ok [] st) (kr:=fun _ st=>.ok (.lst (ws.map V.str)) st) rfl (fun _=>rfl) (fun h _=>zf _ h) zy P1.inv P1.loc fun vs st2 e2 g2 h2 tk2 ps P2 V2=>?_) Q E hq he hb
   cases e2
   cases V2
   refine Den.of_wp rfl fun Q E hq=>?_
   refine call_meets PySem.F.slot_str_split (typeIs_str _ _ _) PySem.F.entry_str_split (PySem.F.args_str_split_1 _) (PySem.meets_str_split_space (toS x) t (by rw [zk,uJ0]; unfold qD at l1; exact yd0 l1) (by rw [uJ0]; unfold qD at l3; exact yd0 l3)) ?_
   split at l4
   ·rename_i hw
    rw [if_pos hw]
    subst l4
    have N:=kt (vs:=[.str x]) (ps:=[.str (toS x) t]) P2.inv P2.loc (.cons (.str x t) .nil)
    exact hq g2 _ tk2 _ N.1 N.2
   ·rename_i hw
    rw [if_neg hw]
    rw [l4]
    have N:=kt P2.inv P2.loc (wU ws tk2)
    exact hq g2 _ _ _ N.1 N.2
 | _=>exact Den.bad
noncomputable def DenSt (prog:Program) (w:World) (T:TT) (b₀:Heap) (C:Cx) (names:List Str) (g:G) (s:Shared) (t:Sem PySem.Flow) (r:R Mine.Flow):Prop :=
 ∀ (Q:PySem.Flow→Shared→Prop) (E:Value→Shared→Prop),
  (∀ a st',r=.ok a st'→∀ m' g' h' tk p,Post prog w T b₀ C names m' g s.heap st' g' h'→FRel T C h' g' a p→Q p {s with heap:=h',toks:=tk}) →
  (∀ st',r=.exc st'→∀ m' g' h' tk e,Post prog w T b₀ C names m' g s.heap st' g' h'→Fly T C g s.heap e h'→E (.ref e) {s with heap:=h',toks:=tk}) →
  (r=.bad→False)→wpAny (model prog w) C.A t Q E s
theorem DenSt.bad {t:Sem PySem.Flow}:DenSt prog w T b₀ C names g s t .bad:=fun _ _ _ _ h=>(h rfl).elim
theorem DenSt.cast {t:Sem PySem.Flow} {r r':R Mine.Flow} (e:r=r') (d:DenSt prog w T b₀ C names g s t r):DenSt prog w T b₀ C names g s t r':=e▸d
theorem DenSt.standAt {pos:Pos} {k:Sem PySem.Flow} {r:R Mine.Flow} (d:DenSt prog w T b₀ C names g s k r):DenSt prog w T b₀ C names g s (PySem.standAt pos >>= fun _=>k) r :=
 fun Q E hq he hb=>uF0 (uI0 (d Q E hq he hb))
theorem DenSt.bind {α β:Type} {Rv:Heap→G→α→β→Prop} {t:Sem β} {k:β→Sem PySem.Flow} {r:R α} {f:α→St→R Mine.Flow} (d:Den prog w T b₀ Rv C names m g s t r)
  (n:∀ a st,r=.ok a st→∀ g' h' tk p,Post prog w T b₀ C names m g s.heap st g' h'→Rv h' g' a p→DenSt prog w T b₀ C names g' {s with heap:=h',toks:=tk} (k p) (f a st)) :
  DenSt prog w T b₀ C names g s (t >>= k) (r.bind f):=by
 intro Q E hq he hb
 refine uF0 (d _ _ (fun a st e g' h' tk p P V=>?_) (fun st e g' h' tk x P F=>?_) fun e=>?_)
 ·subst e
  exact n a st rfl g' h' tk p P V _ _ (fun a' st' e' m₂ g₂ h₂ tk₂ p₂ P₂ V₂=>hq a' st' e' m₂ g₂ h₂ tk₂ p₂ ⟨P₂.inv,P₂.loc,P.step.trans P₂.step⟩ V₂)
   (fun st' e' m₂ g₂ h₂ tk₂ x P₂ F=>he st' e' m₂ g₂ h₂ tk₂ x ⟨P₂.inv,P₂.loc,P.step.trans P₂.step⟩ (F.back P.step)) hb
 ·subst e
  exact he st rfl m g' h' tk x P F
 ·subst e; exact hb rfl
theorem DenSt.seq {t:Sem PySem.Flow} {k:PySem.Flow→Sem PySem.Flow} {r:R Mine.Flow} {f:Mine.Flow→St→R Mine.Flow} (d:DenSt prog w T b₀ C names g s t r)
  (n:∀ a st,r=.ok a st→∀ m' g' h' tk p,Post prog w T b₀ C names m' g s.heap st g' h'→FRel T C h' g' a p→DenSt prog w T b₀ C names g' {s with heap:=h',toks:=tk} (k p) (f a st)) :
  DenSt prog w T b₀ C names g s (t >>= k) (r.bind f):=by
 intro Q E hq he hb
 refine uF0 (d _ _ (fun a st e m' g' h' tk p P V=>?_) (fun st e m' g' h' tk x P F=>?_) fun e=>?_)
 ·subst e
  exact n a st rfl m' g' h' tk p P V _ _ (fun a' st' e' m₂ g₂ h₂ tk₂ p₂ P₂ V₂=>hq a' st' e' m₂ g₂ h₂ tk₂ p₂ ⟨P₂.inv,P₂.loc,P.step.trans P₂.step⟩ V₂)
   (fun st' e' m₂ g₂ h₂ tk₂ x P₂ F=>he st' e' m₂ g₂ h₂ tk₂ x ⟨P₂.inv,P₂.loc,P.step.trans P₂.step⟩ (F.back P.step)) hb
 ·subst e
  exact he st rfl m' g' h' tk x P F
 ·subst e; exact hb rfl
theorem DenSt.fin {st:St} {a:Mine.Flow} {p:PySem.Flow} (I:Inv prog w T b₀ C g st.σ s.heap) (L:Loc T C g names st.ρ m s.heap) (V:FRel T C s.heap g a p):DenSt prog w T b₀ C names g s (pure p) (.ok a st) :=
 fun Q E hq _ _=>uG0 (hq a st rfl m g s.heap s.toks p (.here I L) V)
theorem QC:xX prog w T b₀ C names (execs [] C.env) (fun st=>.ok .next st):=fun _ _ _ _ I L=>DenSt.fin I L .next
theorem Nm {x:Stmt} {r:List Stmt} {f fr:St→R Mine.Flow} (d:xX prog w T b₀ C names (exec x C.env) f) (dr:xX prog w T b₀ C names (execs r C.env) fr) :
  xX prog w T b₀ C names (execs (x::r) C.env) (fun st=>(f st).bind fun a st=>match a with | .next=>fr st | a=>.ok a st):=by
 intro m g s st I L
 rw [execs_cons]
 refine DenSt.seq (d m g s st I L) fun a st1 _ m1 g1 h1 tk1 p P1 V1=>?_
 cases V1 with
 | next=>exact dr m1 g1 _ st1 P1.inv P1.loc
 | brk=>exact DenSt.fin P1.inv P1.loc .brk
 | ret V=>exact DenSt.fin P1.inv P1.loc (.ret V)
theorem QB {e:Expr} {pos:Pos} {f:St→R V} (d:jh prog w T b₀ C names (eval e C.env) f):xX prog w T b₀ C names (exec (.Return (some e) pos) C.env) (fun st=>(f st).bind fun v st=>.ok (.ret v) st):=by
 intro m g s st I L
 rw [exec_Return_some]
 exact DenSt.standAt (DenSt.bind (d m g s st I L) fun a st1 _ g1 h1 tk1 p P1 V1=>DenSt.fin P1.inv P1.loc (.ret V1))
theorem Nj {pos:Pos}:xX prog w T b₀ C names (exec (.Return none pos) C.env) (fun st=>.ok (.ret .none) st):=by
 intro m g s st I L
 rw [exec_Return_none]
 exact DenSt.standAt (DenSt.fin I L (.ret .none))
theorem QE {pos:Pos}:xX prog w T b₀ C names (exec (.Break pos) C.env) (fun st=>.ok .brk st):=by
 intro m g s st I L
 rw [arm_exec_Break]
 exact DenSt.standAt (DenSt.fin I L .brk)
theorem QD {c:Expr} {a b:List Stmt} {pos:Pos} {fc:St→R Bool} {fa fb:St→R Mine.Flow} (dc:Bs prog w T b₀ C names (isTrue c C.env (eval c C.env)) fc) (da:xX prog w T b₀ C names (execs a C.env) fa) (db:xX prog w T b₀ C names (execs b C.env) fb) :
  xX prog w T b₀ C names (exec (.If c a b pos) C.env) (fun st=>(fc st).bind fun t st=>if t then fa st else fb st):=by
 intro m g s st I L
 rw [exec_If]
 refine DenSt.standAt (DenSt.bind (dc m g s st I L) fun t st1 _ g1 h1 tk1 p P1 V1=>?_)
 cases V1
 cases t
 ·exact db m g1 _ st1 P1.inv P1.loc
 ·exact da m g1 _ st1 P1.inv P1.loc
noncomputable def jW:Expr→Bool
 | .ListComp _ _ _ _=>false
 | .SetComp _ _ _ _=>false
 | .DictComp _ _ _ _ _=>false
 | _=>true
theorem zK {e:Expr} (h:jW e=true) (t:Option Expr) (l:Nat) (env:Env):swapsWith e t l env=pure false:=by
 cases e <;> first | rfl | exact ftB h
theorem uB (k:COk C names):interactive C.env=false:=by
 unfold interactive
 rw [k.kind]
 rfl
theorem vE {e:Expr} {pos:Pos} {f:St→R V} (k:COk C names) (hc:jW e=true) (d:jh prog w T b₀ C names (eval e C.env) f) :
  xX prog w T b₀ C names (exec (.Expr e pos) C.env) (fun st=>(f st).bind fun _ st=>.ok .next st):=by
 intro m g s st I L
 rw [exec_Expr _ _ _ (uB k) (zK hc _ _ _)]
 refine DenSt.standAt (DenSt.bind (d m g s st I L) fun a st1 _ g1 h1 tk1 p P1 V1=>?_)
 exact fun Q E hq _ _=>wpAny_dropValue (hq .next st1 rfl m g1 h1 tk1 .next (.here P1.inv P1.loc) .next)
theorem zI {st:St} {i:Nat} {x:Str} {v:V} {p:Value} (k:COk C names) (I:Inv prog w T b₀ C g st.σ h) (L:Loc T C g names st.ρ m h) (hi:names[i]?=some x) (V:RvV T C h g v p) (ns:h'.Ns C.env.locals (fun y=>if y=x then some p else m y)) (sb:Heap.SameBut C.env.locals h h') :
  Post prog w T b₀ C names (fun y=>if y=x then some p else m y) g h (qB st i (.val v)) g h':=by
 have kk:∀ b o,b≠C.env.locals→h.get? b=some o→h'.get? b=some o:=fun b o n e=>(sb.2 b n).trans e
 have bl:bad C g C.env.locals:=.inl (.inr (.inr (.inl rfl)))
 have M:Mono g.φ g.φ (bad C g) (bad C g) h h':=⟨vw0,fun a o e n _=>kk a o (fun q=>n (q▸bl)) e,fun _ _ _ n=>n⟩
 refine x3a3 (id ns) fun oL es ep hoL hdL _=>?_
 refine x3a3 (id L.ns) fun oL0 es0 ep0 hoL0 hdL0 _=>?_
 have nfL:noF oL:=fun vs q=>by rw [hdL] at q; exact qO PySem.Data.ctorIdx q rfl
 have other:∀ j y,names[j]?=some y→j≠i→y≠x:=fun j y hj hne e=>by
  subst e
  exact hne ((wP0 (vv0.mp hj).1 k.nodup).mp (hj.trans hi.symm))
 have slot:∀ j z,(qB st i (.val v)).ρ[j]?=some (some z)→(j=i∧z=.val v)∨(j≠i∧st.ρ[j]?=some (some z)):=fun j z e=>jg e
 refine x3a3 k.top fun envF outer Lf t1 t2 t3=>?_
 refine ⟨⟨I.lφ,I.lμ,I.nodup,I.sep,I.fresh,fun b o e=>?_,?_,fun n o e=>?_,fun b q=>?_,fun b q=>?_⟩,⟨ns,fun j y w hj hv=>?_,fun j y ws hj hv=>?_,fun a b us ws h1 h2=>?_,by rw [xv]; exact L.len⟩,⟨vw0,vw0,fun _ e=>.inl e,fun _ e=>.inl e,fun b o e n=>?_,fun b q n o e=>?_,fun b o e=>?_⟩⟩
 ·refine kk b o (fun q=>?_) (I.stay b o e)
  have:=I.fresh _ bl
  rw [← q,e] at this; exact snO this
 ·refine zq I.frames fun b o hbm e nf=>?_
  by_cases hb:b=C.env.locals
  ·exact (c1a2 oL (hb▸hoL) nfL)
  ·exact (c1a2 o (kk b o hb e) nf)
 ·refine x2a3 (I.objs n o e) fun y d h1 h2 r=>?_
  exact (c2a3 y d h1 h2 (r.mono M fun q hq=>kk d q (I.sep d (.inl (vx0 h2))).1 hq))
 ·by_cases hb:b=C.env.locals
  ·exact (c1a2 oL (hb▸hoL) nfL)
  ·refine x1a2 (I.hidden b q) fun o e n=>?_
   exact (c1a2 o (kk b o hb e) n)
 ·refine x1a2 (I.ownT b q) fun o e n=>?_
  exact (c1a2 o (kk b o (I.sep b (.inr q)).1 e) n)
 ·rcases slot j _ hv with ⟨rfl,e⟩ | ⟨hne,e⟩
  ·cases e
   rw [hi] at hj; cases hj
   exact (c1a2 p (by simp) (V.mono M))
  ·refine x1a2 (L.val j y w hj e) fun q hq W=>?_
   exact (c1a2 q (by rw [if_neg (other j y hj hne)]; exact hq) (W.mono M))
 ·rcases slot j _ hv with ⟨rfl,e⟩ | ⟨hne,e⟩
  ·exact qO LV.ctorIdx e rfl
  ·refine x2a5 (L.own j y ws hj e) fun q its h1 h2 uQ0 h4 h5=>?_; obtain ⟨n,h3⟩:=uQ0
   exact (c2a5 q its (by rw [if_neg (other j y hj hne)]; exact h1) h2 ⟨n,kk _ _ (I.sep q (.inr (by rw [h2]; exact vu0.mpr rfl))).1 h3⟩ (h4.mono M) h5)
 ·rcases slot a _ h1 with ⟨_,e⟩ | ⟨_,e1⟩
  ·exact qO LV.ctorIdx e rfl
  ·rcases slot b _ h2 with ⟨_,e⟩ | ⟨_,e2⟩
   ·exact qO LV.ctorIdx e rfl
   ·exact L.one a b us ws e1 e2
 ·exact kk b o (fun q=>n (.inr (.inr (.inl q)))) e
 ·exact ⟨o.slots,kk b o n e⟩
 ·by_cases hb:b=C.env.locals
  ·exact (c1a2 oL (hb▸hoL) (fun _=>nfL))
  ·exact (c1a2 o (kk b o hb e) id)
theorem yS (k:COk C names):(C.env.scope.kind==.class||(C.env.scope.kind==.module&&C.env.locals != C.env.globals))=false:=by rw [k.kind]; rfl
theorem uo {st:St} {i:Nat} {x:Str} {v:V} {p:Value} (k:COk C names) (I:Inv prog w T b₀ C g st.σ s.heap) (L:Loc T C g names st.ρ m s.heap) (hi:names[i]?=some x) (V:RvV T C s.heap g v p) :
  DenSt prog w T b₀ C names g s (bindName C.env x p >>= fun _=>pure PySem.Flow.next) (.ok .next (qB st i (.val v))):=by
 intro Q E hq he hb
 refine uF0 (wpAny_bindName (uM0 (k.loc x (vx0 hi)) L.ns (fun h' ns sb=>?_) (yS k)))
 exact uG0 (hq .next _ rfl _ g h' _ .next (zI k I L hi V ns sb) .next)
theorem QF {x:Str} {i:Nat} {e:Expr} {pos pos':Pos} {f:St→R V} (k:COk C names) (hi:names[i]?=some x) (hc:jW e=true) (d:jh prog w T b₀ C names (eval e C.env) f) :
  xX prog w T b₀ C names (exec (.Assign [.Name x pos'] e pos) C.env) (fun st=>(f st).bind fun v st=>.ok .next (qB st i (.val v))):=by
 intro m g s st I L
 rw [exec_Assign_Name _ _ _ _ _ (zK hc _ _ _)]
 exact DenSt.standAt (DenSt.bind (d m g s st I L) fun v st1 _ g1 h1 tk1 p P1 V1=>DenSt.standAt (uo k P1.inv P1.loc hi V1))
noncomputable def Bp:Bin→Operator
 | .sub=>.Sub
 | _=>.Add
theorem Ng {st:St} {o:Bin} {x y v:V} {p q:Value} (I:Inv prog w T b₀ C g st.σ s.heap) (L:Loc T C g names st.ρ m s.heap) (V:RvV T C s.heap g x p) (W:RvV T C s.heap g y q) (e:xc o x y=some v) :
  Den prog w T b₀ (RvV T C) C names m g s (inplaceOp (Bp o) p q) (.ok v st):=by
 refine Den.of_wp rfl fun Q E hq=>?_
 cases o <;> first | cases e | (refine x4a5 (uw V W e) fun a b t u uQ0 uR0 uS0 uT0 e=>?_; subst uQ0; subst uR0; subst uS0; subst uT0; refine zz (zo e) fun _ uQ0=>?_; subst uQ0)
 ·exact PySem.P.iadd_int (hq g s.heap _ _ (.here I L) (.int _ _))
 ·exact PySem.P.isub_int (hq g s.heap _ _ (.here I L) (.int _ _))
theorem GE {x:Str} {i:Nat} {o:Bin} {e:Expr} {pos pos':Pos} {f:St→R V} (k:COk C names) (hi:names[i]?=some x) (d:jh prog w T b₀ C names (eval e C.env) f) :
  xX prog w T b₀ C names (exec (.AugAssign (.Name x pos') (Bp o) e pos) C.env) (fun st=>match st.ρ[i]? with
   | some (some (.val x))=>(f st).bind fun y st=>(match xc o x y with | some v=>.ok .next (qB st i (.val v)) | none=>.bad)
   | _=>.bad):=by
 intro m g s st I L
 rw [exec_AugAssign_Name]
 refine DenSt.standAt ?_
 dsimp only
 refine xf0 (Pr:=DenSt prog w T b₀ C names g s _) (fun v0 hv=>?_) DenSt.bad
 refine x1a2 (L.val i x v0 hi hv) fun p hp V=>?_
 intro Q E hq he hb
 refine uF0 (uL0 k.kind (k.loc x (vx0 hi)) L.ns hp ?_)
 have D:DenSt prog w T b₀ C names g s (do
   let v ← PySem.holding [p] (eval e C.env)
   PySem.standAt pos
   let new ← PySem.operate [p,v] (inplaceOp (Bp o) p v)
   PySem.standAt pos'
   bindName C.env x new
   pure PySem.Flow.next) ((f st).bind fun y st=>(match xc o v0 y with | some v=>.ok .next (qB st i (.val v)) | none=>.bad)):=by
  refine DenSt.bind (Den.holding (d m g s st I L)) fun y st1 _ g1 h1 tk1 q P1 V1=>DenSt.standAt ?_
  cases eb:xc o v0 y with
  | none=>exact DenSt.bad
  | some v =>
   have V':RvV T C h1 g1 v0 p:=V.mono P1.step.mono
   refine DenSt.bind (f:=fun v st=>.ok .next (qB st i (.val v))) (r:=.ok v st1) (Den.operate (Ng P1.inv P1.loc V' V1 eb)) fun v' st2 e2 g2 h2 tk2 r P2 V2=>?_
   cases e2
   exact DenSt.standAt (uo k P2.inv P2.loc hi V2)
 exact D Q E hq he hb
theorem XC {name:Str} {es:List DictEntry} (hl:(getL name es).isSome=true):(!es.any (·.key.isStr name)&&es.any (·.refKey))=false:=by
 unfold getL at hl
 cases hf:es.find? (·.key.isStr name) with
 | some e=>rw [List.any_eq_true.mpr (c1a2 e (wQ0 hf) (ko0 hf))]; rfl
 | none =>
  rw [hf] at hl
  dsimp only at hl
  split at hl
  ·exact ftB hl
  ·rename_i z; rw [ut0] at z; rw [z,uh0]
theorem DP (name:Str) (hs:Int) (k v:Value) (es:List DictEntry):(putL name hs k v es).length≤es.length+1:=by
 induction es with
 | nil=>exact yh0 _
 | cons e r ih =>
  unfold putL
  split
  ·simp
  ·simp only [vr0]; exact yu0 ih
theorem Xo {A:Around} {R:Result→Shared→Prop} {x dx Ca:uP0} {name:Str} {tk:Tok} {v:Value} {es:List DictEntry} {n:Nat} (X:K.In s.heap) (hx:s.heap.get? x=some (instObj Ca dx)) (hd:s.heap.get? dx=some (dictOf es n))
  (hp:plainOver K Ca=true) (ht:takerIn K Ca name=some none) (hh:hasDictIn K Ca=true) (hl:(getL name es).isSome=true) (hz:es.length<1000)
  (h:∀ h',h'.get? dx=some (dictOf (putL name (PyData.keyHash w.params name) (.str name s.toks) v es) (putN name es n))→Heap.SameBut dx s.heap h'→R (.ok (.ret .none)) {s with heap:=h',toks:=s.toks+1}) :
  codeAny (model prog w) A (.call (.builtin "object.__setattr__") ⟨[.ref x,.str name tk,v],[]⟩) R s:=by
 refine osa_open X (vq hx hd) hp ht fun b=>?_
 refine x1a2 (any_some hh) fun cd hc hd'=>?_
 have D':(s.heap.update dx (Obj.putName name (PyData.keyHash w.params name) (.str name s.toks) v)).get? dx=some (dictOf (putL name (PyData.keyHash w.params name) (.str name s.toks) v es) (putN name es n)):=by
  rw [Heap.get?_update_self _ hd (by rw [putName_dict]; rfl),putName_dict]
 refine uF0 (uG0 (uF0 (uF0 (wpAny_loadPart hx (uF0 ((looks_clsIn X hc).here ?_))))))
 rw [hd']
 refine uG0 (a:=some dx) (uF0 (uG0 (uF0 ?_)))
 unfold nsSet
 refine uF0 (uF0 (wpAny_askSetting (uG0 (uF0 (wpAny_mkText (uF0 (wpAny_loadPart hd ?_)))))))
 dsimp only
 have c:(!es.toArray.any (·.key.isStr name)&&es.toArray.any (·.refKey))=false:=by
  rw [← uC0,← uC0]
  exact XC hl
 rw [aRefKeyMayBeTheName_at,c]
 refine wpAny_updatePart hd ?_
 have lz:=DP name (PyData.keyHash w.params name) (.str name s.toks) v es
 refine uF0 (wpAny_lookBehind D' (pastItsLine_dict (by rw [wN0,uJ0]; exact ye0 (ye0 lz hz) (yc0 rfl))) ?_)
 exact uG0 (h _ D' (Heap.SameBut.update ..))
theorem Ko {A:Around} {E:Value→Shared→Prop} {x dx Ca:uP0} {name:Str} {v:Value} {es:List DictEntry} {n:Nat} {Q:Unit→Shared→Prop} (X:K.In s.heap) (hx:s.heap.get? x=some (instObj Ca dx)) (hd:s.heap.get? dx=some (dictOf es n))
  (hs:findIn K (.ref Ca) "__setattr__" = some (some (.builtin "object.__setattr__"))) (hp:plainOver K Ca=true) (ht:takerIn K Ca name=some none) (hh:hasDictIn K Ca=true) (hl:(getL name es).isSome=true) (hz:es.length<1000)
  (h:∀ h' tk,h'.get? dx=some (dictOf (putL name (PyData.keyHash w.params name) (.str name tk) v es) (putN name es n))→Heap.SameBut dx s.heap h'→Q () {s with heap:=h',toks:=tk+1}) :
  wpAny (model prog w) A (setAttr (.ref x) name v) Q E s :=
 set_plain X (vq hx hd) hs (Xo (s:={s with toks:=s.toks+1}) X hx hd hp ht hh hl hz fun h' a b=>h h' _ a b)
theorem BC {σ σ':H} {v x:V} {f:Nat} (e:jp P σ v f x=some σ'):∃ n c fs k i,v=.ref n∧σ[n]?=some (.inst c fs)∧P.cls c=some k∧k.fields.idxOf? f=some i∧σ'=σ.set n (.inst c (fs.set i x)):=by
 cases v with
 | ref n =>
  refine x2a2 (vM e) fun c fs hs e=>?_
  refine x1a2 (kU0.mp e) fun k hk e=>?_
  refine x1a2 (kS0.mp e) fun i hi e=>?_
  exact (c5a5 n c fs k i rfl hs hk hi e.symm)
 | _=>exact nsO e
theorem Di {φ:List uP0} {bd:uP0→Prop} {xs:List Str} {vs:List V} {es:List DictEntry} (r:EsRel T φ bd h xs vs es) (name:Str):(getL name es).isSome=true:=by
 unfold getL
 cases es.find? (·.key.isStr name) with
 | some e=>rfl
 | none=>rw [r.noRef]; rfl
theorem uj {ρ:List (Option LV)} {σ σ':H} {v x:V} {p q:Value} {f:Nat} (B:BOk K b₀) (TC:∀ c k,P.cls c=some k→ClsOk K T an c k) (I:Inv prog w T b₀ C g σ s.heap) (L:Loc T C g names ρ m s.heap) (V:RvV T C s.heap g v p) (W:RvV T C s.heap g x q) (e:jp P σ v f x=some σ') :
  Den prog w T b₀ (fun _ _ (_:Unit) (_:Unit)=>True) C names m g s (setAttr p (an f) q) (.ok () ⟨ρ,σ'⟩):=by
 refine x5a5 (BC e) fun n c fs k i uQ0 ho hk hi uR0=>?_; subst uQ0; subst uR0
 refine x2a4 (yH I V ho) fun y d uQ0 hφ hμ r=>?_; subst uQ0
 have tc:=TC c k hk
 refine zz (Df tc.inj hi) fun hi' hf=>?_
 cases r with
 | inst hx nb hd er =>
  rw [tc.fld] at er
  have el:=er.lengths
  refine Den.of_wp rfl fun Q E hq=>Ko (B.X.keeps I.stay) hx hd tc.sa tc.over (tc.taker f hf) tc.hasDict (Di er _) (by have h1:=tc.few; have h2:=el.1; have h3:=el.2; rw [vq0] at h2; exact far [_,_,_] [.le qb (.n 100),.qe qb qg,.eq qa qg] (.lt qa qG) rfl h1 h2 h3) fun h' tk h1 h2=>?_
  have kk:∀ b o,b≠d→s.heap.get? b=some o→h'.get? b=some o:=fun b o n e=>(h2.2 b n).trans e
  have bd:bad C g d:=.inl (.inl (vx0 hμ))
  have M:Mono g.φ g.φ (bad C g) (bad C g) s.heap h':=⟨vw0,fun a o e n _=>kk a o (fun z=>n (z▸bd)) e,fun _ _ _ n=>n⟩
  refine hq g h' _ () (wH I L ho hφ hμ kk ?_) trivial
  exact .inst (kk _ _ (fun z=>nb (z▸bd)) hx) nb h1 (by rw [tc.fld]; exact (er.put hi' W).mono M)
theorem vI {t:Expr} {e:Expr} {pos:Pos} (hc:jW e=true) (hsw:swappedStores [t] e C.env=pure none):exec (.Assign [t] e pos) C.env=(do
  PySem.standAt pos
  let v ← eval e C.env
  assignAll v ((assignEach [t] C.env).map (·.2))
  pure PySem.Flow.next):=by
 rw [arm_exec_Assign]
 have:swapsWithSole [t] e pos.line C.env=pure false:=zK hc _ _ _
 rw [this,hsw]
 rfl
noncomputable def DR:Expr→Bool
 | .Attribute _ _ _=>true
 | .Subscript _ _ _=>true
 | _=>false
theorem jq {t:Expr} {e:Expr} {pos:Pos} (ht:DR t=true) (hc:jW e=true):exec (.Assign [t] e pos) C.env=(do
  PySem.standAt pos
  let v ← eval e C.env
  assign t C.env v
  pure PySem.Flow.next):=by
 rw [vI hc (by cases t <;> first | rfl | exact ftB ht)]
 cases t <;> first | rfl | exact ftB ht
theorem yX {vs ks:List Value} {st:St} (I:Inv prog w T b₀ C g st.σ s.heap) (L:Loc T C g names st.ρ m s.heap):Den prog w T b₀ (fun _ _ (_:Unit) (_:Unit)=>True) C names m g s (release vs ks) (.ok () st) :=
 Den.of_wp rfl fun Q E hq=>jM (hq g s.heap s.toks () (.here I L) trivial)
theorem Dv {o e:Expr} {f:Nat} {apos pos:Pos} {fe fo:St→R V} (B:BOk K b₀) (TC:∀ c k,P.cls c=some k→ClsOk K T an c k) (hc:jW e=true) (d:jh prog w T b₀ C names (eval e C.env) fe) (do':jh prog w T b₀ C names (eval o C.env) fo) :
  xX prog w T b₀ C names (exec (.Assign [.Attribute o (an f) apos] e pos) C.env) (fun st=>(fe st).bind fun v st=>(fo st).bind fun x st=>match jp P st.σ x f v with | some σ=>.ok .next {st with σ:=σ} | none=>.bad):=by
 intro m g s st I L
 rw [jq rfl hc]
 refine DenSt.standAt (DenSt.bind (d m g s st I L) fun v st1 _ g1 h1 tk1 p P1 V1=>?_)
 rw [arm_assign_Attribute]
 simp only [bind_assoc]
 refine DenSt.bind (Den.holding (do' m g1 _ st1 P1.inv P1.loc)) fun x st2 _ g2 h2 tk2 q P2 V2=>DenSt.standAt ?_
 cases ef:jp P st2.σ x f v with
 | none=>exact DenSt.bad
 | some σ =>
  refine DenSt.bind (r:=.ok () ⟨st2.ρ,σ⟩) (f:=fun _ st=>.ok .next st) (Den.holding (uj B TC P2.inv P2.loc V2 (V1.mono P2.step.mono) ef)) fun _ st3 e3 g3 h3 tk3 _ P3 _=>?_
  cases e3
  refine DenSt.bind (r:=.ok () _) (f:=fun _ st=>.ok .next st) (yX P3.inv P3.loc) fun _ st4 e4 g4 h4 tk4 _ P4 _=>?_
  cases e4
  exact DenSt.fin P4.inv P4.loc .next
theorem Dw {o e:Expr} {f:Nat} {b:Bin} {apos pos:Pos} {fe fo:St→R V} (B:BOk K b₀) (TC:∀ c k,P.cls c=some k→ClsOk K T an c k) (do':jh prog w T b₀ C names (eval o C.env) fo) (d:jh prog w T b₀ C names (eval e C.env) fe) :
  xX prog w T b₀ C names (exec (.AugAssign (.Attribute o (an f) apos) (Bp b) e pos) C.env) (fun st=>(fo st).bind fun x st=>match jK P st.σ x f with
   | some a=>(fe st).bind fun y st=>(match xc b a y with
    | some v=>(match jp P st.σ x f v with | some σ=>.ok .next {st with σ:=σ} | none=>.bad)
    | none=>.bad)
   | none=>.bad):=by
 intro m g s st I L
 rw [arm_exec_AugAssign_2]
 refine DenSt.standAt (DenSt.bind (do' m g s st I L) fun x st1 _ g1 h1 tk1 p P1 V1=>?_)
 cases ef:jK P st1.σ x f with
 | none=>exact DenSt.bad
 | some a =>
  have D:Den prog w T b₀ (RvV T C) C names m g1 {s with heap:=h1,toks:=tk1} (PySem.holding [p] do
    PySem.standAt apos.atName
    let old ← getAttr p (an f) true
    let v ← PySem.holding [old] (eval e C.env)
    PySem.standAt pos
    PySem.operate [old,v] (inplaceOp (Bp b) old v)) ((fe st1).bind fun y st=>match xc b a y with | some v=>.ok v st | none=>.bad):=by
   refine Den.holding (Den.standAt ?_)
   refine Den.cast (r:=(R.ok a st1).bind fun _ st=>(fe st).bind fun y st=>match xc b a y with | some v=>.ok v st | none=>.bad) rfl ?_
   refine Den.bind (um (s:={s with heap:=h1,toks:=tk1}) B TC P1.inv P1.loc V1 ef) fun a' st2 e2 g2 h2 tk2 q P2 V2=>?_
   cases e2
   refine Den.bind (Den.holding (d m g2 _ _ P2.inv P2.loc)) fun y st3 _ g3 h3 tk3 r P3 V3=>Den.standAt (Den.operate ?_)
   cases eb:xc b a y with
   | none=>exact Den.bad
   | some v=>exact Ng P3.inv P3.loc (V2.mono P3.step.mono) V3 eb
  refine DenSt.cast (r:=((fe st1).bind fun y st=>match xc b a y with | some v=>.ok v st | none=>.bad).bind fun v st=>(match jp P st.σ x f v with | some σ=>.ok .next {st with σ:=σ} | none=>.bad)) ?_ ?_
  ·cases fe st1 with
   | ok y st=>dsimp only [R.bind]; cases xc b a y <;> rfl
   | exc _=>rfl
   | bad=>rfl
  refine DenSt.bind D fun v st3 _ g3 h3 tk3 r P3 V3=>DenSt.standAt ?_
  cases eg:jp P st3.σ x f v with
  | none=>exact DenSt.bad
  | some σ =>
   refine DenSt.bind (r:=.ok () ⟨st3.ρ,σ⟩) (f:=fun _ st=>.ok .next st) (Den.holding (uj B TC P3.inv P3.loc (V1.mono P3.step.mono) V3 eg)) fun _ st4 e4 g4 h4 tk4 _ P4 _=>?_
   cases e4
   refine DenSt.bind (r:=.ok () _) (f:=fun _ st=>.ok .next st) (yX P4.inv P4.loc) fun _ st5 e5 g5 h5 tk5 _ P5 _=>?_
   cases e5
   exact DenSt.fin P5.inv P5.loc .next
theorem kf {l:uP0} {items:Array Value} (hl:h.PlainList l items) (f:Array Value→Array Value):(h.update l (Obj.mapSeq f)).PlainList l (f items):=by
 refine x1a1 hl fun n ho=>?_
 refine ⟨if (f items).size==items.size then n else n+1,?_⟩
 rw [Heap.get?_update_self _ ho (by rfl)]
 rfl
theorem AJ {A:Around} {E:Value→Shared→Prop} {l:uP0} {items:Array Value} {k:Int} {t:Tok} {v:Value} {Q:Unit→Shared→Prop} (hl:s.heap.PlainList l items)
  (h0:0≤k) (hfit:k<2 ^ 63) (hn:k<items.size)
  (hQ:∀ h',h'.PlainList l (items.setIfInBounds k.toNat v)→Heap.SameBut l s.heap h'→Q () {s with heap:=h'}) :
  wpAny (model prog w) A (setItem (.ref l) (.int k t) v) Q E s:=by
 have hl':=jY hl
 refine x1a3 (id hl') fun o ho hc uQ0=>?_; obtain ⟨ne,hd⟩:=uQ0
 unfold setItem
 try with_reducible refine uH0 ?_
 first | refine uF0 (uG0 ?_) | skip
 refine uF0 (wpAny_sequenceKey hl'.typeIs (by decide) ?_)
 refine uF0 (wpAny_callSpecial?_slot (name:=Str.ofString "__setitem__") hl'.typeIs slot_list_setitem
  (wpAny_call_entry slot_list_setitem hl'.typeIs entry_list_setitem ?_ (args_list_setitem _ _ _)))
 show wpAny _ _ (Builtin.List.listSubscript? (.int k t) >>= _) _ _ s
 refine uF0 (wpAny_listSubscript_int (fitsIndex_of h0 hfit) ?_)
 clear hfit
 refine x1a1 (Int.eq_ofNat_of_zero_le h0) fun j uQ0=>?_; subst uQ0
 have hj:j<items.size:=by exact kw0.mp hn
 have hx':items[j]?=some items[j]:=Array.getElem?_eq_getElem hj
 show wpAny _ _ ((seqItemAt l j >>= fun r=>pure (r.map (j,·))) >>= _) _ _ s
 refine uF0 (uF0 (wpAny_seqItemAt ho hd (uG0 ?_)))
 rw [hx']
 show wpAny _ _ (setSeqItemAt l j v >>= _) _ _ s
 have hfin:=kf hl (·.setIfInBounds j v)
 refine uF0 (wpAny_setSeqItemAt ho hd ?_)
 first
  | exact uF0 (uG0 (uG0 (c1a2 .none rfl (uG0 (hQ _ hfin (Heap.SameBut.update ..))))))
  | exact uG0 ⟨.none,rfl,uG0 (hQ _ hfin (Heap.SameBut.update ..))⟩
theorem ke {ρ:List (Option LV)} {σ:H} {i:Nat} {vs ws:List V} {x d:uP0} {its':Array Value} (I:Inv prog w T b₀ C g σ h) (L:Loc T C g names ρ m h) (hi:σ[i]?=some (.list vs)) (hx:g.φ[i]?=some x) (hd:g.μ[i]?=some d) (hxd:x=d)
  (hl:h'.PlainList d its') (sb:Heap.SameBut d h h') (V:VsRel T g.φ (bad C g) h ws its'.toList) (hw:ws.length≤qD):Post prog w T b₀ C names m g h ⟨ρ,σ.set i (.list ws)⟩ g h':=by
 subst hxd
 have kk:∀ b o,b≠x→h.get? b=some o→h'.get? b=some o:=fun b o n e=>(sb.2 b n).trans e
 have bd:bad C g x:=.inl (.inl (vx0 hd))
 have M:Mono g.φ g.φ (bad C g) (bad C g) h h':=⟨vw0,fun a o e n _=>kk a o (fun z=>n (z▸bd)) e,fun _ _ _ n=>n⟩
 exact wH I L hi hx hd kk (.list hl (V.mono M) hw)
theorem KS.store {φ:List uP0} {bd:uP0→Prop} {es:List (V×V)} {ks:List (Str×Value)} (k:KS T φ bd h es ks) {x:List Nat} {v:V} {p:Value} (V:VRel T φ bd h v p) (nd:(ks.map (·.1)).Nodup):KS T φ bd h (jx (.str x) v es) (stored ks (toS x) p):=by
 induction k with
 | nil=>exact .cons V .nil
 | @cons y v0 p0 es ks V0 k ih =>
  rw [vJ0,wn0] at nd
  by_cases hy:x=y
  ·subst hy
   have e1:jx (.str x) v ((.str x,v0)::es)=(.str x,v)::es:=UM (vJ x)
   have nm:∀ kv∈ks,¬ kv.1=toS x:=fun kv hkv e=>nd.1 (wk0.mpr (c1a2 kv hkv e))
   have e2:stored ((toS x,p0)::ks) (toS x) p=(toS x,p)::ks:=by
    unfold stored
    rw [if_pos (by simp),vJ0]
    simp only [if_true]
    congr 1
    conv=>rhs; rw [← km0 ks]
    exact kh0 fun kv hkv=>by rw [if_neg (nm kv hkv)]; rfl
   rw [e1,e2]
   exact .cons V k
  ·have h1:veq (.str x) (.str y)=false:=beq_eq_false_iff_ne.mpr hy
   have h2:¬ (toS y:Str)=toS x:=fun q=>hy (by
    have:y.toArray=x.toArray:=congrArg Str.cps q
    simpa using this.symm)
   have e1:jx (.str x) v ((.str y,v0)::es)=(.str y,v0)::jx (.str x) v es:=UN h1
   have e2:stored ((toS y,p0)::ks) (toS x) p=(toS y,p0)::stored ks (toS x) p:=by
    unfold stored
    rw [wm0,vJ0]
    simp only [h2,decide_false,ur0,if_false]
    split <;> rfl
   rw [e1,e2]
   exact .cons V0 (ih nd.2)
theorem KI.store {φ:List uP0} {bd:uP0→Prop} {es:List (V×V)} {ks:List (Int×Value)} (k:KI T φ bd h es ks) {x:Int} {v:V} {p:Value} (V:VRel T φ bd h v p) (nd:(ks.map (·.1)).Nodup):KI T φ bd h (jx (.int x) v es) (stored ks x p):=by
 induction k with
 | nil=>exact .cons V .nil
 | @cons y v0 p0 es ks V0 k ih =>
  rw [vJ0,wn0] at nd
  by_cases hy:x=y
  ·subst hy
   have e1:jx (.int x) v ((.int x,v0)::es)=(.int x,v)::es:=UM (vK x)
   have nm:∀ kv∈ks,¬ kv.1=x:=fun kv hkv e=>nd.1 (wk0.mpr (c1a2 kv hkv e))
   have e2:stored ((x,p0)::ks) x p=(x,p)::ks:=by
    unfold stored
    rw [if_pos (by simp),vJ0]
    simp only [if_true]
    congr 1
    conv=>rhs; rw [← km0 ks]
    exact kh0 fun kv hkv=>by rw [if_neg (nm kv hkv)]; rfl
   rw [e1,e2]
   exact .cons V k
  ·have h1:veq (.int x) (.int y)=false:=beq_eq_false_iff_ne.mpr hy
   have h2:¬ y=x:=fun q=>hy q.symm
   have e1:jx (.int x) v ((.int y,v0)::es)=(.int y,v0)::jx (.int x) v es:=UN h1
   have e2:stored ((y,p0)::ks) x p=(y,p0)::stored ks x p:=by
    unfold stored
    rw [wm0,vJ0]
    simp only [h2,decide_false,ur0,if_false]
    split <;> rfl
   rw [e1,e2]
   exact .cons V0 (ih nd.2)
theorem uh (k v:V) (es:List (V×V)):(jx k v es).length≤es.length+1:=by
 induction es with
 | nil=>exact yh0 _
 | cons e r ih =>
  obtain ⟨k',v'⟩:=e
  unfold jx
  split
  ·simp
  ·simp only [vr0]; exact yu0 ih
theorem ui (k v:V) (es:List (V×V)) (hk:veq k k=true) (P:V→Prop) (h:∀ e∈jx k v es,P e.1) (he:∀ k',veq k k'=true→P k'→P k):P k:=by
 induction es with
 | nil=>exact h (k,v) (.head _)
 | cons e r ih =>
  obtain ⟨k',v'⟩:=e
  unfold jx at h
  split at h
  ·rename_i q
   exact he k' q (h _ (.head _))
  ·exact ih fun e he=>h e (.tail _ he)
theorem KS.length {φ:List uP0} {bd:uP0→Prop} {es:List (V×V)} {ks:List (Str×Value)} (k:KS T φ bd h es ks):es.length=ks.length:=by
 induction k with
 | nil=>rfl
 | cons _ _ ih=>simp [ih]
theorem KI.length {φ:List uP0} {bd:uP0→Prop} {es:List (V×V)} {ks:List (Int×Value)} (k:KI T φ bd h es ks):es.length=ks.length:=by
 induction k with
 | nil=>rfl
 | cons _ _ ih=>simp [ih]
theorem yR {st:St} {x k v:V} {r:R Mine.Flow} (e:xa st x k v=r) (h:r≠.bad):∃ n a o,x=.ref n∧st.σ[n]?=some a∧Xj k v a=some o∧r=.ok .next {st with σ:=st.σ.set n o}:=by
 cases x with
 | ref n =>
  cases q:st.σ[n]?.bind (Xj k v) with
  | none=>exact absurd (e.symm.trans (by show (match st.σ[n]?.bind (Xj k v) with | some o=>_ | none=>_)=_; rw [q])) h
  | some o =>
   refine x1a2 (kU0.mp q) fun a h1 h2=>c3a4 n a o rfl h1 h2 (e.symm.trans ?_)
   show (match st.σ[n]?.bind (Xj k v) with | some o=>_ | none=>_)=_
   rw [q]
 | _=>exact absurd e.symm h
theorem Gy {st st':St} {x k v:V} {p q r:Value} (B:BOk K b₀) (I:Inv prog w T b₀ C g st.σ s.heap) (L:Loc T C g names st.ρ m s.heap) (V:RvV T C s.heap g x p) (W:RvV T C s.heap g k q) (U:RvV T C s.heap g v r) (e:xa st x k v=.ok .next st') :
  Den prog w T b₀ (fun _ _ (_:Unit) (_:Unit)=>True) C names m g s (setItem p q r) (.ok () st'):=by
 refine x3a4 (yR e (fun q=>boR q.symm)) fun n a o qx ho e qr=>?_; subst qx
 cases qr
 refine x2a4 (yH I V ho) fun y d uQ0 hφ hμ rr=>?_; rw [uQ0]
 cases rr with
 | list hl V' hz =>
  cases k with
  | int j =>
   refine x1a1 (xk W) fun t uQ0=>?_; rw [uQ0]
   have hj:=(ift e).1
   cases (ift e).2
   have hs:=V'.size
   refine Den.of_wp rfl fun Q E hq=>AJ hl hj.1 (by unfold qD at hz; omega) (by omega) fun h' hl' sb=>?_
   refine hq g h' s.toks () (ke I L ho hφ hμ rfl hl' sb ?_ (by rw [vS0]; exact hz)) trivial
   rw [Array.toList_setIfInBounds]
   exact V'.set _ U
  | _=>exact nsO e
 | @dict es _ hS hI hz hn =>
  have hk:=(ift e).1
  cases (ift e).2
  rw [ug0,decide_eq_true_eq] at hk
  have bd:bad C g y:=.inl (.inl (vx0 hμ))
  rcases kg hk.1 with ⟨kk,rfl,hk2⟩ | ⟨kk,rfl,hk2⟩
  ·refine x1a1 (zS W) fun t uQ0=>?_; subst uQ0
   refine x1a2 (hS hk2) fun ks hd k'=>?_
   have hl:=k'.length
   refine Den.of_wp rfl fun Q E hq=>wpAny_setItem_pairs (strKind_is prog w (toS kk) t) hd (fun h' hd' sb=>?_) (by rw [← hl,uJ0]; unfold qD at hz; exact yd0 hz)
   have keep:∀ b o,b≠y→s.heap.get? b=some o→h'.get? b=some o:=fun b o n e=>(sb.2 b n).trans e
   have M:Mono g.φ g.φ (bad C g) (bad C g) s.heap h':=⟨vw0,fun a o e n _=>keep a o (fun z=>n (z▸bd)) e,fun _ _ _ n=>n⟩
   have K2:KS T g.φ (bad C g) h' (jx (.str kk) v es) (stored ks (toS kk) r):=(k'.store U hd.choose_spec.choose_spec.choose_spec.2.2.2.2.2).mono M
   refine hq g h' _ () (wH I L ho hφ hμ keep (.dict (fun _=>(c1a2 _ hd' K2)) (fun hh=>?_) ?_ ?_)) trivial
   ·have:=ui (.str kk) v es (vJ kk) (fun k=>∃ i,k=.int i) (fun e he=>hh e he) (fun k' h1 ⟨i,h2⟩=>by subst h2; exact ftB h1)
    refine x1a1 this fun i hi=>?_; exact qO Mine.V.ctorIdx hi rfl
   ·have:=uh (.str kk) v es; exact ye0 this hk.2
   ·refine x3a4 hd' fun o _ _ ho' _ hdd _=>?_
    exact (c1a2 o ho' (fun vs q=>by rw [hdd] at q; exact qO PySem.Data.ctorIdx q rfl))
  ·refine x1a1 (xk W) fun t uQ0=>?_; subst uQ0
   refine x1a2 (hI hk2) fun ks hd k'=>?_
   have hl:=k'.length
   refine Den.of_wp rfl fun Q E hq=>wpAny_setItem_pairs (intKind_is prog w kk t) hd (fun h' hd' sb=>?_) (by rw [← hl,uJ0]; unfold qD at hz; exact yd0 hz)
   have keep:∀ b o,b≠y→s.heap.get? b=some o→h'.get? b=some o:=fun b o n e=>(sb.2 b n).trans e
   have M:Mono g.φ g.φ (bad C g) (bad C g) s.heap h':=⟨vw0,fun a o e n _=>keep a o (fun z=>n (z▸bd)) e,fun _ _ _ n=>n⟩
   have K2:KI T g.φ (bad C g) h' (jx (.int kk) v es) (stored ks kk r):=(k'.store U hd.choose_spec.choose_spec.choose_spec.2.2.2.2.2).mono M
   refine hq g h' _ () (wH I L ho hφ hμ keep (.dict (fun hh=>?_) (fun _=>(c1a2 _ hd' K2)) ?_ ?_)) trivial
   ·have:=ui (.int kk) v es (vK kk) (fun k=>∃ i,k=.str i) (fun e he=>hh e he) (fun k' h1 ⟨i,h2⟩=>by subst h2; exact ftB h1)
    refine x1a1 this fun i hi=>?_; exact qO Mine.V.ctorIdx hi rfl
   ·have:=uh (.int kk) v es; exact ye0 this hk.2
   ·refine x3a4 hd' fun o _ _ ho' _ hdd _=>?_
    exact (c1a2 o ho' (fun vs q=>by rw [hdd] at q; exact qO PySem.Data.ctorIdx q rfl))
 | inst=>exact nsO e
theorem BB {st st':St} {x k v:V} {a:Mine.Flow} (e:xa st x k v=.ok a st'):a=.next :=
 x3a4 (yR e (fun q=>boR q.symm)) fun _ _ _ _ _ _ q=>by cases q; rfl
theorem DL {st st':St} {x k v:V} (e:xa st x k v=.exc st'):False :=
 x3a4 (yR e (fun q=>beR q.symm)) fun _ _ _ _ _ _ q=>eoR q
theorem GD {o i e:Expr} {apos pos:Pos} {fe fo fi:St→R V} (B:BOk K b₀) (hc:jW e=true) (d:jh prog w T b₀ C names (eval e C.env) fe) (do':jh prog w T b₀ C names (eval o C.env) fo) (di:jh prog w T b₀ C names (eval i C.env) fi) :
  xX prog w T b₀ C names (exec (.Assign [.Subscript o i apos] e pos) C.env) (fun st=>(fe st).bind fun v st=>(fo st).bind fun x st=>(fi st).bind fun k st=>xa st x k v):=by
 intro m g s st I L
 rw [jq rfl hc]
 refine DenSt.standAt (DenSt.bind (d m g s st I L) fun v st1 _ g1 h1 tk1 p P1 V1=>?_)
 rw [arm_assign_Subscript]
 simp only [bind_assoc]
 refine DenSt.bind (Den.holding (do' m g1 _ st1 P1.inv P1.loc)) fun x st2 _ g2 h2 tk2 q P2 V2=>?_
 refine DenSt.bind (Den.holding (di m g2 _ st2 P2.inv P2.loc)) fun k st3 _ g3 h3 tk3 r P3 V3=>DenSt.standAt ?_
 cases es:xa st3 x k v with
 | bad=>exact DenSt.bad
 | exc st'=>exact (DL es).elim
 | ok a st' =>
  obtain rfl:=BB es
  refine DenSt.bind (r:=.ok () st') (f:=fun _ st=>.ok .next st) (Den.holding (Gy B P3.inv P3.loc (V2.mono P3.step.mono) V3 ((V1.mono P2.step.mono).mono P3.step.mono) es)) fun _ st4 e4 g4 h4 tk4 _ P4 _=>?_
  cases e4
  refine DenSt.bind (r:=.ok () _) (f:=fun _ st=>.ok .next st) (yX P4.inv P4.loc) fun _ st5 e5 g5 h5 tk5 _ P5 _=>?_
  cases e5
  exact DenSt.fin P5.inv P5.loc .next
theorem AN {st:St} {i:Nat} {x:Str} {vs ws:List V} {a:uP0} {its':Array Value} (I:Inv prog w T b₀ C g st.σ h) (L:Loc T C g names st.ρ m h) (hi:names[i]?=some x) (hm:m x=some (.ref a)) (ho:g.own=[a]) (hv:st.ρ[i]?=some (some (.own vs)))
  (hl:h'.PlainList a its') (sb:Heap.SameBut a h h') (V:VsRel T g.φ (bad C g) h ws its'.toList) (hw:ws.length≤qD):Post prog w T b₀ C names m g h (qB st i (.own ws)) g h':=by
 have ha:a∈g.own:=by rw [ho]; exact vu0.mpr rfl
 have kk:∀ b o,b≠a→h.get? b=some o→h'.get? b=some o:=fun b o n e=>(sb.2 b n).trans e
 have bd:bad C g a:=.inl (.inr (.inl ha))
 have M:Mono g.φ g.φ (bad C g) (bad C g) h h':=⟨vw0,fun b o e n _=>kk b o (fun z=>n (z▸bd)) e,fun _ _ _ n=>n⟩
 have sp:=I.sep a (.inr ha)
 have nd:=I.nodup
 rw [vA0] at nd
 refine x1a1 (id hl) fun n0 hl0=>?_
 have nfa:noF {cls:=.type "list",data:=.seq its' n0:Obj}:=fun _ q=>by exact qO PySem.Data.ctorIdx q rfl
 refine ⟨⟨I.lφ,I.lμ,I.nodup,I.sep,I.fresh,fun b o e=>?_,?_,fun n o e=>?_,fun b q=>?_,fun b q=>?_⟩,⟨?_,fun j y v hj e=>?_,fun j y us hj e=>?_,fun p q us ws' h1 h2=>?_,by rw [xv]; exact L.len⟩,⟨vw0,vw0,fun _ e=>.inl e,fun _ e=>.inl e,fun b o e n=>?_,fun b q n o e=>?_,fun b o e=>?_⟩⟩
 ·refine kk b o (fun q=>?_) (I.stay b o e)
  have:=I.fresh a bd
  rw [← q,e] at this; exact snO this
 ·exact zq I.frames fun b o hb e nf=>(c1a2 o (kk b o (fun z=>sp.2.1 (z▸hb)) e) nf)
 ·refine x2a3 (I.objs n o e) fun y d h1 h2 r=>?_
  exact (c2a3 y d h1 h2 (r.mono M fun q hq=>kk d q (fun z=>nd.2.2 d (vx0 h2) a ha z) hq))
 ·refine x1a2 (I.hidden b q) fun o e n=>?_
  exact (c1a2 o (kk b o (fun z=>sp.2.2 (z▸q)) e) n)
 ·rw [ho,vu0] at q
  rw [q]
  exact (c1a2 _ hl0 nfa)
 ·refine x3a2 L.ns fun o es ep e r=>?_
  exact ⟨o,es,ep,kk _ _ (fun z=>sp.1 z.symm) e,r⟩
 ·rcases jg e with ⟨rfl,e2⟩ | ⟨hne,e2⟩
  ·exact qO LV.ctorIdx e2 rfl
  ·refine x1a2 (L.val j y v hj e2) fun p h1 h2=>?_
   exact (c1a2 p h1 (h2.mono M))
 ·rcases jg e with ⟨rfl,e2⟩ | ⟨hne,e2⟩
  ·cases e2
   rw [hi] at hj; cases hj
   exact (c2a5 a its' hm ho hl (V.mono M) hw)
  ·exact absurd (L.one j i us vs e2 hv) hne
 ·rcases jg h1 with ⟨rfl,_⟩ | ⟨n1,e1⟩
  ·rcases jg h2 with ⟨rfl,_⟩ | ⟨n2,e2⟩
   ·rfl
   ·exact absurd (L.one q p ws' vs e2 hv) n2
  ·exact absurd (L.one p i us vs e1 hv) n1
 ·exact kk b o (fun z=>n (.inr (.inl (z▸ha)))) e
 ·exact ⟨o.slots,kk b o (fun z=>sp.2.1 (z▸q)) e⟩
 ·by_cases hb:b=a
  ·rw [hb]; exact (c1a2 _ hl0 (fun _=>nfa))
  ·exact (c1a2 o (kk b o hb e) id)
theorem zZ {α:Type} {Rv:Heap→G→α→Value→Prop} {o:Expr} {apos pos:Pos} {pl:Sem Bool} {D:uP0} {its:Array Value} {name:Str} {id:String} {args:List Expr} {r:R α} (hl:s.heap.PlainList D its) (slot:Slot "list" name id) (hty:typeOf (.builtin id)=pure (.type "method_descriptor"))
  (d:Den prog w T b₀ Rv C names m g s (callWith pos (.builtin id) [.ref D] (backTo pos (starEach args C.env)) []) r) :
  Den prog w T b₀ Rv C names m g s (do let (f,first) ← PySem.holding [.ref D] (getMethod (.ref D) name pl); callWith pos f first (backTo pos (starEach args C.env)) []) r :=
 fun Q E hq he hb=>uF0 (uH0 (Gd hl slot hty (d Q E hq he hb)))
theorem uV {vs:List V} {x:V} {its:Array Value} {φ:List uP0} {bd:uP0→Prop} (V:VsRel T φ bd h vs its.toList) (e:vs.getLast?=some x):∃ y,its[its.size-1]?=some y∧VRel T φ bd h x y∧VsRel T φ bd h vs.dropLast (its.eraseIdxIfInBounds (its.size-1)).toList:=by
 have hs:=V.size
 rw [List.getLast?_eq_getElem?] at e
 refine x1a2 (V.get e) fun y hy W=>?_
 have hlt:vs.length-1<vs.length:=(vv0.mp e).1
 rw [ux0,hs] at hy
 refine (c1a3 y hy W ?_)
 have h1:its.size-1<its.size:=by exact hs▸hlt
 have h2:(its.eraseIdxIfInBounds (its.size-1)).toList=its.toList.take (its.size-1):=by
  unfold Array.eraseIdxIfInBounds
  rw [dif_pos h1,Array.toList_eraseIdx,List.eraseIdx_eq_take_drop_succ]
  rw [wW0 (by rw [uB0]; exact far [_,_] [.le qa (.p qb qh)] (.le qa (.p qb qh)) rfl (lsa _ _)),vU0]
 rw [h2,List.dropLast_eq_take,hs]
 exact V.take _
theorem Kt {α:Type} {st st':St} {vs:List V} {a:α} {Rv:Heap→G→α→Value→Prop} {D:uP0} {its:Array Value} {pos:Pos} (hl:s.heap.PlainList D its) (I:Inv prog w T b₀ C g st.σ s.heap) (L:Loc T C g names st.ρ m s.heap) (hz:its.size≤qD) {y:Value} (hy:its[its.size-1]?=some y)
  (k:∀ h',h'.PlainList D (its.eraseIdxIfInBounds (its.size-1))→Heap.SameBut D s.heap h'→Post prog w T b₀ C names m g s.heap st' g h'∧Rv h' g a y) :
  Den prog w T b₀ Rv C names m g s (callWith pos (.builtin "list.pop") [.ref D] (backTo pos (starEach [] C.env)) []) (.ok a st'):=by
 refine Den.of_wp rfl fun Q E hq=>?_
 refine callWith_of (P:=fun _=>True) rfl (fun h _=>zf _ h) (evalArgs_nil3 ⟨trivial,?_⟩)
 refine x1a1 (id hl) fun n ho=>?_
 refine call_meets PySem.F.slot_list_pop ⟨_,ho,rfl⟩ PySem.F.entry_list_pop (PySem.F.args_list_pop_1 _) (PySem.MeetsSeq.list_pop_last D its n y hy (by rw [uJ0]; unfold qD at hz; exact yd0 hz)) ⟨ho,?_⟩
 have kk:=k _ (kf hl fun xs=>xs.eraseIdxIfInBounds (its.size-1)) (Heap.SameBut.update ..)
 exact hq g _ _ _ kk.1 kk.2
theorem QH {o:Expr} {apos pos:Pos} {fo:St→R V} (hb0:jy o=true) (hp:(apos.endLine==pos.line)=true) (d:jh prog w T b₀ C names (eval o C.env) fo) :
  jh prog w T b₀ C names (eval (.Call (.Attribute o "pop" apos) [] [] pos) C.env) (fun st=>(fo st).bind fun v st=>match v with
   | .ref n=>(match st.σ[n]? with
    | some (.list vs)=>(match vs.getLast? with
     | some x=>.ok x {st with σ:=st.σ.set n (.list vs.dropLast)}
     | none=>.bad)
    | _=>.bad)
   | _=>.bad):=by
 intro m g s st I L
 refine jA hb0 rfl (by decide) hp (d m g s st I L) fun v st1 _ g1 h1 tk1 p P1 V1=>?_
 cases v with
 | ref n =>
  refine jv0 (Pr:=Den prog w T b₀ _ C names m _ _ _) (fun vs eo=>?_) Den.bad
  cases el:vs.getLast? with
  | none=>exact Den.bad
  | some x =>
   refine x2a4 (yH P1.inv V1 eo) fun y dd uQ0 hφ hμ rr=>?_; rw [uQ0]
   cases rr with
   | list hl V' hz =>
    refine x1a3 (uV V' el) fun z hz1 hz2 hz3=>?_
    have hsz:=V'.size
    refine zZ (apos:=apos) (o:=o) hl PySem.F.slot_list_pop PySem.F.type_list_pop ?_
    refine Kt (st:=st1) (vs:=vs) hl P1.inv P1.loc (by exact hsz▸hz) hz1 fun h' hl' sb=>?_
    have PP:=ke P1.inv P1.loc eo hφ hμ rfl hl' sb hz3 (by rw [kf0]; exact ye0 (yn0 _ _) hz)
    exact ⟨PP,hz2.mono PP.step.mono⟩
 | _=>exact Den.bad
noncomputable def Zg (a:uP0):Heap→G→Unit→Value→Prop:=fun _ _ _ p=>p=.ref a
theorem uk {st:St} {i:Nat} {x:Str} {a:uP0} {pos:Pos} (k:COk C names) (I:Inv prog w T b₀ C g st.σ s.heap) (L:Loc T C g names st.ρ m s.heap) (hi:names[i]?=some x) (hm:m x=some (.ref a)) :
  Den prog w T b₀ (Zg a) C names m g s (eval (.Name x pos) C.env) (.ok () st):=by
 have hx:=vx0 hi
 exact Den.of_wp rfl fun Q E hq=>wpAny_Name (uL0 k.kind (k.loc x hx) L.ns hm (hq g s.heap s.toks _ (.here I L) rfl)) (k.dbg x hx)
theorem GG {i:Nat} {x:Str} {xpos apos pos:Pos} (k:COk C names) (hi:names[i]?=some x) (hp:(apos.endLine==pos.line)=true) :
  jh prog w T b₀ C names (eval (.Call (.Attribute (.Name x xpos) "pop" apos) [] [] pos) C.env) (fun st=>match st.ρ[i]? with
   | some (some (.own vs))=>(match vs.getLast? with
    | some x=>.ok x (qB st i (.own vs.dropLast))
    | none=>.bad)
   | _=>.bad):=by
 intro m g s st I L
 dsimp only
 refine jh0 (Pr:=Den prog w T b₀ _ C names m _ _ _) (fun vs hv=>?_) Den.bad
 refine x2a5 (L.own i x vs hi hv) fun a its hm ho hl V hz=>?_
 refine Den.cast (r:=(R.ok () st).bind fun _ st=>match vs.getLast? with | some x=>.ok x (qB st i (.own vs.dropLast)) | none=>.bad) rfl ?_
 refine jA rfl rfl (by decide) hp (uk k I L hi hm) fun v st1 e g1 h1 tk1 p P1 V1=>?_
 cases e
 cases V1
 refine x2a5 (P1.loc.own i x vs hi hv) fun a1 its1 hm1 ho1 hl1 VV hz1=>?_
 rw [hm] at hm1; cases hm1
 cases el:vs.getLast? with
 | none=>exact Den.bad
 | some y =>
  refine x1a3 (uV VV el) fun z q1 q2 q3=>?_
  have hsz:=VV.size
  refine zZ (apos:=apos) (o:=.Name x xpos) (s:={s with heap:=h1,toks:=tk1}) hl1 PySem.F.slot_list_pop PySem.F.type_list_pop ?_
  refine Kt (st:=st) (vs:=vs) hl1 P1.inv P1.loc (by exact hsz▸hz1) q1 fun h' hl' sb=>?_
  have PP:=AN P1.inv P1.loc hi hm ho1 hv hl' sb q3 (by rw [kf0]; exact ye0 (yn0 _ _) hz1)
  exact ⟨PP,q2.mono PP.step.mono⟩
theorem Ay {st:St} {D:uP0} {its:Array Value} {y:Value} {st':St} (hl:s.heap.PlainList D its) (hz:its.size≤qD)
  (k:∀ h',h'.PlainList D (its.push y)→Heap.SameBut D s.heap h'→Post prog w T b₀ C names m g s.heap st' g h') :
  Den prog w T b₀ (RvV T C) C names m g s (call (.builtin "list.append") [.ref D,y]) (.ok .none st') :=
 Den.of_wp rfl fun Q E hq=>wpAny_list_append_plain hl (fun h' hl' sb=>hq g h' s.toks _ (k h' hl' sb) .none) (by rw [uJ0]; unfold qD at hz; exact yd0 hz)
theorem VsRel.push {φ:List uP0} {bd:uP0→Prop} {vs:List V} {its:Array Value} {v:V} {p:Value} (V:VsRel T φ bd h vs its.toList) (W:VRel T φ bd h v p):VsRel T φ bd h (vs++[v]) (its.push p).toList:=by
 rw [Array.toList_push]
 exact V.append (.cons W .nil)
theorem GJ {o e:Expr} {apos pos:Pos} {fo fe:St→R V} (hb0:jy o=true) (hp:(apos.endLine==pos.line)=true) (hs:qU e=true) (d:jh prog w T b₀ C names (eval o C.env) fo) (de:jh prog w T b₀ C names (eval e C.env) fe) :
  jh prog w T b₀ C names (eval (.Call (.Attribute o "append" apos) [e] [] pos) C.env) (fun st=>(fo st).bind fun x st=>match x with
   | .ref n=>(match st.σ[n]? with
    | some (.list _)=>(fe st).bind fun v st=>(match st.σ[n]? with
     | some (.list vs)=>if vs.length<qD then .ok .none {st with σ:=st.σ.set n (.list (vs++[v]))} else .bad
     | _=>.bad)
    | _=>.bad)
   | _=>.bad):=by
 intro m g s st I L
 refine jA hb0 (by simp [hs]) (by simp) hp (d m g s st I L) fun v st1 _ g1 h1 tk1 p P1 V1=>?_
 cases v with
 | ref n =>
  dsimp only
  refine jv0 (Pr:=Den prog w T b₀ _ C names m _ _ _) (fun vs0 eo=>?_) Den.bad
  refine x2a4 (yH P1.inv V1 eo) fun y dd uQ0 hφ hμ rr=>?_; subst uQ0
  cases rr with
  | list hl0 _ _ =>
   refine zZ (s:={s with heap:=h1,toks:=tk1}) (apos:=apos) (o:=o) hl0 PySem.F.slot_list_append PySem.F.type_list_append ?_
   refine Den.cast AQ (jL (st:=st1) (first:=[.ref y]) (kr:=fun ws st=>match ws with | [v]=>(match st.σ[n]? with | some (.list vs)=>(if vs.length<qD then .ok .none {st with σ:=st.σ.set n (.list (vs++[v]))} else .bad) | _=>.bad) | _=>.bad) (by simp [hs]) (fun q=>by cases q) (fun h _=>zf _ h) (zr hs de zy) P1.inv P1.loc fun ws st2 _ g2 h2 tk2 ps P2 V2=>?_)
   cases V2 with
   | nil=>exact Den.bad
   | cons a r =>
    cases r with
    | cons _ _=>exact Den.bad
    | nil =>
     dsimp only
     refine jv0 (Pr:=Den prog w T b₀ _ C names m _ _ _) (fun vs e2=>?_) Den.bad
     refine x2a4 (yH P2.inv (V1.mono P2.step.mono) e2) fun y2 d2 q1 hφ2 hμ2 rr2=>?_
     cases q1
     cases rr2 with
     | list hl V' hz =>
      have hsz:=V'.size
      split
      ·refine Ay (st:=st2) (s:={s with heap:=h2,toks:=tk2}) hl (by exact hsz▸(by assumption)) fun h' hl' sb=>?_
       exact ke P2.inv P2.loc e2 hφ2 hμ2 rfl hl' sb (V'.push a) (by rw [vt0,wc0]; exact (by assumption))
      ·exact Den.bad
 | _=>exact Den.bad
theorem wx {i:Nat} {x:Str} {xpos apos pos:Pos} {e:Expr} {fe:St→R V} {name:Str} {id:String} {fin:List V→V→St→R V} (k:COk C names) (hi:names[i]?=some x) (hp:(apos.endLine==pos.line)=true) (hs:qU e=true) (slot:Slot "list" name id) (hty:typeOf (.builtin id)=pure (.type "method_descriptor")) (de:jh prog w T b₀ C names (eval e C.env) fe)
  (kk:∀ m g s st vs v p a its,Inv prog w T b₀ C g st.σ s.heap→Loc T C g names st.ρ m s.heap→st.ρ[i]?=some (some (.own vs))→m x=some (.ref a)→g.own=[a]→s.heap.PlainList a its→VsRel T g.φ (bad C g) s.heap vs its.toList→vs.length≤qD→RvV T C s.heap g v p →
   Den prog w T b₀ (RvV T C) C names m g s (call (.builtin id) [.ref a,p]) (fin vs v st)) :
  jh prog w T b₀ C names (eval (.Call (.Attribute (.Name x xpos) name apos) [e] [] pos) C.env) (fun st=>match st.ρ[i]? with
   | some (some (.own _))=>(fe st).bind fun v st=>(match st.ρ[i]? with
    | some (some (.own vs))=>fin vs v st
    | _=>.bad)
   | _=>.bad):=by
 intro m g s st I L
 dsimp only
 refine jh0 (Pr:=Den prog w T b₀ _ C names m _ _ _) (fun vs0 hv=>?_) Den.bad
 refine x2a5 (L.own i x vs0 hi hv) fun a its hm ho hl V hz=>?_
 refine Den.cast (r:=(R.ok () st).bind fun _ st=>(fe st).bind fun v st=>(match st.ρ[i]? with | some (some (.own vs))=>fin vs v st | _=>.bad)) rfl ?_
 refine jA rfl (by simp [hs]) (by simp) hp (uk k I L hi hm) fun v st1 e0 g1 h1 tk1 p P1 V1=>?_
 cases e0
 cases V1
 refine x2a5 (P1.loc.own i x vs0 hi hv) fun a1 its1 hm1 ho1 hl1 VV hz1=>?_
 rw [hm] at hm1; cases hm1
 refine zZ (apos:=apos) (o:=.Name x xpos) (s:={s with heap:=h1,toks:=tk1}) hl1 slot hty ?_
 refine Den.cast AQ (jL (st:=st) (first:=[.ref a]) (kr:=fun ws st=>match ws with | [v]=>(match st.ρ[i]? with | some (some (.own vs))=>fin vs v st | _=>.bad) | _=>.bad) (by simp [hs]) (fun q=>by cases q) (fun h _=>zf _ h) (zr hs de zy) P1.inv P1.loc fun ws st2 _ g2 h2 tk2 ps P2 V2=>?_)
 cases V2 with
 | nil=>exact Den.bad
 | cons v r =>
  cases r with
  | cons _ _=>exact Den.bad
  | nil =>
   dsimp only
   refine jh0 (Pr:=Den prog w T b₀ _ C names m _ _ _) (fun vs e2=>?_) Den.bad
   refine x2a5 (P2.loc.own i x vs hi e2) fun a2 its2 hm2 ho2 hl2 V2 hz2=>?_
   rw [hm] at hm2; cases hm2
   exact kk m g2 {s with heap:=h2,toks:=tk2} st2 vs _ _ a its2 P2.inv P2.loc e2 hm ho2 hl2 V2 hz2 v
theorem uF {i:Nat} {x:Str} {xpos apos pos:Pos} {e:Expr} {fe:St→R V} (k:COk C names) (hi:names[i]?=some x) (hp:(apos.endLine==pos.line)=true) (hs:qU e=true) (de:jh prog w T b₀ C names (eval e C.env) fe) :
  jh prog w T b₀ C names (eval (.Call (.Attribute (.Name x xpos) "append" apos) [e] [] pos) C.env) (fun st=>match st.ρ[i]? with
   | some (some (.own _))=>(fe st).bind fun v st=>(match st.ρ[i]? with
    | some (some (.own vs))=>if vs.length<qD then .ok .none (qB st i (.own (vs++[v]))) else .bad
    | _=>.bad)
   | _=>.bad):=by
 refine wx (fin:=fun vs v st=>if vs.length<qD then .ok .none (qB st i (.own (vs++[v]))) else .bad) k hi hp hs PySem.F.slot_list_append PySem.F.type_list_append de fun m g s st vs v p a its I L hv hm ho hl V hz W=>?_
 have hsz:=V.size
 split
 ·refine Ay (st:=st) hl (by exact hsz▸(by assumption)) fun h' hl' sb=>?_
  exact AN I L hi hm ho hv hl' sb (V.push W) (by rw [vt0,wc0]; exact (by assumption))
 ·exact Den.bad
theorem uE {i:Nat} {x:Str} {xpos apos pos:Pos} {e:Expr} {fe:St→R V} (k:COk C names) (hi:names[i]?=some x) (hp:(apos.endLine==pos.line)=true) (hs:qU e=true) (de:jh prog w T b₀ C names (eval e C.env) fe) :
  jh prog w T b₀ C names (eval (.Call (.Attribute (.Name x xpos) "extend" apos) [e] [] pos) C.env) (fun st=>match st.ρ[i]? with
   | some (some (.own _))=>(fe st).bind fun v st=>(match st.ρ[i]? with
    | some (some (.own vs))=>(match v with
     | .lst ws=>if vs.length+ws.length<qD then .ok .none (qB st i (.own (vs++ws))) else .bad
     | _=>.bad)
    | _=>.bad)
   | _=>.bad):=by
 refine wx (fin:=fun vs v st=>match v with
     | .lst ws=>if vs.length+ws.length<qD then .ok .none (qB st i (.own (vs++ws))) else .bad
     | _=>.bad) k hi hp hs PySem.F.slot_list_extend PySem.F.type_list_extend de fun m g s st vs v p a its I L hv hm ho hl V hz W=>?_
 cases v with
 | lst ws =>
  dsimp only
  split
  ·rename_i hk
   refine x2a4 (jJ W) fun b its2 uQ0 hb nb V2=>?_; rw [uQ0]
   have hsz:=V.size
   have hsz2:=V2.size
   refine x1a1 (id hl) fun n hl0=>?_
   refine x1a3 (id hb) fun uQ0 ho2 hc2 uR0=>?_; obtain ⟨cls2,dd2,data2,sl2⟩:=uQ0; obtain ⟨n2,hd2⟩:=uR0
   simp only at hc2 hd2
   subst hc2 hd2
   refine Den.of_wp rfl fun Q E hq=>?_
   refine call_meets PySem.F.slot_list_extend ⟨_,hl0,rfl⟩ PySem.F.entry_list_extend (PySem.F.args_list_extend_2 _ _) (BV a its n b its2 n2 dd2 sl2 (extend_door (by rw [uJ0]; unfold qD at hk; exact far [_,_,_,_] [.lt (.p qg qj) qJ,.qe qg qa,.qe qj qb] (.le (.p qa qb) (.n 16777216)) rfl hk hsz hsz2)) (by rw [uJ0]; unfold qD at hk; exact far [_,_,_] [.lt (.p qb qg) qJ,.qe qb qa] (.le qa (.n 16777216)) rfl hk hsz) (by rw [uJ0]; unfold qD at hk; exact far [_,_,_,_] [.lt (.p qg qj) qJ,.qe qg qa,.qe qj qb] (.le (.p qa qb) (.p (.n 16777216) qh)) rfl hk hsz hsz2)) (yD hl0 ho2 ?_)
   refine hq g _ _ _ (AN I L hi hm ho hv (kf hl fun xs=>xs++its2) (Heap.SameBut.update ..) ?_ (by rw [vt0]; exact ym0 hk)) .none
   rw [Array.toList_append]
   exact V.append V2
  ·exact Den.bad
 | _=>exact Den.bad
theorem DQ {st:St} {i:Nat} {x:Str} {vs:List V} {ps:List Value} (k:COk C names) (I:Inv prog w T b₀ C g st.σ h) (L:Loc T C g names st.ρ m h) (hi:names[i]?=some x) (hno:∀ (j:Nat) (ws:List V),st.ρ[j]?≠some (some (.own ws))) (V:VsRel T g.φ (bad C g) h vs ps) (hz:vs.length≤qD)
  (ns:h'.Ns C.env.locals (fun y=>if y=x then some (.ref h.objs.size) else m y)) (sb:Heap.SameBut C.env.locals (h.push {cls:=.type "list",data:=.seq ps.toArray}) h') :
  Post prog w T b₀ C names (fun y=>if y=x then some (.ref h.objs.size) else m y) g h (qB st i (.own vs)) ⟨g.φ,g.μ,[h.objs.size]⟩ h':=by
 have kk:∀ b o,b≠C.env.locals→h.get? b=some o→h'.get? b=some o:=fun b o n e=>(sb.2 b n).trans (Heap.get?_push_of_some _ e)
 have bl:bad C g C.env.locals:=.inl (.inr (.inr (.inl rfl)))
 have nn:h.get? h.objs.size=none:=jd h
 have nbad:¬ bad C g h.objs.size:=I.new L
 have M:Mono g.φ g.φ (bad C g) (bad C ⟨g.φ,g.μ,[h.objs.size]⟩) h h':=⟨vw0,fun a o e n _=>kk a o (fun q=>n (q▸bl)) e,fun a o e n q=>by
  rcases q with (q | q | q | q) | q
  ·exact n (.inl (.inl q))
  ·rw [vu0.mp q,nn] at e; exact nsO e
  ·exact n (.inl (.inr (.inr (.inl q))))
  ·exact n (.inl (.inr (.inr (.inr q))))
  ·exact n (.inr q)⟩
 refine x3a3 (id ns) fun oL es ep hoL hdL _=>?_
 refine x3a3 (id L.ns) fun oL0 es0 ep0 hoL0 hdL0 _=>?_
 have nfL:noF oL:=fun vs q=>by rw [hdL] at q; exact qO PySem.Data.ctorIdx q rfl
 have nloc:h.objs.size≠C.env.locals:=fun q=>by rw [← q,nn] at hoL0; exact nsO hoL0
 have hnew:h'.get? h.objs.size=some {cls:=.type "list",data:=.seq ps.toArray}:=(sb.2 _ nloc).trans (Heap.get?_push_size _ rfl)
 have nd:=I.nodup
 rw [vA0] at nd
 have base:b₀.get? h.objs.size=none:=by
  cases q:b₀.get? h.objs.size with
  | none=>rfl
  | some o=>rw [I.stay _ _ q] at nn; exact snO nn
 have other:∀ (j:Nat) (y:Str),names[j]?=some y→j≠i→y≠x:=fun j y hj hne e=>by
  subst e
  exact hne ((wP0 (vv0.mp hj).1 k.nodup).mp (hj.trans hi.symm))
 refine ⟨⟨I.lφ,I.lμ,?_,fun b q=>?_,fun b q=>?_,fun b o e=>?_,?_,fun n o e=>?_,fun b q=>?_,fun b q=>?_⟩,⟨ns,fun j y v hj e=>?_,fun j y us hj e=>?_,fun p q us ws' h1 h2=>?_,by rw [xv]; exact L.len⟩,⟨vw0,vw0,fun _ e=>.inl e,fun b q=>?_,fun b o e n=>?_,fun b q n o e=>?_,fun b o e=>?_⟩⟩
 ·show (g.μ++[h.objs.size]).Nodup
  rw [vA0]
  refine (yD nd.1 (by simp) (fun a ha b hb e=>?_))
  rw [vu0.mp hb] at e
  subst e
  exact nbad (.inl (.inl ha))
 ·rcases q with q | q
  ·exact I.sep b (.inl q)
  ·rw [vu0.mp q]
   exact (yD nloc (fun z=>nbad (.inl (.inr (.inr (.inr z))))) (fun z=>nbad (.inr z)))
 ·rcases q with (q | q | q | q) | q
  ·exact I.fresh b (.inl (.inl q))
  ·rw [vu0.mp q]; exact base
  ·exact I.fresh b (.inl (.inr (.inr (.inl q))))
  ·exact I.fresh b (.inl (.inr (.inr (.inr q))))
  ·exact I.fresh b (.inr q)
 ·refine kk b o (fun q=>?_) (I.stay b o e)
  have:=I.fresh _ bl
  rw [← q,e] at this; exact snO this
 ·refine zq I.frames fun b o hbm e nf=>?_
  by_cases hb:b=C.env.locals
  ·exact (c1a2 oL (hb▸hoL) nfL)
  ·exact (c1a2 o (kk b o hb e) nf)
 ·refine x2a3 (I.objs n o e) fun y d h1 h2 r=>?_
  exact (c2a3 y d h1 h2 (r.mono M fun q hq=>kk d q (I.sep d (.inl (vx0 h2))).1 hq))
 ·by_cases hb:b=C.env.locals
  ·exact (c1a2 oL (hb▸hoL) nfL)
  ·refine x1a2 (I.hidden b q) fun o e n=>?_
   exact (c1a2 o (kk b o hb e) n)
 ·rw [vu0.mp q]
  exact (c1a2 _ hnew (fun _ z=>by exact qO PySem.Data.ctorIdx z rfl))
 ·rcases jg e with ⟨rfl,e2⟩ | ⟨hne,e2⟩
  ·exact qO LV.ctorIdx e2 rfl
  ·refine x1a2 (L.val j y v hj e2) fun q hq W=>?_
   exact (c1a2 q (by rw [if_neg (other j y hj hne)]; exact hq) (W.mono M))
 ·rcases jg e with ⟨rfl,e2⟩ | ⟨hne,e2⟩
  ·cases e2
   rw [hi] at hj; cases hj
   refine (c2a5 h.objs.size ps.toArray (by simp) rfl ⟨0,hnew⟩ ?_ hz)
   rw [ww0]
   exact V.mono M
  ·exact absurd e2 (hno j us)
 ·rcases jg h1 with ⟨rfl,_⟩ | ⟨n1,e1⟩
  ·rcases jg h2 with ⟨rfl,_⟩ | ⟨n2,e2⟩
   ·rfl
   ·exact absurd e2 (hno q ws')
  ·exact absurd e1 (hno p us)
 ·right; rw [vu0.mp q]; exact nn
 ·exact kk b o (fun q=>n (.inr (.inr (.inl q)))) e
 ·exact ⟨o.slots,kk b o n e⟩
 ·by_cases hb:b=C.env.locals
  ·exact (c1a2 oL (hb▸hoL) (fun _=>nfL))
  ·exact (c1a2 o (kk b o hb e) id)
theorem KL {ρ:List (Option LV)} (e:ρ.all (fun x=>match x with | some (.own _)=>false | _=>true)=true) (j:Nat) (ws:List V):ρ[j]?≠some (some (.own ws)):=fun q=>by
 exact ftB (vE0.mp e _ (vx0 q))
theorem GF {x:Str} {i:Nat} {es:List Expr} {pos pos' lpos:Pos} {f:St→R (List V)} (k:COk C names) (hi:names[i]?=some x) (d:yZ prog w T b₀ C names es f) :
  xX prog w T b₀ C names (exec (.Assign [.Name x pos'] (.List es lpos) pos) C.env) (fun st=>(f st).bind fun vs st=>if vs.length≤qD&&st.ρ.all (fun x=>match x with | some (.own _)=>false | _=>true) then .ok .next (qB st i (.own vs)) else .bad):=by
 intro m g s st I L
 rw [exec_Assign_Name _ _ _ _ _ (zK rfl _ _ _),arm_eval_List]
 simp only [bind_assoc]
 refine DenSt.standAt (DenSt.standAt (DenSt.bind (d lpos m g s st I L) fun vs st1 _ g1 h1 tk1 ps P1 V1=>?_))
 split
 ·rename_i hk
  rw [ug0,decide_eq_true_eq] at hk
  have hl:=V1.length
  intro Q E hq he hb
  refine uF0 (wpAny_newList ?_ (by rw [← hl,uJ0]; unfold qD at hk; exact yd0 hk.1))
  refine uF0 (uI0 (uF0 (wpAny_bindName (uM0 (k.loc x (vx0 hi)) (P1.loc.ns.keeps (qX _ _)) (fun h' ns sb=>?_) (yS k)))))
  exact uG0 (hq .next _ rfl _ _ h' _ .next (DQ k P1.inv P1.loc hi (KL hk.2) V1 hk.1 ns sb) .next)
 ·exact DenSt.bad
noncomputable def Um:Expr→Bool
 | .Tuple _ _ _=>false
 | _=>true
theorem xU:∀ (xs:List (Str×Pos)) (env:Env),(assignEach (xs.map fun x=>Expr.Name x.1 x.2) env).map (·.2)=xs.map fun x v=>(do PySem.standAt x.2; bindName env x.1 v:Sem Unit)
 | [],_=>rfl
 | x::xs,env=>by
  show assign (.Name x.1 x.2) env::_=_
  rw [vJ0]
  congr 1
  exact xU xs env
theorem yl:∀ (xs:List (Str×Pos)) (env:Env),(assignEach (xs.map fun x=>Expr.Name x.1 x.2) env).findIdx? (·.1)=none∧(assignEach (xs.map fun x=>Expr.Name x.1 x.2) env).length=xs.length
 | [],_=>⟨rfl,rfl⟩
 | x::xs,env=>by
  have ih:=yl xs env
  have e:assignEach ((x::xs).map fun x=>Expr.Name x.1 x.2) env=(false,assign (.Name x.1 x.2) env)::assignEach (xs.map fun x=>Expr.Name x.1 x.2) env:=rfl
  rw [e,List.findIdx?_cons,ih.1]
  exact ⟨rfl,by rw [vr0,ih.2]; rfl⟩
theorem JM (k:COk C names):∀ (xs:List (Str×Pos)) (is:List Nat) (vs:List V) (ps:List Value) (m:Str→Option Value) (g:G) (s:Shared) (st st2:St),is.map (names[·]?)=xs.map (fun x=>some x.1)→Inv prog w T b₀ C g st.σ s.heap→Loc T C g names st.ρ m s.heap→VsRel T g.φ (bad C g) s.heap vs ps→NU st is vs=some st2 →
  ∀ (Q:Unit→Shared→Prop) (E:Value→Shared→Prop),(∀ m' g' h' tk,Post prog w T b₀ C names m' g s.heap st2 g' h'→Q () {s with heap:=h',toks:=tk})→wpAny (model prog w) C.A (assignInOrder (xs.map fun x v=>(do PySem.standAt x.2; bindName C.env x.1 v:Sem Unit)) ps) Q E s
 | [],[],[],_,m,g,s,st,_,_,I,L,V,es,Q,E,hq=>by
  cases V; cases es
  exact uG0 (hq m g s.heap s.toks (.here I L))
 | [],[],_::_,_,_,_,_,_,_,_,_,_,_,es,_,_,_=>by exact nsO es
 | _::_,_::_,[],_,_,_,_,_,_,_,_,_,_,es,_,_,_=>by exact nsO es
 | [],_::_,_,_,_,_,_,_,_,e,_,_,_,_,_,_,_=>by cases e
 | _::_,[],_,_,_,_,_,_,_,e,_,_,_,_,_,_,_=>by cases e
 | x::xs,i::is,v::vs,_,m,g,s,st,st2,e,I,L,.cons (p:=p) (ps:=ps) a r,es,Q,E,hq=>by
  rw [vJ0,vJ0,vO0.injEq] at e
  show wpAny _ _ (PySem.holding ps (do PySem.standAt x.2; bindName C.env x.1 p:Sem Unit) >>= fun _=>assignInOrder (xs.map fun x v=>(do PySem.standAt x.2; bindName C.env x.1 v:Sem Unit)) ps) _ _ _
  refine uF0 (uH0 (uF0 (uI0 (wpAny_bindName (uM0 (k.loc x.1 (vx0 e.1)) L.ns (fun h' ns sb=>?_) (yS k))))))
  have PP:=zI k I L e.1 a ns sb
  refine JM k xs is vs ps _ g {s with heap:=h',toks:=s.toks+1} (qB st i (.val v)) st2 e.2 PP.inv PP.loc (r.mono PP.step.mono) es Q E fun m' g' h' tk P=>?_
  exact hq m' g' h' tk ⟨P.inv,P.loc,PP.step.trans P.step⟩
theorem GC {xs:List (Str×Pos)} {is:List Nat} {e:Expr} {kk:Nat} {tpos pos:Pos} {f:St→R V} (k:COk C names) (hx:is.map (names[·]?)=xs.map (fun x=>some x.1)) (hc:jW e=true) (ht:Um e=true) (d:jh prog w T b₀ C names (eval e C.env) f) :
  xX prog w T b₀ C names (exec (.Assign [.Tuple (xs.map fun x=>Expr.Name x.1 x.2) kk tpos] e pos) C.env) (fun st=>(f st).bind fun v st=>match v with
   | .tup vs=>(match NU st is vs with | some st=>.ok .next st | none=>.bad)
   | _=>.bad):=by
 intro m g s st I L
 rw [vI hc (by cases e <;> first | rfl | exact ftB ht)]
 refine DenSt.standAt (DenSt.bind (d m g s st I L) fun v st1 _ g1 h1 tk1 p P1 V1=>?_)
 cases v with
 | tup vs =>
  refine x2a4 (xD V1) fun a its uQ0 hT nb V'=>?_; subst uQ0
  dsimp only
  cases es:NU st1 is vs with
  | none=>exact DenSt.bad
  | some st2 =>
   have len:∀ (is:List Nat) (vs:List V) (st st2:St),NU st is vs=some st2→is.length=vs.length:=by
    intro is
    induction is with
    | nil=>intro vs st st2 h; cases vs <;> first | rfl | exact nsO h
    | cons i is ih =>
     intro vs st st2 h
     cases vs with
     | nil=>exact nsO h
     | cons v vs=>rw [vr0,vr0,ih vs _ _ h]
   have hl:=len _ _ _ _ es
   have hxl:is.length=xs.length:=by have:=congrArg wM0 hx; simpa using this
   have hsz:=V'.size
   intro Q E hq he hb
   have e1:assignAll (.ref a) ((assignEach [.Tuple (xs.map fun x=>Expr.Name x.1 x.2) kk tpos] C.env).map (·.2))=assign (.Tuple (xs.map fun x=>Expr.Name x.1 x.2) kk tpos) C.env (.ref a):=rfl
   rw [e1]
   have st':=yl xs C.env
   refine uF0 (wpAny_assign_Tuple k.hd hT (by rw [st'.2]; lia) st'.1 fun h' ext=>?_)
   rw [xU]
   have kp:∀ b o,h1.get? b=some o→h'.get? b=some o:=fun b o e=>ext b o (yJ0 (Heap.lt_size e)) e
   have PP:Post prog w T b₀ C names m g1 h1 st1 g1 h':=.keeps P1.inv P1.loc kp
   refine JM k xs is vs its.toList m g1 {s with heap:=h',toks:=tk1} st1 st2 hx PP.inv PP.loc (V'.mono (Mono.keeps kp)) es _ _ fun m' g' h' tk P=>?_
   exact uG0 (hq .next st2 rfl m' g' h' tk .next ⟨P.inv,P.loc,PP.step.trans P.step⟩ .next)
 | _=>exact DenSt.bad
end
structure SOk (C:Cx):Prop where
 top:∃ outer L,C.envs=C.env::outer∧C.env.frame=some L
section
variable {prog:Program} {w:World} {K:Frag} {T:TT} {b₀:Heap} {C:Cx} {names:List Str} {m:Str→Option Value} {g:G} {h h':Heap} {s:Shared} {an mn:Nat→Str} {P:P}
theorem Ie {M:Model} {A:Around} {E:Value→Shared→Prop} {base:Heap} {env:Env} {outer:List Env} {L e:uP0} {cls a0 fl:Value} {Q:Unit→Shared→Prop} (hfr:A.frames=some (env::outer)) (hf:env.frame=some L) (q:fl=.none∨fl=rawInt L) (f:FlyAt base (env::outer) e cls a0 fl s.heap)
  (hQ:∀ h',UW base (env::outer) e cls a0 (rawInt L) h'→s.heap.UpToSlots h'→Q () {s with heap:=h'}):wpAny M A (noteFrame (.ref e) env) Q E s:=by
 rcases f with f | ⟨rfl,f1,f2,f3,oe,vs,he,⟨rfl,h0⟩,hd,h1⟩
 ·rcases q with rfl | rfl
  ·exact wpAny_looks_onW hfr hf f fun h' x u=>hQ h' x u
  ·exact wpAny_noteFrame_againW hf f.2.2.2 (hQ s.heap f (.refl _))
 ·unfold noteFrame
  simp only [hf]
  refine uF0 (wpAny_field he hd h1 ?_)
  rw [if_neg (by decide)]
  exact wpAny_entryW hfr f3 hf he f1 f2 hd (uz0.mp h1).1 h0 fun h' hN=>hQ h' ⟨hN.1,f2,hN.2.1,hN.2.2.1⟩ hN.2.2.2
theorem yc {M:Model} {A:Around} {E:Value→Shared→Prop} {base:Heap} {l:List Env} {e:uP0} {cls a0 fl:Value} {fr:Option uP0} {Q:Unit→Shared→Prop} (f:UW base l e cls a0 fl s.heap)
  (hQ:∀ h',UW base l e cls a0 (fr.elim .none fun f=>rawInt f) h'→s.heap.UpToSlots h'→Q () {s with heap:=h'}):wpAny M A (setFlight (.ref e) fr) Q E s:=by
 refine JL f fun hkb hen hl uQ0=>?_; obtain ⟨oe,vs,t,oT,ts,he,hcls,hd,h1,hnT,hTe,hT,hdT,h3⟩:=uQ0
 have hsz3:3<ts.size:=(uz0.mp h3).1
 have other:∀ b,b≠t→(s.heap.update t (Obj.mapFields (·.setIfInBounds 3 (fr.elim Value.none fun f=>rawInt f)))).get? b=s.heap.get? b :=
  fun b hb=>Heap.get?_update_other _ _ (Ne.symm hb)
 have noRecord:∀ b o,s.heap.get? b=some o→(∀ vs,o.data≠.fields vs)→b≠t:=fun b o hb hnf q=>by
  rw [q,hT] at hb; injection hb with hb; subst hb; exact hnf ts hdT
 unfold setFlight
 refine uF0 (wpAny_field he hd h1 ?_)
 rw [if_pos (show (Value.ref t != Value.none)=true from by simp)]
 refine wpAny_setField hT hdT hsz3 (hQ _ ⟨fun b o hbo=>(other b fun q=>by rw [q,hnT] at hbo; exact nsO hbo).trans (hkb b o hbo),hen,
  hl.of_keeps fun b o hb hnf=>(c1a2 o ((other b (noRecord b o hb hnf)).trans hb) rfl),?_⟩ fun b o hb hnf=>⟨o.slots,(other b (noRecord b o hb hnf)).trans hb⟩)
 exact ⟨oe,vs,t,_,_,(other e (Ne.symm hTe)).trans he,hcls,hd,h1,hnT,hTe,Heap.get?_update_self _ hT (Obj.isFreed_of_fields (Obj.data_mapFields hdT _)),Obj.data_mapFields hdT _,by simp [hsz3]⟩
theorem GL {M:Model} {A:Around} {E:Value→Shared→Prop} {base:Heap} {env:Env} {outer:List Env} {L e:uP0} {cls a0 fl:Value} (hf:env.frame=some L) (f:UW base (env::outer) e cls a0 fl s.heap)
  (hQ:∀ h',UW base (env::outer) e cls a0 (rawInt L) h'→s.heap.UpToSlots h'→E (.ref e) {s with heap:=h'}):cameBackBy M A env E (.ref e) s:=by
 refine JL (id f) fun _ _ _ uQ0=>?_; obtain ⟨oe,vs,t,oT,ts,he,hcls,hd,h1,_⟩:=uQ0
 unfold cameBackBy
 refine uF0 (wpAny_field he hd h1 ?_)
 rw [if_neg (by simp)]
 refine yc f fun h' f' u=>?_
 rw [hf] at f'
 exact hQ h' f' u
theorem AP {A':Around} {st st₀:St} {g':G} {m₀:Str→Option Value} {e:uP0} {tk:Nat} {E:Value→Shared→Prop} (hA':A'.frames=some C.envs) (so:SOk C) (I₀:Inv prog w T b₀ C g st₀.σ s.heap) (L₀:Loc T C g names st₀.ρ m₀ s.heap) (Po:Post prog w T b₀ C names m g s.heap st g' h') (F:Fly T C g s.heap e h')
  (hE:∀ h'',Post prog w T b₀ C names m g s.heap st g' h''→Fly T C g s.heap e h''→E (.ref e) {s with heap:=h'',toks:=tk}) :
  notedBy (model prog w) A' C.env (cameBackBy (model prog w) C.A C.env E) (.ref e) {s with heap:=h',toks:=tk}:=by
 refine x2a2 so.top fun outer L to1 to2=>?_
 refine x1a4 (Bg Po F) fun t ee et uQ0 sb=>?_; obtain ⟨a0,fl,q,f⟩:=uQ0
 rw [to1] at f hA'
 have q':fl=.none∨fl=rawInt L:=q.imp id fun ⟨L',q1,q2⟩=>by rw [to2] at q1; cases q1; exact q2
 unfold notedBy
 refine Ie (s:={s with heap:=h',toks:=tk}) hA' to2 q' f fun h1 f1 u1=>?_
 refine GL (s:={s with heap:=h1,toks:=tk}) to2 f1 fun h2 f2 u2=>?_
 have Sh:=Ol I₀ L₀ Po ee et (fun b o q=>f2.1 b o (sb b o q)) f2.1 (u1.trans u2)
 exact hE h2 Sh.1 ⟨a0,rawInt L,.inr (c1a2 L to2 rfl),by rw [to1]; exact .inl (Dk sb f2)⟩
theorem Qz {c:Expr} {body:List Stmt} {pos:Pos} {fc:St→R Bool} {fb:St→R Mine.Flow} (hA:C.A.frames=some C.envs) (so:SOk C) (dc:Bs prog w T b₀ C names (isTrue c C.env (eval c C.env)) fc) (db:xX prog w T b₀ C names (execs body C.env) fb) :
  xX prog w T b₀ C names (exec (.While c body [] pos) C.env) (fun st=>zA fc fb qy st):=by
 intro m0 g s st I L Q E hq he hb
 refine wpAny_While ?_
 refine codeAny_whileLoop (fun n s'=>∃ m1 g1 h1 tk1 st1,s'={s with heap:=h1,toks:=tk1}∧Post prog w T b₀ C names m1 g s.heap st1 g1 h1∧zA fc fb n st1=zA fc fb qy st) (fun n s' hI=>?_) qy (c5a3 m0 g s.heap s.toks st rfl (.here I L) rfl)
 refine x5a3 hI fun m1 g1 h1 tk1 st1 uQ0 P1 hr=>?_; subst uQ0
 cases n with
 | zero=>exact (hb hr.symm).elim
 | succ n =>
  have hr':zA fc fb qy st=(fc st1).bind fun t st1=>if t then (fb st1).bind fun f st2=>(match f with
   | .next=>zA fc fb n st2
   | .brk=>.ok .next st2
   | .ret v=>.ok (.ret v) st2) else .ok .next st1:=by rw [← hr]; rfl
  refine dc m1 g1 {s with heap:=h1,toks:=tk1} st1 P1.inv P1.loc _ _ (fun t st2 e2 g2 h2 tk2 p P2 V2=>?_) (fun st2 e2 g2 h2 tk2 x P2 F2=>?_) (fun e2=>hb (by show zA fc fb qy st=_; rw [hr',e2]; rfl))
  ·cases V2
   rw [e2] at hr'
   cases t with
   | true =>
    have hr2:zA fc fb qy st=(fb st2).bind fun f st2=>(match f with
     | .next=>zA fc fb n st2
     | .brk=>.ok .next st2
     | .ret v=>.ok (.ret v) st2):=hr'
    refine db m1 g2 {s with heap:=h2,toks:=tk2} st2 P2.inv P2.loc _ _ (fun a st3 e3 m3 g3 h3 tk3 p P3 V3=>?_) (fun st3 e3 m3 g3 h3 tk3 x P3 F3=>?_) (fun e3=>hb (by show zA fc fb qy st=_; rw [hr2,e3]; rfl))
    ·rw [e3] at hr2
     have PP:Post prog w T b₀ C names m3 g s.heap st3 g3 h3:=⟨P3.inv,P3.loc,(P1.step.trans P2.step).trans P3.step⟩
     cases V3 with
     | next=>exact ⟨n,yM0 n,m3,g3,h3,tk3,st3,rfl,PP,hr2.symm⟩
     | brk=>exact hq .next st3 hr2 m3 g3 h3 tk3 .next PP .next
     | ret V=>exact hq (.ret _) st3 hr2 m3 g3 h3 tk3 _ PP (.ret V)
    ·rw [e3] at hr2
     have PP:Post prog w T b₀ C names m3 g s.heap st3 g3 h3:=⟨P3.inv,P3.loc,(P1.step.trans P2.step).trans P3.step⟩
     exact AP (s:=s) hA so I L PP ((F3.back P2.step).back P1.step) fun h'' P' F'=>he st3 hr2 m3 g3 h'' tk3 x P' F'
   | false =>
    have PP:Post prog w T b₀ C names m1 g s.heap st2 g2 h2:=⟨P2.inv,P2.loc,P1.step.trans P2.step⟩
    exact wpAny_execs_nil (hq .next st2 hr' m1 g2 h2 tk2 .next PP .next)
  ·rw [e2] at hr'
   have PP:Post prog w T b₀ C names m1 g s.heap st2 g2 h2:=⟨P2.inv,P2.loc,P1.step.trans P2.step⟩
   exact AP (s:=s) hA so I L PP (F2.back P1.step) fun h'' P' F'=>he st2 hr' m1 g2 h'' tk2 x P' F'
theorem xx {g₀:G} {h₀ h'':Heap} {st:St} {g':G} {it:uP0} (I₀:∀ b o,b₀.get? b=some o→h₀.get? b=some o) (Po:Post prog w T b₀ C names m g₀ h₀ st g' h') (hn:h₀.get? it=none)
  (hf:∀ o,h'.get? it=some o→∃ vs,o.data=.fields vs) (k:∀ b o,b≠it→h'.get? b=some o→h''.get? b=some o):Post prog w T b₀ C names m g₀ h₀ st g' h''∧Mono g'.φ g'.φ (bad C g') (bad C g') h' h'':=by
 have kx:∀ b o,h'.get? b=some o→noF o→h''.get? b=some o:=fun b o hb n=>k b o (fun q=>by
  subst q
  refine x1a1 (hf o hb) fun vs e=>?_
  exact n vs e) hb
 have M:Mono g'.φ g'.φ (bad C g') (bad C g') h' h'':=⟨vw0,fun a o e _ nf=>kx a o e nf,fun _ _ _ n=>n⟩
 have I:=Po.inv
 have L:=Po.loc
 have S:=Po.step
 have old:∀ b o,h₀.get? b=some o→b≠it:=fun b o e q=>by rw [q,hn] at e; exact nsO e
 refine ⟨⟨⟨I.lφ,I.lμ,I.nodup,I.sep,I.fresh,fun b o hb=>k b o (old b o (I₀ b o hb)) (I.stay b o hb),?_,fun n o eo=>?_,fun b q=>?_,fun b q=>?_⟩,⟨?_,fun i x v a b=>?_,fun i x vs a b=>?_,L.one,L.len⟩,⟨S.φ,S.μ,S.newμ,S.newOwn,fun b o hb n=>k b o (old b o hb) (S.keep b o hb n),fun b q n o hb=>?_,fun b o hb=>?_⟩⟩,M⟩
 ·exact zq I.frames fun b o _ e nf=>(c1a2 o (kx b o e nf) nf)
 ·refine x2a3 (I.objs n o eo) fun x d h1 h2 r=>?_
  refine (c2a3 x d h1 h2 (r.mono M fun q hq=>?_))
  refine x1a2 r.noF fun q' hq' nf=>?_
  rw [hq] at hq'; cases hq'
  exact kx d q hq nf
 ·refine x1a2 (I.hidden b q) fun o ho n=>?_
  exact (c1a2 o (kx b o ho n) n)
 ·refine x1a2 (I.ownT b q) fun o ho n=>?_
  exact (c1a2 o (kx b o ho n) n)
 ·refine x3a3 L.ns fun o es ep e d r=>?_
  exact ⟨o,es,ep,kx _ _ e (fun vs q=>by rw [d] at q; exact qO PySem.Data.ctorIdx q rfl),d,r⟩
 ·refine x1a2 (L.val i x v a b) fun p h1 h2=>?_
  exact (c1a2 p h1 (h2.mono M))
 ·refine x2a5 (L.own i x vs a b) fun q its h1 h2 uQ0 h4 h5=>?_; obtain ⟨n,h3⟩:=uQ0
  exact (c2a5 q its h1 h2 ⟨n,kx _ _ h3 fun _ z=>by exact qO PySem.Data.ctorIdx z rfl⟩ (h4.mono M) h5)
 ·refine x1a1 (S.slots b q n o hb) fun sl e'=>?_
  exact ⟨sl,k b _ (old b o hb) e'⟩
 ·refine x1a2 (S.there b o hb) fun o₁ h1 n1=>?_
  exact (c1a2 o₁ (k b _ (old b o hb) h1) n1)
structure IterOk (prog:Program) (w:World) (T:TT) (C:Cx) (it:uP0) (vs:List V) (cv:V) (cp:Value) (At:Nat→Heap→Prop):Prop where
 fields:∀ i h o,At i h→h.get? it=some o→∃ vs,o.data=.fields vs
 there:∀ i h,At i h→∃ o,h.get? it=some o
 stable:∀ i h h',At i h→(∀ o,h.get? it=some o→h'.get? it=some o)→At i h'
 item:∀ i v g (s:Shared),vs[i]?=some v→At i s.heap→RvV T C s.heap g cv cp→∀ (Q:Option Value→Shared→Prop) (E:Value→Shared→Prop),(∀ h' p tk,At (i+1) h'→Heap.SameBut it s.heap h'→VRel T g.φ (bad C g) s.heap v p→Q (some p) {s with heap:=h',toks:=tk})→wpAny (model prog w) C.A (pyNext (.ref it)) Q E s
 fin:∀ i g (s:Shared),i=vs.length→At i s.heap→RvV T C s.heap g cv cp→∀ (Q:Option Value→Shared→Prop) (E:Value→Shared→Prop),(∀ h',Heap.ExtBut it s.heap h'→Q none {s with heap:=h'})→wpAny (model prog w) C.A (pyNext (.ref it)) Q E s
theorem Js (i:Nat) (fb:St→R Mine.Flow) {vs:List V} {j:Nat} {v:V} (e:vs[j]?=some v) (st:St):xG i fb (vs.drop j) st=(fb (qB st i (.val v))).bind fun f st2=>(match f with
   | .next=>xG i fb (vs.drop (j+1)) st2
   | .brk=>.ok .next st2
   | .ret v=>.ok (.ret v) st2):=by
 have hj:=(vv0.mp e).1
 have:vs.drop j=v::vs.drop (j+1):=by
  rw [we0 hj]
  rw [vB0 hj] at e
  cases e; rfl
 rw [this]
 rfl
theorem GA {it:uP0} {vs:List V} {cv:V} {cp:Value} {At:Nat→Heap→Prop} {i:Nat} {x:Str} {px:Pos} {body:List Stmt} {fb:St→R Mine.Flow} {st₀ st1:St} {m₀ m1:Str→Option Value} {g1:G} {h1:Heap} {tk1:Nat} (k:COk C names) (so:SOk C) (hi:names[i]?=some x) (io:IterOk prog w T C it vs cv cp At) (db:xX prog w T b₀ C names (execs body C.env) fb)
  (I₀:Inv prog w T b₀ C g st₀.σ s.heap) (L₀:Loc T C g names st₀.ρ m₀ s.heap) (P1:Post prog w T b₀ C names m1 g s.heap st1 g1 h1) (hn:s.heap.get? it=none) (h0:At 0 h1) (V0:RvV T C h1 g1 cv cp) (Q:PySem.Flow→Shared→Prop) (E:Value→Shared→Prop)
  (hq:∀ a st',xG i fb vs st1=.ok a st'→∀ m' g' h' tk p,Post prog w T b₀ C names m' g s.heap st' g' h'→FRel T C h' g' a p→Q p {s with heap:=h',toks:=tk})
  (he:∀ st',xG i fb vs st1=.exc st'→∀ m' g' h' tk e,Post prog w T b₀ C names m' g s.heap st' g' h'→Fly T C g s.heap e h'→E (.ref e) {s with heap:=h',toks:=tk})
  (hb:xG i fb vs st1=.bad→False) :
  codeAny (model prog w) C.A (.forLoop (.Name x px) (.ref it) body [] C.env) (fun r s'=>match r with | .ok f=>Q f s' | .error e=>cameBackBy (model prog w) C.A C.env E e s') {s with heap:=h1,toks:=tk1}:=by
 have hA:C.A.frames=some C.envs:=k.fr
 refine codeAny_forLoop (fun n s'=>∃ m2 g2 h2 tk2 st2 j,s'={s with heap:=h2,toks:=tk2}∧Post prog w T b₀ C names m2 g s.heap st2 g2 h2∧At j h2∧RvV T C h2 g2 cv cp∧j≤vs.length∧n=vs.length+1-j∧xG i fb (vs.drop j) st2=xG i fb vs st1) (fun n s' hI=>?_) (vs.length+1) (c6a7 m1 g1 h1 tk1 st1 0 rfl P1 h0 V0 (yq0 _) rfl rfl)
 refine x6a7 hI fun m2 g2 h2 tk2 st2 j uQ0 P2 hat V2 hj uR0 hr=>?_; rw [uQ0]; rw [uR0]
 cases ej:vs[j]? with
 | none =>
  have hjl:j=vs.length:=by
   have:=wR0.mp ej
   exact yk0 hj this
  subst hjl
  rw [wS0] at hr
  refine io.fin vs.length g2 {s with heap:=h2,toks:=tk2} rfl hat V2 _ _ fun h3 ext=>wpAny_execs_nil ?_
  have P3:=(xx I₀.stay P2 hn (fun o e=>io.fields _ _ o hat e) fun b o n e=>ext b o n e).1
  exact hq .next st2 hr.symm m2 g2 h3 tk2 .next P3 .next
 | some v =>
  have hjl:j<vs.length:=(vv0.mp ej).1
  rw [Js i fb ej] at hr
  refine io.item j v g2 {s with heap:=h2,toks:=tk2} ej hat V2 _ _ fun h3 p tk3 at3 sb3 V3=>?_
  have k3:∀ b o,b≠it→h2.get? b=some o→h3.get? b=some o:=fun b o n e=>(sb3.2 b n).trans e
  have PF:=xx I₀.stay P2 hn (fun o e=>io.fields _ _ o hat e) k3
  have P3:=PF.1
  have V3':VRel T g2.φ (bad C g2) h3 v p:=V3.mono PF.2
  have V2':RvV T C h3 g2 cv cp:=V2.mono PF.2
  refine wpAny_assign_Name (uM0 (k.loc x (vx0 hi)) P3.loc.ns (fun h4 ns4 sb4=>?_) (yS k))
  have P4:=zI k P3.inv P3.loc hi V3' ns4 sb4
  refine x1a1 (io.there _ _ at3) fun oit hoit=>?_
  refine x1a1 (io.fields _ _ oit at3 hoit) fun fit hfit=>?_
  have nit:it≠C.env.locals:=fun q=>by
   refine x3a3 P3.loc.ns fun oL es ep hoL hdL _=>?_
   rw [← q,hoit] at hoL; cases hoL
   rw [hfit] at hdL; exact qO PySem.Data.ctorIdx hdL rfl
  have at4:At (j+1) h4:=io.stable _ _ _ at3 fun o e=>(sb4.2 it nit).trans e
  have hoit4:h4.get? it=some oit:=(sb4.2 it nit).trans hoit
  refine db _ g2 {s with heap:=h4,toks:=tk3+1} (qB st2 i (.val v)) P4.inv P4.loc _ _ (fun a st5 e5 m5 g5 h5 tk5 q P5 V5=>?_) (fun st5 e5 m5 g5 h5 tk5 q P5 F5=>?_) (fun e5=>hb (by rw [← hr,e5]; rfl))
  ·rw [e5] at hr
   have PP:Post prog w T b₀ C names m5 g s.heap st5 g5 h5:=⟨P5.inv,P5.loc,(P3.step.trans P4.step).trans P5.step⟩
   cases V5 with
   | next =>
    have nm:¬ may C g2 it:=fun z=>by
     refine x1a2 (P4.inv.may_there P4.loc (.inl z)) fun o' ho' nf=>?_
     rw [hoit4] at ho'; cases ho'
     exact nf _ hfit
    exact ⟨vs.length+1-(j+1),by exact far [_,_,_,_] [.le (.p qg (.p qb qh)) (.p qa qh),.le (.p qa qh) (.p qj qb)] (.lt qg qj) rfl (yi0 (yg0 (far [_,_] [.lt qb qa] (.le (.p qb qh) (.p qa qh)) rfl hjl))) (lsa _ _),m5,g5,h5,tk5,st5,j+1,rfl,PP,io.stable _ _ _ at4 fun o e=>P5.step.keep it o e nm,(V2'.mono P4.step.mono).mono P5.step.mono,hjl,rfl,hr⟩
   | brk=>exact hq .next st5 hr.symm m5 g5 h5 tk5 .next PP .next
   | ret V=>exact hq (.ret _) st5 hr.symm m5 g5 h5 tk5 _ PP (.ret V)
  ·rw [e5] at hr
   have PP:Post prog w T b₀ C names m5 g s.heap st5 g5 h5:=⟨P5.inv,P5.loc,(P3.step.trans P4.step).trans P5.step⟩
   exact AP (s:=s) hA so I₀ L₀ PP ((F5.back P4.step).back P3.step) fun h'' P' F'=>he st5 hr.symm m5 g5 h'' tk5 q P' F'
theorem MC {it l:uP0} {vs:List V} (hh:C.A.handled=none):IterOk prog w T C it vs (.lst vs) (.ref l) (fun i h=>h.IsListIter it l i) where
 fields:=fun i h o ⟨o',e',_,d⟩ e=>by rw [e'] at e; cases e; exact ⟨_,d⟩
 there:=fun i h ⟨o,e,_⟩=>⟨o,e⟩
 stable:=fun i h h' ⟨o,e,r⟩ k=>⟨o,k o e,r⟩
 item:=fun i v g s e hat V Q E hq=>by
  refine x2a4 (jJ V) fun a its q hl _ V'=>?_
  cases q
  refine x1a2 (V'.get e) fun p hp W=>?_
  rw [ux0] at hp
  exact wpAny_pyNext_list_item hat hl hp fun h' at' sb=>hq h' p s.toks at' sb W
 fin:=fun i g s e hat V Q E hq=>by
  refine x2a4 (jJ V) fun a its q hl _ V'=>?_
  cases q
  have hz:=V'.size
  exact wpAny_pyNext_list_end hh hat hl (uA0 (by exact far [_,_,_] [.qe qb qg,.qe qg qa] (.le qa qb) rfl e hz)) fun h' ext=>hq h' ext
theorem OY {it l:uP0} {vs:List V} (hh:C.A.handled=none):IterOk prog w T C it vs (.tup vs) (.ref l) (fun i h=>h.IsTupleIter it l i) where
 fields:=fun i h o ⟨o',e',_,d⟩ e=>by rw [e'] at e; cases e; exact ⟨_,d⟩
 there:=fun i h ⟨o,e,_⟩=>⟨o,e⟩
 stable:=fun i h h' ⟨o,e,r⟩ k=>⟨o,k o e,r⟩
 item:=fun i v g s e hat V Q E hq=>by
  refine x2a4 (xD V) fun a its q hl _ V'=>?_
  cases q
  refine x1a2 (V'.get e) fun p hp W=>?_
  rw [ux0] at hp
  exact wpAny_pyNext_tuple_item hat hl hp fun h' at' sb=>hq h' p s.toks at' sb W
 fin:=fun i g s e hat V Q E hq=>by
  refine x2a4 (xD V) fun a its q hl _ V'=>?_
  cases q
  have hz:=V'.size
  exact wpAny_pyNext_tuple_end hh hat hl (uA0 (by exact far [_,_,_] [.qe qb qg,.qe qg qa] (.le qa qb) rfl e hz)) fun h' ext=>hq h' ext
theorem Jn {it:uP0} {n:Nat} (hh:C.A.handled=none):IterOk prog w T C it ((wd0 n).map fun (j:Nat)=>V.int j) .none .none (fun i h=>IsRangeIter h it i ((n:Int)-i) 1) where
 fields:=fun i h o e' e=>by rw [e'] at e; cases e; exact ⟨_,rfl⟩
 there:=fun i h e=>⟨_,e⟩
 stable:=fun i h h' e k=>k _ e
 item:=fun i v g s e hat V Q E hq=>by
  rw [vG0] at e
  refine x1a2 (kS0.mp e) fun j hj uQ0=>?_; subst uQ0
  have hl:=(vv0.mp hj).1
  rw [vN0] at hl
  rw [List.getElem?_range hl] at hj
  cases hj
  refine wpAny_pyNext_range_item hat (by exact Int.sub_pos_of_lt (kw0.mpr hl)) fun h' at' sb=>hq h' _ _ ?_ sb (.int _ _)
  have e1:((i+1:Nat):Int)=(i:Int)+1:=by push_cast; rfl
  have e2:(n:Int)-((i+1:Nat):Int)=(n:Int)-i-1:=by push_cast; lia
  rw [e2,e1]; exact at'
 fin:=fun i g s e hat V Q E hq=>by
  rw [vq0,vN0] at e
  exact wpAny_pyNext_range_end hh hat (by exact o57 _ _ e) fun h' ext=>hq h' ext
noncomputable def zK0:Expr→Bool
 | .List _ _=>false
 | .Set _ _ _=>false
 | .Tuple _ _ _=>false
 | _=>true
theorem Nl {x:Str} {i:Nat} {px pos:Pos} {iter:Expr} {body:List Stmt} {fe:St→R V} {fb:St→R Mine.Flow} (k:COk C names) (so:SOk C) (hi:names[i]?=some x) (hs:∀ x,foldedSetIterable iter C.env x=pure x) (d:jh prog w T b₀ C names (eval iter C.env) fe) (db:xX prog w T b₀ C names (execs body C.env) fb) :
  xX prog w T b₀ C names (exec (.For (.Name x px) iter body [] pos) C.env) (fun st=>(fe st).bind fun v st=>match v with
   | .tup vs=>xG i fb vs st
   | .lst vs=>xG i fb vs st
   | _=>.bad):=by
 intro m g s st I L Q E hq he hb
 dsimp only at hq he hb
 refine wpAny_For (d m g s st I L _ _ (fun v st1 e1 g1 h1 tk1 p P1 V1=>?_) (fun st1 e1 g1 h1 tk1 q P1 F1=>he st1 (by rw [e1]; rfl) m g1 h1 tk1 q P1 F1) (fun e1=>hb (by rw [e1]; rfl))) hs
 rw [e1] at hq he hb
 have noit:s.heap.get? h1.objs.size=none:=by
  cases q:s.heap.get? h1.objs.size with
  | none=>rfl
  | some o=>refine x1a2 (P1.step.there _ _ q) fun o' e' _=>?_; rw [jd] at e'; exact nsO e'
 cases v with
 | lst vs =>
  refine x2a4 (jJ V1) fun a its uQ0 hl _ V'=>?_; subst uQ0
  refine wpAny_pyIter_list hl ?_
  have kp:=qX h1 {cls:=.type "list_iterator",data:=.fields #[.ref a,.int 0 0]}
  have P2:Post prog w T b₀ C names m g1 h1 st1 g1 (h1.push {cls:=.type "list_iterator",data:=.fields #[.ref a,.int 0 0]}):=.keeps P1.inv P1.loc kp
  exact GA (s:=s) (cv:=.lst vs) (cp:=.ref a) k so hi (MC (vs:=vs) k.hd) db I L ⟨P2.inv,P2.loc,P1.step.trans P2.step⟩ noit ⟨_,Heap.get?_push_size _ rfl,rfl,rfl⟩ (V1.mono P2.step.mono) Q E hq he hb
 | tup vs =>
  refine x2a4 (xD V1) fun a its uQ0 hl _ V'=>?_; subst uQ0
  refine wpAny_pyIter_tuple hl ?_
  have kp:=qX h1 {cls:=.type "tuple_iterator",data:=.fields #[.ref a,.int 0 0]}
  have P2:Post prog w T b₀ C names m g1 h1 st1 g1 (h1.push {cls:=.type "tuple_iterator",data:=.fields #[.ref a,.int 0 0]}):=.keeps P1.inv P1.loc kp
  exact GA (s:=s) (cv:=.tup vs) (cp:=.ref a) k so hi (OY (vs:=vs) k.hd) db I L ⟨P2.inv,P2.loc,P1.step.trans P2.step⟩ noit ⟨_,Heap.get?_push_size _ rfl,rfl,rfl⟩ (V1.mono P2.step.mono) Q E hq he hb
 | _=>exact (hb rfl).elim
noncomputable def vP:Expr→Bool
 | .Set _ _ _=>false
 | _=>true
theorem zV {e:Expr} (h:vP e=true) (env:Env) (x:Value):foldedSetIterable e env x=pure x:=by
 cases e <;> first | rfl | exact ftB h
noncomputable def NS:Heap→G→Int→Value→Prop:=fun h _ n p=>∃ r t u v,p=.ref r∧IsRange h r 0 n 1 t u v
theorem Kx {β:Type} {f:St→R V} {st:St} {k:V→St→R β}:(((f st).bind fun v st=>(R.ok ([]:List V) st).bind fun vs st=>.ok (v::vs) st).bind fun vs st=>match vs with | [v]=>k v st | _=>.bad)=(f st).bind k:=by
 cases f st <;> rfl
theorem DO {n:Int} (h0:0≤n) (h1:n<1000):Builtin.Range.small 0 n 1=true∧Builtin.Range.rangeSize 0 n 1=n:=by
 have e:Builtin.Range.rangeSize 0 n 1=n:=by
  unfold Builtin.Range.rangeSize
  simp
  lia
 refine ⟨?_,e⟩
 unfold Builtin.Range.small
 rw [e]
 unfold Builtin.Range.rangeFitsLong
 simp
 exact o59 _ h0 h1
theorem Nk {x id:Str} {i:Nat} {px p cpos pos:Pos} {e:Expr} {body:List Stmt} {fe:St→R V} {fb:St→R Mine.Flow} (B:BOk K b₀) (k:COk C names) (so:SOk C) (hi:names[i]?=some x) (hs:qU e=true) (hid:id = "range") (hx:C.env.kindOf id=some .globalImplicit) (hm:nsIn K uK0 id=some none) (d:jh prog w T b₀ C names (eval e C.env) fe) (db:xX prog w T b₀ C names (execs body C.env) fb) :
  xX prog w T b₀ C names (exec (.For (.Name x px) (.Call (.Name id p) [e] [] cpos) body [] pos) C.env) (fun st=>(fe st).bind fun v st=>match v with
   | .int k=>if 0≤k∧k<1000 then xG i fb ((wd0 k.toNat).map fun (j:Nat)=>V.int j) st else .bad
   | _=>.bad):=by
 intro m g s st I L Q E hq he hb
 dsimp only at hq he hb
 have D:Den prog w T b₀ NS C names m g s (eval (.Call (.Name id p) [e] [] cpos) C.env) ((fe st).bind fun v st=>match v with | .int n=>if 0≤n∧n<1000 then R.ok n st else .bad | _=>.bad):=by
  subst hid
  rw [zh]
  intro Q E hq he hb
  refine uF0 (uG (p:=.type "range") B k I hx (by decide) hm (by with_unfolding_all rfl) (by decide) ?_)
  have D:=vD (first:=[]) (f:=.type "range") (pos:=cpos) (args:=[e]) (Rv':=NS) (kr:=fun vs st=>match vs with | [v]=>(match v with | .int n=>if 0≤n∧n<1000 then R.ok n st else .bad | _=>.bad) | _=>.bad) (by simp [hs]) (fun q=>by cases q) (fun h _=>vV _ h) (zr hs d zy) I L (fun vs st1 _ g1 h1 tk1 ps P1 V1=>by
   cases V1 with
   | nil=>exact Den.bad
   | @cons v _ q _ a r =>
    cases r with
    | cons _ _=>exact Den.bad
    | nil =>
     cases v with
     | int n =>
      refine x1a1 (xk a) fun t uQ0=>?_; subst uQ0
      dsimp only
      split
      ·refine Den.of_wp rfl fun Q E hq=>call_range_1 ?_
       have PP:Post prog w T b₀ C names m g1 h1 st1 g1 (h1.push {cls:=.type "range",data:=.fields #[.int 0 tk1,.int n t,.int 1 (tk1+1)]}):=.keeps P1.inv P1.loc (qX _ _)
       exact hq g1 _ _ _ PP ⟨_,_,_,_,rfl,Heap.get?_push_size _ rfl⟩
      ·exact Den.bad
     | _=>exact Den.bad)
  exact (Den.cast Kx D) Q E hq he hb
 have key:∀ v st1,fe st=.ok v st1→(match v with | .int n=>if 0≤n∧n<1000 then R.ok n st1 else .bad | _=>.bad)=(R.bad:R Int)→False:=fun v st1 e e2=>hb (by
  rw [e]
  show (match v with | .int k=>if 0≤k∧k<1000 then xG i fb ((wd0 k.toNat).map fun (j:Nat)=>V.int j) st1 else .bad | _=>.bad)=_
  cases v with
  | int n =>
   dsimp only at e2 ⊢
   by_cases hk:0≤n∧n<1000
   ·rw [if_pos hk] at e2; exact obR e2
   ·rw [if_neg hk]
  | _=>rfl)
 refine wpAny_For (D _ _ (fun n st1 e1 g1 h1 tk1 q P1 V1=>?_) (fun st1 e1 g1 h1 tk1 q P1 F1=>?_) (fun e1=>?_)) (zV rfl C.env)
 ·refine x4a2 V1 fun r t u v uQ0 hr=>?_; subst uQ0
  cases ef:fe st with
  | bad=>rw [ef] at e1; exact boR e1
  | exc _=>rw [ef] at e1; exact eoR e1
  | ok a st2 =>
   rw [ef] at e1 hq he hb
   cases a with
   | int n' =>
    have e1:(if 0≤n'∧n'<1000 then R.ok n' st2 else .bad)=R.ok n st1:=e1
    split at e1 <;> cases e1
    rename_i hk
    have hq:∀ a st',(if 0≤n∧n<1000 then xG i fb ((wd0 n.toNat).map fun (j:Nat)=>V.int j) st1 else .bad)=.ok a st'→_:=hq
    have he:∀ st',(if 0≤n∧n<1000 then xG i fb ((wd0 n.toNat).map fun (j:Nat)=>V.int j) st1 else .bad)=.exc st'→_:=he
    have hb:(if 0≤n∧n<1000 then xG i fb ((wd0 n.toNat).map fun (j:Nat)=>V.int j) st1 else .bad)=.bad→False:=hb
    rw [if_pos hk] at hq he hb
    refine zz (DO hk.1 hk.2) fun sm sz=>?_
    refine wpAny_pyIter_range (s:={s with heap:=h1,toks:=tk1}) hr sm ?_
    rw [sz]
    have noit:s.heap.get? h1.objs.size=none:=by
     cases q:s.heap.get? h1.objs.size with
     | none=>rfl
     | some o=>refine x1a2 (P1.step.there _ _ q) fun o' e' _=>?_; rw [jd] at e'; exact nsO e'
    have P2:Post prog w T b₀ C names m g1 h1 st1 g1 (h1.push {cls:=.type "range_iterator",data:=.fields #[rawInt 0,rawInt n,rawInt 1]}):=.keeps P1.inv P1.loc (qX _ _)
    refine GA (s:=s) (cv:=.none) (cp:=.none) k so hi (Jn (n:=n.toNat) k.hd) db I L ⟨P2.inv,P2.loc,P1.step.trans P2.step⟩ noit ?_ .none Q E hq he hb
    have en:((n.toNat:Int)-((0:Nat):Int))=n:=by exact kH0 hk.1
    rw [en]
    exact Heap.get?_push_size _ rfl
   | _=>exact boR e1
 ·cases ef:fe st with
  | bad=>rw [ef] at e1; exact beR e1
  | exc st2 =>
   rw [ef] at e1 he
   cases e1
   exact he _ rfl m g1 h1 tk1 q P1 F1
  | ok a st2 =>
   rw [ef] at e1
   have e1:(match a with | .int n=>if 0≤n∧n<1000 then R.ok n st2 else .bad | _=>.bad)=R.exc st1:=e1
   cases a with
   | int n=>dsimp only at e1; split at e1 <;> cases e1
   | _=>exact beR e1
 ·cases ef:fe st with
  | bad=>rw [ef] at hb; exact hb rfl
  | exc st2=>rw [ef] at e1; exact ebR e1
  | ok a st2 =>
   rw [ef] at e1
   exact key a st2 ef e1
end
section
variable {prog:Program} {w:World} {A:Around} {R:Result→Shared→Prop} {h:Heap} {g:Array GenState} {d:Drawn} {t:Nat} {os:OsState} {K:Frag}
variable {nm q:Str} {C N:uP0} {bs bm bmB:List Value} {hdct:Bool} {sn:List Str} {sub:List Value} {ab:Bool} {col:Option Bool} {dd:Option uP0} {k0 k1 k2 k3 k5:Option Value} {B newId initId:String}
noncomputable abbrev Ao (C a:uP0):Obj:={cls:=.ref C,data:=.fields #[.ref a,.none,.none,.none,.bool false,.none]}
theorem XD (F:ExcBaseFacts B newId initId bmB) (hcB:bm.contains (.type B)=true) (hcA:bm.contains (.type "AttributeError")=false) (hcN:bm.contains (.type "NameError")=false) {rest:List Value} (hC:h.get? C=some (excClassObj nm q C N bs bm hdct sn sub ab col dd k0 k1 k2 k3 k5 newId))
  (hq:R (.ok (.ret (.ref (h.objs.size+1)))) ⟨(h.push {cls:=.type "tuple",data:=.seq rest.toArray}).push (Ao C h.objs.size),g,d,t,os⟩) (hrest:rest.length≤sizeLine) :
  codeAny (model prog w) A (.builtin newId ⟨.ref C::rest,[]⟩) R ⟨h,g,d,t,os⟩:=by
 have hends:=F.ends
 have hcB:(Value.ref C::bm).contains (.type B)=true:=by rw [wb0,hcB,uw0]
 have hcA:(Value.ref C::bm).contains (.type "AttributeError")=false:=by rw [wb0,hcA]; rfl
 have hcN:(Value.ref C::bm).contains (.type "NameError")=false:=by rw [wb0,hcN]; rfl
 refine codeAny_builtinAt F.entry ?_
 unfold Builtin.«BaseException.__new__»
 refine PySem.wpAt_bind ?_
 show PySem.wpAt _ _ _ (stack >>= _) _ _ _
 refine PySem.wpAt_bind (PySem.wpAt_stack fun p below=>PySem.wpAt_of_wpAny ?_)
 wp_walk
 refine PySem.wpAt_of_wpAny ?_
 rw [F.owner]
 repeat (first | with_reducible refine wpAny_madeHere_exc F.canon hC ?_ | with_reducible refine wpAny_loadPart_at hC ?_ | (with_reducible refine wpAny_isSubtype_exc hC ?_; first | rw (config:={}) [hcB] | rw (config:={}) [hcA] | rw (config:={}) [hcN]) | wp_step)
 show R _ _
 rw [Heap.size_push]
 exact hq
theorem OJ {rest:List Value} {fI:uP0} (X:K.In h) (F:ExcBaseFacts B newId initId bmB) (hK:K.lookup C=some (excClassObj nm q C N bs bm hdct sn sub ab col dd k0 k1 k2 k3 k5 newId))
  (hcB:bm.contains (.type B)=true) (hcA:bm.contains (.type "AttributeError")=false) (hcN:bm.contains (.type "NameError")=false)
  (e7:specialIn K (.ref C) "__call__" = some (some (.builtin "type.__call__"))) (e8:instIn K (.ref C) (.type "type")=some true) (hi:findIn K (.ref C) "__init__" = some (some (.ref fI))) (hf:typeIn K (.ref fI)=some (.type "function")) (hrest:rest.length≤sizeLine)
  (hq:codeAny (model prog w) (A.under (.builtin "type.__call__" ⟨.ref C::rest,[]⟩)) (.call (.ref fI) ⟨.ref (h.objs.size+1)::rest,[]⟩) (InitBack (h.objs.size+1) R) ⟨(h.push {cls:=.type "tuple",data:=.seq rest.toArray}).push (Ao C h.objs.size),g,d,t,os⟩) :
  codeAny (model prog w) A (.call (.ref C) ⟨rest,[]⟩) R ⟨h,g,d,t,os⟩:=by
 have hC:=X _ _ hK
 have call:Looks (model prog w) h (specialOf (.ref C) "__call__") (some (.builtin "type.__call__")):=looks_specialIn X e7
 have typ:Looks (model prog w) h (isInstance (.ref C) (.type "type")) true:=looks_instIn X e8
 have made:Looks (model prog w) h (Bind.madeBy (.ref C)) (some newId):=fun A Q E s k q=>by
  obtain ⟨hh,g,d,t,os⟩:=s
  exact wpAny_madeBy_exc (k _ _ hC) q
 refine codeAny_of_tree ?_
 show wpAny _ _ (callAny (.ref C) _) _ _ _
 refine nd_load hC ?_
 show wpAny _ _ (callAny.viaDunder (.ref C) _) _ _ _
 unfold callAny.viaDunder
 refine uF0 (call.at ?_)
 dsimp only
 rw [tc_bind]
 refine uF0 (uG0 (uF0 (uG0 ?_)))
 refine uG0 (a:=Fin.again (.call (.builtin "type.__call__") ⟨.ref C::rest,[]⟩)) (And.intro rfl ?_)
 refine codeAny_call_builtin_at (Code.quiet_builtin _ (by decide +kernel)) entry_typeCall (check_slot tc_kind tc_split typ (tc_args _ _ _) ?_)
 repeat (first | with_reducible refine wpAny_loadPart_at hC ?_ | with_reducible refine wpAny_madeBy_exc hC ?_ | wp_step)
 refine codeAny_call_builtin_code (Code.quiet_builtin _ F.quiet) (wpAny_check_new_subU F hcB .base hC ?_)
 refine XD F hcB hcA hcN hC ?_ hrest
 show wpAny _ _ _ _ _ _
 have k:∀ b o,h.get? b=some o→((h.push {cls:=.type "tuple",data:=.seq rest.toArray}).push (Ao C h.objs.size)).get? b=some o:=fun b o e=>Heap.get?_push_of_some _ (Heap.get?_push_of_some _ e)
 have X₁:=X.keeps k
 have hC₁:=k _ _ hC
 have hget:((h.push {cls:=.type "tuple",data:=.seq rest.toArray}).push (Ao C h.objs.size)).get? (h.objs.size+1)=some (Ao C h.objs.size):=by heap_get
 have hcC:(Value.ref C::bm).contains (.ref C)=true:=by simp
 have hi1:=looks_findIn (M:=model prog w) X₁ hi
 unfold isInstance
 repeat (first | with_reducible refine wpAny_loadPart_at hget ?_ | (with_reducible refine wpAny_isSubtype_exc hC₁ ?_; rw (config:={}) [hcC]) | wp_step)
 show wpAny _ _ (typeLookup (.ref C) _) _ _ _
 refine hi1.here (uH0 (uF0 ((bind_fn X₁ _ hf).here ?_)))
 refine uF0 (wpAny_call (codeAny_mono hq fun r s' z=>?_))
 rcases r with e | (v | _ | _ | _) <;> first | exact z | exact z.elim | skip
 obtain ⟨rfl,z⟩:=z
 exact uG0 (uG0 z)
end
open Builtin Builtin.ObjectAttr
theorem IU (self:Value):refuseLoop self "__setattr__" [.type "Exception",.type "BaseException",.type "object"]=pure ():=by
 kernel_rfl
section
variable {prog:Program} {w:World} {A:Around} {E:Value→Shared→Prop} {h:Heap} {g:Array GenState} {d:Drawn} {t:Nat} {os:OsState} {K:Frag}
variable {nm q:Str} {C N x:uP0} {bs bm:List Value} {sn:List Str} {sub:List Value} {ab:Bool} {col:Option Bool} {dd:Option uP0} {k0 k1 k2 k3 k5:Option Value} {newId:String}
 {mA:Str→Option Value} {name:Str} {v:Value}
theorem MV {tk:Tok} {Q:PySem.Fin→Shared→Prop} {ns:List Str}
  (hC:h.get? C=some (excClassObj nm q C N bs bm true sn sub ab col dd k0 k1 k2 k3 k5 newId)) (hpass:refuseLoop (.ref x) "__setattr__" bm=pure ()) (hlook:Looks (model prog w) h (typeLookup (.ref C) name) none) (I:h.Inst x C mA)
  (hq:∀ h' tk',h'.Inst x C (fun y=>if y=name then some v else mA y) →
   (∀ b o,b≠x→(∀ o₀ dx,h.get? x=some o₀→o₀.dict=some dx→b≠dx)→h.get? b=some o→h'.get? b=some o) →
   (∀ o₀,h.get? x=some o₀→∃ o₁,h'.get? x=some o₁∧o₁.cls=o₀.cls∧o₁.data=o₀.data∧o₁.slots=o₀.slots∧∀ dx,o₁.dict=some dx→o₀.dict=some dx∨h.get? dx=none)→Q (.done (.ret .none)) ⟨h',g,d,tk',os⟩) (hw:Within mA ns) (hsz:ns.length<1000) :
  wpAny (model prog w) A (Builtin.«object.__setattr__» ⟨[.ref x,.str name tk,v],[]⟩) Q E ⟨h,g,d,t,os⟩:=by
 refine x1a4 I fun o hx hc hnc hd=>?_
 unfold Builtin.«object.__setattr__»
 repeat (first | rw (config:={}) [refuse_eq] | (rw (config:={}) [refuseLoop_ref,hpass]) | (with_reducible refine wpAny_loadPart_at hx ?_; rw (config:={}) [hc]) | with_reducible refine wpAny_mroOf_exc hC ?_ | with_reducible refine hlook.here ?_ | wp_step)
 rcases hd with ⟨hdn,hmA⟩ | ⟨dx,hdx,hne,hns⟩
 ·rw [hdn,if_neg (by simp [typeHasDict])]
  split
  ·rename_i hcd
   exact nsO hcd
  split
  ·rename_i c hcd
   exact absurd hcd (hnc c)
  ·have hx₁:(h.push {cls:=.type "dict",data:=.dict #[]}).get? x=some o:=Heap.get?_push_of_some _ hx
   have hxs:x≠h.objs.size:=yJ0 (Heap.lt_size hx)
   refine uF0 (wpAny_alloc (uF0 (wpAny_update hx₁ (uG0 ?_))))
   generalize hu:((h.push {cls:=.type "dict",data:=.dict #[]}).update x fun o=>{cls:=o.cls,dict:=some h.objs.size,data:=o.data,slots:=o.slots})=u
   have hgd:u.get? h.objs.size=some {cls:=.type "dict",data:=.dict #[]}:=by
    rw [← hu]
    exact (Heap.get?_update_ne _ _ _ _ hxs.symm).trans (Heap.get?_push_at rfl rfl)
   have hgx:u.get? x=some {cls:=o.cls,dict:=some h.objs.size,data:=o.data,slots:=o.slots}:=by
    rw [← hu]
    refine Heap.get?_update_self _ hx₁ ?_
    have hfr:=(Heap.get?_some_iff.mp hx).2
    obtain ⟨oc,od,odt,osl⟩:=o
    cases odt <;> first | rfl | exact hfr
   have hgo:∀ b ob,b≠x→h.get? b=some ob→u.get? b=some ob:=fun b ob n e=>by
    rw [← hu]
    exact (Heap.get?_update_ne _ _ _ _ n).trans (Heap.get?_push_of_some _ e)
   have hnd:u.Ns h.objs.size (fun _=>none):=⟨_,#[],_,hgd,rfl,fun e he=>absurd he (by simp),fun _=>rfl⟩
   show wpAny _ _ (storeInDict h.objs.size (.str name tk) name v) _ _ _
   unfold storeInDict newKeyGuard
   refine uF0 (uG0 (uF0 (wpAny_nsSet1 (Heap.Ns1.of_empty hnd) fun h' hn' hs=>?_)))
   refine x3a3 (hn'.count (Within.cons name v Within.nil)) fun oD esD epD hoD hdD hcD=>?_
   refine uF0 (wpAny_lookBehind hoD (by rw [hdD]; exact pastItsLine_dict (ye0 hcD (by rw [vr0,vy0,uJ0]; exact yG0 _))) ?_)
   wp_walk
   have hx':h'.get? x=some {cls:=o.cls,dict:=some h.objs.size,data:=o.data,slots:=o.slots}:=(hs.2 x hxs).trans hgx
   refine hq h' _ ⟨_,hx',hc,hnc,.inr (c1a3 h.objs.size rfl hxs.symm ?_)⟩ (fun b ob hbx _ hb=>(hs.2 b (yJ0 (Heap.lt_size hb))).trans (hgo b ob hbx hb)) (fun o₀ h₀=>?_)
   ·refine x3a5 hn' fun o' es ep e1 e2 e3 eu e4=>?_
    exact ⟨o',es,ep,e1,e2,e3,eu,fun y=>by rw [e4 y]; by_cases hy:y=name <;> simp [hy,hmA]⟩
   ·obtain rfl:o=o₀:=kT0.inj (hx.symm.trans h₀)
    exact (c1a5 _ hx' rfl rfl rfl (fun dx e=>by cases e; exact .inr (jd h)))
 ·rw [hdx]
  refine uG0 ?_
  show wpAny _ _ (storeInDict dx (.str name tk) name v) _ _ _
  unfold storeInDict newKeyGuard
  refine uF0 (uG0 (uF0 (wpAny_nsSet1 hns fun h' hn' hs=>?_)))
  refine x3a3 (hn'.count (Within.cons name v hw)) fun oD esD epD hoD hdD hcD=>?_
  refine uF0 (wpAny_lookBehind hoD (by rw [hdD]; exact pastItsLine_dict (ye0 hcD (by rw [vr0,uJ0]; exact ye0 hsz (yc0 rfl)))) ?_)
  wp_walk
  refine hq h' _ ⟨o,(hs.2 x hne.symm).trans hx,hc,hnc,.inr (c1a3 dx hdx hne hn')⟩ (fun b ob _ hbd hb=>(hs.2 b (hbd o dx hx hdx)).trans hb)
   (fun o₀ h₀=>(c1a5 o₀ ((hs.2 x hne.symm).trans h₀) rfl rfl rfl (fun _ e=>.inl e)))
end
section
variable {prog:Program} {w:World} {A:Around} {E:Value→Shared→Prop} {K:Frag} {s:Shared}
structure StopC where
 nm:Str
 q:Str
 N:uP0
 bs:List Value
 bm:List Value
 sn:List Str
 sub:List Value
 ab:Bool
 col:Option Bool
 dd:Option uP0
 k0:Option Value
 k1:Option Value
 k2:Option Value
 k3:Option Value
 k5:Option Value
structure StopB where
 name:Str
 qual:Str
 params:Arguments
 scope:Scope
 D:uP0
 kV:Value
 doc:Value
 pm:Value
 cdv:Value
 ct:Value
 oc:Value
 ann:Option uP0
 od:Option uP0
 osl:Array (Option Value)
 c1:Value
 d1:Option uP0
 its:Array Value
 n1:Nat
 sl1:Array (Option Value)
 k:Nat
 p1:Pos
 p2:Pos
 p3:Pos
 p4:Pos
 p5:Pos
 p6:Pos
 p7:Pos
 p8:Pos
structure StopOk (K:Frag) (Ca fI:uP0):Prop where
 cls:∃ d:StopC,K.lookup Ca=some (excClassObj d.nm d.q Ca d.N d.bs d.bm true d.sn d.sub d.ab d.col d.dd d.k0 d.k1 d.k2 d.k3 d.k5 "Exception.__new__") ∧
  (d.bm.contains (.type "Exception")=true∧d.bm.contains (.type "AttributeError")=false∧d.bm.contains (.type "NameError")=false∧d.bm.contains (.type "BaseException")=true) ∧
  ∃ P,d.bm=[.ref P,.type "Exception",.type "BaseException",.type "object"]
 call:specialIn K (.ref Ca) "__call__" = some (some (.builtin "type.__call__"))
 typ:instIn K (.ref Ca) (.type "type")=some true
 keep:keepIn K (.ref Ca)=true
 init:findIn K (.ref Ca) "__init__" = some (some (.ref fI))
 fn:typeIn K (.ref fI)=some (.type "function")
 sa:findIn K (.ref Ca) "__setattr__" = some (some (.builtin "object.__setattr__"))
 number:findIn K (.ref Ca) "number" = some none
 text:findIn K (.ref Ca) "text" = some none
 body:∃ d:StopB,
  K.lookup fI=some ⟨d.oc,d.od,.func (fnOf d.name d.qual d.params [.Assign [.Attribute (.Name "self" d.p1) "number" d.p2] (.Constant (.int 0) d.k d.p3) d.p4,.Assign [.Attribute (.Name "self" d.p5) "text" d.p6] (.Name "text" d.p7) d.p8] d.scope (.ref d.D) d.kV d.doc d.pm d.ann d.cdv d.ct),d.osl⟩∧codeIn K d.cdv d.qual=true ∧
  K.lookup d.D=some ⟨d.c1,d.d1,.seq d.its d.n1,d.sl1⟩ ∧
  (d.params.posonlyargs=[]∧d.params.args.map (·.arg)=[("self" : Str), "text"]∧d.params.kwonlyargs=[]∧d.params.vararg=none∧d.params.kwarg=none) ∧
  (d.scope.names.lookup ("self" : Str)=some .local∧d.scope.names.lookup ("text" : Str)=some .local) ∧
  (d.scope.isCoroutine=false∧d.scope.isGenerator=false∧d.scope.kind=.function∧∀ x∈d.scope.names,x.2≠.cell)
noncomputable abbrev Jt (Ca t:uP0) (dd:Option uP0):Obj:={cls:=.ref Ca,dict:=dd,data:=.fields #[.ref t,.none,.none,.none,.bool false,.none]}
structure ExcIn (h₀ h:Heap) (e Ca t:uP0) (mA:Str→Option Value):Prop where
 there:∃ dd,h.get? e=some (Jt Ca t dd)∧∀ d,dd=some d→h₀.get? d=none
 inst:h.Inst e Ca mA
 new:h₀.get? e=none
 keep:∀ b o,h₀.get? b=some o→h.get? b=some o
theorem ub {h₀:Heap} {Ca fI e t:uP0} {mA:Str→Option Value} {name:Str} {v:Value} {ns:List Str} {Q:Unit→Shared→Prop} (SO:StopOk K Ca fI) (X:K.In h₀) (I:ExcIn h₀ s.heap e Ca t mA) (hf:findIn K (.ref Ca) name=some none) (hw:PySem.Within mA ns) (hsz:ns.length<1000)
  (hq:∀ h' tk,ExcIn h₀ h' e Ca t (fun y=>if y=name then some v else mA y)→(∀ b o,b≠e→(∀ d,s.heap.get? e=some (Jt Ca t (some d))→b≠d)→s.heap.get? b=some o→h'.get? b=some o)→Q () {s with heap:=h',toks:=tk}) :
  wpAny (model prog w) A (setAttr (.ref e) name v) Q E s:=by
 refine x1a3 SO.cls fun uQ0 hK uR0 uS0=>?_; obtain ⟨nm,q,N,bs,bm,sn,sub,ab,col,dd,k0,k1,k2,k3,k5⟩:=uQ0; obtain ⟨c1,c2,c3,c4⟩:=uR0; obtain ⟨P,hbm⟩:=uS0
 change bm=_ at hbm
 have X1:=X.keeps I.keep
 refine x1a2 I.there fun de he hde=>?_
 have typ:Looks (model prog w) s.heap (typeOf (.ref e)) (.ref Ca):=(Looks.ld he).andThen .now
 have hpass:refuseLoop (.ref e) "__setattr__" bm=pure ():=by rw [hbm,refuseLoop_ref]; exact IU _
 have SF:=PySem.F.store_object
 have hC:=X1 _ _ hK
 refine uF0 (wpAny_mkText (uF0 (uF0 (uF0 (typ _ _ _ _ (fun _ _ e=>e) (looks_findIn X1 SO.sa _ _ _ _ (fun _ _ e=>e) (uH0 ?_)))))))
 rw [PySem.F.store_object.slot.bind]
 refine uF0 (uG0 (uF0 (wpAny_call ?_)))
 have cobj:(Value.ref Ca::bm).contains (.type "object")=true:=by rw [hbm]; simp
 have sub':Looks (model prog w) s.heap (isInstance (.ref e) (.type "object")) true:=typ.andThen (by
  have hc:clsIn K Ca=some {name:=nm,bases:=bs,mro:=.ref Ca::bm,ns:=N,qualname:=q,hasDict:=true,slotNames:=sn,subclasses:=sub,abstract:=ab,collection:=col,hasDel:=false}:=by unfold clsIn; rw [hK]
  exact looks_mroIn X1 (by unfold mroIn; rw [hc,kZ0,if_neg (by simp),cobj]))
 refine codeAny_call_builtin SF.slot.plain SF.entry (@check_slot (model prog w) _ _ {s with toks:=s.toks+1} "object.__setattr__" "object" "__setattr__" (.ref e) [.str name s.toks,v] [] _ SF.kind SF.split sub' (SF.args (.ref e) (.str name s.toks) v) ?_)
 refine MV (h:=s.heap) hC hpass (looks_findIn X1 hf) I.inst (fun h' tk' I' hk hsame=>?_) hw hsz
 have fin:=hq h' tk' ⟨?_,I',I.new,fun b o hb=>?_⟩ fun b o hb hd ho=>hk b o hb (fun o₀ dx h0 h1=>?_) ho
 ·exact uG0 (uG0 fin)
 ·refine x1a5 (hsame _ he) fun o₁ e1 e2 e3 e4 e5=>?_
  obtain ⟨oc,od,odt,osl⟩:=o₁
  dsimp only at e2 e3 e4
  subst e2 e3 e4
  refine (c1a2 od e1 (fun d hd=>?_))
  rcases e5 d hd with q | q
  ·exact hde d q
  ·cases z:h₀.get? d with
   | none=>rfl
   | some o=>rw [I.keep _ _ z] at q; exact snO q
 ·have hne:b≠e:=fun z=>by rw [z,I.new] at hb; exact nsO hb
  refine hk b o hne (fun o₀ dx h0 h1=>?_) (I.keep b o hb)
  rw [he] at h0; cases h0
  intro z
  have:=hde dx h1
  rw [← z,hb] at this; exact snO this
 ·rw [he] at h0; cases h0
  exact hd dx (by rw [he]; congr 2)
theorem Qg {h₀:Heap} {Ca fI e t:uP0} {v:Value} {R:Result→Shared→Prop} (SO:StopOk K Ca fI) (X:K.In h₀) (hlim:h₀.NoLimit) (hroom:A.depth<recursionLimit) (kp:∀ b o,h₀.get? b=some o→s.heap.get? b=some o) (hn:h₀.get? e=none) (he:s.heap.get? e=some (Jt Ca t none))
  (hR:∀ h' tk,(∃ dd,h'.get? e=some (Jt Ca t dd))→(∀ b o,b≠e→s.heap.get? b=some o→h'.get? b=some o)→R (.ok (.ret (.ref e))) {s with heap:=h',toks:=tk}) :
  codeAny (model prog w) A (.call (.ref fI) ⟨[.ref e,v],[]⟩) (InitBack e R) s:=by
 refine x1a9 SO.body fun uQ0 hlook hcd hD uR0 uS0 s1 s2 s3 s4=>?_; obtain ⟨name,qual,params,scope,D,kV,doc,pm,cdv,ct,oc,ann,od,osl,c1,d1,its,n1,sl1,k,p1,p2,p3,p4,p5,p6,p7,p8⟩:=uQ0; obtain ⟨q1,q2,q3,q4,q5⟩:=uR0; obtain ⟨x1,x2⟩:=uS0
 have nd:([("self" : Str), "text"]).Nodup:=by decide
 have bindTo:BindsTo s (fnOf name qual params [.Assign [.Attribute (.Name "self" p1) "number" p2] (.Constant (.int 0) k p3) p4,.Assign [.Attribute (.Name "self" p5) "text" p6] (.Name "text" p7) p8] scope (.ref D) kV doc pm ann cdv ct) ⟨[.ref e,v],[]⟩ ([("self" : Str), "text"].zip [.ref e,v]) :=
  vH (fd:=fnOf name qual params _ scope (.ref D) kV doc pm ann cdv ct) q1 q2 q3 q4 q5 (wpAny_seqItems (kp _ _ (X _ _ hD)) rfl) nd rfl
 refine codeAny_call_def (fd:=fnOf name qual params [.Assign [.Attribute (.Name "self" p1) "number" p2] (.Constant (.int 0) k p3) p4,.Assign [.Attribute (.Name "self" p5) "text" p6] (.Name "text" p7) p8] scope (.ref D) kV doc pm ann cdv ct) hroom (kp _ _ (X _ _ hlook)) rfl (hlim.keeps kp) ((codeRec_of X hcd).keeps kp) rfl bindTo s4 (fun y hy=>?_) (fun h₁ hns hk₁=>?_) s1 s2 s3
 ·have hy:y=(("self" : Str),Value.ref e)∨y=(("text" : Str),v):=by simpa using hy
  rcases hy with rfl | rfl
  ·exact x1
  ·exact x2
 have hne:∀ b o,b≠e→h₁.get? b=some o→(h₁.hide e).get? b=some o:=fun b o n q=>(Heap.hide_ne h₁ n).trans q
 have he1:h₁.get? e=some (Jt Ca t none):=hk₁ _ _ he
 have I1:ExcIn (h₁.hide e) h₁ e Ca t (fun _=>none):=⟨(c1a2 none he1 (fun d q=>by exact nsO q)),⟨_,he1,rfl,(fun c q=>by exact qO PySem.Data.ctorIdx q rfl),.inl ⟨rfl,fun _=>rfl⟩⟩,Heap.hide_self h₁ e,fun b o q=>Heap.of_hide q⟩
 have X1:K.In (h₁.hide e):=fun b o q=>hne b o (fun z=>by have:=X b o q; rw [z,hn] at this; exact nsO this) (hk₁ _ _ (kp _ _ (X b o q)))
 have nL:s.heap.objs.size≠e:=fun z=>absurd (Heap.lt_size he) (by rw [← z]; exact vg0 _)
 have mself:(fun x=>([("self" : Str), "text"].zip [Value.ref e,v]).reverse.lookup x) ("self" : Str)=some (.ref e):=by
  show wA0 ("self" : Str) [(("text" : Str),v),("self",Value.ref e)]=_
  rfl
 have mtext:(fun x=>([("self" : Str), "text"].zip [Value.ref e,v]).reverse.lookup x) ("text" : Str)=some v:=by
  show wA0 ("text" : Str) [(("text" : Str),v),("self",Value.ref e)]=_
  rfl
 have nsAt:∀ h':Heap,(∀ b o,(h₁.hide e).get? b=some o→h'.get? b=some o)→h'.Ns s.heap.objs.size (fun x=>([("self" : Str), "text"].zip [Value.ref e,v]).reverse.lookup x):=fun h' kk=>by
  refine x3a2 hns fun o es ep ho r=>?_
  exact ⟨o,es,ep,kk _ _ (hne _ _ nL ho),r⟩
 have e1:=jq (C:=⟨A,envOf qual scope s.heap.objs.size fI cdv,[],fun _=>False⟩) (t:=.Attribute (.Name "self" p1) "number" p2) (e:=.Constant (.int 0) k p3) (pos:=p4) rfl rfl
 have e2:=jq (C:=⟨A,envOf qual scope s.heap.objs.size fI cdv,[],fun _=>False⟩) (t:=.Attribute (.Name "self" p5) "text" p6) (e:=.Name "text" p7) (pos:=p8) rfl rfl
 dsimp only at e1 e2
 show wpAny _ _ (execs _ (envOf qual scope s.heap.objs.size fI cdv)) _ _ _
 rw [execs_cons,e1]
 refine uF0 (uF0 (uI0 (uF0 (wpAny_Constant_int (uF0 ?_)))))
 rw [arm_assign_Attribute]
 refine uF0 (uH0 (wpAny_Name (uL0 s3 x1 (nsAt h₁ fun b o q=>Heap.of_hide q) mself (uF0 (uI0 (uF0 (uH0 ?_))))) (by decide)))
 refine ub (h₀:=h₁.hide e) (t:=t) SO X1 I1 SO.number (ns:=[]) .nil (by decide) fun h₂ tk2 I2 _=>?_
 refine jM (uG0 ?_)
 rw [execs_cons,e2]
 refine uF0 (uF0 (uI0 (uF0 ?_)))
 refine wpAny_Name (uL0 s3 x2 (nsAt h₂ I2.keep) mtext (uF0 ?_)) (by decide)
 rw [arm_assign_Attribute]
 refine uF0 (uH0 (wpAny_Name (uL0 s3 x1 (nsAt h₂ I2.keep) mself (uF0 (uI0 (uF0 (uH0 ?_))))) (by decide)))
 refine ub (h₀:=h₁.hide e) (t:=t) SO X1 I2 SO.text (ns:=["number"]) (.cons _ _ .nil) (by decide) fun h₃ tk3 I3 _=>?_
 refine jM (uG0 (wpAny_execs_nil ⟨rfl,hR h₃ tk3 (I3.there.imp fun _ q=>q.1) fun b o n q=>I3.keep b o (hne b o n (hk₁ b o q))⟩))
end
section
variable {prog:Program} {w:World} {K:Frag} {T:TT} {b₀:Heap} {C:Cx} {names:List Str} {m:Str→Option Value} {g:G} {h h':Heap} {s:Shared} {an mn:Nat→Str} {P:P}
noncomputable def DI (i:Int):List Nat:=(Str.ofString (toString i)).cps.toList
theorem Oc (i:Int):toS (DI i)=Str.ofString (toString i):=by
 unfold toS DI
 rw [uy0]
theorem QG {id:Str} {p pos:Pos} {e:Expr} {f:St→R V} (B:BOk K b₀) (ck:COk C names) (hs:qU e=true) (hi:id = "str") (hx:C.env.kindOf id=some .globalImplicit) (hm:nsIn K uK0 id=some none) (d:jh prog w T b₀ C names (eval e C.env) f) :
  jh prog w T b₀ C names (eval (.Call (.Name id p) [e] [] pos) C.env) (fun st=>(f st).bind fun v st=>match v with | .int i=>if okI i then .ok (.str (DI i)) st else .bad | _=>.bad):=by
 subst hi
 refine xM (fv:=.type "str") B ck hs hx (by decide) hm (by with_unfolding_all rfl) (by decide) (vV _) d fun m g s st v p I L V=>?_
 cases v with
 | int i =>
  refine x1a1 (xk V) fun t uQ0=>?_; rw [uQ0]
  dsimp only
  split
  ·rename_i hk
   have hk:=vi hk
   have hlog:i.natAbs.log2<1920:=by
    have h1:i.natAbs<2 ^ 63:=by unfold Gl at hk; omega
    by_cases h0:i.natAbs=0
    ·rw [h0]; decide
    ·have:=(vo0 h0).mpr h1
     exact yd0 this
   refine Den.of_wp rfl fun Q E hq=>PySem.P.str_of_int hlog ?_
   have V':RvV T C s.heap g (.str (DI i)) (.str (Str.ofString (toString i)) s.toks):=by
    have:=VRel.str (T:=T) (φ:=g.φ) (bad:=bad C g) (h:=s.heap) (DI i) s.toks
    rw [Oc] at this
    exact this
   exact hq g s.heap _ _ (.here I L) V'
  ·exact Den.bad
 | _=>exact Den.bad
theorem Ks {A:Around} {E:Value→Shared→Prop} {env:Env} {nm q:Str} {Ca N:uP0} {bs bm:List Value} {hdct:Bool} {sn:List Str} {sub:List Value} {ab:Bool} {col:Option Bool} {dd:Option uP0} {k0 k1 k2 k3 k5:Option Value} {newId:String} {x:Sem Value} {Q:PySem.Flow→Shared→Prop}
  (hbase:bm.contains (.type "BaseException")=true) (hh:A.handled=none)
  (h:wpAny (model prog w) A x (fun v s₁=>∃ e t de,v=.ref e∧s₁.heap.get? Ca=some (excClassObj nm q Ca N bs bm hdct sn sub ab col dd k0 k1 k2 k3 k5 newId)∧s₁.heap.get? e=some (Jt Ca t de)∧E (.ref e) s₁) E s) :
  wpAny (model prog w) A (raiseStmt env (some x) none) Q E s:=by
 have hcB:(Value.ref Ca::bm).contains (.type "BaseException")=true:=by rw [wb0,hbase,uw0]
 unfold raiseStmt
 refine uF0 (wpAny_mono h (fun v s₁ h₁=>?_) fun _ _ x=>x)
 refine x3a4 h₁ fun e t de uQ0 hC he hE=>?_; rw [uQ0]
 obtain ⟨hp,g,d,tk,os⟩:=s₁
 repeat (first | with_reducible refine wpAny_loadPart_at he ?_ | with_reducible refine wpAny_loadPart_at hC ?_ | (with_reducible refine wpAny_isSubtype_exc hC ?_; rw (config:={}) [hcB]) | wp_step)
 exact wpAny_raiseNew_none hh hE
theorem JC {fI:uP0} {id sid:Str} {np sp scpos cpos pos:Pos} {e:Expr} {fe:St→R V} {n:Nat} (SO:StopOk K T.stop fI) (B:BOk K b₀) (ck:COk C names) (ao:AOk C n) (hs:qU e=true) (hx:C.env.kindOf id=some .globalImplicit) (hd:(id==("__debug__" : Str))=false) (eg:nsIn K uK0 id=some (some (.ref T.stop)))
  (hsi:sid = "str") (hsx:C.env.kindOf sid=some .globalImplicit) (hsm:nsIn K uK0 sid=some none) (d:jh prog w T b₀ C names (eval e C.env) fe) :
  xX prog w T b₀ C names (exec (.Raise (some (.Call (.Name id np) [.Call (.Name sid sp) [e] [] scpos] [] cpos)) none pos) C.env) (fun st=>(fe st).bind fun v st=>match v with | .int i=>if okI i then .exc st else .bad | _=>.bad):=by
 intro m g s st I L Q E hq he hb
 have he:∀ st',((fe st).bind fun v st=>match v with | .int i=>if okI i then R.exc st else .bad | _=>.bad)=(R.exc st':R Mine.Flow)→∀ m' g' h' tk e,Post prog w T b₀ C names m' g s.heap st' g' h'→Fly T C g s.heap e h'→E (.ref e) {s with heap:=h',toks:=tk}:=he
 have hb:((fe st).bind fun v st=>match v with | .int i=>if okI i then R.exc st else .bad | _=>.bad)=(R.bad:R Mine.Flow)→False:=hb
 have norm:∀ r,(fun st=>((fe st).bind fun v st=>match v with | .int i=>if okI i=true then R.ok (.str (DI i)) st else .bad | _=>.bad).bind fun v st=>(R.ok ([]:List V) st).bind fun vs st=>R.ok (v::vs) st) st=r→(((fe st).bind fun v st=>match v with | .int i=>if okI i=true then R.ok (.str (DI i)) st else .bad | _=>.bad).bind fun v st=>(R.ok ([]:List V) st).bind fun vs st=>R.ok (v::vs) st)=r:=fun r e=>e
 refine x1a3 SO.cls fun uQ0 hK uR0 uS0=>?_; obtain ⟨nm,q,N,bs,bm,sn,sub,ab,col,dd,k0,k1,k2,k3,k5⟩:=uQ0; obtain ⟨c1,c2,c3,c4⟩:=uR0; obtain ⟨P,hbm⟩:=uS0
 change bm=_ at hbm
 rw [arm_exec_Raise]
 refine uF0 (uI0 ?_)
 show wpAny _ _ (raiseStmt C.env (some (do let v ← eval (.Call (.Name id np) [.Call (.Name sid sp) [e] [] scpos] [] cpos) C.env; PySem.standAt pos; pure v)) none) _ _ _
 refine Ks (Ca:=T.stop) (nm:=nm) (q:=q) (N:=N) (bs:=bs) (bm:=bm) (hdct:=true) (sn:=sn) (sub:=sub) (ab:=ab) (col:=col) (dd:=dd) (k0:=k0) (k1:=k1) (k2:=k2) (k3:=k3) (k5:=k5) (newId := "Exception.__new__") c4 ck.hd ?_
 refine uF0 ?_
 rw [zh]
 refine uF0 (DD B ck I hx hd eg ?_)
 have D:=QG (id:=sid) (p:=sp) (pos:=scpos) B ck hs hsi hsx hsm d
 have notS:∀ x y z u,qU (.Call x y z u)=true:=fun _ _ _ _=>rfl
 refine callWith_of (P:=fun h=>b₀.StaysIn h) (by rw [jN (notS _ _ _ _)]; rfl) (fun h X=>keeps_K SO.keep h (B.X.keeps X)) ?_
 have DE:=zr (notS _ _ _ _) D zy cpos m g s st I L
 rw [jN (notS _ _ _ _)] at DE ⊢
 refine evalArgs_plain (DE _ _ (fun vs st1 e1 g1 h1 tk1 ps P1 V1=>⟨P1.inv.stay,?_⟩) (fun st1 e1 g1 h1 tk1 x P1 F1=>?_) fun e1=>?_)
 ·replace e1:=norm _ e1
  cases ef:fe st with
  | bad=>rw [ef] at e1; exact boR e1
  | exc _=>rw [ef] at e1; exact eoR e1
  | ok v st2 =>
   rw [ef] at e1
   cases v with
   | int i =>
    have e1:((if okI i=true then R.ok (.str (DI i)) st2 else .bad:R V).bind fun v st=>(R.ok ([]:List V) st).bind fun vs st=>R.ok (v::vs) st)=R.ok vs st1:=e1
    by_cases hk:okI i=true
    ·rw [if_pos hk] at e1
     cases e1
     cases V1 with
     | cons a r =>
      cases r
      refine x1a1 (zS a) fun t uQ0=>?_; subst uQ0
      have hexc:(fe st).bind (fun v st=>match v with | .int i=>if okI i then R.exc st else .bad | _=>.bad)=(R.exc st1:R Mine.Flow):=by
       rw [ef]
       show (if okI i=true then R.exc st1 else R.bad:R Mine.Flow)=_
       rw [if_pos hk]
      show wpAny _ _ (call (.ref T.stop) [.str (toS (DI i)) t]) _ _ _
      refine wpAny_call (OJ (h:=h1) (B.X.keeps P1.inv.stay) PySem.F.excBase_Exception hK c1 c2 c3 SO.call SO.typ SO.init SO.fn (by rw [uJ0]; show 1≤_; decide) ?_)
      have kp:∀ b o,h1.get? b=some o→((h1.push {cls:=.type "tuple",data:=.seq [Value.str (toS (DI i)) t].toArray}).push (Ao T.stop h1.objs.size)).get? b=some o:=fun b o e=>Heap.get?_push_of_some _ (Heap.get?_push_of_some _ e)
      have hroom:(C.A.under (.builtin "type.__call__" ⟨.ref T.stop::[.str (toS (DI i)) t],[]⟩)).depth<recursionLimit:=by
       have:=ao.room.1
       show C.A.depth+(Code.builtin "type.__call__" ⟨.ref T.stop::[.str (toS (DI i)) t],[]⟩).weight<recursionLimit
       have hw:(Code.builtin "type.__call__" ⟨.ref T.stop::[.str (toS (DI i)) t],[]⟩).weight=1:=rfl
       rw [hw]
       exact far [_,_,_] [.lt (.p (.p qa (.m 3 qg)) (.n 10)) qb] (.lt (.p qa qh) qb) rfl this
      refine Qg (h₀:=h1) (t:=h1.objs.size) SO (B.X.keeps P1.inv.stay) (B.nolimit.keeps P1.inv.stay) hroom kp (Heap.get?_none_of_le (yr0 _)) (by heap_get) fun h2 tk2 ⟨de,hde⟩ keep=>?_
      have k2:∀ b o,h1.get? b=some o→h2.get? b=some o:=fun b o ho=>keep b o (fun z=>by rw [z,Heap.get?_none_of_le (yr0 _)] at ho; exact nsO ho) (kp b o ho)
      refine uF0 (uI0 (uG0 (c3a4 (h1.objs.size+1) h1.objs.size de rfl ?_ hde ?_)))
      ·exact B.X.keeps (fun b o q=>k2 b o (P1.inv.stay b o q)) _ _ hK
      ·have P2:Post prog w T b₀ C names m g1 h1 st1 g1 h2:=.keeps P1.inv P1.loc k2
       have PP:Post prog w T b₀ C names m g s.heap st1 g1 h2:=⟨P2.inv,P2.loc,P1.step.trans P2.step⟩
       refine he st1 hexc m g1 h2 _ _ PP ⟨.ref h1.objs.size,.none,.inl rfl,.inr (qJ0 rfl (fun b o q=>?_) ?_ ?_ ⟨_,_,hde,⟨rfl,rfl⟩,rfl,rfl⟩)⟩
       ·have q':=of_hideAll _ q
        exact PP.step.keep b o q' fun z=>by rw [hideAll_none _ (mem_hideL.mpr z)] at q; exact nsO q
       ·cases z:(hideAll s.heap (yE C g)).get? (h1.objs.size+1) with
        | none=>rfl
        | some o =>
         refine x1a2 (P1.step.there _ _ (of_hideAll _ z)) fun o' e' _=>?_
         rw [Heap.get?_none_of_le (yr0 _)] at e'; exact nsO e'
       ·have FF:=PP.inv.frames
        have:∀ l:List Env,(∀ env∈l,∀ L,env.frame=some L→L∈C.fr)→h2.FunFrames b₀ l→h2.FunFrames (hideAll s.heap (yE C g)) l:=by
         intro l
         induction l with
         | nil=>intro _ _; trivial
         | cons env l ih =>
          intro hm ⟨hk,⟨L,o,hf,hn,ho,hd⟩,hr⟩
          exact ⟨hk,(c2a4 L o hf (hideAll_none _ (mem_hideL.mpr (.inr (.inr (.inr (hm env (.head _) L hf)))))) ho hd),ih (fun en he=>hm en (.tail _ he)) hr⟩
        exact this C.envs (fun en he L hL=>wK0.mpr (c1a2 en he hL)) FF
    ·rw [if_neg hk] at e1; exact boR e1
   | _=>exact boR e1
 ·replace e1:=norm _ e1
  cases ef:fe st with
  | bad=>rw [ef] at e1; exact beR e1
  | exc st2 =>
   rw [ef] at e1
   cases e1
   exact he _ (by rw [ef]; rfl) m g1 h1 tk1 x P1 F1
  | ok v st2 =>
   rw [ef] at e1
   cases v with
   | int i =>
    have e1:((if okI i=true then R.ok (.str (DI i)) st2 else .bad:R V).bind fun v st=>(R.ok ([]:List V) st).bind fun vs st=>R.ok (v::vs) st)=R.exc st1:=e1
    split at e1 <;> cases e1
   | _=>exact beR e1
 ·replace e1:=norm _ e1
  cases ef:fe st with
  | bad=>exact hb (by rw [ef]; rfl)
  | exc st2=>rw [ef] at e1; exact ebR e1
  | ok v st2 =>
   rw [ef] at e1
   refine hb ?_
   rw [ef]
   cases v with
   | int i =>
    have e1:((if okI i=true then R.ok (.str (DI i)) st2 else .bad:R V).bind fun v st=>(R.ok ([]:List V) st).bind fun vs st=>R.ok (v::vs) st)=R.bad:=e1
    show (if okI i=true then R.exc st2 else R.bad:R Mine.Flow)=.bad
    by_cases hk:okI i=true
    ·rw [if_pos hk] at e1; exact obR e1
    ·rw [if_neg hk]
   | _=>rfl
end
noncomputable def jw0 (v:V) (c:Const):Prop:=match v with
 | .none=>c=.none
 | .bool a=>c=.bool a
 | .str x=>c=.str (toS x)
 | _=>False
section
variable {prog:Program} {w:World} {K:Frag} {T:TT} {b₀:Heap} {C:Cx} {names:List Str} {m:Str→Option Value} {g:G} {h h':Heap} {s:Shared} {an mn:Nat→Str} {P:P}
theorem YK {A:Around} {E:Value→Shared→Prop} {env:Env} {v:V} {c:Const} {k:Nat} {pos:Pos} {Q:Value→Shared→Prop} (hl:jw0 v c) (hq:∀ p tk,(∀ φ bd h,VRel T φ bd h v p)→Q p {s with toks:=tk}):wpAny (model prog w) A (eval (.Constant c k pos) env) Q E s:=by
 cases v <;> first | exact hl.elim | rw [show c=_ from hl]
 ·exact uG0 (hq _ s.toks fun _ _ _=>.none)
 ·exact uG0 (hq _ s.toks fun _ _ _=>.bool _)
 ·exact Constant_str (hq _ _ fun _ _ _=>.str _ _)
theorem Qi {A:Around} {E:Value→Shared→Prop} {x:Str} {p:Value} {pos:Pos} {Q:Value→Shared→Prop} (B:BOk K b₀) (k:COk C names) (st:b₀.StaysIn s.heap) (hx:C.env.kindOf x=some .globalImplicit) (hd:(x==("__debug__" : Str))=false)
  (e:nsIn K uK0 x=some (some p)) (q:Q p s):wpAny (model prog w) A (eval (.Name x pos) C.env) Q E s:=by
 refine x1a1 B.g fun mg hg=>?_
 exact Name_function_global k.kind hx (loadGlobal_global (by rw [k.gl]; exact hg.keeps st) (mg_of B.X hg e) q) hd
theorem QA {fI:uP0} {idn x:Str} {i:Nat} {v:V} {c:Const} {kc:Nat} {np xp cp ap hpos pos:Pos} {body:List Stmt} {rest:List ExceptHandler} {fb:St→R Mine.Flow} (SO:StopOk K T.stop fI) (B:BOk K b₀) (k:COk C names) (so:SOk C) (hi:names[i]?=some x) (hl:jw0 v c) (hx:C.env.kindOf idn=some .globalImplicit) (hd:(idn==("__debug__" : Str))=false) (eg:nsIn K uK0 idn=some (some (.ref T.stop)))
  (db:xX prog w T b₀ C names (execs body C.env) fb) :
  xX prog w T b₀ C names (exec (.Try body (.ExceptHandler (some (.Name idn np)) none [.Assign [.Name x xp] (.Constant c kc cp) ap] hpos::rest) [] [] pos) C.env) (fun st=>match fb st with
   | .exc st=>if uA v then .ok .next (qB st i (.val v)) else .bad
   | r=>r):=by
 intro m g s st I L Q E hq he hb
 have hlit:uA v=true:=by cases v <;> cases c <;> first | exact hl.elim | rfl
 refine wpAny_Try_except (db m g s st I L _ _ (fun a st1 e1 m1 g1 h1 tk1 p P1 V1=>?_) (fun st1 e1 m1 g1 h1 tk1 e P1 F1=>?_) (fun e1=>hb (by show (match fb st with | .exc st=>if uA v then R.ok Mine.Flow.next (qB st i (.val v)) else .bad | r=>r)=_; rw [e1])))
 ·have e2:(match fb st with | .exc st=>if uA v then R.ok Mine.Flow.next (qB st i (.val v)) else .bad | r=>r)=.ok a st1:=by rw [e1]
  cases V1 with
  | next=>exact wpAny_execs_nil (hq .next st1 e2 m1 g1 h1 tk1 .next P1 .next)
  | brk=>exact hq .brk st1 e2 m1 g1 h1 tk1 .brk P1 .brk
  | ret V=>exact hq (.ret _) st1 e2 m1 g1 h1 tk1 _ P1 (.ret V)
 ·have e2:(match fb st with | .exc st=>if uA v then R.ok Mine.Flow.next (qB st i (.val v)) else .bad | r=>r)=.ok .next (qB st1 i (.val v)):=by
   rw [e1]
   show (if uA v=true then _ else _)=_
   rw [if_pos hlit]
  refine x1a3 SO.cls fun uQ0 hK uR0 uS0=>?_; obtain ⟨nm,q,N,bs,bm,sn,sub,ab,col,dd,k0,k1,k2,k3,k5⟩:=uQ0; obtain ⟨c1,c2,c3,c4⟩:=uR0; obtain ⟨P,hbm⟩:=uS0
  change bm=_ at hbm
  refine x2a2 so.top fun outer Lf to1 to2=>?_
  refine x1a4 (Bg P1 F1) fun t ee et uQ0 sb=>?_; obtain ⟨a0,fl,qf,f⟩:=uQ0
  have hA:=k.fr
  rw [to1] at f hA
  have q':fl=.none∨fl=rawInt Lf:=qf.imp id fun ⟨L',q1,q2⟩=>by rw [to2] at q1; cases q1; exact q2
  refine Ie (s:={s with heap:=h1,toks:=tk1}) hA to2 q' f fun h2 f2 u2=>?_
  refine yc (s:={s with heap:=h2,toks:=tk1}) (fr:=none) f2 fun h3 f3 u3=>?_
  have P3:=(Ol I L P1 ee et (fun b o q=>f3.1 b o (sb b o q)) f3.1 (u2.trans u3)).1
  refine JL (id f3) fun _ _ _ uQ0=>?_; obtain ⟨oe,vs,T',oT,ts,hoe,hocls,hod,hov1,hnT,hTe,hT',hdT,hts⟩:=uQ0
  refine wpAny_handleBy_cons (codeAny_handlers_test (Qi (s:={s with heap:=h3,toks:=tk1}) B k P3.inv.stay hx hd eg ?_)) (by intro q; exact qO PySem.Value.ctorIdx q rfl)
  refine wpAny_excMatches_sub_self (B.X.keeps P3.inv.stay _ _ hK) hoe hocls.1 c4 (codeAny_handlers_suite ?_)
  refine yc (s:={s with heap:=h3,toks:=tk1}) (fr:=none) f3 fun h4 f4 u4=>?_
  have P4:=(Ol I L P1 ee et (fun b o q=>f4.1 b o (sb b o q)) f4.1 ((u2.trans u3).trans u4)).1
  rw [execs_cons,exec_Assign_Name _ _ _ _ _ (zK rfl _ _ _)]
  refine uF0 (uF0 (uI0 (uF0 (YK (T:=T) hl fun p tk2 V=>uF0 (uI0 (uF0 (wpAny_bindName (uM0 (k.loc x (vx0 hi)) P4.loc.ns (fun h5 ns sb5=>?_) (yS k)))))))))
  refine uG0 (wpAny_execs_nil ?_)
  have P5:=zI k P4.inv P4.loc hi (V _ _ _) ns sb5
  exact hq .next _ e2 _ g1 h5 _ .next ⟨P5.inv,P5.loc,P4.step.trans P5.step⟩ .next
theorem AO {g₀:G} {h₀ h'':Heap} {st:St} {g':G} {d:uP0} (I₀:∀ b o,b₀.get? b=some o→h₀.get? b=some o) (Po:Post prog w T b₀ C names m g₀ h₀ st g' h') (hn:h₀.get? d=none) (hd:C.hid d) (nf:d∉C.fr) (nl:d≠C.env.locals)
  (hnew:∃ o,h''.get? d=some o∧noF o) (k:∀ b o,b≠d→h'.get? b=some o→h''.get? b=some o):Post prog w T b₀ C names m g₀ h₀ st g' h''∧Mono g'.φ g'.φ (bad C g') (bad C g') h' h'':=by
 have bd:bad C g' d:=.inr hd
 have M:Mono g'.φ g'.φ (bad C g') (bad C g') h' h'':=⟨vw0,fun a o e n _=>k a o (fun q=>n (q▸bd)) e,fun _ _ _ n=>n⟩
 have I:=Po.inv
 have L:=Po.loc
 have S:=Po.step
 have old:∀ b o,h₀.get? b=some o→b≠d:=fun b o e q=>by rw [q,hn] at e; exact nsO e
 have nμ:d∉g'.μ:=fun q=>(I.sep d (.inl q)).2.2 hd
 have no:d∉g'.own:=fun q=>(I.sep d (.inr q)).2.2 hd
 refine x1a2 hnew fun on hon nfn=>?_
 refine ⟨⟨⟨I.lφ,I.lμ,I.nodup,I.sep,I.fresh,fun b o hb=>k b o (old b o (I₀ b o hb)) (I.stay b o hb),?_,fun n o eo=>?_,fun b q=>?_,fun b q=>?_⟩,⟨?_,fun i x v a b=>?_,fun i x vs a b=>?_,L.one,L.len⟩,⟨S.φ,S.μ,S.newμ,S.newOwn,fun b o hb n=>k b o (old b o hb) (S.keep b o hb n),fun b q n o hb=>?_,fun b o hb=>?_⟩⟩,M⟩
 ·exact zq I.frames fun b o hb e n=>(c1a2 o (k b o (fun z=>nf (z▸hb)) e) n)
 ·refine x2a3 (I.objs n o eo) fun x dd h1 h2 r=>?_
  exact (c2a3 x dd h1 h2 (r.mono M fun q hq=>k dd q (fun z=>nμ (z▸vx0 h2)) hq))
 ·by_cases hb:b=d
  ·exact (c1a2 on (hb▸hon) nfn)
  ·refine x1a2 (I.hidden b q) fun o ho n=>?_
   exact (c1a2 o (k b o hb ho) n)
 ·refine x1a2 (I.ownT b q) fun o ho n=>?_
  exact (c1a2 o (k b o (fun z=>no (z▸q)) ho) n)
 ·refine x3a2 L.ns fun o es ep e r=>?_
  exact ⟨o,es,ep,k _ _ (fun z=>nl z.symm) e,r⟩
 ·refine x1a2 (L.val i x v a b) fun p h1 h2=>?_
  exact (c1a2 p h1 (h2.mono M))
 ·refine x2a5 (L.own i x vs a b) fun q its h1 h2 uQ0 h4 h5=>?_; obtain ⟨n,h3⟩:=uQ0
  exact (c2a5 q its h1 h2 ⟨n,k _ _ (fun z=>no (by rw [h2]; exact vu0.mpr z.symm)) h3⟩ (h4.mono M) h5)
 ·refine x1a1 (S.slots b q n o hb) fun sl e'=>?_
  exact ⟨sl,k b _ (old b o hb) e'⟩
 ·refine x1a2 (S.there b o hb) fun o₁ h1 n1=>?_
  exact (c1a2 o₁ (k b _ (old b o hb) h1) n1)
theorem EsRel.putNew {φ:List uP0} {bd:uP0→Prop} {xs:List Str} {vs:List V} {es:List DictEntry} {x:Str} {v:V} {p:Value} {hs:Int} {t:Tok} (r:EsRel T φ bd h xs vs es) (hx:xs.contains x=false) (V:VRel T φ bd h v p):EsRel T φ bd h (xs++[x]) (vs++[v]) (putL x hs (.str x t) p es):=by
 induction xs generalizing vs es with
 | nil=>cases r; exact .cons V .nil
 | cons y ys ih =>
  cases r with
  | cons a r =>
   rw [wb0,ul0] at hx
   unfold putL
   rw [xj,show (y==x)=false from by rw [uo0]; exact hx.1]
   simp only [ui0,if_false]
   exact .cons a (ih r hx.2)
noncomputable def kJ:List (St→R V)→St→List V→R (List V)
 | [],st,acc=>.ok acc.reverse st
 | f::fs,st,acc=>(f st).bind fun v st1=>kJ fs st1 (v::acc)
theorem Qh (p:Mine.P) (call mk:Nat→List V→H→RC) (es:List E) (st:St) (acc:List V):uW p call mk es st acc=kJ (es.map (ev p call mk)) st acc:=by
 induction es generalizing st acc with
 | nil=>rfl
 | cons e es ih =>
  show (ev p call mk e st).bind _=(ev p call mk e st).bind _
  cases ev p call mk e st with
  | ok v st1=>exact ih st1 (v::acc)
  | exc _=>rfl
  | bad=>rfl
inductive InitD (prog:Program) (w:World) (T:TT) (b₀:Heap) (C:Cx) (names:List Str) (an:Nat→Str):List Stmt→List Nat→List (St→R V)→Prop
 | nil:InitD prog w T b₀ C names an [] [] []
 | cons {f:Nat} {e:Expr} {p1 p2 p3:Pos} {body:List Stmt} {fs:List Nat} {fe:St→R V} {fes:List (St→R V)}:jW e=true→jh prog w T b₀ C names (eval e C.env) fe→InitD prog w T b₀ C names an body fs fes →
   InitD prog w T b₀ C names an (.Assign [.Attribute (.Name "self" p1) (an f) p2] e p3::body) (f::fs) (fe::fes)
theorem On {c:Nat} {k:Cls} {x dx:uP0} {g₀:G} {h₀:Heap} (B:BOk K b₀) (ck:COk C names) (tc:ClsOk K T an c k) (hb₀:∀ b o,b₀.get? b=some o→h₀.get? b=some o) (hsn:("self" : Str)∈names) (hnx:h₀.get? x=none) (hnd:h₀.get? dx=none) (hdx:C.hid dx) (nfr:dx∉C.fr) (nlo:dx≠C.env.locals) (hhx:C.hid x) (nfrx:x∉C.fr) (nlox:x≠C.env.locals) (hxd:x≠dx) (hms:m "self" = some (.ref x)) :
  ∀ {body:List Stmt} {fs:List Nat} {fes:List (St→R V)},InitD prog w T b₀ C names an body fs fes→∀ (doneF:List Nat) (done:List V) (g':G) (s:Shared) (st:St) (es:List DictEntry) (n:Nat),k.fields=doneF++fs→k.fields.Nodup→Post prog w T b₀ C names m g₀ h₀ st g' s.heap→s.heap.get? x=some (instObj (T.ca c) dx)→s.heap.get? dx=some (dictOf es n)→EsRel T g'.φ (bad C g') s.heap (doneF.map an) done es →
   ∀ (Q:PySem.Flow→Shared→Prop) (E:Value→Shared→Prop),
    (∀ vs st',kJ fes st done.reverse=.ok vs st'→∀ g'' h'' tk es' n',Post prog w T b₀ C names m g₀ h₀ st' g'' h''→h''.get? x=some (instObj (T.ca c) dx)→h''.get? dx=some (dictOf es' n')→EsRel T g''.φ (bad C g'') h'' (k.fields.map an) vs es'→Q .next {s with heap:=h'',toks:=tk}) →
    ((∀ vs st',kJ fes st done.reverse≠.ok vs st')→False)→wpAny (model prog w) C.A (execs body C.env) Q E s:=by
 intro body fs fes D
 induction D with
 | nil =>
  intro doneF done g' s st es n hf hnd' Po hx hd er Q E hq hb
  rw [vU0] at hf
  exact wpAny_execs_nil (hq done st (by unfold kJ; rw [List.reverse_reverse]) g' s.heap s.toks es n Po hx hd (by rw [hf]; exact er))
 | @cons f e p1 p2 p3 body fs fe fes hc de _ ih =>
  intro doneF done g' s st es n hf hnd' Po hx hd er Q E hq hb
  rw [execs_cons,jq rfl hc]
  refine uF0 (uF0 (uI0 (uF0 ?_)))
  refine de m g' s st Po.inv Po.loc _ _ (fun v st1 e1 g1 h1 tk1 p P1 V1=>?_) (fun st1 e1=>?_) (fun e1=>?_)
  ·rw [arm_assign_Attribute]
   have PP:Post prog w T b₀ C names m g₀ h₀ st1 g1 h1:=Po.trans P1
   have nmay:∀ b,C.hid b→b∉C.fr→b≠C.env.locals→¬ may C g' b:=fun b hh n1 n2 z=>by
    rcases z with z | z | z | z
    ·exact (Po.inv.sep _ (.inl z)).2.2 hh
    ·exact (Po.inv.sep _ (.inr z)).2.2 hh
    ·exact n2 z
    ·exact n1 z
   have hd1:h1.get? dx=some (dictOf es n):=P1.step.keep _ _ hd (nmay dx hdx nfr nlo)
   have hx1:h1.get? x=some (instObj (T.ca c) dx):=P1.step.keep _ _ hx (nmay x hhx nfrx nlox)
   have er1:=er.mono P1.step.mono
   have hfm:f∈k.fields:=by rw [hf]; exact List.mem_append_right _ (.head _)
   have hnotin:f∉doneF:=fun q=>by
    rw [hf,vA0] at hnd'
    exact hnd'.2.2 f q f (.head _) rfl
   have hcont:(doneF.map an).contains (an f)=false:=by
    rw [← ut0,ka0]
    intro q
    refine x1a2 (wk0.mp q) fun f' h1 h2=>?_
    have:=tc.inj f' (by rw [hf]; exact wD0 _ h1) f hfm h2
    exact hnotin (this▸h1)
   have el:=er1.lengths
   refine uF0 (uF0 (uH0 (wpAny_Name (uL0 ck.kind (ck.loc _ hsn) PP.loc.ns hms (uF0 (uI0 (uF0 (uH0 ?_))))) (by decide))))
   have hlen:es.length<1000:=by
    have h1:=tc.few
    rw [hf,vt0] at h1
    have h2:=el.1
    rw [vq0] at h2
    have h3:=el.2
    exact far [_,_,_,_] [.le (.p qb qg) (.n 100),.qe qb qj,.eq qa qj] (.lt qa qG) rfl h1 h2 h3
   refine Ko (s:={s with heap:=h1,toks:=tk1}) (B.X.keeps PP.inv.stay) hx1 hd1 tc.sa tc.over (tc.taker f hfm) tc.hasDict (Di er1 _) hlen fun h2 tk2 a1 a2=>?_
   have keep:∀ b o,b≠dx→h1.get? b=some o→h2.get? b=some o:=fun b o n e=>(a2.2 b n).trans e
   have PH:=AO hb₀ PP hnd hdx nfr nlo (c1a2 _ a1 (fun vs q=>by exact qO PySem.Data.ctorIdx q rfl)) keep
   refine jM (uG0 ?_)
   have er2:=(er1.putNew (hs:=PyData.keyHash w.params (an f)) (t:=tk2) hcont V1).mono PH.2
   refine ih (doneF++[f]) (done++[v]) g1 {s with heap:=h2,toks:=tk2+1} st1 _ _ (by rw [hf,vM0]; rfl) hnd' PH.1 ((a2.2 x hxd).trans hx1) a1 (by rw [vL0]; exact er2) Q E (fun vs st' e2=>hq vs st' ?_) (fun q=>hb fun vs st' e2=>q vs st' ?_)
   ·show (fe st).bind _=_
    rw [e1]
    rw [ki0] at e2
    exact e2
   ·rw [ki0]
    have e2:(fe st).bind (fun v st1=>kJ fes st1 (v::done.reverse))=.ok vs st':=e2
    rw [e1] at e2
    exact e2
  ·refine (hb fun vs st' e2=>?_).elim
   have e2:(fe st).bind (fun v st1=>kJ fes st1 (v::done.reverse))=.ok vs st':=e2
   rw [e1] at e2; exact eoR e2
  ·refine (hb fun vs st' e2=>?_).elim
   have e2:(fe st).bind (fun v st1=>kJ fes st1 (v::done.reverse))=.ok vs st':=e2
   rw [e1] at e2; exact boR e2
end
theorem QV {s:Shared} {fd:FuncData} {v d:Value} {a b:Str} {D:uP0} {o:Obj} {n:Nat} (hp:fd.params.posonlyargs=[]) (ha:fd.params.args.map (·.arg)=[a,b]) (hk:fd.params.kwonlyargs=[]) (hv:fd.params.vararg=none) (hkw:fd.params.kwarg=none)
  (hd:fd.defaults=.ref D) (ho:s.heap.get? D=some o) (hs:o.data=.seq #[d] n) (hn:a≠b):BindsTo s fd ⟨[v],[]⟩ [(a,v),(b,d)]:=by
 have h1:(b==a)=false:=beq_eq_false_iff_ne.mpr (Ne.symm hn)
 have h2:(a==a)=true:=beq_self_eq_true a
 have h3:(b==b)=true:=beq_self_eq_true b
 have l1:∀ r,wA0 a ((a,v)::r)=some v:=fun r=>by rw [vX0,h2]
 have l2:∀ r,wA0 b ((a,v)::r)=wA0 b r:=fun r=>by rw [vX0,h1]
 refine Dz hp ha hk hv hkw (fun h=>by rw [hd]; exact wpAny_seqItems ho hs h) (by decide:¬ 1>2) 1 [d] rfl rfl ?_ ?_ ?_
 ·show List.filter _ [a]=[]
  exact wX0.mpr fun x hx=>by rw [vu0.mp hx]; show ¬ (wA0 a [(a,v)]).isNone=true; rw [l1]; exact uk0
 ·show YE [(a,v)] (b,d)=_
  exact if_pos (by rw [l2]; rfl)
 ·show kc0 _ [a,b]=_
  rw [vR0,l1,vR0,l2,vX0,h3]
  rfl
structure InD where
 name:Str
 params:Arguments
 dV:Value
 kV:Value
 doc:Value
 pm:Value
 ct:Value
 oc:Value
 ann:Option uP0
 od:Option uP0
 osl:Array (Option Value)
noncomputable def InD.fn (d:InD) (body:List Stmt) (qual:Str) (scope:Scope) (cdv:Value):FuncData:=fnOf d.name qual d.params body scope d.dV d.kV d.doc d.pm d.ann cdv d.ct
structure InDf (K:Frag) (T:TT) (k:Cls) (names:List Str) (dV:Value) (a b:Str) (D:uP0) (c1:Value) (d1:Option uP0) (dd:Value) (n1:Nat) (sl1:Array (Option Value)) (dv:V):Prop where
 nm:names=[a,b]
 ne:a≠b
 dV:dV=.ref D
 look:K.lookup D=some ⟨c1,d1,.seq #[dd] n1,sl1⟩
 defs:k.defs=[dv]
 rel:∀ φ bd h,VRel T φ bd h dv dd
structure InitOkD (K:Frag) (T:TT) (c:Nat) (k:Cls) (names:List Str) (fI:uP0) (body:List Stmt) (qual:Str) (scope:Scope) (cdv:Value) (d:InD):Prop where
 mk ::
 hm:makesIn K (T.ca c)=true
 hi:findIn K (.ref (T.ca c)) "__init__" = some (some (.ref fI))
 hf:typeIn K (.ref fI)=some (.type "function")
 look:K.lookup fI=some ⟨d.oc,d.od,.func (d.fn body qual scope cdv),d.osl⟩
 code:codeIn K cdv qual=true
 p1:d.params.posonlyargs=[]
 p2:d.params.args.map (·.arg)=names
 p3:d.params.kwonlyargs=[]
 p4:d.params.vararg=none
 p5:d.params.kwarg=none
 n1:names.Nodup
 n2:names.length=k.n+1
 n3:names[0]?=some ("self" : Str)
 n4:k.fields.Nodup
 x1:∀ x∈names,scope.names.lookup x=some .local
 x2:∀ x∈names,(x==("__debug__" : Str))=false
 s1:scope.isCoroutine=false
 s2:scope.isGenerator=false
 s3:scope.kind=.function
 s4:∀ x∈scope.names,x.2≠.cell
 df:(k.defs=[]∧d.dV=.none)∨∃ a b D c1 d1 dd n1 sl1 dv,InDf K T k names d.dV a b D c1 d1 dd n1 sl1 dv
noncomputable def UV (K:Frag) (T:TT) (c:Nat) (k:Cls) (names:List Str) (fI:uP0) (body:List Stmt) (qual:Str) (scope:Scope) (cdv:Value):Prop:=∃ d,InitOkD K T c k names fI body qual scope cdv d
section
variable {prog:Program} {w:World} {K:Frag} {T:TT} {b₀:Heap} {C:Cx} {names:List Str} {m:Str→Option Value} {g:G} {h h':Heap} {s:Shared} {an mn:Nat→Str} {P:P}
noncomputable def Cx.hide2 (C:Cx) (A:Around) (x dx:uP0):Cx:=⟨A,C.env,C.envs,fun b=>C.hid b∨b=dx∨b=x⟩
theorem Ix {A:Around} {σ:H} {ρ:List (Option LV)} {x dx:uP0} (I:Inv prog w T b₀ C g σ h) (L:Loc T C g names ρ m h) (k:∀ b o,h.get? b=some o→h'.get? b=some o) (hx:h.get? x=none) (hd:h.get? dx=none) (hx':∃ o,h'.get? x=some o∧noF o) (hd':∃ o,h'.get? dx=some o∧noF o) :
  Inv prog w T b₀ (C.hide2 A x dx) g σ h'∧Loc T (C.hide2 A x dx) g names ρ m h'∧Mono g.φ g.φ (bad C g) (bad (C.hide2 A x dx) g) h h':=by
 have inv:∀ b,bad (C.hide2 A x dx) g b→bad C g b∨b=dx∨b=x:=fun b q=>by
  rcases q with q | q | q
  ·exact .inl (.inl q)
  ·exact .inl (.inr q)
  ·exact .inr q
 have M:Mono g.φ g.φ (bad C g) (bad (C.hide2 A x dx) g) h h':=⟨vw0,fun a o e _ _=>k a o e,fun a o e n q=>by
  rcases inv a q with q | rfl | rfl
  ·exact n q
  ·rw [hd] at e; exact nsO e
  ·rw [hx] at e; exact nsO e⟩
 have bn:∀ b,h.get? b=none→b₀.get? b=none:=fun b e=>by
  cases q:b₀.get? b with
  | none=>rfl
  | some o=>rw [I.stay _ _ q] at e; exact snO e
 refine (yD ⟨I.lφ,I.lμ,I.nodup,fun b q=>?_,fun b q=>?_,fun b o e=>k b o (I.stay b o e),I.frames.of_keeps fun b o e _=>(c1a2 o (k b o e) rfl),fun n o e=>?_,fun b q=>?_,fun b q=>?_⟩ ⟨L.ns.keeps k,fun i y v a b=>?_,fun i y vs a b=>?_,L.one,L.len⟩ M)
 ·have sp:=I.sep b q
  refine x1a2 (I.may_there L (.inl (q.elim .inl fun q=>.inr (.inl q)))) fun o ho _=>?_
  refine (yD sp.1 sp.2.1 ?_)
  rintro (z | z | z)
  ·exact sp.2.2 z
  ·rw [z,hd] at ho; exact nsO ho
  ·rw [z,hx] at ho; exact nsO ho
 ·rcases inv b q with q | rfl | rfl
  ·exact I.fresh b q
  ·exact bn _ hd
  ·exact bn _ hx
 ·refine x2a3 (I.objs n o e) fun y z h1 h2 r=>?_
  exact (c2a3 y z h1 h2 (r.mono M fun q hq=>k _ _ hq))
 ·rcases q with q | q | q
  ·refine x1a2 (I.hidden b q) fun o e n=>?_; exact (c1a2 o (k _ _ e) n)
  ·rw [q]; exact hd'
  ·rw [q]; exact hx'
 ·refine x1a2 (I.ownT b q) fun o e n=>?_; exact (c1a2 o (k _ _ e) n)
 ·refine x1a2 (L.val i y v a b) fun p h1 h2=>?_; exact (c1a2 p h1 (h2.mono M))
 ·refine x2a5 (L.own i y vs a b) fun q its h1 h2 h3 h4 h5=>?_; exact (c2a5 q its h1 h2 (zM k h3) (h4.mono M) h5)
theorem Oj {A:Around} {x dx:uP0} {st:St} {g':G} {c:Nat} {fs:List V} {es:List DictEntry} {n:Nat} (Lc:∀ b,(b∈C.fr∨b=C.env.locals∨C.hid b∨b∈g'.own)→b≠x∧b≠dx) (Po:Post prog w T b₀ (C.hide2 A x dx) names m g h st g' h') (hx:h'.get? x=some (instObj (T.ca c) dx)) (hd:h'.get? dx=some (dictOf es n)) (er:EsRel T g'.φ (bad (C.hide2 A x dx) g') h' (T.fld c) fs es) :
  Post prog w T b₀ C names m g h st g' h'∧RvV T C h' g' (.obj c fs) (.ref x):=by
 have I:=Po.inv
 have L:=Po.loc
 have M:Mono g'.φ g'.φ (bad (C.hide2 A x dx) g') (bad C g') h' h':=⟨vw0,fun _ _ e _ _=>e,fun _ _ _ n q=>n (q.elim (fun q=>.inl q) fun q=>.inr (.inl q))⟩
 have nx:¬ bad C g' x:=by
  rintro ((q | q | q | q) | q)
  ·exact (I.sep x (.inl q)).2.2 (.inr (.inr rfl))
  ·exact (I.sep x (.inr q)).2.2 (.inr (.inr rfl))
  ·exact (Lc x (.inr (.inl q))).1 rfl
  ·exact (Lc x (.inl q)).1 rfl
  ·exact (Lc x (.inr (.inr (.inl q)))).1 rfl
 have nd:¬ bad C g' dx:=by
  rintro ((q | q | q | q) | q)
  ·exact (I.sep dx (.inl q)).2.2 (.inr (.inl rfl))
  ·exact (I.sep dx (.inr q)).2.2 (.inr (.inl rfl))
  ·exact (Lc dx (.inr (.inl q))).2 rfl
  ·exact (Lc dx (.inl q)).2 rfl
  ·exact (Lc dx (.inr (.inr (.inl q)))).2 rfl
 refine ⟨⟨⟨I.lφ,I.lμ,I.nodup,fun b q=>?_,fun b q=>I.fresh b (q.elim (fun q=>.inl q) fun q=>.inr (.inl q)),I.stay,I.frames,fun n o e=>?_,fun b q=>I.hidden b (.inl q),I.ownT⟩,⟨L.ns,fun i y v a b=>?_,fun i y vs a b=>?_,L.one,L.len⟩,Po.step.φ,Po.step.μ,Po.step.newμ,Po.step.newOwn,Po.step.keep,Po.step.slots,Po.step.there⟩,.obj hx hd nx nd (er.mono M)⟩
 ·have sp:=I.sep b q
  exact (yD sp.1 sp.2.1 (fun z=>sp.2.2 (.inl z)))
 ·refine x2a3 (I.objs n o e) fun y z h1 h2 r=>?_
  exact (c2a3 y z h1 h2 (r.mono M fun q hq=>hq))
 ·refine x1a2 (L.val i y v a b) fun p h1 h2=>?_; exact (c1a2 p h1 (h2.mono M))
 ·refine x2a5 (L.own i y vs a b) fun q its h1 h2 h3 h4 h5=>?_; exact (c2a5 q its h1 h2 h3 (h4.mono M) h5)
theorem Kn {A:Around} {x dx:uP0} {ρ:List (Option LV)} {σ:H} {g':G} {c:Nat} {fs:List V} {es:List DictEntry} {n:Nat} (hxd:x≠dx) (hnd:h.get? dx=none) (Lc:∀ b,(b∈C.fr∨b=C.env.locals∨C.hid b∨b∈g'.own)→b≠x∧b≠dx) (Po:Post prog w T b₀ (C.hide2 A x dx) names m g h ⟨ρ,σ⟩ g' h') (hx:h'.get? x=some (instObj (T.ca c) dx)) (hd:h'.get? dx=some (dictOf es n)) (er:EsRel T g'.φ (bad (C.hide2 A x dx) g') h' (T.fld c) fs es) :
  Post prog w T b₀ C names m g h ⟨ρ,σ++[.inst c fs]⟩ (g'.add x dx) h'∧RvV T C h' (g'.add x dx) (.ref σ.length) (.ref x):=by
 have I:=Po.inv
 have L:=Po.loc
 have S:=Po.step
 have toBad:∀ b,bad C (g'.add x dx) b→bad (C.hide2 A x dx) g' b:=fun b q=>by
  rcases bad_add.mp q with q | q
  ·exact q.elim (fun q=>.inl q) fun q=>.inr (.inl q)
  ·exact .inr (.inr (.inl q))
 have M:Mono g'.φ (g'.φ++[x]) (bad (C.hide2 A x dx) g') (bad C (g'.add x dx)) h' h':=⟨vP0 _ _,fun _ _ e _ _=>e,fun _ _ _ n q=>n (toBad _ q)⟩
 have nμ:dx∉g'.μ:=fun q=>(I.sep dx (.inl q)).2.2 (.inr (.inl rfl))
 have nown:dx∉g'.own:=fun q=>(I.sep dx (.inr q)).2.2 (.inr (.inl rfl))
 have nd:=I.nodup
 rw [vA0] at nd
 have nbx:¬ bad C (g'.add x dx) x:=by
  intro q
  rcases bad_add.mp q with ((q | q | q | q) | q) | q
  ·exact (I.sep x (.inl q)).2.2 (.inr (.inr rfl))
  ·exact (I.sep x (.inr q)).2.2 (.inr (.inr rfl))
  ·exact (Lc x (.inr (.inl q))).1 rfl
  ·exact (Lc x (.inl q)).1 rfl
  ·exact (Lc x (.inr (.inr (.inl q)))).1 rfl
  ·exact hxd q
 refine ⟨⟨⟨?_,?_,?_,fun b q=>?_,fun b q=>I.fresh b (toBad b q),I.stay,I.frames,fun i o e=>?_,fun b q=>I.hidden b (.inl q),I.ownT⟩,⟨L.ns,fun i y v a b=>?_,fun i y vs a b=>?_,L.one,L.len⟩,S.φ.trans (vP0 _ _),S.μ.trans (vP0 _ _),fun b q=>?_,S.newOwn,S.keep,S.slots,S.there⟩,?_⟩
 ·show (g'.φ++[x]).length=(σ++[O.inst c fs]).length
  have:=I.lφ
  simp [this]
 ·show (g'.μ++[dx]).length=(σ++[O.inst c fs]).length
  have:=I.lμ
  simp [this]
 ·show ((g'.μ++[dx])++g'.own).Nodup
  rw [vM0,vA0,vA0]
  refine (yD nd.1 (yD (by simp) nd.2.1 (fun a ha b hb e=>?_)) (fun a ha b hb e=>?_))
  ·rw [vu0.mp ha] at e
   exact nown (e▸hb)
  ·rcases vH0.mp hb with hb | hb
   ·rw [vu0.mp hb] at e
    exact nμ (e▸ha)
   ·exact nd.2.2 a ha b hb e
 ·rcases q with q | q
  ·rcases vH0.mp q with q | q
   ·have sp:=I.sep b (.inl q)
    exact (yD sp.1 sp.2.1 (fun z=>sp.2.2 (.inl z)))
   ·rw [vu0.mp q]
    exact (yD (fun z=>(Lc dx (.inr (.inl z))).2 rfl) (fun z=>(Lc dx (.inl z)).2 rfl) (fun z=>(Lc dx (.inr (.inr (.inl z)))).2 rfl))
  ·have sp:=I.sep b (.inr q)
   exact (yD sp.1 sp.2.1 (fun z=>sp.2.2 (.inl z)))
 ·have e:(σ++[O.inst c fs])[i]?=some o:=e
  have lφ:g'.φ.length=σ.length:=I.lφ
  have lμ:g'.μ.length=σ.length:=I.lμ
  by_cases hi:i<σ.length
  ·rw [vD0 hi] at e
   refine x2a3 (I.objs i o e) fun y z h1 h2 r=>?_
   refine (c2a3 y z ?_ ?_ (r.mono M fun q hq=>hq))
   ·show (g'.φ++[x])[i]?=_
    rw [vD0 (by exact lφ▸hi)]; exact h1
   ·show (g'.μ++[dx])[i]?=_
    rw [vD0 (by exact lμ▸hi)]; exact h2
  ·have hl:=(vv0.mp e).1
   rw [vt0,wc0] at hl
   have hi':i=σ.length:=by exact yk0 (yj0 hl) (yo0 hi)
   subst hi'
   rw [vz0 (yh0 _),yt0] at e
   cases e
   refine (c2a3 x dx ?_ ?_ (.inst hx nbx hd (er.mono M)))
   ·show (g'.φ++[x])[σ.length]?=_
    rw [← lφ,vz0 (yh0 _),yt0]; rfl
   ·show (g'.μ++[dx])[σ.length]?=_
    rw [← lμ,vz0 (yh0 _),yt0]; rfl
 ·refine x1a2 (L.val i y v a b) fun p h1 h2=>?_; exact (c1a2 p h1 (h2.mono M))
 ·refine x2a5 (L.own i y vs a b) fun q its h1 h2 h3 h4 h5=>?_; exact (c2a5 q its h1 h2 h3 (h4.mono M) h5)
 ·rcases vH0.mp q with q | q
  ·exact S.newμ b q
  ·right; rw [vu0.mp q]; exact hnd
 ·refine .ref ?_
  have lφ:g'.φ.length=σ.length:=I.lφ
  show (g'.φ++[x])[σ.length]?=_
  rw [← lφ,vz0 (yh0 _),yt0]; rfl
end
noncomputable def KW (c:Nat) (k:Cls) (fes:List (St→R V)) (vs:List V) (σ:H):RC :=
 qB0 c k (kJ fes ⟨none::(vs++k.defs).map (fun v=>some (LV.val v)),σ⟩ [])
section
variable {prog:Program} {w:World} {K:Frag} {T:TT} {b₀:Heap} {C:Cx} {nm names:List Str} {m:Str→Option Value} {g:G} {h h':Heap} {s:Shared} {an mn:Nat→Str} {P:P}
theorem OR {A:Around} {ρ:List (Option LV)} {x dx:uP0} (L:Loc T C g names ρ m h) (hx:h.get? x=none) (hd:h.get? dx=none):Loc T (C.hide2 A x dx) g names ρ m h:=by
 have M:Mono g.φ g.φ (bad C g) (bad (C.hide2 A x dx) g) h h:=⟨vw0,fun _ _ e _ _=>e,fun a o e n q=>by
  rcases q with q | q | q | q
  ·exact n (.inl q)
  ·exact n (.inr q)
  ·rw [q,hd] at e; exact nsO e
  ·rw [q,hx] at e; exact nsO e⟩
 refine ⟨L.ns,fun i y v a b=>?_,fun i y vs a b=>?_,L.one,L.len⟩
 ·refine x1a2 (L.val i y v a b) fun p h1 h2=>?_; exact (c1a2 p h1 (h2.mono M))
 ·refine x2a5 (L.own i y vs a b) fun q its h1 h2 h3 h4 h5=>?_; exact (c2a5 q its h1 h2 h3 (h4.mono M) h5)
theorem Qs {c:Nat} {k:Cls} {fI:uP0} {body:List Stmt} {qual:Str} {scope:Scope} {cdv:Value} {fes:List (St→R V)} {n:Nat} {st:St} {vs:List V} {ps:List Value} (B:BOk K b₀) (IO:UV K T c k nm fI body qual scope cdv) (tc:ClsOk K T an c k) (ao:AOk C (n+1))
  (hbody:∀ C' L,COk C' nm→C'.env=envOf qual scope L fI cdv→AOk C' n→InitD prog w T b₀ C' nm an body k.fields fes)
  (I:Inv prog w T b₀ C g st.σ s.heap) (Lc:Loc T C g names st.ρ m s.heap) (V:VsRel T g.φ (bad C g) s.heap vs ps) (hlen:vs.length+k.defs.length=k.n) :
  Den prog w T b₀ (RvV T C) C names m g s (call (.ref (T.ca c)) ps) (wr st (KW c k fes vs st.σ)):=by
 refine x1a1 IO fun d D=>?_
 have n1:=D.n1
 have n2:=D.n2
 intro Q E hq he hb
 have XK:=B.X.keeps I.stay
 refine wpAny_call ?_
 have sEta:s=⟨s.heap,s.gens,s.drawn,s.toks,s.os⟩:=rfl
 refine make_core (h:=s.heap) (makes_of XK D.hm) (looks_findIn XK D.hi) (fun self=>bind_fn XK self D.hf) (.inl rfl) ?_
 generalize hA1:C.A.under (.builtin "type.__call__" ⟨.ref (T.ca c)::ps,[]⟩)=A1
 have hA1d:A1.depth=C.A.depth+1:=by rw [← hA1]; rfl
 have hA1u:A1.units=C.A.units+(Code.builtin "type.__call__" ⟨.ref (T.ca c)::ps,[]⟩).cUnits:=by rw [← hA1]; rfl
 have hA1f:A1.frames=C.A.frames:=by rw [← hA1]; rfl
 have hA1h:A1.handled=C.A.handled:=by rw [← hA1]; rfl
 have hcu:(Code.builtin "type.__call__" ⟨.ref (T.ca c)::ps,[]⟩).cUnits≤4:=by
  have:(Code.builtin "type.__call__" ⟨.ref (T.ca c)::ps,[]⟩).cUnits=(Code.builtin "type.__call__" ⟨[.ref 0],[]⟩).cUnits:=rfl
  rw [this]
  decide
 generalize hx:s.heap.objs.size+1=x
 generalize hh1:(s.heap.push emptyDict).push (instObj (T.ca c) s.heap.objs.size)=h1
 have hdx0:s.heap.get? s.heap.objs.size=none:=jd _
 have hx0:s.heap.get? x=none:=by rw [← hx]; exact Heap.get?_none_of_le (yr0 _)
 have k1:∀ b o,s.heap.get? b=some o→h1.get? b=some o:=fun b o e=>by rw [← hh1]; exact Heap.get?_push_of_some _ (Heap.get?_push_of_some _ e)
 have hx1:h1.get? x=some (instObj (T.ca c) s.heap.objs.size):=by rw [← hh1,← hx]; heap_get
 have hd1:h1.get? s.heap.objs.size=some (dictOf [] 0):=by rw [← hh1]; heap_get
 have HN:=Ix (A:=A1) (x:=x) (dx:=s.heap.objs.size) I Lc k1 hx0 hdx0 (c1a2 _ hx1 (fun _ q=>by exact qO PySem.Data.ctorIdx q rfl)) (c1a2 _ hd1 (fun _ q=>by exact qO PySem.Data.ctorIdx q rfl))
 have hvl:=V.length
 obtain ⟨dvals,Vd,hbind⟩:∃ dvals:List Value,(∀ φ bd h,VsRel T φ bd h k.defs dvals)∧BindsTo {s with heap:=h1} (d.fn body qual scope cdv) ⟨.ref x::ps,[]⟩ (nm.zip (.ref x::(ps++dvals))):=by
  rcases D.df with ⟨d1,d2⟩ | ⟨a,b,A,c1,d1,dd,m1,sl1,dv,F⟩
  ·refine (c1a2 [] (fun _ _ _=>by rw [d1]; exact .nil) ?_)
   rw [vU0]
   rw [d1] at hlen
   exact (vH (fd:=d.fn body qual scope cdv) D.p1 D.p2 D.p3 D.p4 D.p5 (AL d2) n1 (by rw [vr0,n2,← hvl]; exact congrArg (·+1) hlen))
  ·refine (c1a2 [dd] (fun φ bd h=>by rw [F.defs]; exact .cons (F.rel φ bd h) .nil) ?_)
   have hps:ps=[]:=by
    rw [F.defs] at hlen
    rw [F.nm] at n2
    refine vK0.mp ?_
    rw [← hvl]
    exact vl0.mp (hlen.trans (vl0.mp n2).symm)
   subst hps
   rw [F.nm]
   exact QV (fd:=d.fn body qual scope cdv) D.p1 (D.p2.trans F.nm) D.p3 D.p4 D.p5 F.dV (k1 _ _ (XK _ _ F.look)) rfl F.ne
 have hzl:(Value.ref x::(ps++dvals)).length=nm.length:=by
  have:=(Vd [] (fun _=>False) h1).length
  rw [vr0,vt0,n2]; exact yk0 (far [_,_,_,_,_] [.eq (.p qj qw) qg,.qe qj qa,.qe qw qb] (.le (.p (.p qa qb) qh) (.p qg qh)) rfl hlen hvl this) (far [_,_,_,_,_] [.qe (.p qj qw) qg,.eq qj qa,.eq qw qb] (.le (.p qg qh) (.p (.p qa qb) qh)) rfl hlen hvl this)
 refine codeAny_call_def (s:={s with heap:=h1}) (fd:=d.fn body qual scope cdv) (body:=body) (binds:=nm.zip (.ref x::(ps++dvals))) (by rw [hA1d]; have:=ao.room.1; exact far [_,_,_] [.lt (.p (.p qa (.m 3 (.p qg qh))) (.n 10)) qb] (.lt (.p qa qh) qb) rfl this) (k1 _ _ (XK _ _ D.look)) rfl ((B.nolimit.keeps I.stay).keeps k1) (((codeRec_of B.X D.code).keeps I.stay).keeps k1) rfl
  hbind D.s4 (fun y hy=>D.x1 _ (wE0 hy).1) (fun h2 hns hk2=>?_) D.s1 D.s2 D.s3
 have hns':h2.Ns h1.objs.size (fun y=>(nm.zip (Value.ref x::(ps++dvals))).lookup y):=by
  have e:(fun y=>(nm.zip (Value.ref x::(ps++dvals))).reverse.lookup y)=fun y=>(nm.zip (Value.ref x::(ps++dvals))).lookup y:=funext fun y=>vT n1 hzl y
  rw [← e]; exact hns
 generalize hL:h1.objs.size=L at hns'
 have hL1:h1.get? L=none:=by rw [← hL]; exact jd _
 have EI:=Dq (env:=envOf qual scope L fI cdv) (L:=L) HN.1 HN.2.1 hL1 rfl rfl (by show scope.kind≠_; rw [D.s3]; decide) hk2 hns'
 have exL:s.heap.get? L=none:=by
  cases q:s.heap.get? L with
  | none=>rfl
  | some o=>rw [k1 _ _ q] at hL1; exact snO hL1
 have there:∀ b,(b∈C.fr∨b=C.env.locals∨C.hid b∨b∈g.own)→b≠x∧b≠s.heap.objs.size:=by
  intro b q
  have:∃ o,s.heap.get? b=some o:=by
   rcases q with q | q | q | q
   ·exact (vt I.frames q).imp fun _ z=>z.1
   ·rw [q]; refine x3a2 Lc.ns fun o _ _ e _=>?_; exact ⟨o,e⟩
   ·exact (I.hidden b q).imp fun _ z=>z.1
   ·exact (I.ownT b q).imp fun _ z=>z.1
  refine x1a1 this fun o e=>?_
  exact ⟨fun z=>(by rw [z,hx0] at e; exact nsO e),fun z=>(by rw [z,hdx0] at e; exact nsO e)⟩
 have xL:x≠L:=fun z=>by rw [z,hL1] at hx1; exact nsO hx1
 have dL:s.heap.objs.size≠L:=fun z=>by rw [z,hL1] at hd1; exact nsO hd1
 have xd:x≠s.heap.objs.size:=by rw [← hx]; exact yE0 _
 have frS:((C.hide2 A1 x s.heap.objs.size).sub g (envOf qual scope L fI cdv)).fr=L::C.fr:=by
  show (envOf qual scope L fI cdv::C.envs).filterMap (·.frame)=_
  rw [vR0]; rfl
 have CK:COk ((C.hide2 A1 x s.heap.objs.size).sub g (envOf qual scope L fI cdv)) nm:={
  kind:=D.s3
  loc:=fun y hy=>D.x1 y hy
  nodup:=n1
  dbg:=D.x2
  gl:=rfl
  bl:=rfl
  fr:=by
   show (A1.deeper _).frames=_
   rw [show (A1.deeper (envOf qual scope L fI cdv)).frames=A1.frames.map (_::·) from rfl,hA1f,ao.fr]; rfl
  hd:=by
   show (A1.deeper _).handled=none
   rw [show (A1.deeper (envOf qual scope L fI cdv)).handled=A1.handled from rfl,hA1h,ao.hd]
  top:=(c3a3 _ _ _ rfl rfl rfl)}
 have AK:AOk ((C.hide2 A1 x s.heap.objs.size).sub g (envOf qual scope L fI cdv)) n:={
  fr:=CK.fr
  hd:=CK.hd
  room:=by
   have r1:=ao.room.1
   have r2:=ao.room.2
   show A1.depth+1+3*n+10<recursionLimit∧A1.units+3+12*n+100<cLine
   rw [hA1d,hA1u]
   constructor <;> omega}
 have ID:=hbody _ L CK rfl AK
 have VV:VsRel T g.φ (bad ((C.hide2 A1 x s.heap.objs.size).sub g (envOf qual scope L fI cdv)) ⟨g.φ,g.μ,[]⟩) h2 (vs++k.defs) (ps++dvals):=((V.mono HN.2.2).mono EI.2).append (Vd _ _ _)
 have hself:nm[0]?=some ("self" : Str):=D.n3
 have LC:Loc T ((C.hide2 A1 x s.heap.objs.size).sub g (envOf qual scope L fI cdv)) ⟨g.φ,g.μ,[]⟩ nm (none::(vs++k.defs).map (fun v=>some (LV.val v))) (fun y=>(nm.zip (Value.ref x::(ps++dvals))).lookup y) h2:={
  ns:=hns'
  val:=fun i y v hy hv=>by
   cases i with
   | zero=>cases hv
   | succ i =>
    rw [vZ0,vG0] at hv
    refine x1a2 (kS0.mp hv) fun v' hv' e=>?_
    cases e
    refine x1a2 (VV.get hv') fun p hp W=>?_
    exact (c1a2 p (zm n1 hy (by rw [vZ0]; exact hp)) W)
  own:=fun i y ws hy hv=>by
   cases i with
   | zero=>cases hv
   | succ i =>
    rw [vZ0,vG0] at hv
    refine x1a2 (kS0.mp hv) fun v' hv' e=>?_
    cases e
  one:=fun i j ws us h1 h2=>by
   cases i with
   | zero=>cases h1
   | succ i =>
    rw [vZ0,vG0] at h1
    refine x1a2 (kS0.mp h1) fun v' hv' e=>?_
    cases e
  len:=by rw [vr0,vq0,vt0,n2]; exact congrArg (·+1) hlen}
 have kall:∀ b o,s.heap.get? b=some o→h2.get? b=some o:=fun b o e=>hk2 b o (k1 b o e)
 have P0:Post prog w T b₀ ((C.hide2 A1 x s.heap.objs.size).sub g (envOf qual scope L fI cdv)) nm (fun y=>(nm.zip (Value.ref x::(ps++dvals))).lookup y) ⟨g.φ,g.μ,[]⟩ s.heap ⟨none::(vs++k.defs).map (fun v=>some (LV.val v)),st.σ⟩ ⟨g.φ,g.μ,[]⟩ h2:=⟨EI.1,LC,Step.keeps kall⟩
 refine On (x:=x) (dx:=s.heap.objs.size) (h₀:=s.heap) (s:={s with heap:=h2,toks:=s.toks+(nm.zip (Value.ref x::(ps++dvals))).length}) (k:=k) (c:=c) B CK tc I.stay (vx0 hself) hx0 hdx0 (.inl (.inr (.inl rfl))) ?_ dL (.inl (.inr (.inr rfl))) ?_ xL xd ?_ ID [] [] ⟨g.φ,g.μ,[]⟩ ⟨none::(vs++k.defs).map (fun v=>some (LV.val v)),st.σ⟩ [] 0 rfl D.n4 P0 (hk2 _ _ hx1) (hk2 _ _ hd1) .nil _ _ (fun fs st' ei g2 h3 tk3 es' m' P2 hx3 hd3 er3=>?_) (fun q=>?_)
 ·rw [frS]
  intro z
  rcases vI0.mp z with z | z
  ·exact dL z
  ·exact (there _ (.inl z)).2 rfl
 ·rw [frS]
  intro z
  rcases vI0.mp z with z | z
  ·exact xL z
  ·exact (there _ (.inl z)).1 rfl
 ·exact zm n1 hself (by rfl)
 ·refine ⟨rfl,?_⟩
  have LP:=vU (C:=C.hide2 A1 x s.heap.objs.size) (env:=envOf qual scope L fI cdv) (L:=L) (h:=s.heap) (h₁:=s.heap) I.nodup (fun b q=>by
   have sp:=I.sep b q
   refine (yD sp.1 sp.2.1 ?_)
   refine x1a2 (I.may_there Lc (.inl (q.elim .inl fun q=>.inr (.inl q)))) fun o e _=>?_
   rintro (z | z | z)
   ·exact sp.2.2 z
   ·rw [z,hdx0] at e; exact nsO e
   ·rw [z,hx0] at e; exact nsO e) (OR Lc hx0 hdx0) exL rfl rfl (fun _ _ e=>e) P2.inv P2.step
  have er4:=er3.mono LP.2
  rw [← tc.fld] at er4
  have ei':kJ fes ⟨none::(vs++k.defs).map (fun v=>some (LV.val v)),st.σ⟩ []=.ok fs st':=ei
  cases hk:k.heap with
  | true =>
   have SI:=Kn (A:=A1) (C:=C) (ρ:=st.ρ) (σ:=st'.σ) (g':=⟨g2.φ,g2.μ,g.own⟩) xd hdx0 there LP.1 hx3 hd3 er4
   exact hq (.ref st'.σ.length) ⟨st.ρ,st'.σ++[.inst c fs]⟩ (by unfold KW; rw [ei']; show wr st (if k.heap then _ else _)=_; rw [hk]; rfl) _ h3 _ _ SI.1 SI.2
  | false =>
   have SO:=Oj (A:=A1) (C:=C) (st:=⟨st.ρ,st'.σ⟩) (g':=⟨g2.φ,g2.μ,g.own⟩) there LP.1 hx3 hd3 er4
   exact hq (.obj c fs) ⟨st.ρ,st'.σ⟩ (by unfold KW; rw [ei']; show wr st (if k.heap then _ else _)=_; rw [hk]; rfl) _ h3 _ _ SO.1 SO.2
 ·refine hb ?_
  unfold KW
  cases ei:kJ fes ⟨none::(vs++k.defs).map (fun v=>some (LV.val v)),st.σ⟩ [] with
  | ok fs st'=>exact (q fs st' ei).elim
  | exc _=>rfl
  | bad=>rfl
theorem Nc {c:Nat} {st:St} (B:BOk K b₀) (hm:makesIn K (T.ca c)=true) (hi:findIn K (.ref (T.ca c)) "__init__" = some (some (.builtin "object.__init__"))) (hfl:T.fld c=[])
  (I:Inv prog w T b₀ C g st.σ s.heap) (Lc:Loc T C g names st.ρ m s.heap):Den prog w T b₀ (RvV T C) C names m g s (call (.ref (T.ca c)) []) (.ok (.obj c []) st):=by
 refine Den.of_wp rfl fun Q E hq=>?_
 have XK:=B.X.keeps I.stay
 have Y:=makes_of (M:=model prog w) XK hm
 refine wpAny_call ?_
 refine make_core (h:=s.heap) Y (looks_findIn XK hi) (fun self=>Looks.of_pure (oi_bind self)) (.inr ⟨rfl,rfl⟩) ?_
 have k1:∀ b o,s.heap.get? b=some o→((s.heap.push emptyDict).push (instObj (T.ca c) s.heap.objs.size)).get? b=some o:=fun b o e=>Heap.get?_push_of_some _ (Heap.get?_push_of_some _ e)
 have hx1:((s.heap.push emptyDict).push (instObj (T.ca c) s.heap.objs.size)).get? (s.heap.objs.size+1)=some (instObj (T.ca c) s.heap.objs.size):=by heap_get
 have hd1:((s.heap.push emptyDict).push (instObj (T.ca c) s.heap.objs.size)).get? s.heap.objs.size=some (dictOf [] 0):=by heap_get
 have t1:Looks (model prog w) ((s.heap.push emptyDict).push (instObj (T.ca c) s.heap.objs.size)) (typeOf (.ref (s.heap.objs.size+1))) (.ref (T.ca c)):=(Looks.ld hx1).andThen .now
 have t2:Looks (model prog w) ((s.heap.push emptyDict).push (instObj (T.ca c) s.heap.objs.size)) (isInstance (.ref (s.heap.objs.size+1)) (.type "object")) true:=t1.andThen (Y.top.keeps k1)
 refine codeAny_call_builtin oi_plain entry_oi (@check_slot (model prog w) _ _ {s with heap:=(s.heap.push emptyDict).push (instObj (T.ca c) s.heap.objs.size)} "object.__init__" "object" "__init__" (.ref (s.heap.objs.size+1)) [] [] _ oi_kind oi_split t2 (oi_args (.ref (s.heap.objs.size+1))) ?_)
 rw [oi_run]
 have P1:Post prog w T b₀ C names m g s.heap st g ((s.heap.push emptyDict).push (instObj (T.ca c) s.heap.objs.size)):=.keeps I Lc k1
 refine uG0 (And.intro rfl (hq g _ s.toks _ P1 (.obj hx1 hd1 (I.none Lc (Heap.get?_none_of_le (yr0 _))) (I.none Lc (jd _)) ?_)))
 rw [hfl]
 exact .nil
theorem Oi {A:Around} {x dx:uP0} {ρ:List (Option LV)} {σ:H} {g':G} {o₁:O} (hnd:h.get? dx=none) (Lc:∀ b,(b∈C.fr∨b=C.env.locals∨C.hid b∨b∈g'.own)→b≠dx) (Po:Post prog w T b₀ (C.hide2 A x dx) names m g h ⟨ρ,σ⟩ g' h')
  (hr:Mono g'.φ (g'.φ++[x]) (bad (C.hide2 A x dx) g') (bad C (g'.add x dx)) h' h'→ORel prog w T (g'.φ++[x]) (bad C (g'.add x dx)) h' o₁ x dx) :
  Post prog w T b₀ C names m g h ⟨ρ,σ++[o₁]⟩ (g'.add x dx) h'∧RvV T C h' (g'.add x dx) (.ref σ.length) (.ref x):=by
 have I:=Po.inv
 have L:=Po.loc
 have S:=Po.step
 have toBad:∀ b,bad C (g'.add x dx) b→bad (C.hide2 A x dx) g' b:=fun b q=>by
  rcases bad_add.mp q with q | q
  ·exact q.elim (fun q=>.inl q) fun q=>.inr (.inl q)
  ·exact .inr (.inr (.inl q))
 have M:Mono g'.φ (g'.φ++[x]) (bad (C.hide2 A x dx) g') (bad C (g'.add x dx)) h' h':=⟨vP0 _ _,fun _ _ e _ _=>e,fun _ _ _ n q=>n (toBad _ q)⟩
 have nμ:dx∉g'.μ:=fun q=>(I.sep dx (.inl q)).2.2 (.inr (.inl rfl))
 have nown:dx∉g'.own:=fun q=>(I.sep dx (.inr q)).2.2 (.inr (.inl rfl))
 have nd:=I.nodup
 rw [vA0] at nd
 have lφ:g'.φ.length=σ.length:=I.lφ
 have lμ:g'.μ.length=σ.length:=I.lμ
 refine ⟨⟨⟨?_,?_,?_,fun b q=>?_,fun b q=>I.fresh b (toBad b q),I.stay,I.frames,fun i o e=>?_,fun b q=>I.hidden b (.inl q),I.ownT⟩,⟨L.ns,fun i y v a b=>?_,fun i y vs a b=>?_,L.one,L.len⟩,S.φ.trans (vP0 _ _),S.μ.trans (vP0 _ _),fun b q=>?_,S.newOwn,S.keep,S.slots,S.there⟩,?_⟩
 ·show (g'.φ++[x]).length=(σ++[o₁]).length
  simp [lφ]
 ·show (g'.μ++[dx]).length=(σ++[o₁]).length
  simp [lμ]
 ·show ((g'.μ++[dx])++g'.own).Nodup
  rw [vM0,vA0,vA0]
  refine (yD nd.1 (yD (by simp) nd.2.1 (fun a ha b hb e=>?_)) (fun a ha b hb e=>?_))
  ·rw [vu0.mp ha] at e
   exact nown (e▸hb)
  ·rcases vH0.mp hb with hb | hb
   ·rw [vu0.mp hb] at e
    exact nμ (e▸ha)
   ·exact nd.2.2 a ha b hb e
 ·rcases q with q | q
  ·rcases vH0.mp q with q | q
   ·have sp:=I.sep b (.inl q)
    exact (yD sp.1 sp.2.1 (fun z=>sp.2.2 (.inl z)))
   ·rw [vu0.mp q]
    exact (yD (fun z=>Lc dx (.inr (.inl z)) rfl) (fun z=>Lc dx (.inl z) rfl) (fun z=>Lc dx (.inr (.inr (.inl z))) rfl))
  ·have sp:=I.sep b (.inr q)
   exact (yD sp.1 sp.2.1 (fun z=>sp.2.2 (.inl z)))
 ·have e:(σ++[o₁])[i]?=some o:=e
  by_cases hi:i<σ.length
  ·rw [vD0 hi] at e
   refine x2a3 (I.objs i o e) fun y z h1 h2 r=>?_
   refine (c2a3 y z ?_ ?_ (r.mono M fun q hq=>hq))
   ·show (g'.φ++[x])[i]?=_
    rw [vD0 (by exact lφ▸hi)]; exact h1
   ·show (g'.μ++[dx])[i]?=_
    rw [vD0 (by exact lμ▸hi)]; exact h2
  ·have hl:=(vv0.mp e).1
   rw [vt0,wc0] at hl
   have hi':i=σ.length:=by exact yk0 (yj0 hl) (yo0 hi)
   subst hi'
   rw [vz0 (yh0 _),yt0] at e
   cases e
   refine (c2a3 x dx ?_ ?_ (hr M))
   ·show (g'.φ++[x])[σ.length]?=_
    rw [← lφ,vz0 (yh0 _),yt0]; rfl
   ·show (g'.μ++[dx])[σ.length]?=_
    rw [← lμ,vz0 (yh0 _),yt0]; rfl
 ·refine x1a2 (L.val i y v a b) fun p h1 h2=>?_; exact (c1a2 p h1 (h2.mono M))
 ·refine x2a5 (L.own i y vs a b) fun q its h1 h2 h3 h4 h5=>?_; exact (c2a5 q its h1 h2 h3 (h4.mono M) h5)
 ·rcases vH0.mp q with q | q
  ·exact S.newμ b q
  ·right; rw [vu0.mp q]; exact hnd
 ·refine .ref ?_
  show (g'.φ++[x])[σ.length]?=_
  rw [← lφ,vz0 (yh0 _),yt0]; rfl
inductive DenVs (prog:Program) (w:World) (T:TT) (b₀:Heap) (C:Cx) (names:List Str):List Expr→(St→R (List V))→Prop
 | nil:DenVs prog w T b₀ C names [] (fun st=>.ok [] st)
 | cons {e:Expr} {r:List Expr} {f:St→R V} {fr:St→R (List V)}:jh prog w T b₀ C names (eval e C.env) f→DenVs prog w T b₀ C names r fr→DenVs prog w T b₀ C names (e::r) (fun st=>(f st).bind fun v st=>(fr st).bind fun vs st=>.ok (v::vs) st)
inductive KeyM:List (Option Expr)→List (List Nat)→Prop
 | nil:KeyM [] []
 | cons {k:Nat} {pos:Pos} {x:List Nat} {ks:List (Option Expr)} {xs:List (List Nat)}:KeyM ks xs→KeyM (some (.Constant (.str (toS x)) k pos)::ks) (x::xs)
theorem KeyM.length {ks:List (Option Expr)} {xs:List (List Nat)} (k:KeyM ks xs):ks.length=xs.length∧ks.all (·.isSome)=true:=by
 induction k with
 | nil=>exact ⟨rfl,rfl⟩
 | cons _ ih=>exact ⟨by simp [ih.1],by simp [ih.2]⟩
inductive KVRel (T:TT) (φ:List uP0) (bd:uP0→Prop) (h:Heap):List (List Nat)→List V→List (Value×Value)→Prop
 | nil:KVRel T φ bd h [] [] []
 | cons {x:List Nat} {t:Tok} {v:V} {p:Value} {xs:List (List Nat)} {vs:List V} {kv:List (Value×Value)}:VRel T φ bd h v p→KVRel T φ bd h xs vs kv→KVRel T φ bd h (x::xs) (v::vs) ((.str (toS x) t,p)::kv)
theorem KVRel.lengths {φ:List uP0} {bd:uP0→Prop} {xs:List (List Nat)} {vs:List V} {kv:List (Value×Value)} (k:KVRel T φ bd h xs vs kv):xs.length=vs.length:=by
 induction k with
 | nil=>rfl
 | cons V _ ih=>simp [ih]
theorem KVRel.ks {φ:List uP0} {bd:uP0→Prop} {xs:List (List Nat)} {vs:List V} {kv:List (Value×Value)} (k:KVRel T φ bd h xs vs kv):∃ ks:List (Str×Value),Carries (strKind prog w) kv ks∧KS T φ bd h ((xs.map V.str).zip vs) ks∧ks.map (·.1)=xs.map toS:=by
 induction k with
 | nil=>exact (c1a3 [] trivial .nil rfl)
 | @cons x t v p xs vs kv V _ ih =>
  refine x1a3 ih fun ks h1 h2 h3=>?_
  exact (c1a3 ((toS x,p)::ks) ⟨strKind_is prog w (toS x) t,rfl,h1⟩ (.cons V h2) (by simp [h3]))
theorem Nb {pos:Pos} {values:List Expr} {fes:St→R (List V)} (D:DenVs prog w T b₀ C names values fes):∀ {keys:List (Option Expr)} {xs:List (List Nat)},KeyM keys xs→keys.length=values.length→∀ m g s st,Inv prog w T b₀ C g st.σ s.heap→Loc T C g names st.ρ m s.heap →
  Den prog w T b₀ (fun h g vs kv=>KVRel T g.φ (bad C g) h xs vs kv) C names m g s (evalPairs (pairTrees keys values C.env pos)) (fes st):=by
 induction D with
 | nil =>
  intro keys xs km hl m g s st I L
  cases km with
  | nil=>exact Den.pure I L .nil
  | cons _=>cases hl
 | @cons e r f fr de _ ih =>
  intro keys xs km hl m g s st I L
  cases km with
  | nil=>cases hl
  | @cons k kp x ks xs km =>
   have e0:evalPairs (pairTrees (some (.Constant (.str (toS x)) k kp)::ks) (e::r) C.env pos)=(do
     let kv ← eval (.Constant (.str (toS x)) k kp) C.env
     let vv ← PySem.holding [kv] (do let y ← eval e C.env; PySem.standAt pos; pure y)
     return (kv,vv)::(← PySem.holding [kv,vv] (evalPairs (pairTrees ks r C.env pos)))):=rfl
   rw [e0]
   intro Q E hq he hb
   refine uF0 (Constant_str ?_)
   have D:Den prog w T b₀ (fun h g vs kv=>KVRel T g.φ (bad C g) h (x::xs) vs kv) C names m g {s with toks:=s.toks+1} (do
     let vv ← PySem.holding [.str (toS x) s.toks] (do let y ← eval e C.env; PySem.standAt pos; pure y)
     return (.str (toS x) s.toks,vv)::(← PySem.holding [.str (toS x) s.toks,vv] (evalPairs (pairTrees ks r C.env pos)))) ((f st).bind fun v st=>(fr st).bind fun vs st=>.ok (v::vs) st):=by
    refine Den.bind (Rv:=RvV T C) (Den.holding ?_) fun v st1 _ g1 h1 tk1 p P1 V1=>?_
    ·intro Q E hq he hb
     exact uF0 (de m g {s with toks:=s.toks+1} st I L _ _ (fun a st1 e1 g1 h1 tk1 p P1 V1=>uF0 (uI0 (uG0 (hq a st1 e1 g1 h1 tk1 p P1 V1)))) he hb)
    ·refine (Den.holding (ih km (by simpa using hl) m g1 {s with heap:=h1,toks:=tk1} st1 P1.inv P1.loc)).bind fun vs st2 _ g2 h2 tk2 kv P2 V2=>?_
     exact Den.pure P2.inv P2.loc (.cons (V1.mono P2.step.mono) V2)
   exact D Q E hq he hb
theorem JG {pos:Pos}:jh prog w T b₀ C names (eval (.Dict [] [] pos) C.env) (fun st=>.ok (.ref st.σ.length) {st with σ:=st.σ++[.dict []]}):=by
 intro m g s st I L
 refine Den.of_wp rfl fun Q E hq=>wpAny_Dict_empty ?_
 have N:=GW (prog:=prog) (w:=w) (T:=T) (b₀:=b₀) (o:=.dict []) (x:=s.heap.objs.size) (d:=s.heap.objs.size) (h':=s.heap.push {cls:=.type "dict",data:=.dict #[]}) I L (qX _ _) (jd _)
  (.dict (fun _=>(c1a2 [] (Heap.DictOf.new s.heap) .nil)) (fun _=>(c1a2 [] (Heap.DictOf.new s.heap) .nil)) (yq0 _) (c1a2 _ (Heap.get?_push_size _ rfl) (fun _ q=>by exact qO PySem.Data.ctorIdx q rfl)))
 exact hq _ _ s.toks _ N.1 N.2
theorem No {keys:List (Option Expr)} {values:List Expr} {xs:List (List Nat)} {pos:Pos} {fes:St→R (List V)} (km:KeyM keys xs) (h0:keys≠[]) (hl:keys.length=values.length) (hk:kE xs=true) (D:∀ x,DenVs prog w T b₀ (C.hide2 C.A x x) names values fes) :
  jh prog w T b₀ C names (eval (.Dict keys values pos) C.env) (fun st=>(fes st).strict fun vs st=>if xs.length=vs.length∧kE xs=true then .ok (.ref st.σ.length) {st with σ:=st.σ++[.dict ((xs.map V.str).zip vs)]} else .bad):=by
 intro m g s st I L Q E hq he hb
 have kl:=km.length
 have ko:xs.Nodup∧xs.length≤15:=by
  unfold kE at hk
  rw [ug0,decide_eq_true_eq,decide_eq_true_eq] at hk
  exact hk
 refine wpAny_Dict_walk (knd:=strKind prog w) kl.2 hl h0 (by rw [kl.1]; exact ko.2) ?_
 have hd0:=jd s.heap
 have kp:=qX s.heap {cls:=.type "dict",data:=.dict #[]}
 have hnew:(s.heap.push {cls:=.type "dict",data:=.dict #[]}).get? s.heap.objs.size=some {cls:=.type "dict",data:=.dict #[]}:=Heap.get?_push_size _ rfl
 have HN:=Ix (A:=C.A) (x:=s.heap.objs.size) (dx:=s.heap.objs.size) I L kp hd0 hd0 (c1a2 _ hnew (fun _ q=>by exact qO PySem.Data.ctorIdx q rfl)) (c1a2 _ hnew (fun _ q=>by exact qO PySem.Data.ctorIdx q rfl))
 have there:∀ b,(b∈C.fr∨b=C.env.locals∨C.hid b∨b∈g.own)→b≠s.heap.objs.size:=by
  intro b q
  have:∃ o,s.heap.get? b=some o:=by
   rcases q with q | q | q | q
   ·exact (vt I.frames q).imp fun _ z=>z.1
   ·rw [q]; refine x3a2 L.ns fun o _ _ e _=>?_; exact ⟨o,e⟩
   ·exact (I.hidden b q).imp fun _ z=>z.1
   ·exact (I.ownT b q).imp fun _ z=>z.1
  refine x1a1 this fun o e=>?_
  exact fun z=>(by rw [z,hd0] at e; exact nsO e)
 refine Nb (C:=C.hide2 C.A s.heap.objs.size s.heap.objs.size) (D s.heap.objs.size) km hl m g {s with heap:=s.heap.push {cls:=.type "dict",data:=.dict #[]}} st HN.1 HN.2.1 _ _ (fun vs st1 e1 g1 h1 tk1 kv P1 V1=>?_) (fun st1 e1 g1 h1 tk1 q P1 F1=>?_) (fun e1=>hb (by show (fes st).strict _=_; rw [e1]; rfl))
 ·refine x1a3 (V1.ks (prog:=prog) (w:=w)) fun ks c1 c2 c3=>?_
  have toSinj:∀ a b:List Nat,toS a=toS b→a=b:=fun a b e=>by
   have:a.toArray=b.toArray:=congrArg Str.cps e
   simpa using this
  have hkn:(ks.map (·.1)).Nodup:=by
   rw [c3]
   unfold List.Nodup
   rw [List.pairwise_map]
   exact ko.1.imp fun n e=>n (toSinj _ _ e)
  have hl1:=V1.lengths
  have nmay:¬ may (C.hide2 C.A s.heap.objs.size s.heap.objs.size) g s.heap.objs.size:=fun z=>by
   rcases z with z | z | z | z
   ·exact (HN.1.sep _ (.inl z)).2.2 (.inr (.inl rfl))
   ·exact (HN.1.sep _ (.inr z)).2.2 (.inr (.inl rfl))
   ·exact there _ (.inr (.inl z)) rfl
   ·exact there _ (.inl z) rfl
  have hD1:h1.get? s.heap.objs.size=some {cls:=.type "dict",data:=.dict #[]}:=P1.step.keep _ _ hnew nmay
  have hDict:h1.DictOf (strKind prog w) s.heap.objs.size []:=by
   have:(s.heap.push {cls:=.type "dict",data:=.dict #[]}).DictOf (strKind prog w) s.heap.objs.size []:=Heap.DictOf.new s.heap
   refine x3a2 this fun o es ep ho r=>?_
   rw [hnew] at ho; cases ho
   exact ⟨_,es,ep,hD1,r⟩
  refine (c1a3 ks c1 hDict (fun h2 hd2 sb=>?_))
  rw [merged_nil_of_nodup ks hkn] at hd2
  have stepK:Step (C.hide2 C.A s.heap.objs.size s.heap.objs.size) g s.heap g (s.heap.push {cls:=.type "dict",data:=.dict #[]}):=Step.keeps kp
  have PP:Post prog w T b₀ (C.hide2 C.A s.heap.objs.size s.heap.objs.size) names m g s.heap st1 g1 h1:=⟨P1.inv,P1.loc,stepK.trans P1.step⟩
  refine x3a4 (id hd2) fun oD _ _ hoD _ hdD _=>?_
  have PH:=AO I.stay PP hd0 (.inr (.inl rfl)) (fun z=>there _ (.inl z) rfl) (fun z=>there _ (.inr (.inl z)) rfl) (c1a2 oD hoD (fun vs q=>by rw [hdD] at q; exact qO PySem.Data.ctorIdx q rfl)) (fun b o n e=>(sb.2 b n).trans e)
  have own1:∀ b,(b∈C.fr∨b=C.env.locals∨C.hid b∨b∈g1.own)→b≠s.heap.objs.size:=fun b q=>by
   rcases q with q | q | q | q
   ·exact there b (.inl q)
   ·exact there b (.inr (.inl q))
   ·exact there b (.inr (.inr (.inl q)))
   ·exact fun z=>(P1.inv.sep b (.inr q)).2.2 (.inr (.inl z))
  have SH:=Oi (A:=C.A) (C:=C) (ρ:=st1.ρ) (σ:=st1.σ) (o₁:=.dict ((xs.map V.str).zip vs)) hd0 own1 PH.1 (fun M=>?_)
  ·refine hq (.ref st1.σ.length) ⟨st1.ρ,st1.σ++[.dict ((xs.map V.str).zip vs)]⟩ ?_ _ h2 _ _ SH.1 SH.2
   show (fes st).strict _=_
   rw [e1]
   show (if xs.length=vs.length∧kE xs=true then _ else _)=_
   rw [if_pos ⟨hl1,hk⟩]
  ·refine .dict (fun _=>(c1a2 ks hd2 ((c2.mono PH.2).mono M))) (fun hi=>?_) ?_ (c1a2 oD hoD (fun vs q=>by rw [hdD] at q; exact qO PySem.Data.ctorIdx q rfl))
   ·cases km with
    | nil=>exact absurd rfl h0
    | @cons _ _ x _ xs' _ =>
     cases vs with
     | nil=>cases hl1
     | cons v vs =>
      refine x1a1 (hi (.str x,v) (.head _)) fun i e=>?_
      exact qO Mine.V.ctorIdx e rfl
   ·rw [kn0,vq0]
    have:=ko.2
    unfold qD
    exact far [_,_] [.le qa (.n 15),.le qb qa] (.le qb qJ) rfl this (yv0 _ _)
 ·exact (hb (by show (fes st).strict _=_; rw [e1]; rfl)).elim
noncomputable def Cx.comp (C:Cx) (g:G) (env:Env) (acc:uP0):Cx:=⟨C.A,env,C.envs,fun b=>C.hid b∨b∈g.own∨b=C.env.locals∨b=acc⟩
theorem Bn {g g':G} {env:Env} {b acc:uP0} (q:bad C ⟨g'.φ,g'.μ,g.own⟩ b):bad (C.comp g env acc) g' b:=by
 rcases q with (q | q | q | q) | q
 ·exact .inl (.inl q)
 ·exact .inr (.inr (.inl q))
 ·exact .inr (.inr (.inr (.inl q)))
 ·exact .inl (.inr (.inr (.inr q)))
 ·exact .inr (.inl q)
theorem Ju {σ:H} {ρ:List (Option LV)} {env:Env} {L acc:uP0} {m':Str→Option Value} (I:Inv prog w T b₀ C g σ h) (Lc:Loc T C g names ρ m h) (nL:h.get? L=none) (nA:h.get? acc=none) (hLA:L≠acc) (hlo:env.locals=L)
  (k:∀ b o,h.get? b=some o→h'.get? b=some o) (ns:h'.Ns L m') (ha:∃ o,h'.get? acc=some o∧noF o):Inv prog w T b₀ (C.comp g env acc) ⟨g.φ,g.μ,[]⟩ σ h'∧Mono g.φ g.φ (bad C g) (bad (C.comp g env acc) ⟨g.φ,g.μ,[]⟩) h h':=by
 have inv:∀ b,bad (C.comp g env acc) ⟨g.φ,g.μ,[]⟩ b→b=L∨b=acc∨bad C g b:=by
  intro b q
  rcases q with (q | q | q | q) | q | q | q | q
  ·exact .inr (.inr (.inl (.inl q)))
  ·exact zv q
  ·exact .inl (q.trans hlo)
  ·exact .inr (.inr (.inl (.inr (.inr (.inr q)))))
  ·exact .inr (.inr (.inr q))
  ·exact .inr (.inr (.inl (.inr (.inl q))))
  ·exact .inr (.inr (.inl (.inr (.inr (.inl q)))))
  ·exact .inr (.inl q)
 have M:Mono g.φ g.φ (bad C g) (bad (C.comp g env acc) ⟨g.φ,g.μ,[]⟩) h h':=⟨vw0,fun a o e _ _=>k a o e,fun a o e n q=>by
  rcases inv a q with rfl | rfl | q
  ·rw [nL] at e; exact nsO e
  ·rw [nA] at e; exact nsO e
  ·exact n q⟩
 have base:∀ b,h.get? b=none→b₀.get? b=none:=fun b e=>by
  cases q:b₀.get? b with
  | none=>rfl
  | some o=>rw [I.stay _ _ q] at e; exact snO e
 have nd:=I.nodup
 rw [vA0] at nd
 refine ⟨⟨I.lφ,I.lμ,by simpa using nd.1,fun b q=>?_,fun b q=>?_,fun b o e=>k b o (I.stay b o e),I.frames.of_keeps fun b o e _=>(c1a2 o (k b o e) rfl),fun n o e=>?_,?_,fun b q=>by exact zv q⟩,M⟩
 ·rcases q with q | q
  ·have sp:=I.sep b (.inl q)
   refine x1a2 (I.may_there Lc (.inl (.inl q))) fun o ho _=>?_
   refine (yD (fun z=>?_) sp.2.1 ?_)
   ·have z:b=L:=z.trans hlo
    rw [z,nL] at ho; exact nsO ho
   ·rintro (z | z | z | z)
    ·exact sp.2.2 z
    ·exact nd.2.2 b q b z rfl
    ·exact sp.1 z
    ·rw [z,nA] at ho; exact nsO ho
  ·exact zv q
 ·rcases inv b q with rfl | rfl | q
  ·exact base _ nL
  ·exact base _ nA
  ·exact I.fresh b q
 ·refine x2a3 (I.objs n o e) fun x d h1 h2 r=>?_
  exact (c2a3 x d h1 h2 (r.mono M fun q hq=>k _ _ hq))
 ·rintro b (q | q | q | q)
  ·refine x1a2 (I.hidden b q) fun o e n=>?_; exact (c1a2 o (k _ _ e) n)
  ·refine x1a2 (I.ownT b q) fun o e n=>?_; exact (c1a2 o (k _ _ e) n)
  ·refine x1a2 (I.may_there Lc (.inl (.inr (.inr (.inl q))))) fun o e n=>?_; exact (c1a2 o (k _ _ e) n)
  ·rw [q]; exact ha
theorem Jm {σ σ':H} {ρ:List (Option LV)} {env:Env} {L acc:uP0} {g':G} (I:Inv prog w T b₀ C g σ h) (Lc:Loc T C g names ρ m h) (nL:h.get? L=none) (hlo:env.locals=L)
  (I':Inv prog w T b₀ (C.comp g env acc) g' σ' h') (S:Step (C.comp g env acc) ⟨g.φ,g.μ,[]⟩ h g' h') :
  Post prog w T b₀ C names m g h ⟨ρ,σ'⟩ ⟨g'.φ,g'.μ,g.own⟩ h'∧Mono g'.φ g'.φ (bad (C.comp g env acc) g') (bad C ⟨g'.φ,g'.μ,g.own⟩) h' h':=by
 have M:Mono g'.φ g'.φ (bad (C.comp g env acc) g') (bad C ⟨g'.φ,g'.μ,g.own⟩) h' h':=⟨vw0,fun _ _ e _ _=>e,fun _ _ _ n q=>n (Bn q)⟩
 have nmay:∀ b o,h.get? b=some o→b∉g.μ→b∉C.fr→¬ may (C.comp g env acc) ⟨g.φ,g.μ,[]⟩ b:=by
  intro b o e n1 n2 q
  have nb:b≠L:=fun z=>by rw [z,nL] at e; exact nsO e
  rcases q with q | q | q | q
  ·exact n1 q
  ·exact zv q
  ·exact nb (q.trans hlo)
  ·exact n2 q
 have nd:=I.nodup
 rw [vA0] at nd
 have nd':=I'.nodup
 rw [vA0] at nd'
 have S':Step C g h ⟨g'.φ,g'.μ,g.own⟩ h':=by
  refine ⟨S.φ,S.μ,S.newμ,fun b q=>.inl q,fun b o e n=>?_,fun b q n o e=>?_,S.there⟩
  ·exact S.keep b o e (nmay b o e (fun z=>n (.inl z)) (fun z=>n (.inr (.inr (.inr z)))))
  ·refine S.slots b q (fun z=>?_) o e
   have z:b=L:=z.trans hlo
   rw [z,nL] at e; exact nsO e
 have Mm:=S'.mono
 refine ⟨⟨⟨I'.lφ,I'.lμ,?_,?_,?_,I'.stay,I'.frames,?_,fun b q=>I'.hidden b (.inl q),fun b q=>I'.hidden b (.inr (.inl q))⟩,⟨?_,?_,?_,Lc.one,Lc.len⟩,S'⟩,M⟩
 ·show (g'.μ++g.own).Nodup
  rw [vA0]
  refine (yD nd'.1 nd.2.1 (fun a ha b hb e=>?_))
  subst e
  exact (I'.sep a (.inl ha)).2.2 (.inr (.inl hb))
 ·intro b q
  rcases q with q | q
  ·have sp:=I'.sep b (.inl q)
   refine (yD (fun z=>sp.2.2 (.inr (.inr (.inl z)))) sp.2.1 (fun z=>sp.2.2 (.inl z)))
  ·exact I.sep b (.inr q)
 ·intro b q
  exact I'.fresh b (Bn q)
 ·intro n o e
  refine x2a3 (I'.objs n o e) fun x d h1 h2 r=>?_
  exact (c2a3 x d h1 h2 (r.mono M fun _ hq=>hq))
 ·refine x3a3 (id Lc.ns) fun o es ep ho hd r=>?_
  by_cases hfr:C.env.locals∈C.fr
  ·obtain ⟨sl,e⟩:=S.slots C.env.locals hfr (fun z=>by
    have z:C.env.locals=L:=z.trans hlo
    rw [z,nL] at ho; exact nsO ho) o ho
   exact Id Lc.ns ho e
  ·have e:=S.keep _ _ ho (nmay _ _ ho (fun z=>(I.sep _ (.inl z)).1 rfl) hfr)
   exact ⟨o,es,ep,e,hd,r⟩
 ·intro i x v a b
  refine x1a2 (Lc.val i x v a b) fun p h1 h2=>?_
  exact (c1a2 p h1 (h2.mono Mm))
 ·intro i x vs a b
  refine x2a5 (Lc.own i x vs a b) fun q its h1 h2 uQ0 h4 h5=>?_; obtain ⟨n,h3⟩:=uQ0
  have hq:q∈g.own:=by rw [h2]; exact vu0.mpr rfl
  refine (c2a5 q its h1 h2 ⟨n,S.keep _ _ h3 (nmay _ _ h3 (fun z=>nd.2.2 q z q hq rfl) (I.sep q (.inr hq)).2.1)⟩ (h4.mono Mm) h5)
theorem GS {x:V} {i:Nat} {σ:H} {r:Option V} {p:Value} (I:Inv prog w T b₀ C g σ h) (V:RvV T C h g x p) (e:yJ x i σ=some r):∃ l its vs,p=.ref l∧h.IsList l its∧VsRel T g.φ (bad C g) h vs its.toList∧r=vs[i]?:=by
 cases x with
 | lst vs=>exact x2a4 (jJ V) fun a its q hl _ V'=>c3a4 a its _ q hl V' (kT0.inj e).symm
 | ref n =>
  refine x1a2 (uM e) fun vs ho e=>?_
  refine x2a4 (yH I V ho) fun y d q _ _ rr=>?_
  cases rr with
  | list hl V' _=>exact (c3a4 _ _ _ q (jY hl) V' (kT0.inj e).symm)
 | _=>exact nsO e
theorem Ot {ρ:List (Option LV)} {σ:H} {v:LV} (h:ρ.length=1):qB ⟨ρ,σ⟩ 0 v=⟨[some v],σ⟩:=by
 cases ρ with
 | nil=>cases h
 | cons a r=>cases r with
  | nil=>rfl
  | cons b r=>cases h
structure CLI (prog:Program) (w:World) (T:TT) (b₀:Heap) (C:Cx) (y:Str) (g₀:G) (h₀:Heap) (s:Shared) (it l acc:uP0) (x:V) (ca:Nat→Nat→H→List V→R V) (r:R V) (n:Nat) (s':Shared) (m2:Str→Option Value) (g2:G) (h2:Heap) (tk2:Nat) (ρ2:List (Option LV)) (σ2:H) (j:Nat) (accV:List V) (its:Array Value):Prop where
 q:s'={s with heap:=h2,toks:=tk2}
 P:Post prog w T b₀ C [y] m2 g₀ h₀ ⟨ρ2,σ2⟩ g2 h2
 t:h2.IsListIter it l j
 V:RvV T C h2 g2 x (.ref l)
 p:h2.PlainList acc its
 A:VsRel T g2.φ (bad C g2) h2 accV.reverse its.toList
 k:accV.length+n=qy
 r:ca n j σ2 accV=r
inductive CLX (prog:Program) (w:World) (T:TT) (b₀:Heap) (C:Cx) (y:Str) (g₀:G) (h₀:Heap) (s:Shared) (it l acc:uP0) (x:V) (ca:Nat→Nat→H→List V→R V) (r:R V) (n:Nat) (s':Shared):Prop where
 | mk {m2:Str→Option Value} {g2:G} {h2:Heap} {tk2:Nat} {ρ2:List (Option LV)} {σ2:H} {j:Nat} {accV:List V} {its:Array Value}:CLI prog w T b₀ C y g₀ h₀ s it l acc x ca r n s' m2 g2 h2 tk2 ρ2 σ2 j accV its→CLX prog w T b₀ C y g₀ h₀ s it l acc x ca r n s'
theorem Nv {y:Str} {yp:Pos} {elt iter:Expr} {scope:Scope} {pos:Pos} {it acc l:uP0} {x:V} {fe:St→R V} {ρC:List (Option LV)} {R':Result→Shared→Prop} {g₀:G} {h₀:Heap}
  (k:COk C [y]) (de:jh prog w T b₀ C [y] (eval elt C.env) fe) (hb₀:∀ b o,b₀.get? b=some o→h₀.get? b=some o) (nit:h₀.get? it=none) (nacc:h₀.get? acc=none) (hacc:C.hid acc) (nfr:acc∉C.fr) (nlo:acc≠C.env.locals) (hia:it≠acc)
  {m1:Str→Option Value} {g1:G} {h1:Heap} {tk1:Nat} {ρ1:List (Option LV)} {σ1:H} (P1:Post prog w T b₀ C [y] m1 g₀ h₀ ⟨ρ1,σ1⟩ g1 h1) (hit:h1.IsListIter it l 0) (V1:RvV T C h1 g1 x (.ref l)) (ha:h1.PlainList acc #[])
  (hq:∀ vs σ',ju x (fun v σ=>fe ⟨[some (.val v)],σ⟩) qy 0 ⟨ρC,σ1⟩ []=.ok (.lst vs) ⟨ρC,σ'⟩→∀ m' ρ' g' h' tk its,Post prog w T b₀ C [y] m' g₀ h₀ ⟨ρ',σ'⟩ g' h'→h'.PlainList acc its→VsRel T g'.φ (bad C g') h' vs its.toList→R' (.ok .next) {s with heap:=h',toks:=tk})
  (hb:(∀ vs σ',ju x (fun v σ=>fe ⟨[some (.val v)],σ⟩) qy 0 ⟨ρC,σ1⟩ []≠.ok (.lst vs) ⟨ρC,σ'⟩)→False) :
  codeAny (model prog w) C.A (.compLoop (.ListComp elt [⟨.Name y yp,iter,[],0⟩] scope pos) 0 (.ref it) (.ref acc) C.env) R' {s with heap:=h1,toks:=tk1}:=by
 refine codeAny_compLoop_list (CLX prog w T b₀ C y g₀ h₀ s it l acc x (fun n j σ=>ju x (fun v σ=>fe ⟨[some (.val v)],σ⟩) n j ⟨ρC,σ⟩) (ju x (fun v σ=>fe ⟨[some (.val v)],σ⟩) qy 0 ⟨ρC,σ1⟩ [])) (fun n s' hI=>?_) qy (.mk (accV:=[]) ⟨rfl,P1,hit,V1,ha,.nil,yI0 _,rfl⟩)
 obtain @⟨m2,g2,h2,tk2,ρ2,σ2,j,accV,its,rfl,P2,hat,V2,hpl,VA,hn,hr⟩:=hI
 cases n with
 | zero =>
  refine (hb fun vs σ' e=>?_).elim
  rw [← hr] at e
  exact boR e
 | succ n =>
  have hr:(match yJ x j σ2 with
   | none=>.bad
   | some none=>.ok (.lst accV.reverse) ⟨ρC,σ2⟩
   | some (some v)=>match fe ⟨[some (.val v)],σ2⟩ with
    | .ok w st2=>ju x (fun v σ=>fe ⟨[some (.val v)],σ⟩) n (j+1) ⟨ρC,st2.σ⟩ (w::accV)
    | _=>.bad)=ju x (fun v σ=>fe ⟨[some (.val v)],σ⟩) qy 0 ⟨ρC,σ1⟩ []:=hr
  cases el:yJ x j σ2 with
  | none =>
   rw [el] at hr
   refine (hb fun vs σ' e=>?_).elim
   rw [← hr] at e
   exact boR e
  | some r =>
   refine x3a4 (GS P2.inv V2 el) fun l' its2 vs2 ql hl VL er=>?_
   cases ql
   have hz:=VL.size
   cases r with
   | none =>
    rw [el] at hr
    have hr:R.ok (V.lst accV.reverse) ⟨ρC,σ2⟩=_:=hr
    have hnone:its2[j]?=none:=by
     have:=wR0.mp er.symm
     exact uA0 (by exact hz▸this)
    refine wpAny_pyNext_list_end (s:={s with heap:=h2,toks:=tk2}) k.hd hat hl hnone fun h3 ext=>?_
    have hitf:∀ o,h2.get? it=some o→∃ vs,o.data=.fields vs:=fun o e=>by
     refine x1a3 hat fun o' e' _ d=>?_
     rw [e'] at e; cases e; exact ⟨_,d⟩
    have PF:=xx hb₀ P2 nit hitf (fun b o n e=>ext b o n e)
    refine x1a1 hpl fun na hpa=>?_
    exact hq accV.reverse σ2 hr.symm m2 ρ2 g2 h3 tk2 its PF.1 ⟨na,ext _ _ (Ne.symm hia) hpa⟩ (VA.mono PF.2)
   | some v =>
    rw [el] at hr
    have hr:(match fe ⟨[some (.val v)],σ2⟩ with
     | .ok w st2=>ju x (fun v σ=>fe ⟨[some (.val v)],σ⟩) n (j+1) ⟨ρC,st2.σ⟩ (w::accV)
     | _=>.bad)=ju x (fun v σ=>fe ⟨[some (.val v)],σ⟩) qy 0 ⟨ρC,σ1⟩ []:=hr
    refine x1a2 (VL.get er.symm) fun p hp W=>?_
    rw [ux0] at hp
    have hitf:∀ o,h2.get? it=some o→∃ vs,o.data=.fields vs:=fun o e=>by
     refine x1a3 hat fun o' e' _ d=>?_
     rw [e'] at e; cases e; exact ⟨_,d⟩
    refine wpAny_pyNext_list_item (s:={s with heap:=h2,toks:=tk2}) hat hl hp fun h3 hit3 sb3=>?_
    have k3:∀ b o,b≠it→h2.get? b=some o→h3.get? b=some o:=fun b o n e=>(sb3.2 b n).trans e
    have PF:=xx hb₀ P2 nit hitf k3
    refine x1a1 (id hpl) fun na hpa=>?_
    have hpa3:h3.get? acc=_:=k3 _ _ (Ne.symm hia) hpa
    have nitl:it≠C.env.locals:=fun q=>by
     refine x3a3 PF.1.loc.ns fun oL es ep hoL hdL _=>?_
     refine x1a3 hit3 fun o' e' _ d=>?_
     rw [← q,e'] at hoL; cases hoL
     rw [d] at hdL; exact qO PySem.Data.ctorIdx hdL rfl
    refine wpAny_assign_Name (uM0 (k.loc y (.head _)) PF.1.loc.ns (fun h4 ns4 sb4=>?_) (yS k))
    have P4:=zI k PF.1.inv PF.1.loc (i:=0) rfl (W.mono PF.2) ns4 sb4
    have hρ:qB ⟨ρ2,σ2⟩ 0 (.val v)=⟨[some (.val v)],σ2⟩:=by
     exact Ot P2.loc.len
    rw [hρ] at P4
    refine de _ g2 {s with heap:=h4,toks:=tk2+1} ⟨[some (.val v)],σ2⟩ P4.inv P4.loc _ _ (fun u st5 e5 g5 h5 tk5 q P5 V5=>?_) (fun st5 e5=>?_) (fun e5=>?_)
    ·rw [e5] at hr
     have hr:ju x (fun v σ=>fe ⟨[some (.val v)],σ⟩) n (j+1) ⟨ρC,st5.σ⟩ (u::accV)=_:=hr
     have PP:Post prog w T b₀ C [y] _ g₀ h₀ st5 g5 h5:=⟨P5.inv,P5.loc,(PF.1.step.trans P4.step).trans P5.step⟩
     have nmay:∀ b,(∃ o,h4.get? b=some o∧∃ vs,o.data=.fields vs)→¬ may C g2 b:=fun b ⟨o,e,vs,d⟩ z=>by
      refine x1a2 (P4.inv.may_there P4.loc (.inl z)) fun o' ho' nf=>?_
      rw [e] at ho'; cases ho'
      exact nf _ d
     have nmacc:¬ may C g2 acc:=fun z=>by
      rcases z with z | z | z | z
      ·exact (P4.inv.sep _ (.inl z)).2.2 hacc
      ·exact (P4.inv.sep _ (.inr z)).2.2 hacc
      ·exact nlo z
      ·exact nfr z
     refine x1a3 hit3 fun oi hoi hci hdi=>?_
     have hoi4:h4.get? it=some oi:=(sb4.2 it nitl).trans hoi
     have hoi5:h5.get? it=some oi:=P5.step.keep _ _ hoi4 (nmay it ⟨oi,hoi4,_,hdi⟩)
     have hpa4:h4.get? acc=_:=(sb4.2 acc nlo).trans hpa3
     have hpa5:h5.get? acc=_:=P5.step.keep _ _ hpa4 nmacc
     have hsz:its.size≤sizeLine:=by
      have h1:=VA.size
      rw [List.length_reverse] at h1
      have h2:qy=1000:=rfl
      rw [uJ0]
      exact far [_,_,_,_] [.eq (.p qb (.p qg qh)) qj,.qe qb qa,.eq qj qG] (.le qa (.n 16777216)) rfl hn h1 h2
     refine wpAny_list_append_plain (s:={s with heap:=h5,toks:=tk5}) ⟨na,hpa5⟩ (fun h6 hpl6 sb6=>?_) hsz
     have PH:=AO hb₀ PP nacc hacc nfr nlo (by refine x1a1 hpl6 fun n6 e6=>?_; exact (c1a2 _ e6 (fun _ q=>by exact qO PySem.Data.ctorIdx q rfl))) (fun b o n e=>(sb6.2 b n).trans e)
     have VA5:VsRel T g5.φ (bad C g5) h5 accV.reverse its.toList:=((VA.mono PF.2).mono P4.step.mono).mono P5.step.mono
     refine (c1a2 n (yM0 n) (.mk ⟨rfl,PH.1,⟨oi,(sb6.2 it hia).trans hoi5,hci,hdi⟩,(((V2.mono PF.2).mono P4.step.mono).mono P5.step.mono).mono PH.2,hpl6,?_,by rw [vr0]; exact yk0 (far [_,_,_] [.eq (.p qa (.p qb qh)) qg] (.le (.p (.p qa qh) qb) qg) rfl hn) (far [_,_,_] [.qe (.p qa (.p qb qh)) qg] (.le qg (.p (.p qa qh) qb)) rfl hn),hr⟩))
     rw [wO0]
     exact (VsRel.push VA5 V5).mono PH.2
    ·rw [e5] at hr
     refine (hb fun vs σ' e=>?_).elim
     rw [← hr] at e
     exact boR e
    ·rw [e5] at hr
     refine (hb fun vs σ' e=>?_).elim
     rw [← hr] at e
     exact boR e
theorem Gn {σ σ':H} {ρ:List (Option LV)} {env:Env} {L acc:uP0} {g':G} (I:Inv prog w T b₀ C g σ h) (Lc:Loc T C g names ρ m h) (nL:h.get? L=none) (hlo:env.locals=L) (hLe:∃ o,h'.get? L=some o∧noF o)
  (I':Inv prog w T b₀ (C.comp g env acc) g' σ' h') (S:Step (C.comp g env acc) ⟨g.φ,g.μ,[]⟩ h g' h') :
  Post prog w T b₀ (C.hide2 C.A L L) names m g h ⟨ρ,σ'⟩ ⟨g'.φ,g'.μ,g.own⟩ h'∧Mono g'.φ g'.φ (bad (C.comp g env acc) g') (bad (C.hide2 C.A L L) ⟨g'.φ,g'.μ,g.own⟩) h' h':=by
 have LP:=Jm I Lc nL hlo I' S
 have Po:=LP.1
 have P1:=Po.inv
 have P2:=Po.loc
 have toBad:∀ b,bad (C.hide2 C.A L L) ⟨g'.φ,g'.μ,g.own⟩ b→bad C ⟨g'.φ,g'.μ,g.own⟩ b∨b=L:=fun b q=>by
  rcases q with q | q | q | q
  ·exact .inl (.inl q)
  ·exact .inl (.inr q)
  ·exact .inr q
  ·exact .inr q
 have toBad2:∀ b,bad (C.hide2 C.A L L) ⟨g'.φ,g'.μ,g.own⟩ b→bad (C.comp g env acc) g' b:=fun b q=>by
  rcases toBad b q with q | q
  ·exact Bn q
  ·exact .inl (.inr (.inr (.inl (q.trans hlo.symm))))
 have M:Mono g'.φ g'.φ (bad (C.comp g env acc) g') (bad (C.hide2 C.A L L) ⟨g'.φ,g'.μ,g.own⟩) h' h':=⟨vw0,fun _ _ e _ _=>e,fun _ _ _ n q=>n (toBad2 _ q)⟩
 have S':=Po.step
 have Mm:Mono g.φ g'.φ (bad C g) (bad (C.hide2 C.A L L) ⟨g'.φ,g'.μ,g.own⟩) h h':=⟨S'.φ,S'.mono.keep,fun a o e n q=>by
  rcases toBad a q with q | q
  ·exact S'.mono.good a o e n q
  ·rw [q,nL] at e; exact nsO e⟩
 refine ⟨⟨⟨P1.lφ,P1.lμ,P1.nodup,fun b q=>?_,fun b q=>I'.fresh b (toBad2 b q),P1.stay,P1.frames,fun n o e=>?_,fun b q=>?_,P1.ownT⟩,⟨P2.ns,fun i y v a b=>?_,fun i y vs a b=>?_,Lc.one,Lc.len⟩,S'.φ,S'.μ,S'.newμ,S'.newOwn,S'.keep,S'.slots,S'.there⟩,M⟩
 ·have sp:=P1.sep b q
  refine (yD sp.1 sp.2.1 ?_)
  have nL':b≠L:=fun z=>by
   rcases q with q | q
   ·exact (I'.sep b (.inl q)).1 (z.trans hlo.symm)
   ·refine x1a2 (I.ownT b q) fun o e _=>?_
    rw [z,nL] at e; exact nsO e
  rintro (z | z | z)
  ·exact sp.2.2 z
  ·exact nL' z
  ·exact nL' z
 ·refine x2a3 (I'.objs n o e) fun y z h1 h2 r=>?_
  exact (c2a3 y z h1 h2 (r.mono M fun q hq=>hq))
 ·rcases q with q | q | q
  ·exact P1.hidden b q
  ·rw [q]; exact hLe
  ·rw [q]; exact hLe
 ·refine x1a2 (Lc.val i y v a b) fun p h1 h2=>?_; exact (c1a2 p h1 (h2.mono Mm))
 ·refine x2a5 (Lc.own i y vs a b) fun q its h1 h2 h3 h4 h5=>?_
  refine x2a5 (P2.own i y vs a b) fun q' its' h1' h2' h3' h4' h5'=>?_
  rw [h1] at h1'; cases h1'
  have e:its'=its:=by
   refine x1a1 h3 fun n3 e3=>?_
   refine x1a1 h3' fun n3' e3'=>?_
   have hq:q∈g.own:=by rw [h2]; exact vu0.mpr rfl
   have nd:=I.nodup
   rw [vA0] at nd
   have:=S.keep q _ e3 (fun z=>by
    rcases z with z | z | z | z
    ·exact nd.2.2 q z q hq rfl
    ·exact zv z
    ·have z:q=L:=z.trans hlo
     rw [z,nL] at e3; exact nsO e3
    ·exact (I.sep q (.inr hq)).2.1 z)
   rw [e3'] at this
   cases this
   rfl
  subst e
  exact (c2a5 q its' h1 h2 h3' (h4.mono Mm) h5)
theorem Av {y:Str} {yp:Pos} {elt iter:Expr} {scope:Scope} {pos:Pos} {n:Nat} {x:V} {p:Value} {ρ:List (Option LV)} {σ:H} {fe:St→R V} {RR:Value→Env→Result→Shared→Prop} {E:Value→Shared→Prop}
  (k:COk C names) (ao:AOk C n) (hcell:∀ z∈scope.names,z.2≠.cell) (hkind:scope.kind=.function) (hy:scope.names.lookup y=some .local) (hdbg:(y==("__debug__" : Str))=false)
  (de:∀ C',COk C' [y]→AOk C' n→C'.env.scope=scope→jh prog w T b₀ C' [y] (eval elt C'.env) fe)
  (I:Inv prog w T b₀ C g σ s.heap) (L:Loc T C g names ρ m s.heap) (V:RvV T C s.heap g x p)
  (hq:∀ vs σ',ju x (fun v σ=>fe ⟨[some (.val v)],σ⟩) qy 0 ⟨ρ,σ⟩ []=.ok (.lst vs) ⟨ρ,σ'⟩→∀ g' h' tk acc L2,s.heap.get? L2=none→(L2∉C.fr∧L2≠C.env.locals∧¬ C.hid L2)→(∃ m',h'.Ns L2 m')→Post prog w T b₀ (C.hide2 C.A L2 L2) names m g s.heap ⟨ρ,σ'⟩ g' h'→RvV T (C.hide2 C.A L2 L2) h' g' (.lst vs) (.ref acc)→RR (.ref acc) (compEnv scope L2 C.env) (.ok .next) {s with heap:=h',toks:=tk})
  (hb:(∀ vs σ',ju x (fun v σ=>fe ⟨[some (.val v)],σ⟩) qy 0 ⟨ρ,σ⟩ []≠.ok (.lst vs) ⟨ρ,σ'⟩)→False) :
  wpAny (model prog w) C.A (pyIter p) (fun it s₂=>wpAny (model prog w) C.A (newList []) (fun acc s₃ =>
   wpAny (model prog w) C.A (newFunctionEnv scope C.env.globals [] [] C.env.qual none .none (some C.env)) (fun cenv s₄ =>
    codeAny (model prog w) C.A (.compStart (.ListComp elt [⟨.Name y yp,iter,[],0⟩] scope pos) 0 it acc {cenv with scope:=scope}) (RR acc {cenv with scope:=scope}) s₄) E s₃) E s₂) E s:=by
 cases el:yJ x 0 σ with
 | none =>
  refine (hb fun vs σ' e=>?_).elim
  have e:(match yJ x 0 σ with
   | none=>.bad
   | some none=>.ok (.lst []) ⟨ρ,σ⟩
   | some (some v)=>match fe ⟨[some (.val v)],σ⟩ with
    | .ok w st2=>ju x (fun v σ=>fe ⟨[some (.val v)],σ⟩) 999 1 ⟨ρ,st2.σ⟩ [w]
    | _=>.bad)=R.ok (Mine.V.lst vs) ⟨ρ,σ'⟩:=e
  rw [el] at e
  exact boR e
 | some r0 =>
  refine x3a4 (GS I V el) fun l its0 vs0 uQ0 hl _ _=>?_; subst uQ0
  refine wpAny_pyIter_list hl (wpAny_newList (wpAny_newFunctionEnv hcell (by intro z hz; simp at hz) (fun h4 ns4 sb4=>?_) hkind) (by rw [uJ0]; decide))
  dsimp only at ns4 sb4 ⊢
  generalize hH1:s.heap.push {cls:=.type "list_iterator",data:=.fields #[.ref l,.int 0 0]}=H1 at ns4 sb4 ⊢
  have hA:H1.objs.size=s.heap.objs.size+1:=by rw [← hH1,Heap.size_push]
  generalize hH2:H1.push {cls:=.type "list",data:=.seq ([]:List Value).toArray}=H2 at ns4 sb4 ⊢
  have hL2:H2.objs.size=s.heap.objs.size+2:=by rw [← hH2,Heap.size_push,hA]
  have none_of:∀ a,s.heap.objs.size≤a→s.heap.get? a=none:=fun a ha=>Heap.get?_none_of_le ha
  have n1:H1.objs.size≠s.heap.objs.size:=by rw [hA]; exact yE0 _
  have n2:H1.objs.size≠H2.objs.size:=by rw [hA,hL2]; exact yJ0 (yM0 _)
  have n3:s.heap.objs.size≠H2.objs.size:=by rw [hL2]; exact yJ0 (yU0 (yM0 _))
  have up:∀ b o,b≠H2.objs.size→H2.get? b=some o→h4.get? b=some o:=fun b o nb e=>(sb4.2 b nb).trans (Heap.get?_push_of_some _ e)
  have kp:∀ b o,s.heap.get? b=some o→h4.get? b=some o:=fun b o e=>by
   have hlt:=Heap.lt_size e
   refine up b o (by rw [hL2]; exact yJ0 (yU0 (yU0 hlt))) ?_
   rw [← hH2]
   refine Heap.get?_push_of_some _ ?_
   rw [← hH1]
   exact Heap.get?_push_of_some _ e
  have hit:h4.IsListIter s.heap.objs.size l 0:=by
   refine ⟨{cls:=.type "list_iterator",data:=.fields #[.ref l,.int 0 0]},up _ _ n3 ?_,rfl,rfl⟩
   rw [← hH2]
   refine Heap.get?_push_of_some _ ?_
   rw [← hH1]
   exact Heap.get?_push_size _ rfl
  have hacc:h4.PlainList H1.objs.size #[]:=by
   refine ⟨0,up _ _ n2 ?_⟩
   rw [← hH2]
   exact Heap.get?_push_size _ rfl
  have nL:=none_of H2.objs.size (by rw [hL2]; exact yN0 _ _)
  have nA:=none_of H1.objs.size (by rw [hA]; exact yN0 _ _)
  refine x1a1 (id hacc) fun na hna=>?_
  have EC:=Ju (env:=compEnv scope H2.objs.size C.env) (L:=H2.objs.size) (acc:=H1.objs.size) I L nL nA (Ne.symm n2) rfl kp ns4 (c1a2 _ hna (fun _ q=>by exact qO PySem.Data.ctorIdx q rfl))
  have there:∀ b,(b∈C.fr∨b=C.env.locals∨C.hid b∨b∈g.own)→∃ o,s.heap.get? b=some o:=by
   intro b q
   rcases q with q | q | q | q
   ·exact (vt I.frames q).imp fun _ z=>z.1
   ·rw [q]; refine x3a2 L.ns fun o _ _ e _=>?_; exact ⟨o,e⟩
   ·exact (I.hidden b q).imp fun _ z=>z.1
   ·exact (I.ownT b q).imp fun _ z=>z.1
  have apart:∀ b,(b∈C.fr∨b=C.env.locals∨C.hid b∨b∈g.own)→b≠H1.objs.size∧b≠H2.objs.size:=fun b q=>by
   refine x1a1 (there b q) fun o e=>?_
   exact ⟨fun z=>(by rw [z,nA] at e; exact nsO e),fun z=>(by rw [z,nL] at e; exact nsO e)⟩
  refine x3a3 k.top fun envF outer Lf t1 t2 t3=>?_
  have CK:COk (C.comp g (compEnv scope H2.objs.size C.env) H1.objs.size) [y]:={
   kind:=hkind
   loc:=fun z hz=>by rw [vu0.mp hz]; exact hy
   nodup:=by simp
   dbg:=fun z hz=>by rw [vu0.mp hz]; exact hdbg
   gl:=k.gl
   bl:=k.bl
   fr:=k.fr
   hd:=k.hd
   top:=(c3a3 envF outer Lf t1 t2 t3)}
  have AK:AOk (C.comp g (compEnv scope H2.objs.size C.env) H1.objs.size) n:=⟨ao.fr,ao.hd,ao.room⟩
  have LC:Loc T (C.comp g (compEnv scope H2.objs.size C.env) H1.objs.size) ⟨g.φ,g.μ,[]⟩ [y] [none] (fun x=>([]:List (Str×Value)).reverse.lookup x) h4:={
   ns:=ns4
   val:=fun i z v hz hv=>by
    cases i with
    | zero=>cases hv
    | succ i=>exact nsO hv
   own:=fun i z v hz hv=>by
    cases i with
    | zero=>cases hv
    | succ i=>exact nsO hv
   one:=fun i j vs ws h1 h2=>by
    cases i with
    | zero=>cases h1
    | succ i=>exact nsO h1
   len:=rfl}
  have P1:Post prog w T b₀ (C.comp g (compEnv scope H2.objs.size C.env) H1.objs.size) [y] (fun x=>([]:List (Str×Value)).reverse.lookup x) ⟨g.φ,g.μ,[]⟩ s.heap ⟨[none],σ⟩ ⟨g.φ,g.μ,[]⟩ h4:=⟨EC.1,LC,Step.keeps kp⟩
  have loop:∀ tk,codeAny (model prog w) C.A (.compLoop (.ListComp elt [⟨.Name y yp,iter,[],0⟩] scope pos) 0 (.ref s.heap.objs.size) (.ref H1.objs.size) (compEnv scope H2.objs.size C.env)) (RR (.ref H1.objs.size) (compEnv scope H2.objs.size C.env)) {s with heap:=h4,toks:=tk}:=fun tk=>by
   refine Nv (C:=C.comp g (compEnv scope H2.objs.size C.env) H1.objs.size) (s:=s) (ρC:=ρ) (x:=x) CK (de _ CK AK rfl) I.stay (jd _) nA (.inr (.inr (.inr rfl))) (fun z=>(apart _ (.inl z)).1 rfl) n2 (Ne.symm n1) P1 hit (V.mono EC.2) hacc (fun vs σ' e m' ρ' g' h' tk' its PP hpl VA=>?_) hb
   refine x3a3 (id PP.loc.ns) fun oL es ep hoL hdL rL=>?_
   have LP:=Gn (env:=compEnv scope H2.objs.size C.env) (L:=H2.objs.size) (acc:=H1.objs.size) I L nL rfl (c1a2 oL hoL (fun vs q=>by rw [hdL] at q; exact qO PySem.Data.ctorIdx q rfl)) PP.inv PP.step
   refine hq vs σ' e ⟨g'.φ,g'.μ,g.own⟩ h' tk' H1.objs.size H2.objs.size nL (yD (fun z=>(apart _ (.inl z)).2 rfl) (fun z=>(apart _ (.inr (.inl z))).2 rfl) (fun z=>(apart _ (.inr (.inr (.inl z)))).2 rfl)) ⟨m',PP.loc.ns⟩ LP.1 (.lst (jY hpl) ?_ (VA.mono LP.2))
   rintro ((q | q | q | q) | q | q | q)
   ·exact (PP.inv.sep _ (.inl q)).2.2 (.inr (.inr (.inr rfl)))
   ·exact (apart _ (.inr (.inr (.inr q)))).1 rfl
   ·exact (apart _ (.inr (.inl q))).1 rfl
   ·exact (apart _ (.inl q)).1 rfl
   ·exact (apart _ (.inr (.inr (.inl q)))).1 rfl
   ·exact n2 q
   ·exact n2 q
  exact codeAny_compStart_list (loop _) (wpAny_pyIter_listiter hit (loop _))
theorem IE {A:Around} {L:uP0} {st:St} {g':G} {h'':Heap} (Po:Post prog w T b₀ (C.hide2 A L L) names m g h st g' h') (stay:∀ b o,b₀.get? b=some o→h.get? b=some o) (nL:h.get? L=none) (nf:L∉C.fr∧L≠C.env.locals∧¬ C.hid L) (k:∀ b o,b≠L→h'.get? b=some o→h''.get? b=some o) :
  Post prog w T b₀ C names m g h st g' h''∧Mono g'.φ g'.φ (bad (C.hide2 A L L) g') (bad C g') h' h'':=by
 have I:=Po.inv
 have Lc:=Po.loc
 have S:=Po.step
 have bL:bad (C.hide2 A L L) g' L:=.inr (.inr (.inl rfl))
 have M:Mono g'.φ g'.φ (bad (C.hide2 A L L) g') (bad C g') h' h'':=⟨vw0,fun a o e n _=>k a o (fun z=>n (z▸bL)) e,fun _ _ _ n q=>n (q.elim (fun q=>.inl q) fun q=>.inr (.inl q))⟩
 have old:∀ b o,h.get? b=some o→b≠L:=fun b o e z=>by rw [z,nL] at e; exact nsO e
 have sepL:∀ b,b∈g'.μ∨b∈g'.own→b≠L:=fun b q z=>(I.sep b q).2.2 (.inr (.inl z))
 refine ⟨⟨⟨I.lφ,I.lμ,I.nodup,fun b q=>?_,fun b q=>I.fresh b (q.elim (fun q=>.inl q) fun q=>.inr (.inl q)),fun b o e=>k b o (old b o (stay b o e)) (I.stay b o e),?_,fun n o e=>?_,fun b q=>?_,fun b q=>?_⟩,⟨?_,fun i y v a b=>?_,fun i y vs a b=>?_,Lc.one,Lc.len⟩,S.φ,S.μ,S.newμ,S.newOwn,fun b o e n=>k b o (old b o e) (S.keep b o e n),fun b q n o e=>?_,fun b o e=>?_⟩,M⟩
 ·have sp:=I.sep b q
  exact (yD sp.1 sp.2.1 (fun z=>sp.2.2 (.inl z)))
 ·exact zq I.frames fun b o hb e n=>(c1a2 o (k b o (fun z=>nf.1 (z▸hb)) e) n)
 ·refine x2a3 (I.objs n o e) fun y z h1 h2 r=>?_
  exact (c2a3 y z h1 h2 (r.mono M fun q hq=>k z q (sepL z (.inl (vx0 h2))) hq))
 ·refine x1a2 (I.hidden b (.inl q)) fun o e n=>?_
  exact (c1a2 o (k b o (fun z=>nf.2.2 (z▸q)) e) n)
 ·refine x1a2 (I.ownT b q) fun o e n=>?_
  exact (c1a2 o (k b o (sepL b (.inr q)) e) n)
 ·refine x3a2 Lc.ns fun o es ep e r=>?_
  exact ⟨o,es,ep,k _ _ (fun z=>nf.2.1 z.symm) e,r⟩
 ·refine x1a2 (Lc.val i y v a b) fun p h1 h2=>?_; exact (c1a2 p h1 (h2.mono M))
 ·refine x2a5 (Lc.own i y vs a b) fun q its h1 h2 uQ0 h4 h5=>?_; obtain ⟨n,h3⟩:=uQ0
  exact (c2a5 q its h1 h2 ⟨n,k _ _ (sepL q (.inr (by rw [h2]; exact vu0.mpr rfl))) h3⟩ (h4.mono M) h5)
 ·refine x1a1 (S.slots b q n o e) fun sl e'=>?_
  exact ⟨sl,k b _ (old b o e) e'⟩
 ·refine x1a2 (S.there b o e) fun o₁ e₁ n₁=>?_
  exact (c1a2 o₁ (k b _ (old b o e) e₁) n₁)
theorem yY {x:V} {f:V→H→R V}:∀ (n i:Nat) (ρ:List (Option LV)) (σ:H) (acc:List V),ju x f n i ⟨ρ,σ⟩ acc=.bad∨∃ vs σ',ju x f n i ⟨ρ,σ⟩ acc=.ok (.lst vs) ⟨ρ,σ'⟩
 | 0,_,_,_,_=>.inl rfl
 | n+1,i,ρ,σ,acc=>by
  have e:ju x f (n+1) i ⟨ρ,σ⟩ acc=(match yJ x i σ with
   | none=>.bad
   | some none=>.ok (.lst acc.reverse) ⟨ρ,σ⟩
   | some (some v)=>match f v σ with
    | .ok w st2=>ju x f n (i+1) ⟨ρ,st2.σ⟩ (w::acc)
    | _=>.bad):=rfl
  rw [e]
  cases yJ x i σ with
  | none=>exact .inl rfl
  | some r =>
   cases r with
   | none=>exact .inr (c2a1 _ _ rfl)
   | some v =>
    dsimp only
    cases f v σ with
    | ok w st2=>exact yY n (i+1) ρ st2.σ (w::acc)
    | exc _=>exact .inl rfl
    | bad=>exact .inl rfl
theorem Np {y:Str} {yp:Pos} {elt iter:Expr} {scope:Scope} {pos:Pos} {n:Nat} {fe fi:St→R V} (B:BOk K b₀)
  (k:COk C names) (ao:AOk C n) (hcell:∀ z∈scope.names,z.2≠.cell) (hfree:∀ z∈scope.names,z.2≠.free) (hnames:∀ z∈scope.names,z.2=.local→scope.names.lookup z.1=some .local) (hkind:scope.kind=.function) (hy:scope.names.lookup y=some .local) (hdbg:(y==("__debug__" : Str))=false) (hns:vP iter=true)
  (de:∀ C',COk C' [y]→AOk C' n→C'.env.scope=scope→jh prog w T b₀ C' [y] (eval elt C'.env) fe) (di:jh prog w T b₀ C names (eval iter C.env) fi) :
  jh prog w T b₀ C names (eval (.ListComp elt [⟨.Name y yp,iter,[],0⟩] scope pos) C.env) (fun st=>(fi st).bind fun x st=>ju x (fun v σ=>fe ⟨[some (.val v)],σ⟩) qy 0 st []):=by
 intro m g s st I L Q E hq he hb
 refine wpAny_ListComp hfree hkind hnames (di m g s st I L _ _ (fun x st1 e1 g1 h1 tk1 p P1 V1=>?_) (fun st1 e1=>he st1 (by show (fi st).bind _=_; rw [e1]; rfl)) (fun e1=>hb (by show (fi st).bind _=_; rw [e1]; rfl))) (zV hns C.env)
 have e2:∀ r,ju x (fun v σ=>fe ⟨[some (.val v)],σ⟩) qy 0 ⟨st1.ρ,st1.σ⟩ []=r→(fi st).bind (fun x st=>ju x (fun v σ=>fe ⟨[some (.val v)],σ⟩) qy 0 st [])=r:=fun r e=>by rw [e1]; exact e
 refine Av (RR:=fun acc cenv r s'=>∃ m,s'.heap.Ns cenv.locals m∧∀ h',Heap.SameBut cenv.locals s'.heap h'→match r with | .ok _=>Q acc {s' with heap:=h'} | .error x=>wpAny (model prog w) C.A (passOn "comprehension.variables-let-go" x cenv) Q E {s' with heap:=h'}) (s:={s with heap:=h1,toks:=tk1}) k ao hcell hkind hy hdbg de P1.inv P1.loc V1 (fun vs σ' e g' h' tk acc L2 nL nf hns PP VV=>?_) (fun q=>?_)
 ·refine x1a1 hns fun m' hns=>?_
  refine (c1a2 m' hns (fun h'' sb=>?_))
  have DH:=IE PP P1.inv.stay nL nf (fun b o n e=>(sb.2 b n).trans e)
  exact hq (.lst vs) ⟨st1.ρ,σ'⟩ (e2 _ e) g' h'' tk _ (P1.trans DH.1) (VRel.mono DH.2 VV)
 ·rcases yY (x:=x) (f:=fun v σ=>fe ⟨[some (.val v)],σ⟩) qy 0 st1.ρ st1.σ [] with e | ⟨vs,σ',e⟩
  ·exact hb (e2 _ e)
  ·exact q vs σ' e
theorem Dx {x y:Str} {i:Nat} {yp xp apos:Pos} {elt iter:Expr} {scope:Scope} {pos:Pos} {n:Nat} {fe fi:St→R V} (B:BOk K b₀) (hi:names[i]?=some x)
  (k:COk C names) (ao:AOk C n) (hcell:∀ z∈scope.names,z.2≠.cell) (hfree:∀ z∈scope.names,z.2≠.free) (hnames:∀ z∈scope.names,z.2=.local→scope.names.lookup z.1=some .local) (hkind:scope.kind=.function) (hy:scope.names.lookup y=some .local) (hdbg:(y==("__debug__" : Str))=false) (hns:vP iter=true)
  (hline:(xp.line==pos.line)=true) (hnx:(scope.names.any fun (n,k)=>n==x&&(k==.local||k==.cell))=false)
  (de:∀ C',COk C' [y]→AOk C' n→C'.env.scope=scope→jh prog w T b₀ C' [y] (eval elt C'.env) fe) (di:jh prog w T b₀ C names (eval iter C.env) fi) :
  xX prog w T b₀ C names (exec (.Assign [.Name x xp] (.ListComp elt [⟨.Name y yp,iter,[],0⟩] scope pos) apos) C.env) (fun st=>((fi st).bind fun x st=>ju x (fun v σ=>fe ⟨[some (.val v)],σ⟩) qy 0 st []).bind fun v st=>.ok .next (qB st i (.val v))):=by
 intro m g s st I L Q E hq he hb
 have hxm:=vx0 hi
 have hsw:swapsWith (.ListComp elt [⟨.Name y yp,iter,[],0⟩] scope pos) (some (.Name x xp)) apos.line C.env=pure true:=by
  show pure (C.env.blockKind==.function&&C.env.kindOf x==some .local&&xp.line==pos.line&&!(scope.names.any fun (n,k)=>n==x&&(k==.local||k==.cell)))=_
  have hbk:C.env.blockKind=.function:=by
   unfold Env.blockKind
   rw [k.kind]
   rfl
  rw [hbk,k.loc x hxm,hline,hnx]
  rfl
 rw [exec_Assign_Name_used _ _ _ _ hsw,arm_evalThenUse_ListComp]
 refine uF0 (uI0 (uF0 (uF0 ?_)))
 refine wpAny_comprehension_use rfl (zV hns C.env) hfree hkind hnames (di m g s st I L _ _ (fun x' st1 e1 g1 h1 tk1 p P1 V1=>?_) (fun st1 e1=>?_) (fun e1=>hb (by show ((fi st).bind _).bind _=_; rw [e1]; rfl)))
 ·have e2:∀ r,ju x' (fun v σ=>fe ⟨[some (.val v)],σ⟩) qy 0 ⟨st1.ρ,st1.σ⟩ []=r→(fi st).bind (fun x st=>ju x (fun v σ=>fe ⟨[some (.val v)],σ⟩) qy 0 st [])=r:=fun r e=>by rw [e1]; exact e
  refine Av (E:=E) (RR:=fun acc cenv r s'=>match r with
     | .ok _=>wpAny (model prog w) C.A (assign (.Name x xp) C.env acc) (fun _ s''=>∃ m,s''.heap.Ns cenv.locals m∧∀ h',Heap.SameBut cenv.locals s''.heap h'→wpAny (model prog w) C.A (pure ()) (fun _ s3=>wpAny (model prog w) C.A (pure PySem.Flow.next) Q E s3) E {s'' with heap:=h'}) E s'
     | .error x=>∃ m,s'.heap.Ns cenv.locals m∧∀ h',Heap.SameBut cenv.locals s'.heap h'→wpAny (model prog w) C.A (passOn "comprehension.variables-let-go" x cenv) (fun _ s2=>wpAny (model prog w) C.A (pure ()) (fun _ s3=>wpAny (model prog w) C.A (pure PySem.Flow.next) Q E s3) E s2) E {s' with heap:=h'}) (s:={s with heap:=h1,toks:=tk1}) k ao hcell hkind hy hdbg de P1.inv P1.loc V1 (fun vs σ' e g' h' tk acc L2 nL nf hns PP VV=>?_) (fun q=>?_)
  ·refine x1a1 hns fun m' uQ0=>?_; obtain ⟨oL,es,ep,hoL,rL⟩:=uQ0
   have k':COk (C.hide2 C.A L2 L2) names:=⟨k.kind,k.loc,k.nodup,k.dbg,k.gl,k.bl,k.fr,k.hd,k.top⟩
   refine wpAny_assign_Name (uM0 (k.loc x hxm) PP.loc.ns (fun h5 ns5 sb5=>?_) (yS k))
   have P5:=zI k' PP.inv PP.loc hi VV ns5 sb5
   have PP5:Post prog w T b₀ (C.hide2 C.A L2 L2) names _ g1 h1 (qB ⟨st1.ρ,σ'⟩ i (.val (.lst vs))) g' h5:=⟨P5.inv,P5.loc,PP.step.trans P5.step⟩
   refine (c1a2 m' ⟨oL,es,ep,(sb5.2 _ nf.2.1).trans hoL,rL⟩ (fun h'' sb=>uG0 (uG0 ?_)))
   have DH:=IE PP5 P1.inv.stay nL nf (fun b o n e=>(sb.2 b n).trans e)
   refine hq .next (qB ⟨st1.ρ,σ'⟩ i (.val (.lst vs))) ?_ _ g' h'' _ .next ⟨DH.1.inv,DH.1.loc,P1.step.trans DH.1.step⟩ .next
   show ((fi st).bind _).bind _=_
   rw [e2 _ e]
   rfl
  ·rcases yY (x:=x') (f:=fun v σ=>fe ⟨[some (.val v)],σ⟩) qy 0 st1.ρ st1.σ [] with e | ⟨vs,σ',e⟩
   ·exact hb (by show ((fi st).bind _).bind _=_; rw [e2 _ e]; rfl)
   ·exact q vs σ' e
 ·intro g1 h1 tk1 q P1 F1
  exact he st1 (by show ((fi st).bind _).bind _=_; rw [e1]; rfl) m g1 h1 tk1 q P1 F1
end
noncomputable def ZM (v:V) (c:Const):Bool:=match v with
 | .none=>c==.none
 | .bool a=>c==.bool a
 | .int a=>c==.int a
 | .str x=>c==.str (toS x)
 | _=>false
noncomputable def qN0:Value→Option Str
 | .str y _=>some y
 | _=>none
noncomputable def zv0:Value→Option Int
 | .int y _=>some y
 | _=>none
noncomputable def YM:Value→Option Bool
 | .bool y=>some y
 | _=>none
noncomputable def UY:Value→Option uP0
 | .ref y=>some y
 | _=>none
noncomputable def NV:Value→Bool
 | .none=>true
 | _=>false
theorem GR {d:Value} {q:Str→Bool} (h:(qN0 d).any q=true):∃ y t,d=.str y t∧q y=true:=by
 cases d with
 | str y t=>exact (c2a2 _ _ rfl h)
 | _=>exact ftB h
theorem NW {d:Value} {q:Int→Bool} (h:(zv0 d).any q=true):∃ y t,d=.int y t∧q y=true:=by
 cases d with
 | int y t=>exact (c2a2 _ _ rfl h)
 | _=>exact ftB h
theorem JU {d:Value} {q:Bool→Bool} (h:(YM d).any q=true):∃ y,d=.bool y∧q y=true:=by
 cases d with
 | bool y=>exact (c1a2 _ rfl h)
 | _=>exact ftB h
theorem wB {d:Value} {q:uP0→Bool} (h:(UY d).any q=true):∃ y,d=.ref y∧q y=true:=by
 cases d with
 | ref y=>exact (c1a2 _ rfl h)
 | _=>exact ftB h
theorem wW {d:Value} (h:NV d=true):d=.none:=by
 cases d with
 | none=>rfl
 | _=>exact ftB h
noncomputable def XQ (v:V) (p:Value):Bool:=match v with
 | .none=>NV p
 | .bool a=>(YM p).any fun b=>b==a
 | .int a=>(zv0 p).any fun b=>b==a
 | .str x=>(qN0 p).any fun y=>y==toS x
 | _=>false
noncomputable def qE0 (q:V→Value→Bool):List V→List Value→Bool
 | [],ps=>ps.isEmpty
 | v::vs,ps=>(match ps with
  | []=>false
  | p::ps=>q v p&&qE0 q vs ps)
termination_by structural vs=>vs
noncomputable def qA0:Data→Option (Array Value×Nat)
 | .seq its n=>some (its,n)
 | _=>none
theorem AM {d:Data} {p:Array Value×Nat} (h:qA0 d=some p):d=.seq p.1 p.2:=by
 cases d with
 | seq its n=>rw [← kT0.inj h]
 | _=>exact nsO h
noncomputable def Om (K:Frag) (a:uP0):Option (Array Value):=(K.lookup a).bind fun o=>if o.cls==.type "tuple" then (qA0 o.data).map (·.1) else none
noncomputable def ZL (K:Frag):Nat→V→Value→Bool
 | 0,v,p=>XQ v p
 | n+1,v,p=>(match v with
  | .tup vs=>(UY p).any fun a=>(Om K a).any fun its=>qE0 (ZL K n) vs its.toList
  | v=>XQ v p)
termination_by structural n=>n
section
variable {prog:Program} {w:World} {K:Frag} {T:TT} {b₀:Heap} {C:Cx} {nm names:List Str} {m:Str→Option Value} {g:G} {h h':Heap} {s:Shared} {an mn:Nat→Str} {P:P}
theorem II {v:V} {c:Const} {k:Nat} {pos:Pos} (e:ZM v c=true):jh prog w T b₀ C names (eval (.Constant c k pos) C.env) (fun st=>.ok v st):=by
 intro m g s st I L
 cases v <;> first | exact ftB e | rw [show c=_ from beq_iff_eq.mp e]
 ·exact Qr I L
 ·exact Qv I L
 ·exact Yt I L
 ·exact Yr rfl I L
theorem BS {bd:uP0→Prop} {φ:List uP0} {v:V} {p:Value} (e:XQ v p=true):VRel T φ bd h v p:=by
 cases v <;> first | exact ftB e | skip
 ·rw [wW e]; exact .none
 ·refine x1a2 (JU e) fun y uQ0 hy=>?_; subst uQ0; rw [beq_iff_eq.mp hy]; exact .bool _
 ·refine x2a2 (NW e) fun y t uQ0 hy=>?_; subst uQ0; rw [beq_iff_eq.mp hy]; exact .int _ _
 ·refine x2a2 (GR e) fun y t uQ0 hy=>?_; subst uQ0; rw [beq_iff_eq.mp hy]; exact .str _ _
theorem Kp {a:uP0} {its:Array Value} (e:Om K a=some its):∃ d ep sl,K.lookup a=some ⟨.type "tuple",d,.seq its ep,sl⟩:=by
 refine x1a2 (kU0.mp e) fun o hl e=>?_
 have e:=ift e
 obtain ⟨c,d,dt,sl⟩:=o
 refine x1a2 (kS0.mp e.2) fun p hp q=>(c3a1 d p.2 sl (by rw [hl,← q,show c=_ from beq_iff_eq.mp e.1,show dt=_ from AM hp]))
theorem Io {q:V→Value→Bool} {bd:uP0→Prop} {φ:List uP0} (hq:∀ v p,q v p=true→VRel T φ bd h v p):∀ (vs:List V) (ps:List Value),qE0 q vs ps=true→VsRel T φ bd h vs ps
 | [],ps,e=>by rw [show ps=[] from vW0.mp e]; exact .nil
 | v::vs,[],e=>ftB e
 | v::vs,p::ps,e=>have e:=uf0.mp e; .cons (hq v p e.1) (Io hq vs ps e.2)
theorem Im {st:b₀.StaysIn h} {bd:uP0→Prop} {φ:List uP0} (X:K.In b₀) (nb:∀ a o,b₀.get? a=some o→¬ bd a):∀ (n:Nat) (v:V) (p:Value),ZL K n v p=true→VRel T φ bd h v p
 | 0,v,p,e=>BS e
 | n+1,v,p,e=>by
  cases v
  case tup vs =>
   refine x1a2 (wB (show ((UY p).any fun a=>(Om K a).any fun its=>qE0 (ZL K n) vs its.toList)=true from e)) fun a uQ0 e2=>?_; subst uQ0
   clear e
   cases hs:Om K a with
   | none=>rw [hs] at e2; exact ftB e2
   | some its =>
    rw [hs] at e2
    refine x3a1 (Kp hs) fun d ep sl ho=>?_
    exact .tup ⟨_,st _ _ (X _ _ ho),rfl,ep,rfl⟩ (nb _ _ (X _ _ ho)) (Io (Im (st:=st) X nb n) vs its.toList e2)
  all_goals exact BS e
theorem vr {neg:Bool} {x y:V} {σ:H} {v:Bool} (e:xl neg x y σ=some v):(neg=false∨∀ z,y≠.str z)∧jC0 x y σ=some v:=by
 refine ⟨?_,(ifn e).2⟩
 cases neg with
 | false=>exact .inl rfl
 | true=>exact .inr fun z q=>(ifn e).1 (by rw [q]; rfl)
theorem Yw {l r:Expr} {pos:Pos} {neg:Bool} {fl fr:St→R V} (B:BOk K b₀) (hm:behindInMarks (UB neg) r=false) (dl:jh prog w T b₀ C names (eval l C.env) fl) (dr:jh prog w T b₀ C names (eval r C.env) fr) :
  jh prog w T b₀ C names (eval (.Compare l [UB neg] [r] pos) C.env) (fun st=>(fl st).bind fun x st=>(fr st).bind fun y st=>match xl neg x y st.σ with | some v=>.ok (.bool (v != neg)) st | none=>.bad):=by
 intro m g s st I L
 rw [eval_Compare1,uO0 hm]
 refine (dl m g s st I L).bind fun x st1 _ g1 h1 tk1 p P1 V1=>?_
 refine (Den.holding (dr m g1 _ st1 P1.inv P1.loc)).bind fun y st2 _ g2 h2 tk2 q P2 V2=>?_
 refine Den.standAt (Den.operate ?_)
 cases e:xl neg x y st2.σ with
 | none=>exact Den.bad
 | some v=>exact (UL B P2.inv P2.loc (V1.lift P2.step) V2 (vr e).1 (vr e).2).mapB
theorem Yv {l r:Expr} {pos:Pos} {neg:Bool} {fl fr:St→R V} {t:Sem Value} (B:BOk K b₀) (hm:behindInMarks (UB neg) r=false) (dl:jh prog w T b₀ C names (eval l C.env) fl) (dr:jh prog w T b₀ C names (eval r C.env) fr) :
  Bs prog w T b₀ C names (isTrue (.Compare l [UB neg] [r] pos) C.env t) (fun st=>(fl st).bind fun x st=>(fr st).bind fun y st=>match xl neg x y st.σ with | some v=>.ok (v != neg) st | none=>.bad):=by
 intro m g s st I L
 rw [isTrue_Compare1,uO0 hm]
 refine (dl m g s st I L).bind fun x st1 _ g1 h1 tk1 p P1 V1=>?_
 refine (Den.holding (dr m g1 _ st1 P1.inv P1.loc)).bind fun y st2 _ g2 h2 tk2 q P2 V2=>?_
 refine Den.standAt ?_
 cases e:xl neg x y st2.σ with
 | none=>exact Den.bad
 | some v=>exact Den.truth (Den.operate (UL B P2.inv P2.loc (V1.lift P2.step) V2 (vr e).1 (vr e).2))
theorem GB {x:Expr} {k:Nat} {pos cp:Pos} {f:St→R V} {t:Sem Value} (d:jh prog w T b₀ C names (eval x C.env) f) :
  Bs prog w T b₀ C names (isTrue (.Compare x [.Is] [.Constant .none k cp] pos) C.env t) (fun st=>(f st).bind fun v st=>.ok (xE v) st):=by
 intro m g s st I L
 rw [isTrue_Compare1,uO0 rfl]
 refine (d m g s st I L).bind fun v st1 _ g1 h1 tk1 p P1 V1=>?_
 refine Den.of_wp rfl fun Q E hq=>uF0 (uH0 (uG0 (uF0 (uI0 (uF0 (xu ?_))))))
 have fin:∀ b,xE v=b→wpAny (model prog w) C.A (PySem.holding [.bool b] (PySem.truthy (.bool b))) Q E {s with heap:=h1,toks:=tk1}:=fun b e=>uH0 (uN0 (hq g1 h1 tk1 _ (.here P1.inv P1.loc) e))
 cases V1
 ·exact wpAny_is_plain rfl (fin _ rfl)
 all_goals exact wpAny_is_plain rfl (fin _ rfl)
theorem Ni {l y z:Expr} {pos:Pos} {o:Cmp} {fl fy fz:St→R V} {t:Sem Value} (hu:C.A.units+64<cLine) (h2:behindInMarks (zi o) z=false)
  (dl:jh prog w T b₀ C names (eval l C.env) fl) (dy:jh prog w T b₀ C names (eval y C.env) fy) (dz:jh prog w T b₀ C names (eval z C.env) fz) :
  Bs prog w T b₀ C names (isTrue (.Compare l [zi o,zi o] [y,z] pos) C.env t) (fun st=>(fl st).bind fun a st=>(fy st).bind fun b st=>match qF o a b with
   | some true=>(fz st).bind fun c st=>(match qF o b c with | some v=>.ok v st | none=>.bad)
   | some false=>.ok false st
   | none=>.bad):=by
 intro m g s st I L
 have e0:isTrue (.Compare l [zi o,zi o] [y,z] pos) C.env t=(do
   let left ← eval l C.env
   let rv ← PySem.holding [left] (eval y C.env)
   standAt pos
   let c ← PySem.holding [left,rv] (compareOp (zi o) left rv)
   release [left,rv] [c]
   if ← PySem.holding [c,rv] (PySem.truthy c) then (do
    let rv2 ← PySem.holding [rv] (markedBehindIn (zi o) z (eval z C.env))
    standAt pos
    let c2 ← PySem.operate [rv,rv2] (compareOp (zi o) rv rv2)
    PySem.holding [c2] (PySem.truthy c2)) else pure false):=rfl
 rw [e0,uO0 h2]
 refine (dl m g s st I L).bind fun a st1 _ g1 h1 tk1 p P1 V1=>?_
 refine (Den.holding (dy m g1 _ st1 P1.inv P1.loc)).bind fun b st2 _ g2 h2 tk2 q P2 V2=>Den.standAt ?_
 cases e:qF o a b with
 | none=>exact Den.bad
 | some tt =>
  intro Q E hq he hb
  refine uF0 (uH0 (wc hu P2.inv P2.loc (V1.lift P2.step) V2 e _ _ (fun a' st' e' g3 h3 tk3 p3 P3 V3=>?_) (fun st e=>by exact oeR e) fun e=>by exact obR e))
  cases e'
  subst V3
  refine uF0 (jM (uF0 (uH0 (uN0 ?_))))
  cases tt
  ·exact uG0 (hq _ _ rfl g3 h3 tk3 _ P3 rfl)
  ·have D:Den prog w T b₀ RvB C names m g3 {s with heap:=h3,toks:=tk3} (do
     let rv2 ← PySem.holding [q] (eval z C.env)
     standAt pos
     let c2 ← PySem.operate [q,rv2] (compareOp (zi o) q rv2)
     PySem.holding [c2] (PySem.truthy c2)) ((fz st2).bind fun c st=>(match qF o b c with | some v=>.ok v st | none=>.bad)):=by
    refine (Den.holding (dz m g3 _ st2 P3.inv P3.loc)).bind fun c st4 _ g4 h4 tk4 r P4 V4=>Den.standAt ?_
    cases e2:qF o b c with
    | none=>exact Den.bad
    | some v=>exact Den.truth (Den.operate (wc hu P4.inv P4.loc ((V2.lift P3.step).lift P4.step) V4 e2))
   exact D Q E (fun a st e g' h' tk p P V=>hq a st e g' h' tk p (P3.trans P) V) (fun st e g' h' tk x P F=>he st e g' h' tk x (P3.trans P) (F.back P3.step)) hb
end
theorem qA {a b:Bool} (h:(a&&b)=true):a=true:=(uf0.mp h).1
theorem qv {a b:Bool} (h:(a&&b)=true):b=true:=(uf0.mp h).2
theorem be {α:Type} [BEq α] [LawfulBEq α] {a b:α} (h:(a==b)=true):a=b:=beq_iff_eq.mp h
theorem bn {b:Bool} (h:(!b)=true):b=false:=by cases b <;> first | rfl | exact ftB h
structure HE where
 bool:BoolOp→List Expr→Pos→Bool
 bin:Expr→Operator→Expr→Pos→Bool
 un:UnaryOp→Expr→Pos→Bool
 ite:Expr→Expr→Expr→Pos→Bool
 dict:List (Option Expr)→List Expr→Pos→Bool
 comp:Expr→List Comprehension→Scope→Pos→Bool
 cmp:Expr→List CmpOp→List Expr→Pos→Bool
 call:Expr→List Expr→List Keyword→Pos→Bool
 cst:Const→Nat→Pos→Bool
 attr:Expr→Str→Pos→Bool
 sub:Expr→Expr→Pos→Bool
 name:Str→Pos→Bool
 lst:List Expr→Pos→Bool
 tup:List Expr→Nat→Pos→Bool
 slc:Option Expr→Option Expr→Option Expr→Pos→Bool
noncomputable def ofE (x:Expr) (h:HE):Bool:=match x with
 | .BoolOp a b c=>h.bool a b c
 | .BinOp a b c d=>h.bin a b c d
 | .UnaryOp a b c=>h.un a b c
 | .IfExp a b c d=>h.ite a b c d
 | .Dict a b c=>h.dict a b c
 | .ListComp a b c d=>h.comp a b c d
 | .Compare a b c d=>h.cmp a b c d
 | .Call a b c d=>h.call a b c d
 | .Constant a b c=>h.cst a b c
 | .Attribute a b c=>h.attr a b c
 | .Subscript a b c=>h.sub a b c
 | .Name a b=>h.name a b
 | .List a b=>h.lst a b
 | .Tuple a b c=>h.tup a b c
 | .Slice a b c d=>h.slc a b c d
 | _=>false
theorem jP {x:Expr} {h:HE} {M:Expr→Prop} (e:ofE x h=true) (k0:∀ a b c,h.bool a b c=true→M (.BoolOp a b c)) (k1:∀ a b c d,h.bin a b c d=true→M (.BinOp a b c d)) (k2:∀ a b c,h.un a b c=true→M (.UnaryOp a b c)) (k3:∀ a b c d,h.ite a b c d=true→M (.IfExp a b c d)) (k4:∀ a b c,h.dict a b c=true→M (.Dict a b c)) (k5:∀ a b c d,h.comp a b c d=true→M (.ListComp a b c d)) (k6:∀ a b c d,h.cmp a b c d=true→M (.Compare a b c d)) (k7:∀ a b c d,h.call a b c d=true→M (.Call a b c d)) (k8:∀ a b c,h.cst a b c=true→M (.Constant a b c)) (k9:∀ a b c,h.attr a b c=true→M (.Attribute a b c)) (k10:∀ a b c,h.sub a b c=true→M (.Subscript a b c)) (k11:∀ a b,h.name a b=true→M (.Name a b)) (k12:∀ a b,h.lst a b=true→M (.List a b)) (k13:∀ a b c,h.tup a b c=true→M (.Tuple a b c)) (k14:∀ a b c d,h.slc a b c d=true→M (.Slice a b c d)):M x:=by
 cases x <;> first | exact k0 _ _ _ e | exact k1 _ _ _ _ e | exact k2 _ _ _ e | exact k3 _ _ _ _ e | exact k4 _ _ _ e | exact k5 _ _ _ _ e | exact k6 _ _ _ _ e | exact k7 _ _ _ _ e | exact k8 _ _ _ e | exact k9 _ _ _ e | exact k10 _ _ _ e | exact k11 _ _ e | exact k12 _ _ e | exact k13 _ _ _ e | exact k14 _ _ _ _ e | exact ftB e
noncomputable def AV (q:BoolOp→List Expr→Pos→Bool):HE:=⟨q,fun _ _ _ _=>false,fun _ _ _=>false,fun _ _ _ _=>false,fun _ _ _=>false,fun _ _ _ _=>false,fun _ _ _ _=>false,fun _ _ _ _=>false,fun _ _ _=>false,fun _ _ _=>false,fun _ _ _=>false,fun _ _=>false,fun _ _=>false,fun _ _ _=>false,fun _ _ _ _=>false⟩
theorem uf {x:Expr} {q:BoolOp→List Expr→Pos→Bool} {M:Expr→Prop} (e:ofE x (AV q)=true) (k:∀ a b c,q a b c=true→M (.BoolOp a b c)):M x :=
 jP e k (fun _ _ _ _ e=>ftB e) (fun _ _ _ e=>ftB e) (fun _ _ _ _ e=>ftB e) (fun _ _ _ e=>ftB e) (fun _ _ _ _ e=>ftB e) (fun _ _ _ _ e=>ftB e) (fun _ _ _ _ e=>ftB e) (fun _ _ _ e=>ftB e) (fun _ _ _ e=>ftB e) (fun _ _ _ e=>ftB e) (fun _ _ e=>ftB e) (fun _ _ e=>ftB e) (fun _ _ _ e=>ftB e) (fun _ _ _ _ e=>ftB e)
noncomputable def KJ (q:Expr→Operator→Expr→Pos→Bool):HE:=⟨fun _ _ _=>false,q,fun _ _ _=>false,fun _ _ _ _=>false,fun _ _ _=>false,fun _ _ _ _=>false,fun _ _ _ _=>false,fun _ _ _ _=>false,fun _ _ _=>false,fun _ _ _=>false,fun _ _ _=>false,fun _ _=>false,fun _ _=>false,fun _ _ _=>false,fun _ _ _ _=>false⟩
theorem JB {x:Expr} {q:Expr→Operator→Expr→Pos→Bool} {M:Expr→Prop} (e:ofE x (KJ q)=true) (k:∀ a b c d,q a b c d=true→M (.BinOp a b c d)):M x :=
 jP e (fun _ _ _ e=>ftB e) k (fun _ _ _ e=>ftB e) (fun _ _ _ _ e=>ftB e) (fun _ _ _ e=>ftB e) (fun _ _ _ _ e=>ftB e) (fun _ _ _ _ e=>ftB e) (fun _ _ _ _ e=>ftB e) (fun _ _ _ e=>ftB e) (fun _ _ _ e=>ftB e) (fun _ _ _ e=>ftB e) (fun _ _ e=>ftB e) (fun _ _ e=>ftB e) (fun _ _ _ e=>ftB e) (fun _ _ _ _ e=>ftB e)
noncomputable def Ul (q:UnaryOp→Expr→Pos→Bool):HE:=⟨fun _ _ _=>false,fun _ _ _ _=>false,q,fun _ _ _ _=>false,fun _ _ _=>false,fun _ _ _ _=>false,fun _ _ _ _=>false,fun _ _ _ _=>false,fun _ _ _=>false,fun _ _ _=>false,fun _ _ _=>false,fun _ _=>false,fun _ _=>false,fun _ _ _=>false,fun _ _ _ _=>false⟩
theorem MY {x:Expr} {q:UnaryOp→Expr→Pos→Bool} {M:Expr→Prop} (e:ofE x (Ul q)=true) (k:∀ a b c,q a b c=true→M (.UnaryOp a b c)):M x :=
 jP e (fun _ _ _ e=>ftB e) (fun _ _ _ _ e=>ftB e) k (fun _ _ _ _ e=>ftB e) (fun _ _ _ e=>ftB e) (fun _ _ _ _ e=>ftB e) (fun _ _ _ _ e=>ftB e) (fun _ _ _ _ e=>ftB e) (fun _ _ _ e=>ftB e) (fun _ _ _ e=>ftB e) (fun _ _ _ e=>ftB e) (fun _ _ e=>ftB e) (fun _ _ e=>ftB e) (fun _ _ _ e=>ftB e) (fun _ _ _ _ e=>ftB e)
noncomputable def KH (q:Expr→Expr→Expr→Pos→Bool):HE:=⟨fun _ _ _=>false,fun _ _ _ _=>false,fun _ _ _=>false,q,fun _ _ _=>false,fun _ _ _ _=>false,fun _ _ _ _=>false,fun _ _ _ _=>false,fun _ _ _=>false,fun _ _ _=>false,fun _ _ _=>false,fun _ _=>false,fun _ _=>false,fun _ _ _=>false,fun _ _ _ _=>false⟩
theorem JA {x:Expr} {q:Expr→Expr→Expr→Pos→Bool} {M:Expr→Prop} (e:ofE x (KH q)=true) (k:∀ a b c d,q a b c d=true→M (.IfExp a b c d)):M x :=
 jP e (fun _ _ _ e=>ftB e) (fun _ _ _ _ e=>ftB e) (fun _ _ _ e=>ftB e) k (fun _ _ _ e=>ftB e) (fun _ _ _ _ e=>ftB e) (fun _ _ _ _ e=>ftB e) (fun _ _ _ _ e=>ftB e) (fun _ _ _ e=>ftB e) (fun _ _ _ e=>ftB e) (fun _ _ _ e=>ftB e) (fun _ _ e=>ftB e) (fun _ _ e=>ftB e) (fun _ _ _ e=>ftB e) (fun _ _ _ _ e=>ftB e)
noncomputable def Ic (q:List (Option Expr)→List Expr→Pos→Bool):HE:=⟨fun _ _ _=>false,fun _ _ _ _=>false,fun _ _ _=>false,fun _ _ _ _=>false,q,fun _ _ _ _=>false,fun _ _ _ _=>false,fun _ _ _ _=>false,fun _ _ _=>false,fun _ _ _=>false,fun _ _ _=>false,fun _ _=>false,fun _ _=>false,fun _ _ _=>false,fun _ _ _ _=>false⟩
theorem Gx {x:Expr} {q:List (Option Expr)→List Expr→Pos→Bool} {M:Expr→Prop} (e:ofE x (Ic q)=true) (k:∀ a b c,q a b c=true→M (.Dict a b c)):M x :=
 jP e (fun _ _ _ e=>ftB e) (fun _ _ _ _ e=>ftB e) (fun _ _ _ e=>ftB e) (fun _ _ _ _ e=>ftB e) k (fun _ _ _ _ e=>ftB e) (fun _ _ _ _ e=>ftB e) (fun _ _ _ _ e=>ftB e) (fun _ _ _ e=>ftB e) (fun _ _ _ e=>ftB e) (fun _ _ _ e=>ftB e) (fun _ _ e=>ftB e) (fun _ _ e=>ftB e) (fun _ _ _ e=>ftB e) (fun _ _ _ _ e=>ftB e)
noncomputable def AU (q:Expr→List Comprehension→Scope→Pos→Bool):HE:=⟨fun _ _ _=>false,fun _ _ _ _=>false,fun _ _ _=>false,fun _ _ _ _=>false,fun _ _ _=>false,q,fun _ _ _ _=>false,fun _ _ _ _=>false,fun _ _ _=>false,fun _ _ _=>false,fun _ _ _=>false,fun _ _=>false,fun _ _=>false,fun _ _ _=>false,fun _ _ _ _=>false⟩
theorem ue {x:Expr} {q:Expr→List Comprehension→Scope→Pos→Bool} {M:Expr→Prop} (e:ofE x (AU q)=true) (k:∀ a b c d,q a b c d=true→M (.ListComp a b c d)):M x :=
 jP e (fun _ _ _ e=>ftB e) (fun _ _ _ _ e=>ftB e) (fun _ _ _ e=>ftB e) (fun _ _ _ _ e=>ftB e) (fun _ _ _ e=>ftB e) k (fun _ _ _ _ e=>ftB e) (fun _ _ _ _ e=>ftB e) (fun _ _ _ e=>ftB e) (fun _ _ _ e=>ftB e) (fun _ _ _ e=>ftB e) (fun _ _ e=>ftB e) (fun _ _ e=>ftB e) (fun _ _ _ e=>ftB e) (fun _ _ _ _ e=>ftB e)
noncomputable def kj (q:Expr→List CmpOp→List Expr→Pos→Bool):HE:=⟨fun _ _ _=>false,fun _ _ _ _=>false,fun _ _ _=>false,fun _ _ _ _=>false,fun _ _ _=>false,fun _ _ _ _=>false,q,fun _ _ _ _=>false,fun _ _ _=>false,fun _ _ _=>false,fun _ _ _=>false,fun _ _=>false,fun _ _=>false,fun _ _ _=>false,fun _ _ _ _=>false⟩
theorem yC {x:Expr} {q:Expr→List CmpOp→List Expr→Pos→Bool} {M:Expr→Prop} (e:ofE x (kj q)=true) (k:∀ a b c d,q a b c d=true→M (.Compare a b c d)):M x :=
 jP e (fun _ _ _ e=>ftB e) (fun _ _ _ _ e=>ftB e) (fun _ _ _ e=>ftB e) (fun _ _ _ _ e=>ftB e) (fun _ _ _ e=>ftB e) (fun _ _ _ _ e=>ftB e) k (fun _ _ _ _ e=>ftB e) (fun _ _ _ e=>ftB e) (fun _ _ _ e=>ftB e) (fun _ _ _ e=>ftB e) (fun _ _ e=>ftB e) (fun _ _ e=>ftB e) (fun _ _ _ e=>ftB e) (fun _ _ _ _ e=>ftB e)
noncomputable def jE (q:Expr→List Expr→List Keyword→Pos→Bool):HE:=⟨fun _ _ _=>false,fun _ _ _ _=>false,fun _ _ _=>false,fun _ _ _ _=>false,fun _ _ _=>false,fun _ _ _ _=>false,fun _ _ _ _=>false,q,fun _ _ _=>false,fun _ _ _=>false,fun _ _ _=>false,fun _ _=>false,fun _ _=>false,fun _ _ _=>false,fun _ _ _ _=>false⟩
theorem ja {x:Expr} {q:Expr→List Expr→List Keyword→Pos→Bool} {M:Expr→Prop} (e:ofE x (jE q)=true) (k:∀ a b c d,q a b c d=true→M (.Call a b c d)):M x :=
 jP e (fun _ _ _ e=>ftB e) (fun _ _ _ _ e=>ftB e) (fun _ _ _ e=>ftB e) (fun _ _ _ _ e=>ftB e) (fun _ _ _ e=>ftB e) (fun _ _ _ _ e=>ftB e) (fun _ _ _ _ e=>ftB e) k (fun _ _ _ e=>ftB e) (fun _ _ _ e=>ftB e) (fun _ _ _ e=>ftB e) (fun _ _ e=>ftB e) (fun _ _ e=>ftB e) (fun _ _ _ e=>ftB e) (fun _ _ _ _ e=>ftB e)
noncomputable def vO (q:Const→Nat→Pos→Bool):HE:=⟨fun _ _ _=>false,fun _ _ _ _=>false,fun _ _ _=>false,fun _ _ _ _=>false,fun _ _ _=>false,fun _ _ _ _=>false,fun _ _ _ _=>false,fun _ _ _ _=>false,q,fun _ _ _=>false,fun _ _ _=>false,fun _ _=>false,fun _ _=>false,fun _ _ _=>false,fun _ _ _ _=>false⟩
theorem xq {x:Expr} {q:Const→Nat→Pos→Bool} {M:Expr→Prop} (e:ofE x (vO q)=true) (k:∀ a b c,q a b c=true→M (.Constant a b c)):M x :=
 jP e (fun _ _ _ e=>ftB e) (fun _ _ _ _ e=>ftB e) (fun _ _ _ e=>ftB e) (fun _ _ _ _ e=>ftB e) (fun _ _ _ e=>ftB e) (fun _ _ _ _ e=>ftB e) (fun _ _ _ _ e=>ftB e) (fun _ _ _ _ e=>ftB e) k (fun _ _ _ e=>ftB e) (fun _ _ _ e=>ftB e) (fun _ _ e=>ftB e) (fun _ _ e=>ftB e) (fun _ _ _ e=>ftB e) (fun _ _ _ _ e=>ftB e)
noncomputable def jU (q:Expr→Str→Pos→Bool):HE:=⟨fun _ _ _=>false,fun _ _ _ _=>false,fun _ _ _=>false,fun _ _ _ _=>false,fun _ _ _=>false,fun _ _ _ _=>false,fun _ _ _ _=>false,fun _ _ _ _=>false,fun _ _ _=>false,q,fun _ _ _=>false,fun _ _=>false,fun _ _=>false,fun _ _ _=>false,fun _ _ _ _=>false⟩
theorem jl {x:Expr} {q:Expr→Str→Pos→Bool} {M:Expr→Prop} (e:ofE x (jU q)=true) (k:∀ a b c,q a b c=true→M (.Attribute a b c)):M x :=
 jP e (fun _ _ _ e=>ftB e) (fun _ _ _ _ e=>ftB e) (fun _ _ _ e=>ftB e) (fun _ _ _ _ e=>ftB e) (fun _ _ _ e=>ftB e) (fun _ _ _ _ e=>ftB e) (fun _ _ _ _ e=>ftB e) (fun _ _ _ _ e=>ftB e) (fun _ _ _ e=>ftB e) k (fun _ _ _ e=>ftB e) (fun _ _ e=>ftB e) (fun _ _ e=>ftB e) (fun _ _ _ e=>ftB e) (fun _ _ _ _ e=>ftB e)
noncomputable def AT (q:Expr→Expr→Pos→Bool):HE:=⟨fun _ _ _=>false,fun _ _ _ _=>false,fun _ _ _=>false,fun _ _ _ _=>false,fun _ _ _=>false,fun _ _ _ _=>false,fun _ _ _ _=>false,fun _ _ _ _=>false,fun _ _ _=>false,fun _ _ _=>false,q,fun _ _=>false,fun _ _=>false,fun _ _ _=>false,fun _ _ _ _=>false⟩
theorem wb {x:Expr} {q:Expr→Expr→Pos→Bool} {M:Expr→Prop} (e:ofE x (AT q)=true) (k:∀ a b c,q a b c=true→M (.Subscript a b c)):M x :=
 jP e (fun _ _ _ e=>ftB e) (fun _ _ _ _ e=>ftB e) (fun _ _ _ e=>ftB e) (fun _ _ _ _ e=>ftB e) (fun _ _ _ e=>ftB e) (fun _ _ _ _ e=>ftB e) (fun _ _ _ _ e=>ftB e) (fun _ _ _ _ e=>ftB e) (fun _ _ _ e=>ftB e) (fun _ _ _ e=>ftB e) k (fun _ _ e=>ftB e) (fun _ _ e=>ftB e) (fun _ _ _ e=>ftB e) (fun _ _ _ _ e=>ftB e)
noncomputable def qV (q:Str→Pos→Bool):HE:=⟨fun _ _ _=>false,fun _ _ _ _=>false,fun _ _ _=>false,fun _ _ _ _=>false,fun _ _ _=>false,fun _ _ _ _=>false,fun _ _ _ _=>false,fun _ _ _ _=>false,fun _ _ _=>false,fun _ _ _=>false,fun _ _ _=>false,q,fun _ _=>false,fun _ _ _=>false,fun _ _ _ _=>false⟩
theorem qE {x:Expr} {q:Str→Pos→Bool} {M:Expr→Prop} (e:ofE x (qV q)=true) (k:∀ a b,q a b=true→M (.Name a b)):M x :=
 jP e (fun _ _ _ e=>ftB e) (fun _ _ _ _ e=>ftB e) (fun _ _ _ e=>ftB e) (fun _ _ _ _ e=>ftB e) (fun _ _ _ e=>ftB e) (fun _ _ _ _ e=>ftB e) (fun _ _ _ _ e=>ftB e) (fun _ _ _ _ e=>ftB e) (fun _ _ _ e=>ftB e) (fun _ _ _ e=>ftB e) (fun _ _ _ e=>ftB e) k (fun _ _ e=>ftB e) (fun _ _ _ e=>ftB e) (fun _ _ _ _ e=>ftB e)
noncomputable def DX (q:List Expr→Pos→Bool):HE:=⟨fun _ _ _=>false,fun _ _ _ _=>false,fun _ _ _=>false,fun _ _ _ _=>false,fun _ _ _=>false,fun _ _ _ _=>false,fun _ _ _ _=>false,fun _ _ _ _=>false,fun _ _ _=>false,fun _ _ _=>false,fun _ _ _=>false,fun _ _=>false,q,fun _ _ _=>false,fun _ _ _ _=>false⟩
theorem Ar {x:Expr} {q:List Expr→Pos→Bool} {M:Expr→Prop} (e:ofE x (DX q)=true) (k:∀ a b,q a b=true→M (.List a b)):M x :=
 jP e (fun _ _ _ e=>ftB e) (fun _ _ _ _ e=>ftB e) (fun _ _ _ e=>ftB e) (fun _ _ _ _ e=>ftB e) (fun _ _ _ e=>ftB e) (fun _ _ _ _ e=>ftB e) (fun _ _ _ _ e=>ftB e) (fun _ _ _ _ e=>ftB e) (fun _ _ _ e=>ftB e) (fun _ _ _ e=>ftB e) (fun _ _ _ e=>ftB e) (fun _ _ e=>ftB e) k (fun _ _ _ e=>ftB e) (fun _ _ _ _ e=>ftB e)
noncomputable def DW (q:List Expr→Nat→Pos→Bool):HE:=⟨fun _ _ _=>false,fun _ _ _ _=>false,fun _ _ _=>false,fun _ _ _ _=>false,fun _ _ _=>false,fun _ _ _ _=>false,fun _ _ _ _=>false,fun _ _ _ _=>false,fun _ _ _=>false,fun _ _ _=>false,fun _ _ _=>false,fun _ _=>false,fun _ _=>false,q,fun _ _ _ _=>false⟩
theorem Aq {x:Expr} {q:List Expr→Nat→Pos→Bool} {M:Expr→Prop} (e:ofE x (DW q)=true) (k:∀ a b c,q a b c=true→M (.Tuple a b c)):M x :=
 jP e (fun _ _ _ e=>ftB e) (fun _ _ _ _ e=>ftB e) (fun _ _ _ e=>ftB e) (fun _ _ _ _ e=>ftB e) (fun _ _ _ e=>ftB e) (fun _ _ _ _ e=>ftB e) (fun _ _ _ _ e=>ftB e) (fun _ _ _ _ e=>ftB e) (fun _ _ _ e=>ftB e) (fun _ _ _ e=>ftB e) (fun _ _ _ e=>ftB e) (fun _ _ e=>ftB e) (fun _ _ e=>ftB e) k (fun _ _ _ _ e=>ftB e)
noncomputable def KG (q:Option Expr→Option Expr→Option Expr→Pos→Bool):HE:=⟨fun _ _ _=>false,fun _ _ _ _=>false,fun _ _ _=>false,fun _ _ _ _=>false,fun _ _ _=>false,fun _ _ _ _=>false,fun _ _ _ _=>false,fun _ _ _ _=>false,fun _ _ _=>false,fun _ _ _=>false,fun _ _ _=>false,fun _ _=>false,fun _ _=>false,fun _ _ _=>false,q⟩
theorem Jz {x:Expr} {q:Option Expr→Option Expr→Option Expr→Pos→Bool} {M:Expr→Prop} (e:ofE x (KG q)=true) (k:∀ a b c d,q a b c d=true→M (.Slice a b c d)):M x :=
 jP e (fun _ _ _ e=>ftB e) (fun _ _ _ _ e=>ftB e) (fun _ _ _ e=>ftB e) (fun _ _ _ _ e=>ftB e) (fun _ _ _ e=>ftB e) (fun _ _ _ _ e=>ftB e) (fun _ _ _ _ e=>ftB e) (fun _ _ _ _ e=>ftB e) (fun _ _ _ e=>ftB e) (fun _ _ _ e=>ftB e) (fun _ _ _ e=>ftB e) (fun _ _ e=>ftB e) (fun _ _ e=>ftB e) (fun _ _ _ e=>ftB e) k
structure HS where
 asg:List Expr→Expr→Pos→Bool
 aug:Expr→Operator→Expr→Pos→Bool
 expr:Expr→Pos→Bool
 ifs:Expr→List Stmt→List Stmt→Pos→Bool
 whl:Expr→List Stmt→List Stmt→Pos→Bool
 fore:Expr→Expr→List Stmt→List Stmt→Pos→Bool
 ret:Option Expr→Pos→Bool
 raise:Option Expr→Option Expr→Pos→Bool
 tryy:List Stmt→List ExceptHandler→List Stmt→List Stmt→Pos→Bool
 brk:Pos→Bool
noncomputable def ofS (x:Stmt) (h:HS):Bool:=match x with
 | .Assign a b c=>h.asg a b c
 | .AugAssign a b c d=>h.aug a b c d
 | .Expr a b=>h.expr a b
 | .If a b c d=>h.ifs a b c d
 | .While a b c d=>h.whl a b c d
 | .For a b c d e=>h.fore a b c d e
 | .Return a b=>h.ret a b
 | .Raise a b c=>h.raise a b c
 | .Try a b c d e=>h.tryy a b c d e
 | .Break a=>h.brk a
 | _=>false
theorem xb {x:Stmt} {h:HS} {M:Stmt→Prop} (e:ofS x h=true) (k0:∀ a b c,h.asg a b c=true→M (.Assign a b c)) (k1:∀ a b c d,h.aug a b c d=true→M (.AugAssign a b c d)) (k2:∀ a b,h.expr a b=true→M (.Expr a b)) (k3:∀ a b c d,h.ifs a b c d=true→M (.If a b c d)) (k4:∀ a b c d,h.whl a b c d=true→M (.While a b c d)) (k5:∀ a b c d e,h.fore a b c d e=true→M (.For a b c d e)) (k6:∀ a b,h.ret a b=true→M (.Return a b)) (k7:∀ a b c,h.raise a b c=true→M (.Raise a b c)) (k8:∀ a b c d e,h.tryy a b c d e=true→M (.Try a b c d e)) (k9:∀ a,h.brk a=true→M (.Break a)):M x:=by
 cases x <;> first | exact k0 _ _ _ e | exact k1 _ _ _ _ e | exact k2 _ _ e | exact k3 _ _ _ _ e | exact k4 _ _ _ _ e | exact k5 _ _ _ _ _ e | exact k6 _ _ e | exact k7 _ _ _ e | exact k8 _ _ _ _ _ e | exact k9 _ e | exact ftB e
noncomputable def xz (q:List Expr→Expr→Pos→Bool):HS:=⟨q,fun _ _ _ _=>false,fun _ _=>false,fun _ _ _ _=>false,fun _ _ _ _=>false,fun _ _ _ _ _=>false,fun _ _=>false,fun _ _ _=>false,fun _ _ _ _ _=>false,fun _=>false⟩
theorem jZ {x:Stmt} {q:List Expr→Expr→Pos→Bool} {M:Stmt→Prop} (e:ofS x (xz q)=true) (k:∀ a b c,q a b c=true→M (.Assign a b c)):M x :=
 xb e k (fun _ _ _ _ e=>ftB e) (fun _ _ e=>ftB e) (fun _ _ _ _ e=>ftB e) (fun _ _ _ _ e=>ftB e) (fun _ _ _ _ _ e=>ftB e) (fun _ _ e=>ftB e) (fun _ _ _ e=>ftB e) (fun _ _ _ _ _ e=>ftB e) (fun _ e=>ftB e)
noncomputable def DV (q:Expr→Operator→Expr→Pos→Bool):HS:=⟨fun _ _ _=>false,q,fun _ _=>false,fun _ _ _ _=>false,fun _ _ _ _=>false,fun _ _ _ _ _=>false,fun _ _=>false,fun _ _ _=>false,fun _ _ _ _ _=>false,fun _=>false⟩
theorem Ap {x:Stmt} {q:Expr→Operator→Expr→Pos→Bool} {M:Stmt→Prop} (e:ofS x (DV q)=true) (k:∀ a b c d,q a b c d=true→M (.AugAssign a b c d)):M x :=
 xb e (fun _ _ _ e=>ftB e) k (fun _ _ e=>ftB e) (fun _ _ _ _ e=>ftB e) (fun _ _ _ _ e=>ftB e) (fun _ _ _ _ _ e=>ftB e) (fun _ _ e=>ftB e) (fun _ _ _ e=>ftB e) (fun _ _ _ _ _ e=>ftB e) (fun _ e=>ftB e)
noncomputable def wK (q:Expr→Pos→Bool):HS:=⟨fun _ _ _=>false,fun _ _ _ _=>false,q,fun _ _ _ _=>false,fun _ _ _ _=>false,fun _ _ _ _ _=>false,fun _ _=>false,fun _ _ _=>false,fun _ _ _ _ _=>false,fun _=>false⟩
theorem yW {x:Stmt} {q:Expr→Pos→Bool} {M:Stmt→Prop} (e:ofS x (wK q)=true) (k:∀ a b,q a b=true→M (.Expr a b)):M x :=
 xb e (fun _ _ _ e=>ftB e) (fun _ _ _ _ e=>ftB e) k (fun _ _ _ _ e=>ftB e) (fun _ _ _ _ e=>ftB e) (fun _ _ _ _ _ e=>ftB e) (fun _ _ e=>ftB e) (fun _ _ _ e=>ftB e) (fun _ _ _ _ _ e=>ftB e) (fun _ e=>ftB e)
noncomputable def KE (q:Expr→List Stmt→List Stmt→Pos→Bool):HS:=⟨fun _ _ _=>false,fun _ _ _ _=>false,fun _ _=>false,q,fun _ _ _ _=>false,fun _ _ _ _ _=>false,fun _ _=>false,fun _ _ _=>false,fun _ _ _ _ _=>false,fun _=>false⟩
theorem Jx {x:Stmt} {q:Expr→List Stmt→List Stmt→Pos→Bool} {M:Stmt→Prop} (e:ofS x (KE q)=true) (k:∀ a b c d,q a b c d=true→M (.If a b c d)):M x :=
 xb e (fun _ _ _ e=>ftB e) (fun _ _ _ _ e=>ftB e) (fun _ _ e=>ftB e) k (fun _ _ _ _ e=>ftB e) (fun _ _ _ _ _ e=>ftB e) (fun _ _ e=>ftB e) (fun _ _ _ e=>ftB e) (fun _ _ _ _ _ e=>ftB e) (fun _ e=>ftB e)
noncomputable def KC (q:Expr→List Stmt→List Stmt→Pos→Bool):HS:=⟨fun _ _ _=>false,fun _ _ _ _=>false,fun _ _=>false,fun _ _ _ _=>false,q,fun _ _ _ _ _=>false,fun _ _=>false,fun _ _ _=>false,fun _ _ _ _ _=>false,fun _=>false⟩
theorem Jv {x:Stmt} {q:Expr→List Stmt→List Stmt→Pos→Bool} {M:Stmt→Prop} (e:ofS x (KC q)=true) (k:∀ a b c d,q a b c d=true→M (.While a b c d)):M x :=
 xb e (fun _ _ _ e=>ftB e) (fun _ _ _ _ e=>ftB e) (fun _ _ e=>ftB e) (fun _ _ _ _ e=>ftB e) k (fun _ _ _ _ _ e=>ftB e) (fun _ _ e=>ftB e) (fun _ _ _ e=>ftB e) (fun _ _ _ _ _ e=>ftB e) (fun _ e=>ftB e)
noncomputable def AS (q:Expr→Expr→List Stmt→List Stmt→Pos→Bool):HS:=⟨fun _ _ _=>false,fun _ _ _ _=>false,fun _ _=>false,fun _ _ _ _=>false,fun _ _ _ _=>false,q,fun _ _=>false,fun _ _ _=>false,fun _ _ _ _ _=>false,fun _=>false⟩
theorem ud {x:Stmt} {q:Expr→Expr→List Stmt→List Stmt→Pos→Bool} {M:Stmt→Prop} (e:ofS x (AS q)=true) (k:∀ a b c d e,q a b c d e=true→M (.For a b c d e)):M x :=
 xb e (fun _ _ _ e=>ftB e) (fun _ _ _ _ e=>ftB e) (fun _ _ e=>ftB e) (fun _ _ _ _ e=>ftB e) (fun _ _ _ _ e=>ftB e) k (fun _ _ e=>ftB e) (fun _ _ _ e=>ftB e) (fun _ _ _ _ _ e=>ftB e) (fun _ e=>ftB e)
noncomputable def KD (q:Option Expr→Pos→Bool):HS:=⟨fun _ _ _=>false,fun _ _ _ _=>false,fun _ _=>false,fun _ _ _ _=>false,fun _ _ _ _=>false,fun _ _ _ _ _=>false,q,fun _ _ _=>false,fun _ _ _ _ _=>false,fun _=>false⟩
theorem Jw {x:Stmt} {q:Option Expr→Pos→Bool} {M:Stmt→Prop} (e:ofS x (KD q)=true) (k:∀ a b,q a b=true→M (.Return a b)):M x :=
 xb e (fun _ _ _ e=>ftB e) (fun _ _ _ _ e=>ftB e) (fun _ _ e=>ftB e) (fun _ _ _ _ e=>ftB e) (fun _ _ _ _ e=>ftB e) (fun _ _ _ _ _ e=>ftB e) k (fun _ _ _ e=>ftB e) (fun _ _ _ _ _ e=>ftB e) (fun _ e=>ftB e)
noncomputable def BH (q:Option Expr→Option Expr→Pos→Bool):HS:=⟨fun _ _ _=>false,fun _ _ _ _=>false,fun _ _=>false,fun _ _ _ _=>false,fun _ _ _ _=>false,fun _ _ _ _ _=>false,fun _ _=>false,q,fun _ _ _ _ _=>false,fun _=>false⟩
theorem Dr {x:Stmt} {q:Option Expr→Option Expr→Pos→Bool} {M:Stmt→Prop} (e:ofS x (BH q)=true) (k:∀ a b c,q a b c=true→M (.Raise a b c)):M x :=
 xb e (fun _ _ _ e=>ftB e) (fun _ _ _ _ e=>ftB e) (fun _ _ e=>ftB e) (fun _ _ _ _ e=>ftB e) (fun _ _ _ _ e=>ftB e) (fun _ _ _ _ _ e=>ftB e) (fun _ _ e=>ftB e) k (fun _ _ _ _ _ e=>ftB e) (fun _ e=>ftB e)
noncomputable def Ib (q:List Stmt→List ExceptHandler→List Stmt→List Stmt→Pos→Bool):HS:=⟨fun _ _ _=>false,fun _ _ _ _=>false,fun _ _=>false,fun _ _ _ _=>false,fun _ _ _ _=>false,fun _ _ _ _ _=>false,fun _ _=>false,fun _ _ _=>false,q,fun _=>false⟩
theorem Gw {x:Stmt} {q:List Stmt→List ExceptHandler→List Stmt→List Stmt→Pos→Bool} {M:Stmt→Prop} (e:ofS x (Ib q)=true) (k:∀ a b c d e,q a b c d e=true→M (.Try a b c d e)):M x :=
 xb e (fun _ _ _ e=>ftB e) (fun _ _ _ _ e=>ftB e) (fun _ _ e=>ftB e) (fun _ _ _ _ e=>ftB e) (fun _ _ _ _ e=>ftB e) (fun _ _ _ _ _ e=>ftB e) (fun _ _ e=>ftB e) (fun _ _ _ e=>ftB e) k (fun _ e=>ftB e)
noncomputable def KF (q:Pos→Bool):HS:=⟨fun _ _ _=>false,fun _ _ _ _=>false,fun _ _=>false,fun _ _ _ _=>false,fun _ _ _ _=>false,fun _ _ _ _ _=>false,fun _ _=>false,fun _ _ _=>false,fun _ _ _ _ _=>false,q⟩
theorem Jy {x:Stmt} {q:Pos→Bool} {M:Stmt→Prop} (e:ofS x (KF q)=true) (k:∀ a,q a=true→M (.Break a)):M x :=
 xb e (fun _ _ _ e=>ftB e) (fun _ _ _ _ e=>ftB e) (fun _ _ e=>ftB e) (fun _ _ _ _ e=>ftB e) (fun _ _ _ _ e=>ftB e) (fun _ _ _ _ _ e=>ftB e) (fun _ _ e=>ftB e) (fun _ _ _ e=>ftB e) (fun _ _ _ _ _ e=>ftB e) k
noncomputable def un1 {α:Type}:List α→Option α
 | [a]=>some a
 | _=>none
theorem wz {α:Type} {x:List α} {q:α→Bool} {M:List α→Prop} (h:(un1 x).any q=true) (k:∀ a,q a=true→M [a]):M x:=by
 cases x with
 | nil=>exact ftB h
 | cons a r=>cases r with
  | nil=>exact k _ h
  | cons=>exact ftB h
noncomputable def un2 {α:Type}:List α→Option (α×α)
 | [a,b]=>some (a,b)
 | _=>none
theorem qI0 {α:Type} {x:List α} {q:α×α→Bool} {M:List α→Prop} (h:(un2 x).any q=true) (k:∀ a b,q (a,b)=true→M [a,b]):M x:=by
 cases x with
 | nil=>exact ftB h
 | cons a r=>cases r with
  | nil=>exact ftB h
  | cons b r=>cases r with
   | nil=>exact k _ _ h
   | cons=>exact ftB h
noncomputable def un0 {α:Type}:List α→Bool
 | []=>true
 | _=>false
theorem vb {α:Type} {x:List α} {M:List α→Prop} (h:un0 x=true) (k:M []):M x:=by
 cases x <;> first | exact k | exact ftB h
theorem jH0 {α:Type} {x:Option α} {q:α→Bool} {M:Option α→Prop} (h:x.any q=true) (k:∀ a,q a=true→M (some a)):M x:=by
 cases x <;> first | exact k _ h | exact ftB h
noncomputable def isN {α:Type}:Option α→Bool
 | none=>true
 | _=>false
theorem jI0 {α:Type} {x:Option α} {M:Option α→Prop} (h:isN x=true) (k:M none):M x:=by
 cases x <;> first | exact k | exact ftB h
noncomputable def ZU (sc:Scope) (id:Str):Bool:=(sc.names.lookup id).any (fun z=>match z with | .globalImplicit=>true | _=>false)&&!(id==("__debug__" : Str))
noncomputable def qc0 (K:Frag) (sc:Scope) (id:Str) (p:Value):Bool:=ZU sc id&&nsIn K uK0 id==some (some p)
noncomputable def Qj (K:Frag) (sc:Scope) (id:Str):Bool:=ZU sc id&&nsIn K uK0 id==some none
noncomputable def Zx (q:Const→Nat→Pos→Bool) (r:Str→Pos→Bool) (t:List Expr→Nat→Pos→Bool):HE:=⟨fun _ _ _=>false,fun _ _ _ _=>false,fun _ _ _=>false,fun _ _ _ _=>false,fun _ _ _=>false,fun _ _ _ _=>false,fun _ _ _ _=>false,fun _ _ _ _=>false,q,fun _ _ _=>false,fun _ _ _=>false,r,fun _ _=>false,t,fun _ _ _ _=>false⟩
noncomputable def mLs:List V→List Expr→Bool
 | [],es=>un0 es
 | v::vs,es=>(match es with
  | []=>false
  | e::es=>ofE e (vO (fun c _ _=>ZM v c))&&mLs vs es)
termination_by structural vs=>vs
noncomputable def xm0 (v:V) (es:List Expr):Bool:=match v with
 | .tup vs=>mLs vs es&&decide (vs.length≤4096)
 | _=>false
noncomputable def xn0 (K:Frag) (sc:Scope) (v:V) (x:Expr):Bool :=
 ofE x (Zx (fun c _ _=>ZM v c) (fun y _=>ZU sc y&&(nsIn K uK0 y).any fun o=>o.any (ZL K 20 v)) (fun es _ _=>xm0 v es))
noncomputable def ZV (o:Bin) (p:Operator):Bool:=p==QW o
noncomputable def Qe (o:Cmp) (p:CmpOp):Bool:=p==zi o
noncomputable def ZT (n:Bool) (p:CmpOp):Bool:=p==UB n
noncomputable def zO0 (p:CmpOp):Bool:=p==.Is
noncomputable def ZS (p:UnaryOp):Bool:=p==.Not
noncomputable def zN0 (c:Const):Bool:=c==.none
noncomputable def ZW (o:BoolOp):Bool:=o==.And
noncomputable def YN:Const→Option Str
 | .str y=>some y
 | _=>none
noncomputable def XP:List (List Nat)→List (Option Expr)→Bool
 | [],ks=>un0 ks
 | x::xs,ks=>(match ks with
  | []=>false
  | k::ks=>(k.any fun e=>ofE e (vO (fun c _ _=>(YN c).any fun y=>y==toS x)))&&XP xs ks)
termination_by structural xs=>xs
noncomputable def kH:E→Bool
 | .cst .none=>true
 | _=>false
noncomputable def jA0:ScopeKind→Bool
 | .function=>true
 | _=>false
noncomputable def isL:NameKind→Bool
 | .local=>true
 | _=>false
noncomputable def xs0:NameKind→Bool
 | .cell=>true
 | .free=>true
 | _=>false
noncomputable def vW (k:Option NameKind):Bool:=k.any isL
theorem Da {k:ScopeKind} (h:jA0 k=true):k=.function:=by cases k <;> first | rfl | exact ftB h
theorem zx {k:Option NameKind} (h:vW k=true):k=some .local:=by
 cases k with
 | none=>exact ftB h
 | some k=>cases k <;> first | rfl | exact ftB h
noncomputable def jf0 (sc:Scope) (y:Str):Bool:=sc.names.all (fun z=>!xs0 z.2)&&sc.names.all (fun z=>!isL z.2||vW (sc.names.lookup z.1)) &&
 jA0 sc.kind&&vW (sc.names.lookup y)&&!(y==("__debug__" : Str))
section
variable (K:Frag) (T:TT) (an mn:Nat→Str)
mutual
noncomputable def mE (sc:Scope) (nm:List Str):E→Expr→Bool
 | .loc i,x=>ofE x (qV (fun y _=>nm[i]?==some y))
 | .cst v,x=>xn0 K sc v x
 | .attr e f,x=>ofE x (jU (fun o a _=>a==an f&&(jy o&&mE sc nm e o)))
 | .idx a b,x=>ofE x (AT (fun y z _=>wL z&&(mE sc nm a y&&mE sc nm b z)))
 | .slice _ a lo hi,x=>ofE x (AT (fun y z _=>mE sc nm a y&&ofE z (KG (fun l h t _=>isN t&&((match l with | none=>kH lo | some y=>mE sc nm lo y)&&(match h with | none=>kH hi | some y=>mE sc nm hi y))))))
 | .tup es,x=>ofE x (DW (fun l _ _=>mEs sc nm es l))
 | .lst _ es,x=>ofE x (DX (fun l _=>mEs sc nm es l))
 | .dict ks es,x=>ofE x (Ic (fun l vs _=>XP ks l&&(kE ks&&(mEs sc nm es vs&&l.length==vs.length))))
 | .comp _ body it,x=>ofE x (AU (fun elt gs sc2 _=>(un1 gs).any fun g=>(un0 g.ifs&&g.is_async==0)&&ofE g.target (qV (fun y _=>jf0 sc2 y&&(vP g.iter&&(mE sc nm it g.iter&&mE sc2 [y] body elt))))))
 | .callF f es,x=>ofE x (jE (fun fn args kw _=>un0 kw&&(ofE fn (qV (fun id _=>qc0 K sc id (.ref (T.fa f))))&&(keepIn K (.ref (T.fa f))&&mEs sc nm es args))))
 | .new c es,x=>ofE x (jE (fun fn args kw _=>un0 kw&&(ofE fn (qV (fun id _=>qc0 K sc id (.ref (T.ca c))))&&(keepIn K (.ref (T.ca c))&&mEs sc nm es args))))
 | .meth e f es,x=>ofE x (jE (fun fn args kw p=>un0 kw&&(ofE fn (jU (fun o a ap=>a==mn f&&(jy o&&(ap.endLine==p.line&&mE sc nm e o))))&&(decide (args.length<30)&&mEs sc nm es args))))
 | .len e,x=>ofE x (jE (fun fn args kw _=>un0 kw&&(ofE fn (qV (fun id _=>id==("len" : Str)&&Qj K sc id))&&(un1 args).any fun y=>qU y&&mE sc nm e y)))
 | .tuple e,x=>ofE x (jE (fun fn args kw _=>un0 kw&&(ofE fn (qV (fun id _=>id==("tuple" : Str)&&Qj K sc id))&&(un1 args).any fun y=>qU y&&mE sc nm e y)))
 | .split e,x=>ofE x (jE (fun fn args kw p=>un0 kw&&(ofE fn (jU (fun o a ap=>a==("split" : Str)&&(jy o&&(ap.endLine==p.line&&mE sc nm e o))))&&un0 args)))
 | .pop e,x=>ofE x (jE (fun fn args kw p=>un0 kw&&(ofE fn (jU (fun o a ap=>a==("pop" : Str)&&(jy o&&(ap.endLine==p.line&&mE sc nm e o))))&&un0 args)))
 | .popOwn i,x=>ofE x (jE (fun fn args kw p=>un0 kw&&(ofE fn (jU (fun o a ap=>a==("pop" : Str)&&(ap.endLine==p.line&&ofE o (qV (fun y _=>nm[i]?==some y)))))&&un0 args)))
 | .bin o a b,x=>ofE x (KJ (fun y q z _=>ZV o q&&(mE sc nm a y&&mE sc nm b z)))
 | .cmp o a b,x=>ofE x (kj (fun y os zs _=>mE sc nm a y&&(un1 os).any fun op=>Qe o op&&(un1 zs).any fun z=>!behindInMarks op z&&mE sc nm b z))
 | .cmp2 o a b c,x=>ofE x (kj (fun y os zs _=>mE sc nm a y&&(un2 os).any fun op=>Qe o op.1&&(Qe o op.2&&(un2 zs).any fun z=>!behindInMarks op.2 z.2&&(mE sc nm b z.1&&mE sc nm c z.2))))
 | .isin n a b,x=>ofE x (kj (fun y os zs _=>mE sc nm a y&&(un1 os).any fun op=>ZT n op&&(un1 zs).any fun z=>!behindInMarks op z&&mE sc nm b z))
 | .isNone e,x=>ofE x (kj (fun y os zs _=>mE sc nm e y&&((un1 os).any zO0&&(un1 zs).any fun z=>ofE z (vO (fun c _ _=>zN0 c)))))
 | .not e,x=>ofE x (Ul (fun o y _=>ZS o&&mE sc nm e y))
 | .and a b,x=>ofE x (AV (fun o l p=>ZW o&&(match l with
  | y::z::l=>mE sc nm a y&&mE sc nm b (match l with | []=>z | _=>.BoolOp .And (z::l) p)
  | _=>false)))
 | .or a b,x=>ofE x (AV (fun o l p=>!ZW o&&(match l with
  | y::z::l=>mE sc nm a y&&mE sc nm b (match l with | []=>z | _=>.BoolOp .Or (z::l) p)
  | _=>false)))
 | .ite c a b,x=>ofE x (KH (fun y z u _=>mE sc nm c y&&(mE sc nm a z&&mE sc nm b u)))
 | .bad,_=>true
termination_by structural e=>e
noncomputable def mEs (sc:Scope) (nm:List Str):Es→List Expr→Bool
 | .nil,l=>un0 l
 | .cons e es,l=>(match l with
  | []=>false
  | x::xs=>qU x&&(mE sc nm e x&&mEs sc nm es xs))
termination_by structural e=>e
end
end
structure Zc where
 prog:Program
 w:World
 K:Frag
 T:TT
 b₀:Heap
 an:Nat→Str
 mn:Nat→Str
 P:Mine.P
 call':Nat→List V→H→RC
 mk':Nat→List V→H→RC
 n:Nat
structure Ok (Z:Zc):Prop where
 B:BOk Z.K Z.b₀
 TC:∀ c k,Z.P.cls c=some k→ClsOk Z.K Z.T Z.an c k
 TM:∀ c m f,Z.P.meth c m=some f→MethOk Z.K Z.T Z.mn c m f
 SO:SplitOk Z.P
 call:IL Z.prog Z.w Z.T Z.b₀ Z.call' Z.n
 make:zl0 Z.prog Z.w Z.T Z.b₀ Z.mk' Z.n
 stop:∃ fI,StopOk Z.K Z.T.stop fI
structure AtZ (Z:Zc) (sc:Scope) (nm:List Str) (C:Cx):Prop where
 hs:C.env.scope=sc
 k:COk C nm
 ao:AOk C Z.n
def Zc.DE (Z:Zc) (C:Cx) (nm:List Str) (x:Expr) (e:E):Prop:=jh Z.prog Z.w Z.T Z.b₀ C nm (eval x C.env) (ev Z.P Z.call' Z.mk' e)
def Zc.DT (Z:Zc) (C:Cx) (nm:List Str) (x:Expr) (e:E):Prop:=Bs Z.prog Z.w Z.T Z.b₀ C nm (isTrue x C.env (eval x C.env)) (tst Z.P Z.call' Z.mk' e)
def Zc.B2 (Z:Zc) (C:Cx) (nm:List Str) (e:E) (x:Expr):Prop:=Z.DE C nm x e∧Z.DT C nm x e
def MB (Z:Zc) (e:E):Prop:=∀ sc nm x C,AtZ Z sc nm C→mE Z.K Z.T Z.an Z.mn sc nm e x=true→Z.B2 C nm e x
structure Es2 (Z:Zc) (C:Cx) (nm:List Str) (xs:List Expr) (es:Es):Prop where
 d:yZ Z.prog Z.w Z.T Z.b₀ C nm xs (evs Z.P Z.call' Z.mk' es)
 v:DenVs Z.prog Z.w Z.T Z.b₀ C nm xs (evs Z.P Z.call' Z.mk' es)
 s:xs.all qU=true
 z:xs=[]→evs Z.P Z.call' Z.mk' es=fun st=>.ok [] st
def MBs (Z:Zc) (es:Es):Prop:=∀ sc nm xs C,AtZ Z sc nm C→mEs Z.K Z.T Z.an Z.mn sc nm es xs=true→Es2 Z C nm xs es
section
variable {Z:Zc} {C:Cx} {nm:List Str} {sc:Scope}
theorem wC {n:Nat} (ao:AOk C n):C.A.units+64<cLine:=by have:=ao.room.2; exact far [_,_,_] [.lt (.p (.p qa (.m 12 qg)) (.n 100)) qb] (.lt (.p qa (.n 64)) qb) rfl this
theorem jF {x:Expr} {e:E} (d:Z.DE C nm x e) (he:tst Z.P Z.call' Z.mk' e=fun _=>.bad):Z.B2 C nm e x :=
 ⟨d,fun m g s st I L=>by rw [he]; exact Den.bad⟩
theorem vc {x:Expr} {e:E} (d:Z.DE C nm x e) (hp:∀ t,isTrue x C.env t=(do let v ← t; standAt x.pos; PySem.holding [v] (PySem.truthy v))) (he:tst Z.P Z.call' Z.mk' e=fun st=>toB (ev Z.P Z.call' Z.mk' e st)):Z.B2 C nm e x :=
 ⟨d,fun m g s st I L=>by rw [he]; exact As hp d m g s st I L⟩
theorem Be {id:Str} (A:AtZ Z sc nm C) (e:ZU sc id=true):C.env.kindOf id=some .globalImplicit∧(id==("__debug__" : Str))=false:=by
 refine ⟨?_,bn (qv e)⟩
 have h:=qA e
 unfold Env.kindOf
 rw [A.hs]
 cases q:sc.names.lookup id with
 | none=>rw [q] at h; exact ftB h
 | some z=>rw [q] at h; cases z <;> first | rfl | exact ftB h
theorem wQ {id:Str} {p:Value} (A:AtZ Z sc nm C) (e:qc0 Z.K sc id p=true):(C.env.kindOf id=some .globalImplicit∧(id==("__debug__" : Str))=false)∧nsIn Z.K uK0 id=some (some p) :=
 ⟨Be A (qA e),be (qv e)⟩
theorem kL {id:Str} (A:AtZ Z sc nm C) (e:Qj Z.K sc id=true):C.env.kindOf id=some .globalImplicit∧nsIn Z.K uK0 id=some none :=
 ⟨(Be A (qA e)).1,be (qv e)⟩
theorem ME {o:Bin} {p:Operator} (e:ZV o p=true):p=QW o:=be e
theorem kI {o:Cmp} {p:CmpOp} (e:Qe o p=true):p=zi o:=be e
theorem Qd {o:Bool} {p:CmpOp} (e:ZT o p=true):p=UB o:=be e
theorem Qc {p:CmpOp} (e:zO0 p=true):p=.Is:=be e
theorem Qb {p:Const} (e:zN0 p=true):p=.none:=be e
theorem MD {p:UnaryOp} (e:ZS p=true):p=.Not:=be e
theorem JW {c:Const} {q:Str→Bool} (e:(YN c).any q=true):∃ y,c=.str y∧q y=true:=by
 cases c <;> first | exact (c1a2 _ rfl e) | exact ftB e
theorem BR:∀ {xs:List (List Nat)} {ks:List (Option Expr)},XP xs ks=true→KeyM ks xs
 | [],_,h=>vb (M:=fun ks=>KeyM ks []) h .nil
 | x::xs,[],h=>ftB h
 | x::xs,k::ks,h=>jH0 (M:=fun k=>KeyM (k::ks) (x::xs)) (qA h) fun e he=>xq (M:=fun e=>KeyM (some e::ks) (x::xs)) he fun c _ _ hc=>by
  refine x1a2 (JW hc) fun y uQ0 hy=>?_; subst uQ0
  rw [be hy]
  exact .cons (BR (qv h))
theorem Xq:MBs Z .nil:=fun sc nm xs C A h=>vb (M:=fun xs=>Es2 Z C nm xs .nil) h ⟨zy,.nil,rfl,fun _=>rfl⟩
theorem Ou {e:E} {es:Es} (h:MB Z e) (hs:MBs Z es):MBs Z (.cons e es):=fun sc nm xs C A hm=>by
 cases xs with
 | nil=>exact ftB hm
 | cons x xs =>
  have d:=(h sc nm x C A (qA (qv hm))).1
  have D:=hs sc nm xs C A (qv (qv hm))
  exact ⟨zr (qA hm) d D.d,.cons d D.v,by rw [wv0,qA hm,D.s]; rfl,fun q=>by cases q⟩
theorem Zo {i:Nat}:MB Z (.loc i):=fun sc nm x C A h=>qE (M:=Z.B2 C nm (.loc i)) h fun y p hi=>by
 have hi:=be hi
 refine ⟨fun m g s st I L=>?_,fun m g s st I L=>?_⟩
 ·show Den _ _ _ _ _ _ _ _ _ _ _ (match st.ρ[i]? with | some (some (.val v))=>R.ok v st | some (some (.own vs))=>.ok (.lst vs) (qB st i (.val (.lst vs))) | _=>.bad)
  cases hv:st.ρ[i]? with
  | none=>exact Den.bad
  | some o=>cases o with
   | none=>exact Den.bad
   | some l=>cases l with
    | val v=>exact ul A.k I L hi hv
    | own vs=>exact Gz A.k I L hi hv
 ·show Den _ _ _ _ _ _ _ _ _ _ _ (match st.ρ[i]? with | some (some (.val v))=>(match truthy v st.σ with | some b=>R.ok b st | none=>.bad) | some (some (.own vs))=>.ok (!vs.isEmpty) st | _=>.bad)
  cases hv:st.ρ[i]? with
  | none=>exact Den.bad
  | some o=>cases o with
   | none=>exact Den.bad
   | some l=>cases l with
    | own vs=>exact Dt A.k I L hi hv
    | val v =>
     classical
     have d:=As (e:=.Name y p) (f:=fun st'=>if st'=st then .ok v st else .bad) (fun _=>rfl) (C:=C) (names:=nm) (prog:=Z.prog) (w:=Z.w) (T:=Z.T) (b₀:=Z.b₀) (by
      intro m' g' s' st' I' L'
      dsimp only
      split
      ·rename_i q
       rw [q] at I' L'
       exact ul A.k I' L' hi hv
      ·exact Den.bad) m g s st I L
     dsimp only at d
     rw [if_pos rfl] at d
     exact d
theorem Au {prog:Program} {w:World} {T:TT} {b₀:Heap}:∀ {vs:List V} {es:List Expr},mLs vs es=true→yZ prog w T b₀ C nm es (fun st=>.ok vs st)
 | [],es,h=>vb (M:=fun es=>yZ prog w T b₀ C nm es _) h zy
 | v::vs,[],h=>ftB h
 | v::vs,e::es,h=>xq (M:=fun e=>yZ prog w T b₀ C nm (e::es) _) (qA h) fun c k p hc=>zr rfl (II hc) (Au (vs:=vs) (es:=es) (qv h))
theorem Zs {v:V} (O:Ok Z):MB Z (.cst v):=fun sc nm x C A h=>by
 refine jP (M:=Z.B2 C nm (.cst v)) h (fun _ _ _ e=>ftB e) (fun _ _ _ _ e=>ftB e) (fun _ _ _ e=>ftB e) (fun _ _ _ _ e=>ftB e) (fun _ _ _ e=>ftB e) (fun _ _ _ _ e=>ftB e) (fun _ _ _ _ e=>ftB e) (fun _ _ _ _ e=>ftB e)
  (fun c _ _ hc=>jF (II hc) rfl) (fun _ _ _ e=>ftB e) (fun _ _ _ e=>ftB e) (fun y p hy=>jF ?_ rfl) (fun _ _ e=>ftB e) (fun es k p hes=>jF ?_ rfl) (fun _ _ _ _ e=>ftB e)
 ·intro m g s st I L
  replace hy:(ZU sc y&&(nsIn Z.K uK0 y).any fun o=>o.any (ZL Z.K 20 v))=true:=hy
  have h:=Be A (qA hy)
  have hy:=qv hy
  generalize q:nsIn Z.K uK0 y=o at hy
  match o,hy with
  | some (some p),hy=>exact Qt O.B A.k I L h.1 h.2 q (Im (st:=I.stay) O.B.X (fun a o q=>I.notBad ⟨o,q⟩) 20 v p hy)
 ·cases v <;> first | exact ftB hes | skip
  rename_i vs
  intro m g s st I L
  have d:=IH (pos:=p) (k:=k) (Au (C:=C) (nm:=nm) (prog:=Z.prog) (w:=Z.w) (T:=Z.T) (b₀:=Z.b₀) (qA hes)) m g s st I L
  change Den _ _ _ _ _ _ _ _ _ _ _ (if vs.length≤qD then R.ok (V.tup vs) st else .bad) at d
  rw [if_pos (show vs.length≤qD from of_decide_eq_true (qv hes))] at d
  exact d
theorem Xx {e:E} {f:Nat} (O:Ok Z) (h:MB Z e):MB Z (.attr e f):=fun sc nm x C A hm=>jl (M:=Z.B2 C nm (.attr e f)) hm fun o a p q=>by
 rw [be (qA q)]
 exact vc (fun m g s st I L=>Qw O.B O.TC (qA (qv q)) ((h sc nm o C A (qv (qv q))).1 m g s st I L)) (fun _=>rfl) rfl
theorem Zr {a b:E} (ha:MB Z a) (hb:MB Z b):MB Z (.idx a b):=fun sc nm x C A hm=>wb (M:=Z.B2 C nm (.idx a b)) hm fun y z p q =>
 vc (QN (qA q) (ha sc nm y C A (qA (qv q))).1 (hb sc nm z C A (qv (qv q))).1) (fun _=>rfl) rfl
theorem kG {e:E} (h:kH e=true):e=.cst .none:=by
 cases e with
 | cst v=>cases v with
  | none=>rfl
  | _=>exact ftB h
 | _=>exact ftB h
theorem Kz {e:E} {o:Option Expr} (h:MB Z e) (A:AtZ Z sc nm C) (hm:(match o with | none=>kH e | some y=>mE Z.K Z.T Z.an Z.mn sc nm e y)=true):jh Z.prog Z.w Z.T Z.b₀ C nm (valueOrNone (evalOpt o C.env)) (ev Z.P Z.call' Z.mk' e):=by
 cases o with
 | none=>rw [kG hm]; exact GH
 | some y=>exact (h sc nm y C A hm).1
theorem Ox {hp:Bool} {a lo hi:E} (ha:MB Z a) (hl:MB Z lo) (hh:MB Z hi):MB Z (.slice hp a lo hi):=fun sc nm x C A hm=>wb (M:=Z.B2 C nm (.slice hp a lo hi)) hm fun y z p q =>
 Jz (M:=fun z=>Z.B2 C nm (.slice hp a lo hi) (.Subscript y z p)) (qv q) fun l h t p2 r=>jI0 (M:=fun t=>Z.B2 C nm (.slice hp a lo hi) (.Subscript y (.Slice l h t p2) p)) (qA r)
  (jF (JF (ha sc nm y C A (qA q)).1 (Kz hl A (qA (qv r))) (Kz hh A (qv (qv r)))) rfl)
theorem Zj {es:Es} (he:MBs Z es):MB Z (.tup es):=fun sc nm x C A hm=>Aq (M:=Z.B2 C nm (.tup es)) hm fun l _ p q=>jF (IH (he sc nm l C A q).d) rfl
theorem Zn {hp:Bool} {es:Es} (he:MBs Z es):MB Z (.lst hp es):=fun sc nm x C A hm=>Ar (M:=Z.B2 C nm (.lst hp es)) hm fun l p q=>jF (QK (he sc nm l C A q).d) rfl
theorem Ye {x y:uP0} (A:AtZ Z sc nm C):AtZ Z sc nm (C.hide2 C.A x y):=⟨A.hs,⟨A.k.kind,A.k.loc,A.k.nodup,A.k.dbg,A.k.gl,A.k.bl,A.k.fr,A.k.hd,A.k.top⟩,⟨A.ao.fr,A.ao.hd,A.ao.room⟩⟩
theorem Xu {ks:List (List Nat)} {es:Es} (he:MBs Z es):MB Z (.dict ks es):=fun sc nm x C A hm=>Gx (M:=Z.B2 C nm (.dict ks es)) hm fun keys vals pos q=>by
 have km:=BR (qA q)
 have hl:=be (qv (qv (qv q)))
 have hk:=qA (qv q)
 have h3:=qA (qv (qv q))
 clear hm q
 refine jF ?_ rfl
 by_cases h0:keys=[]
 ·subst h0
  obtain rfl:vals=[]:=vK0.mp hl.symm
  obtain rfl:ks=[]:=vK0.mp km.length.1.symm
  have e0:=(he sc nm _ C A h3).z rfl
  have e1:ev Z.P Z.call' Z.mk' (.dict [] es)=fun st=>.ok (.ref st.σ.length) {st with σ:=st.σ++[.dict []]}:=by
   funext st
   show (evs Z.P Z.call' Z.mk' es st).strict _=_
   rw [e0]; rfl
  show jh _ _ _ _ _ _ _ (ev Z.P Z.call' Z.mk' (.dict [] es))
  rw [e1]
  exact JG
 ·exact No km h0 hl hk fun x=>(he sc nm vals (C.hide2 C.A x x) (Ye A) h3).v
theorem GV {y:Str} (h:jf0 sc y=true):(∀ z∈sc.names,z.2≠.cell)∧(∀ z∈sc.names,z.2≠.free)∧(∀ z∈sc.names,z.2=.local→sc.names.lookup z.1=some .local)∧sc.kind=.function∧sc.names.lookup y=some .local∧(y==("__debug__" : Str))=false:=by
 have h1:=vE0.mp (qA (qA (qA (qA h))))
 have h2:=vE0.mp (qv (qA (qA (qA h))))
 refine (xY0 (fun z hz q=>?_) (fun z hz q=>?_) (fun z hz q=>?_) (Da (qv (qA (qA h)))) (zx (qv (qA h))) (bn (qv h)))
 ·have:=h1 z hz; rw [q] at this; exact ftB this
 ·have:=h1 z hz; rw [q] at this; exact ftB this
 ·have:=h2 z hz
  rw [q] at this
  exact zx this
theorem Xv {x₀:Nat} {body it:E} (O:Ok Z) (hb:MB Z body) (hi:MB Z it):MB Z (.comp x₀ body it):=fun sc nm x C A hm=>ue (M:=Z.B2 C nm (.comp x₀ body it)) hm fun elt gs sc2 p q =>
 wz (M:=fun gs=>Z.B2 C nm (.comp x₀ body it) (.ListComp elt gs sc2 p)) q fun g r=>by
  obtain ⟨tg,iter,ifs,ia⟩:=g
  obtain rfl:ia=0:=be (qv (qA r))
  refine vb (M:=fun ifs=>Z.B2 C nm (.comp x₀ body it) (.ListComp elt [⟨tg,iter,ifs,0⟩] sc2 p)) (qA (qA r)) (qE (M:=fun tg=>Z.B2 C nm (.comp x₀ body it) (.ListComp elt [⟨tg,iter,[],0⟩] sc2 p)) (qv r) fun y yp t=>?_)
  refine YJ (GV (qA t)) fun s1 s2 s3 s4 s5 s6=>?_
  exact jF (Np O.B A.k A.ao s1 s2 s3 s4 s5 s6 (qA (qv t)) (fun C' k' ao' hs'=>(hb sc2 [y] elt C' ⟨hs',k',ao'⟩ (qv (qv (qv t)))).1) (hi sc nm iter C A (qA (qv (qv t)))).1) rfl
theorem Oy {f:Nat} {es:Es} (O:Ok Z) (he:MBs Z es):MB Z (.callF f es):=fun sc nm x C A hm=>ja (M:=Z.B2 C nm (.callF f es)) hm fun fn args kw p q =>
 vb (M:=fun kw=>Z.B2 C nm (.callF f es) (.Call fn args kw p)) (qA q) (qE (M:=fun fn=>Z.B2 C nm (.callF f es) (.Call fn args [] p)) (qA (qv q)) fun id _ h1 =>
  have g:=wQ A h1
  have D:=he sc nm args C A (qv (qv (qv q)))
  vc (JH O.B A.k A.ao O.call D.s D.z g.1.1 g.1.2 g.2 (qA (qv (qv q))) D.d) (fun _=>rfl) rfl)
theorem Zm {f:Nat} {es:Es} (O:Ok Z) (he:MBs Z es):MB Z (.new f es):=fun sc nm x C A hm=>ja (M:=Z.B2 C nm (.new f es)) hm fun fn args kw p q =>
 vb (M:=fun kw=>Z.B2 C nm (.new f es) (.Call fn args kw p)) (qA q) (qE (M:=fun fn=>Z.B2 C nm (.new f es) (.Call fn args [] p)) (qA (qv q)) fun id _ h1 =>
  have g:=wQ A h1
  have D:=he sc nm args C A (qv (qv (qv q)))
  jF (QJ O.B A.k A.ao O.make D.s D.z g.1.1 g.1.2 g.2 (qA (qv (qv q))) D.d) rfl)
theorem Xr {e:E} {f:Nat} {es:Es} (O:Ok Z) (h:MB Z e) (he:MBs Z es):MB Z (.meth e f es):=fun sc nm x C A hm=>ja (M:=Z.B2 C nm (.meth e f es)) hm fun fn args kw p q =>
 vb (M:=fun kw=>Z.B2 C nm (.meth e f es) (.Call fn args kw p)) (qA q) (jl (M:=fun fn=>Z.B2 C nm (.meth e f es) (.Call fn args [] p)) (qA (qv q)) fun o a ap r=>by
  have D:=he sc nm args C A (qv (qv (qv q)))
  rw [be (qA r)]
  exact vc (Nn (P:=Z.P) O.B A.ao O.call O.TM (qA (qv r)) D.s D.z (of_decide_eq_true (qA (qv (qv q)))) (qA (qv (qv r))) (h sc nm o C A (qv (qv (qv r)))).1 D.d) (fun _=>rfl) rfl)
theorem Zp {e:E} (O:Ok Z) (h:MB Z e):MB Z (.len e):=fun sc nm x C A hm=>ja (M:=Z.B2 C nm (.len e)) hm fun fn args kw p q =>
 vb (M:=fun kw=>Z.B2 C nm (.len e) (.Call fn args kw p)) (qA q) (qE (M:=fun fn=>Z.B2 C nm (.len e) (.Call fn args [] p)) (qA (qv q)) fun id _ h1 =>
  wz (M:=fun args=>Z.B2 C nm (.len e) (.Call (.Name id _) args [] p)) (qv (qv q)) fun y t =>
  have g:=kL A (qv h1)
  jF (QL O.B A.k (qA t) (be (qA h1)) g.1 g.2 (h sc nm y C A (qv t)).1) rfl)
theorem Ov {e:E} (O:Ok Z) (h:MB Z e):MB Z (.tuple e):=fun sc nm x C A hm=>ja (M:=Z.B2 C nm (.tuple e)) hm fun fn args kw p q =>
 vb (M:=fun kw=>Z.B2 C nm (.tuple e) (.Call fn args kw p)) (qA q) (qE (M:=fun fn=>Z.B2 C nm (.tuple e) (.Call fn args [] p)) (qA (qv q)) fun id _ h1 =>
  wz (M:=fun args=>Z.B2 C nm (.tuple e) (.Call (.Name id _) args [] p)) (qv (qv q)) fun y t =>
  have g:=kL A (qv h1)
  jF (JD O.B A.k (qA t) (be (qA h1)) g.1 g.2 (h sc nm y C A (qv t)).1) rfl)
theorem Ow {e:E} (O:Ok Z) (h:MB Z e):MB Z (.split e):=fun sc nm x C A hm=>ja (M:=Z.B2 C nm (.split e)) hm fun fn args kw p q =>
 vb (M:=fun kw=>Z.B2 C nm (.split e) (.Call fn args kw p)) (qA q) (jl (M:=fun fn=>Z.B2 C nm (.split e) (.Call fn args [] p)) (qA (qv q)) fun o a ap r =>
  vb (M:=fun args=>Z.B2 C nm (.split e) (.Call (.Attribute o a ap) args [] p)) (qv (qv q)) (by
   rw [be (qA r)]
   exact jF (JE O.SO (qA (qv r)) (qA (qv (qv r))) (h sc nm o C A (qv (qv (qv r)))).1) rfl))
theorem Zk {e:E} (h:MB Z e):MB Z (.pop e):=fun sc nm x C A hm=>ja (M:=Z.B2 C nm (.pop e)) hm fun fn args kw p q =>
 vb (M:=fun kw=>Z.B2 C nm (.pop e) (.Call fn args kw p)) (qA q) (jl (M:=fun fn=>Z.B2 C nm (.pop e) (.Call fn args [] p)) (qA (qv q)) fun o a ap r =>
  vb (M:=fun args=>Z.B2 C nm (.pop e) (.Call (.Attribute o a ap) args [] p)) (qv (qv q)) (by
   rw [be (qA r)]
   exact jF (QH (qA (qv r)) (qA (qv (qv r))) (h sc nm o C A (qv (qv (qv r)))).1) rfl))
theorem Ky {i:Nat}:MB Z (.popOwn i):=fun sc nm x C A hm=>ja (M:=Z.B2 C nm (.popOwn i)) hm fun fn args kw p q =>
 vb (M:=fun kw=>Z.B2 C nm (.popOwn i) (.Call fn args kw p)) (qA q) (jl (M:=fun fn=>Z.B2 C nm (.popOwn i) (.Call fn args [] p)) (qA (qv q)) fun o a ap r =>
  vb (M:=fun args=>Z.B2 C nm (.popOwn i) (.Call (.Attribute o a ap) args [] p)) (qv (qv q)) (by
   rw [be (qA r)]
   exact qE (M:=fun o=>Z.B2 C nm (.popOwn i) (.Call (.Attribute o "pop" ap) [] [] p)) (qv (qv r)) fun y _ t=>jF (GG A.k (be t) (qA (qv r))) rfl))
theorem Zu {o:Bin} {a b:E} (ha:MB Z a) (hb:MB Z b):MB Z (.bin o a b):=fun sc nm x C A hm=>JB (M:=Z.B2 C nm (.bin o a b)) hm fun y op z p q=>by
 rw [ME (qA q)]
 exact jF (QP (ha sc nm y C A (qA (qv q))).1 (hb sc nm z C A (qv (qv q))).1) rfl
theorem toB_cmp {o:Cmp} {r:R V} {s:St→R V}:toB (QR o r s)=r.bind fun x st=>(s st).bind fun y st=>match qF o x y with | some v=>.ok v st | none=>.bad:=by
 unfold toB QR
 cases r with
 | ok v st1 =>
  dsimp only [R.bind]
  cases s st1 with
  | ok v2 st2=>dsimp only; cases qF o v v2 <;> rfl
  | exc _=>rfl
  | bad=>rfl
 | exc _=>rfl
 | bad=>rfl
theorem Zt {o:Cmp} {a b:E} (ha:MB Z a) (hb:MB Z b):MB Z (.cmp o a b):=fun sc nm x C A hm=>yC (M:=Z.B2 C nm (.cmp o a b)) hm fun y os zs p q =>
 wz (M:=fun os=>Z.B2 C nm (.cmp o a b) (.Compare y os zs p)) (qv q) fun op r=>by
  obtain rfl:=kI (qA r)
  refine wz (M:=fun zs=>Z.B2 C nm (.cmp o a b) (.Compare y [zi o] zs p)) (qv r) fun z t=>?_
  have d1:=(ha sc nm y C A (qA q)).1
  have d2:=(hb sc nm z C A (qv t)).1
  exact ⟨QO (wC A.ao) (bn (qA t)) d1 d2,fun m g s st I L=>Den.cast toB_cmp.symm (Qy (wC A.ao) (bn (qA t)) d1 d2 m g s st I L)⟩
theorem toB_isin {n:Bool} {r:R V} {s:St→R V}:toB (OZ n r s)=r.bind fun x st=>(s st).bind fun y st=>match xl n x y st.σ with | some v=>.ok (v != n) st | none=>.bad:=by
 unfold toB OZ
 cases r with
 | ok v st1 =>
  dsimp only [R.bind]
  cases s st1 with
  | ok v2 st2=>dsimp only; cases xl n v v2 st2.σ <;> rfl
  | exc _=>rfl
  | bad=>rfl
 | exc _=>rfl
 | bad=>rfl
theorem Xs {o:Bool} {a b:E} (O:Ok Z) (ha:MB Z a) (hb:MB Z b):MB Z (.isin o a b):=fun sc nm x C A hm=>yC (M:=Z.B2 C nm (.isin o a b)) hm fun y os zs p q =>
 wz (M:=fun os=>Z.B2 C nm (.isin o a b) (.Compare y os zs p)) (qv q) fun op r=>by
  obtain rfl:=Qd (qA r)
  refine wz (M:=fun zs=>Z.B2 C nm (.isin o a b) (.Compare y [UB o] zs p)) (qv r) fun z t=>?_
  have d1:=(ha sc nm y C A (qA q)).1
  have d2:=(hb sc nm z C A (qv t)).1
  exact ⟨Yw O.B (bn (qA t)) d1 d2,fun m g s st I L=>Den.cast toB_isin.symm (Yv O.B (bn (qA t)) d1 d2 m g s st I L)⟩
theorem toB_cmp2 {o:Cmp} {r:R V} {s t:St→R V}:toB (QS o r s t)=r.bind fun a st=>(s st).bind fun b st=>match qF o a b with
   | some true=>(t st).bind fun c st=>(match qF o b c with | some v=>.ok v st | none=>.bad)
   | some false=>.ok false st
   | none=>.bad:=by
 unfold toB QS
 cases r with
 | ok v st1 =>
  dsimp only [R.bind]
  cases s st1 with
  | ok v2 st2 =>
   dsimp only
   cases qF o v v2 with
   | none=>rfl
   | some q =>
    cases q with
    | false=>rfl
    | true =>
     dsimp only
     cases t st2 with
     | ok v3 st3=>dsimp only; cases qF o v2 v3 <;> rfl
     | exc _=>rfl
     | bad=>rfl
  | exc _=>rfl
  | bad=>rfl
 | exc _=>rfl
 | bad=>rfl
theorem Xw {o:Cmp} {a b c:E} (ha:MB Z a) (hb:MB Z b) (hc:MB Z c):MB Z (.cmp2 o a b c):=fun sc nm x C A hm=>yC (M:=Z.B2 C nm (.cmp2 o a b c)) hm fun y os zs p q =>
 qI0 (M:=fun os=>Z.B2 C nm (.cmp2 o a b c) (.Compare y os zs p)) (qv q) fun op op2 r=>by
  obtain rfl:=kI (qA r)
  obtain rfl:=kI (qA (qv r))
  refine qI0 (M:=fun zs=>Z.B2 C nm (.cmp2 o a b c) (.Compare y [zi o,zi o] zs p)) (qv (qv r)) fun z z2 t=>?_
  have d1:=(ha sc nm y C A (qA q)).1
  have d2:=(hb sc nm z C A (qA (qv t))).1
  have d3:=(hc sc nm z2 C A (qv (qv t))).1
  exact ⟨Nq (wC A.ao) (bn (qA t)) d1 d2 d3,fun m g s st I L=>Den.cast toB_cmp2.symm (Ni (wC A.ao) (bn (qA t)) d1 d2 d3 m g s st I L)⟩
theorem toB_isNone {r:R V}:toB (r.bind fun v st=>.ok (.bool (xE v)) st)=r.bind fun v st=>.ok (xE v) st:=by cases r <;> rfl
theorem KA {e:E} (h:MB Z e):MB Z (.isNone e):=fun sc nm x C A hm=>yC (M:=Z.B2 C nm (.isNone e)) hm fun y os zs p q =>
 wz (M:=fun os=>Z.B2 C nm (.isNone e) (.Compare y os zs p)) (qA (qv q)) fun op r=>by
  obtain rfl:=Qc r
  refine wz (M:=fun zs=>Z.B2 C nm (.isNone e) (.Compare y [.Is] zs p)) (qv (qv q)) fun z t=>xq (M:=fun z=>Z.B2 C nm (.isNone e) (.Compare y [.Is] [z] p)) t fun c k cp u=>?_
  obtain rfl:=Qb u
  have d:=(h sc nm y C A (qA q)).1
  exact ⟨GI d,fun m g s st I L=>Den.cast toB_isNone.symm (GB d m g s st I L)⟩
theorem Zl {e:E} (h:MB Z e):MB Z (.not e):=fun sc nm x C A hm=>MY (M:=Z.B2 C nm (.not e)) hm fun o y p q=>by
 obtain rfl:=MD (qA q)
 have d:=h sc nm y C A (qv q)
 exact ⟨QI d.1,Qx d.2 _⟩
theorem Zq {c a b:E} (hc:MB Z c) (ha:MB Z a) (hb:MB Z b):MB Z (.ite c a b):=fun sc nm x C A hm=>JA (M:=Z.B2 C nm (.ite c a b)) hm fun y z u p q =>
 jF (QM (hc sc nm y C A (qA q)).2 (ha sc nm z C A (qA (qv q))).1 (hb sc nm u C A (qv (qv q))).1) rfl
theorem Zw {a b:E} (ha:MB Z a) (hb:MB Z b):MB Z (.and a b):=fun sc nm x C A hm=>uf (M:=Z.B2 C nm (.and a b)) hm fun o l p q=>by
 obtain rfl:o=.And:=be (qA q)
 have q:=qv q
 match l,q with
 | [y,z],q =>
  have d1:=ha sc nm y C A (qA q)
  have d2:=hb sc nm z C A (qv q)
  exact ⟨IJ (pos:=p) (r:=[]) d1.1 d2.1,IF (r:=[]) d1.2 (Du d2.2)⟩
 | y::z::u::l,q =>
  have d1:=ha sc nm y C A (qA q)
  have d2:=hb sc nm _ C A (qv q)
  exact ⟨IJ (pos:=p) d1.1 d2.1,IF d1.2 d2.2⟩
theorem jj0 {a b:E} (ha:MB Z a) (hb:MB Z b):MB Z (.or a b):=fun sc nm x C A hm=>uf (M:=Z.B2 C nm (.or a b)) hm fun o l p q=>by
 obtain rfl:o=.Or:=by have:=bn (qA q); cases o <;> first | rfl | exact tfB this
 have q:=qv q
 match l,q with
 | [y,z],q =>
  have d1:=ha sc nm y C A (qA q)
  have d2:=hb sc nm z C A (qv q)
  exact ⟨Nr (pos:=p) (r:=[]) d1.1 d2.1,Nh (r:=[]) d1.2 (Du d2.2)⟩
 | y::z::u::l,q =>
  have d1:=ha sc nm y C A (qA q)
  have d2:=hb sc nm _ C A (qv q)
  exact ⟨Nr (pos:=p) d1.1 d2.1,Nh d1.2 d2.2⟩
theorem Zv:MB Z .bad:=fun sc nm x C A h=>jF (fun m g s st I L=>Den.bad) rfl
mutual
theorem okE (O:Ok Z):∀ e:E,MB Z e
 | .loc _=>Zo
 | .cst _=>Zs O
 | .attr e _=>Xx O (okE O e)
 | .idx a b=>Zr (okE O a) (okE O b)
 | .slice _ a b c=>Ox (okE O a) (okE O b) (okE O c)
 | .tup es=>Zj (Uk O es)
 | .lst _ es=>Zn (Uk O es)
 | .dict _ es=>Xu (Uk O es)
 | .comp _ a b=>Xv O (okE O a) (okE O b)
 | .callF _ es=>Oy O (Uk O es)
 | .new _ es=>Zm O (Uk O es)
 | .meth e _ es=>Xr O (okE O e) (Uk O es)
 | .len e=>Zp O (okE O e)
 | .tuple e=>Ov O (okE O e)
 | .split e=>Ow O (okE O e)
 | .pop e=>Zk (okE O e)
 | .popOwn _=>Ky
 | .bin _ a b=>Zu (okE O a) (okE O b)
 | .cmp _ a b=>Zt (okE O a) (okE O b)
 | .cmp2 _ a b c=>Xw (okE O a) (okE O b) (okE O c)
 | .isin _ a b=>Xs O (okE O a) (okE O b)
 | .isNone e=>KA (okE O e)
 | .not e=>Zl (okE O e)
 | .and a b=>Zw (okE O a) (okE O b)
 | .or a b=>jj0 (okE O a) (okE O b)
 | .ite c a b=>Zq (okE O c) (okE O a) (okE O b)
 | .bad=>Zv
theorem Uk (O:Ok Z):∀ es:Es,MBs Z es
 | .nil=>Xq
 | .cons e es=>Ou (okE O e) (Uk O es)
end
end
noncomputable def Ms (nm:List Str):List Nat→List Expr→Bool
 | [],xs=>un0 xs
 | i::is,xs=>(match xs with
  | []=>false
  | x::xs=>ofE x (qV (fun y _=>nm[i]?==some y))&&Ms nm is xs)
termination_by structural is=>is
noncomputable def Yc (o:Bin) (p:Operator):Bool:=p==Bp o
noncomputable def Uy:S→Bool
 | .bad=>true
 | _=>false
noncomputable def jz0 (K:Frag) (sc:Scope) (id:String) (fn:Expr):Bool:=ofE fn (qV (fun y _=>y==(id:Str)&&Qj K sc y))
noncomputable def mHd (K:Frag) (T:TT) (sc:Scope) (nm:List Str) (i:Nat) (v:V):ExceptHandler→Bool
 | .ExceptHandler t n b _=>t.any (fun e=>ofE e (qV (fun id _=>qc0 K sc id (.ref T.stop))))&&(isN n&&(un1 b).any fun s=>ofS s (xz (fun ts c _=>(un1 ts).any (fun x=>ofE x (qV (fun y _=>nm[i]?==some y)))&&(uA v&&ofE c (vO (fun c _ _=>ZM v c))))))
section
variable (K:Frag) (T:TT) (an mn:Nat→Str)
noncomputable def jn0 (sc:Scope) (nm:List Str) (f:String) (i:Nat) (e:E) (x:Stmt):Bool:=ofS x (wK (fun y _=>ofE y (jE (fun fn args kw p=>un0 kw&&(ofE fn (jU (fun o a ap=>a==(f:Str)&&(ap.endLine==p.line&&ofE o (qV (fun y _=>nm[i]?==some y)))))&&(un1 args).any fun z=>qU z&&mE K T an mn sc nm e z)))))
noncomputable def ZN (sc:Scope) (nm:List Str) (z:Str) (zp:Pos) (y:Expr):E→Bool
 | .comp _ body it=>ofE y (AU (fun elt gs sc2 p=>(un1 gs).any fun g=>(un0 g.ifs&&g.is_async==(0:Int))&&ofE g.target (qV (fun y _=>(jf0 sc2 y&&(vP g.iter&&(mE K T an mn sc nm it g.iter&&mE K T an mn sc2 [y] body elt)))&&(zp.line==p.line&&!(sc2.names.any fun (n,k)=>n==z&&(k==.local||k==.cell)))))))
 | _=>false
mutual
noncomputable def mS (sc:Scope) (nm:List Str):S→Stmt→Bool
 | .asg i e,x=>ofS x (xz (fun ts y _=>(un1 ts).any fun t=>ofE t (qV (fun z zp=>nm[i]?==some z&&((jW y&&mE K T an mn sc nm e y)||ZN K T an mn sc nm z zp y e)))))
 | .asgOwn i es,x=>ofS x (xz (fun ts y _=>(un1 ts).any fun t=>ofE t (qV (fun z _=>nm[i]?==some z&&ofE y (DX (fun l _=>mEs K T an mn sc nm es l))))))
 | .unpack is e,x=>ofS x (xz (fun ts y _=>(un1 ts).any fun t=>ofE t (DW (fun l _ _=>Ms nm is l&&(jW y&&(Um y&&mE K T an mn sc nm e y))))))
 | .setAttr o f e,x=>ofS x (xz (fun ts y _=>(un1 ts).any fun t=>ofE t (jU (fun z a _=>a==an f&&(jW y&&(mE K T an mn sc nm e y&&mE K T an mn sc nm o z))))))
 | .setIdx o i e,x=>ofS x (xz (fun ts y _=>(un1 ts).any fun t=>ofE t (AT (fun z u _=>jW y&&(mE K T an mn sc nm e y&&(mE K T an mn sc nm o z&&mE K T an mn sc nm i u))))))
 | .augLoc i o e,x=>ofS x (DV (fun t op y _=>Yc o op&&ofE t (qV (fun z _=>nm[i]?==some z&&mE K T an mn sc nm e y))))
 | .augAttr q f o e,x=>ofS x (DV (fun t op y _=>Yc o op&&ofE t (jU (fun z a _=>a==an f&&(mE K T an mn sc nm q z&&mE K T an mn sc nm e y)))))
 | .append o e,x=>ofS x (wK (fun y _=>ofE y (jE (fun fn args kw p=>un0 kw&&(ofE fn (jU (fun z a ap=>a==("append" : Str)&&(jy z&&(ap.endLine==p.line&&mE K T an mn sc nm o z))))&&(un1 args).any fun u=>qU u&&mE K T an mn sc nm e u)))))
 | .appendOwn i e,x=>jn0 K T an mn sc nm "append" i e x
 | .extendOwn i e,x=>jn0 K T an mn sc nm "extend" i e x
 | .expr e,x=>ofS x (wK (fun y _=>jW y&&mE K T an mn sc nm e y))
 | .ifs c a b,x=>ofS x (KE (fun y z u _=>mE K T an mn sc nm c y&&(mSs sc nm a z&&mSs sc nm b u)))
 | .whl c b,x=>ofS x (KC (fun y z u _=>un0 u&&(mE K T an mn sc nm c y&&mSs sc nm b z)))
 | .forr i n b,x=>ofS x (AS (fun t it z u _=>un0 u&&(ofE t (qV (fun y _=>nm[i]?==some y))&&(ofE it (jE (fun fn args kw _=>un0 kw&&(jz0 K sc "range" fn&&(un1 args).any fun y=>qU y&&mE K T an mn sc nm n y)))&&mSs sc nm b z))))
 | .fore i e b,x=>ofS x (AS (fun t y z u _=>un0 u&&(ofE t (qV (fun y _=>nm[i]?==some y))&&(vP y&&(mE K T an mn sc nm e y&&mSs sc nm b z)))))
 | .ret e,x=>ofS x (KD (fun o _=>match o with | none=>kH e | some y=>mE K T an mn sc nm e y))
 | .raise e,x=>ofS x (BH (fun o c _=>isN c&&o.any fun y=>ofE y (jE (fun fn args kw _=>un0 kw&&(ofE fn (qV (fun id _=>qc0 K sc id (.ref T.stop)))&&(un1 args).any fun z=>ofE z (jE (fun fn args kw _=>un0 kw&&(jz0 K sc "str" fn&&(un1 args).any fun y=>qU y&&mE K T an mn sc nm e y))))))))
 | .tryy b i v,x=>ofS x (Ib (fun y hs u w _=>un0 u&&(un0 w&&((match hs with | []=>false | h::_=>mHd K T sc nm i v h)&&mSs sc nm b y))))
 | .brk,x=>ofS x (KF (fun _=>true))
 | .bad,_=>true
termination_by structural s=>s
noncomputable def mSs (sc:Scope) (nm:List Str):Ss→List Stmt→Bool
 | .nil,l=>un0 l
 | .cons s ss,l=>Uy s||(match l with
  | []=>false
  | x::xs=>mS sc nm s x&&mSs sc nm ss xs)
termination_by structural s=>s
end
end
def Zc.DS (Z:Zc) (C:Cx) (nm:List Str) (s:S) (x:Stmt):Prop:=xX Z.prog Z.w Z.T Z.b₀ C nm (exec x C.env) (ex Z.P Z.call' Z.mk' s)
def MSk (Z:Zc) (s:S):Prop:=∀ sc nm x C,AtZ Z sc nm C→SOk C→mS Z.K Z.T Z.an Z.mn sc nm s x=true→Z.DS C nm s x
def MSs (Z:Zc) (s:Ss):Prop:=∀ sc nm x C,AtZ Z sc nm C→SOk C→mSs Z.K Z.T Z.an Z.mn sc nm s x=true→xX Z.prog Z.w Z.T Z.b₀ C nm (execs x C.env) (exs Z.P Z.call' Z.mk' s)
section
variable {Z:Zc} {C:Cx} {nm:List Str} {sc:Scope}
theorem Db {o:Bin} {p:Operator} (e:Yc o p=true):p=Bp o:=be e
theorem vF {t:Sem PySem.Flow} {f f':St→R Mine.Flow} (d:xX Z.prog Z.w Z.T Z.b₀ C nm t f) (e:∀ st,f st=f' st):xX Z.prog Z.w Z.T Z.b₀ C nm t f':=(funext e)▸d
theorem IG {t:Sem PySem.Flow}:xX Z.prog Z.w Z.T Z.b₀ C nm t (fun _=>.bad):=fun m g s st I L Q E _ _ hb=>(hb rfl).elim
theorem Yb {v:V} {c:Const} (h1:uA v=true) (h2:ZM v c=true):jw0 v c:=by
 cases v <;> first | exact be h2 | exact ftB h1
theorem uU:∀ {is:List Nat} {xs:List Expr},Ms nm is xs=true→∃ ys:List (Str×Pos),xs=ys.map (fun x=>Expr.Name x.1 x.2)∧is.map (nm[·]?)=ys.map (fun x=>some x.1)
 | [],xs,h=>vb (M:=fun xs=>∃ ys:List (Str×Pos),xs=ys.map (fun x=>Expr.Name x.1 x.2)∧[]=ys.map (fun x=>some x.1)) h (c1a2 [] rfl rfl)
 | i::is,[],h=>ftB h
 | i::is,x::xs,h=>qE (M:=fun x=>∃ ys:List (Str×Pos),x::xs=ys.map (fun x=>Expr.Name x.1 x.2)∧(i::is).map (nm[·]?)=ys.map (fun x=>some x.1)) (qA h) fun y p hy=>by
  refine x1a2 (uU (is:=is) (xs:=xs) (qv h)) fun ys e1 e2=>?_
  exact (c1a2 ((y,p)::ys) (by rw [e1]; rfl) (by rw [vJ0,vJ0,e2,be hy]))
theorem Xg {i:Nat} {e:E} {z:Str} {zp p:Pos} {y:Expr} (O:Ok Z) (A:AtZ Z sc nm C) (hi:nm[i]?=some z) (hm:ZN Z.K Z.T Z.an Z.mn sc nm z zp y e=true):Z.DS C nm (.asg i e) (.Assign [.Name z zp] y p):=by
 cases e with
 | comp x₀ body it =>
  refine ue (M:=fun y=>Z.DS C nm (.asg i (.comp x₀ body it)) (.Assign [.Name z zp] y p)) hm fun elt gs sc2 p2 q=>wz (M:=fun gs=>Z.DS C nm (.asg i (.comp x₀ body it)) (.Assign [.Name z zp] (.ListComp elt gs sc2 p2) p)) q fun g r=>?_
  obtain ⟨tg,iter,ifs,ia⟩:=g
  obtain rfl:ia=0:=be (qv (qA r))
  refine vb (M:=fun ifs=>Z.DS C nm (.asg i (.comp x₀ body it)) (.Assign [.Name z zp] (.ListComp elt [⟨tg,iter,ifs,0⟩] sc2 p2) p)) (qA (qA r)) (qE (M:=fun tg=>Z.DS C nm (.asg i (.comp x₀ body it)) (.Assign [.Name z zp] (.ListComp elt [⟨tg,iter,[],0⟩] sc2 p2) p)) (qv r) fun y yp t=>?_)
  refine YJ (GV (qA (qA t))) fun s1 s2 s3 s4 s5 s6=>?_
  have t1:=qv (qA t)
  exact Dx O.B hi A.k A.ao s1 s2 s3 s4 s5 s6 (qA t1) (qA (qv t)) (bn (qv (qv t))) (fun C' k' ao' hs'=>(okE O body sc2 [y] elt C' ⟨hs',k',ao'⟩ (qv (qv t1))).1) (okE O it sc nm iter C A (qA (qv t1))).1
 | _=>exact ftB hm
theorem YW {i:Nat} {e:E} (O:Ok Z):MSk Z (.asg i e):=fun sc nm x C A so hm=>jZ (M:=Z.DS C nm (.asg i e)) hm fun ts y p q =>
 wz (M:=fun ts=>Z.DS C nm (.asg i e) (.Assign ts y p)) q fun t q=>qE (M:=fun t=>Z.DS C nm (.asg i e) (.Assign [t] y p)) q fun z zp q =>
  (um0.mp (qv q)).elim (fun r=>QF A.k (be (qA q)) (qA r) (okE O e sc nm y C A (qv r)).1) (Xg O A (be (qA q)))
theorem Kh {i:Nat} {es:Es} (O:Ok Z):MSk Z (.asgOwn i es):=fun sc nm x C A so hm=>jZ (M:=Z.DS C nm (.asgOwn i es)) hm fun ts y p q =>
 wz (M:=fun ts=>Z.DS C nm (.asgOwn i es) (.Assign ts y p)) q fun t q=>qE (M:=fun t=>Z.DS C nm (.asgOwn i es) (.Assign [t] y p)) q fun z zp q =>
  Ar (M:=fun y=>Z.DS C nm (.asgOwn i es) (.Assign [.Name z zp] y p)) (qv q) fun l _ r=>GF A.k (be (qA q)) (Uk O es sc nm l C A r).d
theorem Ke {is:List Nat} {e:E} (O:Ok Z):MSk Z (.unpack is e):=fun sc nm x C A so hm=>jZ (M:=Z.DS C nm (.unpack is e)) hm fun ts y p q =>
 wz (M:=fun ts=>Z.DS C nm (.unpack is e) (.Assign ts y p)) q fun t q=>Aq (M:=fun t=>Z.DS C nm (.unpack is e) (.Assign [t] y p)) q fun l _ _ q=>by
  refine x1a2 (uU (qA q)) fun ys uQ0 hy=>?_; subst uQ0
  exact GC A.k hy (qA (qv q)) (qA (qv (qv q))) (okE O e sc nm y C A (qv (qv (qv q)))).1
theorem IQ {o e:E} {f:Nat} (O:Ok Z):MSk Z (.setAttr o f e):=fun sc nm x C A so hm=>jZ (M:=Z.DS C nm (.setAttr o f e)) hm fun ts y p q =>
 wz (M:=fun ts=>Z.DS C nm (.setAttr o f e) (.Assign ts y p)) q fun t q=>jl (M:=fun t=>Z.DS C nm (.setAttr o f e) (.Assign [t] y p)) q fun z a ap q=>by
  rw [be (qA q)]
  exact Dv O.B O.TC (qA (qv q)) (okE O e sc nm y C A (qA (qv (qv q)))).1 (okE O o sc nm z C A (qv (qv (qv q)))).1
theorem Kf {o i e:E} (O:Ok Z):MSk Z (.setIdx o i e):=fun sc nm x C A so hm=>jZ (M:=Z.DS C nm (.setIdx o i e)) hm fun ts y p q =>
 wz (M:=fun ts=>Z.DS C nm (.setIdx o i e) (.Assign ts y p)) q fun t q=>wb (M:=fun t=>Z.DS C nm (.setIdx o i e) (.Assign [t] y p)) q fun z u ap q =>
  GD O.B (qA q) (okE O e sc nm y C A (qA (qv q))).1 (okE O o sc nm z C A (qA (qv (qv q)))).1 (okE O i sc nm u C A (qv (qv (qv q)))).1
theorem Kg {i:Nat} {o:Bin} {e:E} (O:Ok Z):MSk Z (.augLoc i o e):=fun sc nm x C A so hm=>Ap (M:=Z.DS C nm (.augLoc i o e)) hm fun t op y p q=>by
 rw [Db (qA q)]
 exact qE (M:=fun t=>Z.DS C nm (.augLoc i o e) (.AugAssign t (Bp o) y p)) (qv q) fun z _ r=>GE A.k (be (qA r)) (okE O e sc nm y C A (qv r)).1
theorem IR {x e:E} {f:Nat} {o:Bin} (O:Ok Z):MSk Z (.augAttr x f o e):=fun sc nm y C A so hm=>Ap (M:=Z.DS C nm (.augAttr x f o e)) hm fun t op y p q=>by
 rw [Db (qA q)]
 refine jl (M:=fun t=>Z.DS C nm (.augAttr x f o e) (.AugAssign t (Bp o) y p)) (qv q) fun z a _ r=>?_
 rw [be (qA r)]
 exact Dw O.B O.TC (okE O x sc nm z C A (qA (qv r))).1 (okE O e sc nm y C A (qv (qv r))).1
theorem GO {α β:Type} {c:Prop} [Decidable c] {a b:R α} {f:α→St→R β}:(if c then a else b).bind f=if c then a.bind f else b.bind f:=by split <;> rfl
theorem Ki {o e:E} (O:Ok Z):MSk Z (.append o e):=fun sc nm x C A so hm=>yW (M:=Z.DS C nm (.append o e)) hm fun y p q=>ja (M:=fun y=>Z.DS C nm (.append o e) (.Expr y p)) q fun fn args kw cp q =>
 vb (M:=fun kw=>Z.DS C nm (.append o e) (.Expr (.Call fn args kw cp) p)) (qA q) (jl (M:=fun fn=>Z.DS C nm (.append o e) (.Expr (.Call fn args [] cp) p)) (qA (qv q)) fun z a ap r =>
  wz (M:=fun args=>Z.DS C nm (.append o e) (.Expr (.Call (.Attribute z a ap) args [] cp) p)) (qv (qv q)) fun u t=>by
   rw [be (qA r)]
   refine vF (vE A.k rfl (GJ (qA (qv r)) (qA (qv (qv r))) (qA t) (okE O o sc nm z C A (qv (qv (qv r)))).1 (okE O e sc nm u C A (qv t)).1)) fun st=>?_
   show _=(ev Z.P Z.call' Z.mk' o st).bind _
   cases ev Z.P Z.call' Z.mk' o st with
   | ok v st1 =>
    cases v <;> try rfl
    rename_i j
    dsimp only [R.bind]
    cases st1.σ[j]? with
    | none=>rfl
    | some ob =>
     cases ob <;> try rfl
     dsimp only
     cases ev Z.P Z.call' Z.mk' e st1 with
     | ok v st2 =>
      dsimp only
      cases st2.σ[j]? with
      | none=>rfl
      | some ob =>
       cases ob <;> try rfl
       exact GO
     | exc _=>rfl
     | bad=>rfl
   | exc _=>rfl
   | bad=>rfl)
theorem GX {f:String} {i:Nat} {e:E} {M:Stmt→Prop} {x:Stmt} (hm:jn0 Z.K Z.T Z.an Z.mn sc nm f i e x=true)
  (k:∀ y yp ap z cp p,nm[i]?=some y→(ap.endLine==cp.line)=true→qU z=true→mE Z.K Z.T Z.an Z.mn sc nm e z=true→M (.Expr (.Call (.Attribute (.Name y yp) f ap) [z] [] cp) p)):M x :=
 yW hm fun y p q=>ja (M:=fun y=>M (.Expr y p)) q fun fn args kw cp q =>
 vb (M:=fun kw=>M (.Expr (.Call fn args kw cp) p)) (qA q) (jl (M:=fun fn=>M (.Expr (.Call fn args [] cp) p)) (qA (qv q)) fun z a ap r =>
  wz (M:=fun args=>M (.Expr (.Call (.Attribute z a ap) args [] cp) p)) (qv (qv q)) fun u t=>qE (M:=fun z=>M (.Expr (.Call (.Attribute z a ap) [u] [] cp) p)) (qv (qv r)) fun y yp w=>by
   rw [be (qA r)]
   exact k _ _ _ _ _ _ (be w) (qA (qv r)) (qA t) (qv t))
theorem BA {i:Nat} {e:E} (O:Ok Z):MSk Z (.appendOwn i e):=fun sc nm x C A so hm=>GX (M:=Z.DS C nm (.appendOwn i e)) hm fun y yp ap z cp p h1 h2 h3 h4=>by
 refine vF (vE A.k rfl (uF A.k h1 h2 h3 (okE O e sc nm z C A h4).1)) fun st=>?_
 show _=(match st.ρ[i]? with | some (some (.own _))=>(ev Z.P Z.call' Z.mk' e st).bind _ | _=>.bad)
 cases st.ρ[i]? with
 | none=>rfl
 | some ob =>
  cases ob with
  | none=>rfl
  | some lv =>
   cases lv <;> try rfl
   dsimp only
   cases ev Z.P Z.call' Z.mk' e st with
   | ok v st2 =>
    dsimp only [R.bind]
    cases st2.ρ[i]? with
    | none=>rfl
    | some ob =>
     cases ob with
     | none=>rfl
     | some lv =>
      cases lv <;> try rfl
      exact GO
   | exc _=>rfl
   | bad=>rfl
theorem Bz {i:Nat} {e:E} (O:Ok Z):MSk Z (.extendOwn i e):=fun sc nm x C A so hm=>GX (M:=Z.DS C nm (.extendOwn i e)) hm fun y yp ap z cp p h1 h2 h3 h4=>by
 refine vF (vE A.k rfl (uE A.k h1 h2 h3 (okE O e sc nm z C A h4).1)) fun st=>?_
 show _=(match st.ρ[i]? with | some (some (.own _))=>(ev Z.P Z.call' Z.mk' e st).bind _ | _=>.bad)
 cases st.ρ[i]? with
 | none=>rfl
 | some ob =>
  cases ob with
  | none=>rfl
  | some lv =>
   cases lv <;> try rfl
   dsimp only
   cases ev Z.P Z.call' Z.mk' e st with
   | ok v st2 =>
    dsimp only [R.bind]
    cases st2.ρ[i]? with
    | none=>rfl
    | some ob =>
     cases ob with
     | none=>rfl
     | some lv =>
      cases lv <;> try rfl
      cases v <;> try rfl
      exact GO
   | exc _=>rfl
   | bad=>rfl
theorem Xf {e:E} (O:Ok Z):MSk Z (.expr e):=fun sc nm x C A so hm=>yW (M:=Z.DS C nm (.expr e)) hm fun y p q=>vE A.k (qA q) (okE O e sc nm y C A (qv q)).1
theorem YS {e:E} (O:Ok Z):MSk Z (.ret e):=fun sc nm x C A so hm=>Jw (M:=Z.DS C nm (.ret e)) hm fun o p q=>by
 cases o with
 | none=>obtain rfl:=kG q; exact Nj
 | some y=>exact QB (okE O e sc nm y C A q).1
theorem KU {id:String} {fn:Expr} {M:Expr→Prop} (A:AtZ Z sc nm C) (h:jz0 Z.K sc id fn=true) (k:∀ y p,y=(id:Str)→C.env.kindOf y=some .globalImplicit→nsIn Z.K uK0 y=some none→M (.Name y p)):M fn :=
 qE h fun y p q=>have g:=kL A (qv q); k y p (be (qA q)) g.1 g.2
theorem Of {e:E} (O:Ok Z):MSk Z (.raise e):=fun sc nm x C A so hm=>Dr (M:=Z.DS C nm (.raise e)) hm fun o c p q=>jI0 (M:=fun c=>Z.DS C nm (.raise e) (.Raise o c p)) (qA q) (jH0 (M:=fun o=>Z.DS C nm (.raise e) (.Raise o none p)) (qv q) fun y q =>
 ja (M:=fun y=>Z.DS C nm (.raise e) (.Raise (some y) none p)) q fun fn args kw cp q=>vb (M:=fun kw=>Z.DS C nm (.raise e) (.Raise (some (.Call fn args kw cp)) none p)) (qA q) (qE (M:=fun fn=>Z.DS C nm (.raise e) (.Raise (some (.Call fn args [] cp)) none p)) (qA (qv q)) fun id ip r =>
 wz (M:=fun args=>Z.DS C nm (.raise e) (.Raise (some (.Call (.Name id ip) args [] cp)) none p)) (qv (qv q)) fun z t=>ja (M:=fun z=>Z.DS C nm (.raise e) (.Raise (some (.Call (.Name id ip) [z] [] cp)) none p)) t fun fn2 args2 kw2 cp2 t =>
 vb (M:=fun kw=>Z.DS C nm (.raise e) (.Raise (some (.Call (.Name id ip) [.Call fn2 args2 kw cp2] [] cp)) none p)) (qA t) (KU (M:=fun fn=>Z.DS C nm (.raise e) (.Raise (some (.Call (.Name id ip) [.Call fn args2 [] cp2] [] cp)) none p)) A (qA (qv t)) fun sid sp e1 e2 e3 =>
 wz (M:=fun args=>Z.DS C nm (.raise e) (.Raise (some (.Call (.Name id ip) [.Call (.Name sid sp) args [] cp2] [] cp)) none p)) (qv (qv t)) fun u v=>by
  refine x1a1 O.stop fun fI SO=>?_
  have g:=wQ A r
  exact JC SO O.B A.k A.ao (qA v) g.1.1 g.1.2 g.2 e1 e2 e3 (okE O e sc nm u C A (qv v)).1)))
theorem YT {c:E} {a b:Ss} (O:Ok Z) (ha:MSs Z a) (hb:MSs Z b):MSk Z (.ifs c a b):=fun sc nm x C A so hm=>Jx (M:=Z.DS C nm (.ifs c a b)) hm fun y z u p q =>
 QD (okE O c sc nm y C A (qA q)).2 (ha sc nm z C A so (qA (qv q))) (hb sc nm u C A so (qv (qv q)))
theorem YR {c:E} {b:Ss} (O:Ok Z) (hb:MSs Z b):MSk Z (.whl c b):=fun sc nm x C A so hm=>Jv (M:=Z.DS C nm (.whl c b)) hm fun y z u p q =>
 vb (M:=fun u=>Z.DS C nm (.whl c b) (.While y z u p)) (qA q) (Qz A.ao.fr so (okE O c sc nm y C A (qA (qv q))).2 (hb sc nm z C A so (qv (qv q))))
theorem Xd {i:Nat} {e:E} {b:Ss} (O:Ok Z) (hb:MSs Z b):MSk Z (.forr i e b):=fun sc nm x C A so hm=>ud (M:=Z.DS C nm (.forr i e b)) hm fun t it z u p q =>
 vb (M:=fun u=>Z.DS C nm (.forr i e b) (.For t it z u p)) (qA q) (qE (M:=fun t=>Z.DS C nm (.forr i e b) (.For t it z [] p)) (qA (qv q)) fun y yp h1 =>
 ja (M:=fun it=>Z.DS C nm (.forr i e b) (.For (.Name y yp) it z [] p)) (qA (qv (qv q))) fun fn args kw cp r=>vb (M:=fun kw=>Z.DS C nm (.forr i e b) (.For (.Name y yp) (.Call fn args kw cp) z [] p)) (qA r)
 (KU (M:=fun fn=>Z.DS C nm (.forr i e b) (.For (.Name y yp) (.Call fn args [] cp) z [] p)) A (qA (qv r)) fun id ip e1 e2 e3 =>
 wz (M:=fun args=>Z.DS C nm (.forr i e b) (.For (.Name y yp) (.Call (.Name id ip) args [] cp) z [] p)) (qv (qv r)) fun v t =>
 Nk O.B A.k so (be h1) (qA t) e1 e2 e3 (okE O e sc nm v C A (qv t)).1 (hb sc nm z C A so (qv (qv (qv q))))))
theorem Xe {i:Nat} {e:E} {b:Ss} (O:Ok Z) (hb:MSs Z b):MSk Z (.fore i e b):=fun sc nm x C A so hm=>ud (M:=Z.DS C nm (.fore i e b)) hm fun t y z u p q =>
 vb (M:=fun u=>Z.DS C nm (.fore i e b) (.For t y z u p)) (qA q) (qE (M:=fun t=>Z.DS C nm (.fore i e b) (.For t y z [] p)) (qA (qv q)) fun v vp h1 =>
 have r:=qv (qv q)
 Nl A.k so (be h1) (fun x=>zV (qA r) C.env x) (okE O e sc nm y C A (qA (qv r))).1 (hb sc nm z C A so (qv (qv r))))
theorem Xc {i:Nat} {v:V} {b:Ss} (O:Ok Z) (hb:MSs Z b):MSk Z (.tryy b i v):=fun sc nm x C A so hm=>Gw (M:=Z.DS C nm (.tryy b i v)) hm fun y hs u w p q =>
 vb (M:=fun u=>Z.DS C nm (.tryy b i v) (.Try y hs u w p)) (qA q) (vb (M:=fun w=>Z.DS C nm (.tryy b i v) (.Try y hs [] w p)) (qA (qv q)) (by
  have r:=qA (qv (qv q))
  cases hs with
  | nil=>exact ftB r
  | cons h hs =>
   obtain ⟨t,n,bd,hp⟩:=h
   exact jH0 (M:=fun t=>Z.DS C nm (.tryy b i v) (.Try y (.ExceptHandler t n bd hp::hs) [] [] p)) (qA r) fun e r1=>qE (M:=fun e=>Z.DS C nm (.tryy b i v) (.Try y (.ExceptHandler (some e) n bd hp::hs) [] [] p)) r1 fun id ip r1 =>
    jI0 (M:=fun n=>Z.DS C nm (.tryy b i v) (.Try y (.ExceptHandler (some (.Name id ip)) n bd hp::hs) [] [] p)) (qA (qv r)) (wz (M:=fun bd=>Z.DS C nm (.tryy b i v) (.Try y (.ExceptHandler (some (.Name id ip)) none bd hp::hs) [] [] p)) (qv (qv r)) fun s r2 =>
    jZ (M:=fun s=>Z.DS C nm (.tryy b i v) (.Try y (.ExceptHandler (some (.Name id ip)) none [s] hp::hs) [] [] p)) r2 fun ts c ap r2 =>
    wz (M:=fun ts=>Z.DS C nm (.tryy b i v) (.Try y (.ExceptHandler (some (.Name id ip)) none [.Assign ts c ap] hp::hs) [] [] p)) (qA r2) fun tx r3 =>
    qE (M:=fun tx=>Z.DS C nm (.tryy b i v) (.Try y (.ExceptHandler (some (.Name id ip)) none [.Assign [tx] c ap] hp::hs) [] [] p)) r3 fun z zp r3 =>
    xq (M:=fun c=>Z.DS C nm (.tryy b i v) (.Try y (.ExceptHandler (some (.Name id ip)) none [.Assign [.Name z zp] c ap] hp::hs) [] [] p)) (qv (qv r2)) fun c ck cp r4=>by
     refine x1a1 O.stop fun fI SO=>?_
     have g:=wQ A r1
     exact QA SO O.B A.k so (be r3) (Yb (qA (qv r2)) r4) g.1.1 g.1.2 g.2 (hb sc nm y C A so (qv (qv (qv q)))))))
theorem YU:MSk Z .brk:=fun sc nm x C A so hm=>Jy (M:=Z.DS C nm .brk) hm fun p _=>QE
theorem YV:MSk Z .bad:=fun sc nm x C A so hm=>IG
theorem Xa:MSs Z .nil:=fun sc nm x C A so hm=>vb (M:=fun x=>xX Z.prog Z.w Z.T Z.b₀ C nm (execs x C.env) (exs Z.P Z.call' Z.mk' .nil)) hm QC
theorem Jp {s:S} (h:Uy s=true):s=.bad:=by
 cases s with
 | bad=>rfl
 | _=>exact ftB h
theorem Ob {s:S} {ss:Ss} (h:MSk Z s) (h2:MSs Z ss):MSs Z (.cons s ss):=fun sc nm x C A so hm=>by
 rcases um0.mp hm with hb | hm
 ·obtain rfl:=Jp hb
  exact IG
 ·cases x with
  | nil=>exact ftB hm
  | cons x xs =>
   refine vF (Nm (h sc nm x C A so (qA hm)) (h2 sc nm xs C A so (qv hm))) fun st=>?_
   show _=(ex Z.P Z.call' Z.mk' s st).bind _
   cases ex Z.P Z.call' Z.mk' s st with
   | ok f st1=>cases f <;> rfl
   | exc _=>rfl
   | bad=>rfl
mutual
theorem okS (O:Ok Z):∀ s:S,MSk Z s
 | .asg _ _=>YW O
 | .asgOwn _ _=>Kh O
 | .unpack _ _=>Ke O
 | .setAttr _ _ _=>IQ O
 | .setIdx _ _ _=>Kf O
 | .augLoc _ _ _=>Kg O
 | .augAttr _ _ _ _=>IR O
 | .append _ _=>Ki O
 | .appendOwn _ _=>BA O
 | .extendOwn _ _=>Bz O
 | .expr _=>Xf O
 | .ifs _ a b=>YT O (Oz O a) (Oz O b)
 | .whl _ b=>YR O (Oz O b)
 | .forr _ _ b=>Xd O (Oz O b)
 | .fore _ _ b=>Xe O (Oz O b)
 | .ret _=>YS O
 | .raise _=>Of O
 | .tryy b _ _=>Xc O (Oz O b)
 | .brk=>YU
 | .bad=>YV
theorem Oz (O:Ok Z):∀ s:Ss,MSs Z s
 | .nil=>Xa
 | .cons s ss=>Ob (okS O s) (Oz O ss)
end
end
noncomputable def BI:List Str→Bool
 | []=>true
 | x::xs=>!xs.contains x&&BI xs
theorem xA:∀ {xs:List Str},BI xs=true→xs.Nodup
 | [],_=>kd0
 | x::xs,h=>by
  unfold BI at h
  simp only [ug0,up0,ke0,decide_eq_false_iff_not] at h
  exact wn0.mpr ⟨h.1,xA h.2⟩
noncomputable def Un (sc:Scope):Bool:=sc.names.all fun z=>match z.2 with | .cell=>false | _=>true
noncomputable def Bc (sc:Scope) (xs:List Str):Bool:=xs.all fun x=>vW (sc.names.lookup x)&&!(x==("__debug__" : Str))
theorem Gc {sc:Scope} (h:Un sc=true):∀ x∈sc.names,x.2≠.cell:=by
 intro x hx q
 have:=vE0.mp h x hx
 rw [q] at this; exact ftB this
theorem zU {sc:Scope} {xs:List Str} (h:Bc sc xs=true):(∀ x∈xs,sc.names.lookup x=some .local)∧(∀ x∈xs,(x==("__debug__" : Str))=false):=by
 unfold Bc at h
 rw [vE0] at h
 refine ⟨fun x hx=>?_,fun x hx=>?_⟩
 ·have:=h x hx
  rw [ug0] at this
  exact zx this.1
 ·have:=h x hx
  rw [ug0,up0] at this
  exact this.2
noncomputable def qG0 (K:Frag) (fd:FuncData):Bool :=
 fd.globals==uK0&&fd.closure.isEmpty&&fd.builtins==builtinsNs&&codeIn K fd.code fd.qualname&&fd.params.posonlyargs.isEmpty&&fd.params.kwonlyargs.isEmpty&&fd.params.vararg.isNone&&fd.params.kwarg.isNone &&
 !fd.scope.isCoroutine&&!fd.scope.isGenerator&&jA0 fd.scope.kind&&Un fd.scope
structure FdOk (K:Frag) (fd:FuncData):Prop where
 gl:fd.globals=uK0
 cl:fd.closure=[]
 bl:fd.builtins=builtinsNs
 code:codeIn K fd.code fd.qualname=true
 p:fd.params.posonlyargs=[]∧fd.params.kwonlyargs=[]∧fd.params.vararg=none∧fd.params.kwarg=none
 s:fd.scope.isCoroutine=false∧fd.scope.isGenerator=false∧fd.scope.kind=.function∧∀ x∈fd.scope.names,x.2≠.cell
theorem kP {K:Frag} {fd:FuncData} (h:qG0 K fd=true):FdOk K fd:=by
 have h12:=qv h
 have u11:=qA h
 have h11:=qv u11
 have u10:=qA u11
 have h10:=qv u10
 have u9:=qA u10
 have h9:=qv u9
 have u8:=qA u9
 have h8:=qv u8
 have u7:=qA u8
 have h7:=qv u7
 have u6:=qA u7
 have h6:=qv u6
 have u5:=qA u6
 have h5:=qv u5
 have u4:=qA u5
 have h4:=qv u4
 have u3:=qA u4
 have h3:=qv u3
 have u2:=qA u3
 have h2:=qv u2
 have h1:=qA u2
 exact ⟨be h1,vW0.mp h2,be h3,h4,(YH (vW0.mp h5) (vW0.mp h6) (kY0.mp h7) (kY0.mp h8)),(YH (bn h9) (bn h10) (Da h11) (Gc h12))⟩
theorem MT {K:Frag} {fd:FuncData} {b:List Stmt} (h:FdOk K fd) (hb:fd.body=.stmts b):fd=fnOf fd.name fd.qualname fd.params b fd.scope fd.defaults fd.kwdefaults fd.doc fd.pyModule fd.annotations fd.code fd.closureTuple:=by
 obtain ⟨h1,h2,h3,_,_,_⟩:=h
 cases fd
 simp only at hb h1 h2 h3
 subst hb h1 h2 h3
 rfl
noncomputable def Qk:Data→Option FuncData
 | .func fd=>some fd
 | _=>none
theorem kM {d:Data} {p:FuncData} (h:Qk d=some p):d=.func p:=by
 cases d with
 | func its=>rw [← kT0.inj h]
 | _=>exact nsO h
noncomputable def zR0:Data→Option ClassData
 | .cls c=>some c
 | _=>none
theorem QT {d:Data} {p:ClassData} (h:zR0 d=some p):d=.cls p:=by
 cases d with
 | cls its=>rw [← kT0.inj h]
 | _=>exact nsO h
noncomputable def AG:FuncBody→Option (List Stmt)
 | .stmts b=>some b
 | _=>none
theorem yQ {d:FuncBody} {p:List Stmt} (h:AG d=some p):d=.stmts p:=by
 cases d with
 | stmts b=>rw [← kT0.inj h]
 | _=>exact nsO h
noncomputable def Gj {α:Type} (K:Frag) (a:uP0) (f:Data→Option α) (q:Obj→α→Bool):Bool:=(K.lookup a).any fun o=>(f o.data).any (q o)
theorem xg {α:Type} {K:Frag} {a:uP0} {f:Data→Option α} {q:Obj→α→Bool} (h:Gj K a f q=true):∃ c d dt sl x,K.lookup a=some ⟨c,d,dt,sl⟩∧f dt=some x∧q ⟨c,d,dt,sl⟩ x=true:=by
 refine x1a2 (any_some h) fun o hl h=>x1a2 (any_some h) fun x hx h=>?_
 obtain ⟨c,d,dt,sl⟩:=o
 exact c5a3 c d dt sl x hl hx h
noncomputable def Dj (K:Frag) (T:TT) (an mn:Nat→Str) (f:Nat) (k:Fn):Bool:=Gj K (T.fa f) Qk fun _ fd=>(AG fd.body).any fun b=>qG0 K fd&&NV fd.defaults&&fd.params.args.map (·.arg)==(T.sl f).take k.n&&BI (T.sl f)&&(T.sl f).length==k.slots&&decide (k.n≤k.slots)&&k.defs.isEmpty&&Bc fd.scope (T.sl f)&&mSs K T an mn fd.scope (T.sl f) k.body b
theorem Aa {K:Frag} {T:TT} {an mn:Nat→Str} {f:Nat} {k:Fn} (h:Dj K T an mn f k=true):∃ body qual scope cdv,zn0 K T f k body qual scope cdv∧mSs K T an mn scope (T.sl f) k.body body=true:=by
 refine x5a3 (xg h) fun oc od dt osl fd hl hdt h=>x1a2 (any_some h) fun b hb h=>?_
 have hb:=yQ hb
 rw [kM hdt] at hl
 have h9:=qv h
 have u8:=qA h
 have h8:=qv u8
 have u7:=qA u8
 have h7:=qv u7
 have u6:=qA u7
 have h6:=qv u6
 have u5:=qA u6
 have h5:=qv u5
 have u4:=qA u5
 have h4:=qv u4
 have u3:=qA u4
 have h3:=qv u3
 have u2:=qA u3
 have h2:=qv u2
 have h1:=qA u2
 have F:=kP h1
 have e:=MT F hb
 have hd:=wW h2
 refine (c4a2 b fd.qualname fd.scope fd.code ⟨⟨fd.name,fd.params,fd.kwdefaults,fd.doc,fd.pyModule,fd.closureTuple,oc,fd.annotations,od,osl⟩,?_,F.code,F.p.1,be h3,F.p.2.1,F.p.2.2.1,F.p.2.2.2,xA h4,be h5,of_decide_eq_true h6,vW0.mp h7,(zU h8).1,(zU h8).2,F.s.1,F.s.2.1,F.s.2.2.1,F.s.2.2.2⟩ h9)
 rw [hl]
 unfold FnD.fn
 rw [← hd,← e]
noncomputable def Zd (prog:Program) (w:World) (K:Frag) (T:TT) (b₀:Heap) (an mn:Nat→Str) (P:Mine.P) (d:Nat):Zc:=⟨prog,w,K,T,b₀,an,mn,P,qk P d,mkD P d,d⟩
section
variable {prog:Program} {w:World} {K:Frag} {T:TT} {b₀:Heap} {an mn:Nat→Str} {P:P} {n:Nat}
theorem Op {C:Cx} {e:Env} (h:AOk C (n+1)):xc0 (C.A.deeper e) n:=by
 refine zz h.room fun h1 h2=>?_
 refine ⟨?_,?_⟩
 ·show C.A.depth+1+3*n+10<_; exact far [_,_,_] [.lt (.p (.p qa (.m 3 (.p qb qh))) (.n 10)) qg] (.lt (.p (.p (.p qa qh) (.m 3 qb)) (.n 10)) qg) rfl h1
 ·show C.A.units+3+12*n+100<_; exact far [_,_,_] [.lt (.p (.p qa (.m 12 (.p qb qh))) (.n 100)) qg] (.lt (.p (.p (.p qa (.n 3)) (.m 12 qb)) (.n 100)) qg) rfl h2
theorem NB {d:Nat} (O:Ok (Zd prog w K T b₀ an mn P d)) (F:∀ f k,P.fn f=some k→Dj K T an mn f k=true):IL prog w T b₀ (qk P (d+1)) (d+1):=by
 intro C names m g s st f vs ps ao I L V
 rw [NC]
 unfold QU
 cases hf:P.fn f with
 | none=>exact Den.bad
 | some k =>
  dsimp only
  cases hb:Mine.bindArgs k.n k.slots k.defs vs with
  | none=>exact Den.bad
  | some ρ =>
   dsimp only
   refine x4a2 (Aa (F f k hf)) fun body qual scope cdv FO hm=>?_
   refine Den.cast ?_ (Qu (fb:=exs P (qk P d) (mkD P d) k.body) O.B FO ao.fr ao.hd (by have:=ao.room.1; exact far [_,_,_] [.lt (.p (.p qa (.m 3 (.p qg qh))) (.n 10)) qb] (.lt qa qb) rfl this) (fun C' L' k' env' A'=>?_) I L V hb)
   ·generalize exs P (qk P d) (mkD P d) k.body ⟨ρ,st.σ⟩=r
    cases r with
    | ok f st'=>cases f <;> rfl
    | exc _=>rfl
    | bad=>rfl
   ·have hA:C'.A.frames=some (C'.env::C.envs):=by rw [A']; show C.A.frames.map _=_; rw [ao.fr]; rfl
    have so:SOk C':=by
     have q:=k'.fr
     rw [hA] at q
     refine x3a3 k'.top fun envF outer L0 t1 t2 t3=>?_
     exact ⟨(c2a2 C.envs L0 ((kT0.inj q).symm) t3)⟩
    exact Oz O k.body scope (T.sl f) body C' ⟨by rw [env']; rfl,k',⟨k'.fr,k'.hd,by rw [A']; exact Op ao⟩⟩ so hm
noncomputable def OO (K:Frag) (T:TT) (an mn:Nat→Str) (sc:Scope) (nm:List Str):List Nat→List E→List Stmt→Bool
 | [],es,b=>un0 es&&un0 b
 | f::fs,es,b=>(match es,b with
  | e::es,s::b=>ofS s (xz (fun ts v _=>(un1 ts).any fun t=>ofE t (jU (fun o a _=>ofE o (qV (fun y _=>y==("self" : Str)))&&(a==an f&&(jW v&&mE K T an mn sc nm e v))))))&&OO K T an mn sc nm fs es b
  | _,_=>false)
termination_by structural fs=>fs
theorem Jl {d:Nat} {C:Cx} {sc:Scope} {nm:List Str} (O:Ok (Zd prog w K T b₀ an mn P d)) (A:AtZ (Zd prog w K T b₀ an mn P d) sc nm C) (fs:List Nat):∀ (es:List E) (b:List Stmt),OO K T an mn sc nm fs es b=true→InitD prog w T b₀ C nm an b fs (es.map (ev P (qk P d) (mkD P d))):=by
 induction fs with
 | nil=>exact fun es b h=>vb (M:=fun es=>InitD prog w T b₀ C nm an b [] (es.map (ev P (qk P d) (mkD P d)))) (qA h) (vb (M:=fun b=>InitD prog w T b₀ C nm an b [] _) (qv h) .nil)
 | cons f fs ih =>
  intro es b h
  match es,b,h with
  | e::es,s::b,h =>
   refine jZ (M:=fun s=>InitD prog w T b₀ C nm an (s::b) (f::fs) _) (qA h) fun ts v p3 q=>wz (M:=fun ts=>InitD prog w T b₀ C nm an (.Assign ts v p3::b) (f::fs) _) q fun t q =>
    jl (M:=fun t=>InitD prog w T b₀ C nm an (.Assign [t] v p3::b) (f::fs) _) q fun o a p2 q=>qE (M:=fun o=>InitD prog w T b₀ C nm an (.Assign [.Attribute o a p2] v p3::b) (f::fs) _) (qA q) fun y p1 hy=>?_
   rw [be hy,be (qA (qv q))]
   exact .cons (qA (qv (qv q))) (okE O e sc nm v C A (qv (qv (qv q)))).1 (ih es b (qv h))
noncomputable def UQ (K:Frag) (T:TT) (an:Nat→Str) (c:Nat) (k:Cls):Bool :=
 T.fld c==k.fields.map an&&(k.fields.all fun a=>k.fields.all fun b=>!(an a==an b)||a==b) &&
 findIn K (.ref (T.ca c)) "__getattribute__" == some (some (.builtin "object.__getattribute__"))&&findIn K (.ref (T.ca c)) "__getattr__" == some none&&hasDictIn K (T.ca c) &&
 (k.fields.all fun f=>(findIn K (.ref (T.ca c)) (an f)).any (noGet K)) &&
 findIn K (.ref (T.ca c)) "__setattr__" == some (some (.builtin "object.__setattr__"))&&plainOver K (T.ca c)&&(k.fields.all fun f=>takerIn K (T.ca c) (an f)==some none)&&decide (k.fields.length≤100)
theorem ut {c:Nat} {k:Cls} (h:UQ K T an c k=true):ClsOk K T an c k:=by
 have h10:=qv h
 have u9:=qA h
 have h9:=qv u9
 have u8:=qA u9
 have h8:=qv u8
 have u7:=qA u8
 have h7:=qv u7
 have u6:=qA u7
 have h6:=qv u6
 have u5:=qA u6
 have h5:=qv u5
 have u4:=qA u5
 have h4:=qv u4
 have u3:=qA u4
 have h3:=qv u3
 have u2:=qA u3
 have h2:=qv u2
 have h1:=qA u2
 refine ⟨be h1,fun a ha b hb e=>?_,be h3,be h4,h5,fun f hf=>any_some (vE0.mp h6 f hf),be h7,h8,fun f hf=>be (vE0.mp h9 f hf),of_decide_eq_true h10⟩
 have q:=vE0.mp (vE0.mp h2 a ha) b hb
 rw [e,beq_self_eq_true] at q
 exact be q
noncomputable def jo0 (K:Frag) (v:V) (d:Value):Bool:=match v with
 | .str x=>(qN0 d).any fun y=>y==toS x
 | _=>false
theorem Mt {v:V} {d:Value} (h:jo0 K v d=true):∀ φ bd h,VRel T φ bd h v d:=by
 intro φ bd hh
 cases v <;> first | exact ftB h | skip
 refine x2a2 (GR h) fun y t uQ0 hy=>?_; rw [uQ0]
 rw [be hy]
 exact .str _ _
noncomputable def qj0 (K:Frag) (k:Cls) (names:List Str) (dV:Value):Bool:=match k.defs with
 | []=>NV dV
 | v::r=>r.isEmpty&&((un2 names).any fun _=>true)&&(UY dV).any fun D=>Gj K D qA0 fun _ p=>(un1 p.1.toList).any (jo0 K v)
noncomputable def MF (K:Frag) (T:TT) (an mn:Nat→Str) (c:Nat) (k:Cls) (fI:uP0):Bool:=Gj K fI Qk fun _ fd=>(AG fd.body).any fun b=>makesIn K (T.ca c)&&typeIn K (.ref fI)==some (.type "function")&&qG0 K fd&&BI (fd.params.args.map (·.arg))&&(fd.params.args.map (·.arg)).length==k.n+1&&(fd.params.args.map (·.arg))[0]?==some ("self" : Str)&&decide k.fields.Nodup &&
   Bc fd.scope (fd.params.args.map (·.arg))&&qj0 K k (fd.params.args.map (·.arg)) fd.defaults&&OO K T an mn fd.scope (fd.params.args.map (·.arg)) k.fields k.init b
noncomputable def kz (K:Frag) (T:TT) (an mn:Nat→Str) (c:Nat) (k:Cls):Bool:=UQ K T an c k&&(match findIn K (.ref (T.ca c)) "__init__" with
 | some (some v)=>(v==.builtin "object.__init__" && makesIn K (T.ca c)&&k.n==0&&k.defs.isEmpty&&k.init.isEmpty&&k.fields.isEmpty&&!k.heap)||(UY v).any (MF K T an mn c k)
 | _=>false)
theorem Dd {c:Nat} {k:Cls} {fI:uP0} (hi:findIn K (.ref (T.ca c)) "__init__" = some (some (.ref fI))) (h:MF K T an mn c k fI=true) :
  ∃ names body qual scope cdv,UV K T c k names fI body qual scope cdv∧OO K T an mn scope names k.fields k.init body=true:=by
 refine x5a3 (xg h) fun oc od dt osl fd hl hdt h=>x1a2 (any_some h) fun b hb h=>?_
 have hb:=yQ hb
 rw [kM hdt] at hl
 have h10:=qv h
 have u9:=qA h
 have h9:=qv u9
 have u8:=qA u9
 have h8:=qv u8
 have u7:=qA u8
 have h7:=qv u7
 have u6:=qA u7
 have h6:=qv u6
 have u5:=qA u6
 have h5:=qv u5
 have u4:=qA u5
 have h4:=qv u4
 have u3:=qA u4
 have h3:=qv u3
 have u2:=qA u3
 have h2:=qv u2
 have h1:=qA u2
 have F:=kP h3
 have e:=MT F hb
 refine (c5a2 _ b fd.qualname fd.scope fd.code ⟨⟨fd.name,fd.params,fd.defaults,fd.kwdefaults,fd.doc,fd.pyModule,fd.closureTuple,oc,fd.annotations,od,osl⟩,h1,hi,be h2,?_,F.code,F.p.1,rfl,F.p.2.1,F.p.2.2.1,F.p.2.2.2,xA h4,be h5,be h6,of_decide_eq_true h7,(zU h8).1,(zU h8).2,F.s.1,F.s.2.1,F.s.2.2.1,F.s.2.2.2,?_⟩ h10)
 ·rw [hl]; unfold InD.fn; rw [← e]
 ·have nd:=xA h4
  unfold qj0 at h9
  cases hk:k.defs with
  | nil=>rw [hk] at h9; exact .inl ⟨rfl,wW h9⟩
  | cons v r =>
   rw [hk] at h9
   right
   refine x1a2 (wB (qv h9)) fun D hD g2=>x5a3 (xg g2) fun c1 d1 dt2 sl1 p hl2 hp g2=>?_
   rw [AM hp] at hl2
   refine x2a1 (qI0 (M:=fun l=>∃ a b,l=[a,b]) (qv (qA h9)) fun a b _=>c2a1 a b rfl) fun a b hns=>?_
   rw [hns] at nd ⊢
   refine x1a2 (wz (M:=fun l=>∃ d,l=[d]∧jo0 K v d=true) g2 fun d g=>c1a2 d rfl g) fun d hd g=>?_
   refine ⟨a,b,D,c1,d1,d,p.2,sl1,v,rfl,?_,hD,?_,(hk.trans (congrArg (v::·) (vW0.mp (qA (qA h9))))),Mt g⟩
   ·intro q
    rw [wn0] at nd
    exact nd.1 (by rw [q]; exact vu0.mpr rfl)
   ·rw [hl2,show p.1=#[d] from by rw [← uy0 (xs:=p.1),hd]]
theorem KV {d:Nat} (O:Ok (Zd prog w K T b₀ an mn P d)) (F:∀ c k,P.cls c=some k→kz K T an mn c k=true):zl0 prog w T b₀ (mkD P (d+1)) (d+1):=by
 intro C names m g s st c vs ps ao I L V
 rw [ZE]
 unfold mkW
 cases hc:P.cls c with
 | none=>exact Den.bad
 | some k =>
  dsimp only
  split
  ·rename_i hlen
   have h:=F c k hc
   have tc:=ut (qA h)
   have h2:=qv h
   cases hi:findIn K (.ref (T.ca c)) "__init__" with
   | none=>rw [hi] at h2; exact ftB h2
   | some v=>cases v with
    | none=>rw [hi] at h2; exact ftB h2
    | some v =>
     rw [hi] at h2
     rcases um0.mp h2 with h2 | h2
     ·have h8:=qv h2
      have u6:=qA h2
      have h7:=qv u6
      have u5:=qA u6
      have h6:=qv u5
      have u4:=qA u5
      have h5:=qv u4
      have u3:=qA u4
      have h4:=qv u3
      have u2:=qA u3
      have h3:=qv u2
      have h1:=qA u2
      rw [be h1] at hi
      have hv:vs=[]:=vK0.mp (by rw [vW0.mp h5,be h4] at hlen; exact hlen)
      subst hv
      cases V
      rw [vW0.mp h6]
      unfold qB0
      rw [bn h8]
      exact Nc O.B h3 hi (by rw [tc.fld,vW0.mp h7]; rfl) I L
     ·refine x1a2 (wB h2) fun fI q h2=>?_; subst q
      refine x5a2 (Dd hi h2) fun nm body qual scope cdv IO hm=>?_
      refine Den.cast ?_ (Qs (an:=an) (fes:=k.init.map (ev P (qk P d) (mkD P d))) O.B IO tc ao (fun C' L' k' env' ao'=>Jl O ⟨by rw [env']; rfl,k',ao'⟩ _ _ _ hm) I L V hlen)
      unfold KW
      rw [Qh] <;> rfl
  ·exact Den.bad
end
noncomputable def DK (a:Str) (s:Stmt) (q:Expr→Bool):Bool:=ofS s (xz (fun ts v _=>(un1 ts).any fun t=>ofE t (jU (fun o b _=>(ofE o (qV (fun y _=>y==("self" : Str)))&&b==a)&&q v))))
theorem ka {a:Str} {s:Stmt} {q:Expr→Bool} (h:DK a s q=true):∃ v p1 p2 p3,s=.Assign [.Attribute (.Name "self" p1) a p2] v p3∧q v=true :=
 jZ (M:=fun s=>∃ v p1 p2 p3,s=.Assign [.Attribute (.Name "self" p1) a p2] v p3∧q v=true) h fun ts v p3 r=>wz (M:=fun ts=>∃ v' p1 p2 p3',.Assign ts v p3=Stmt.Assign [.Attribute (.Name "self" p1) a p2] v' p3'∧q v'=true) r fun t r =>
  jl (M:=fun t=>∃ v' p1 p2 p3',.Assign [t] v p3=Stmt.Assign [.Attribute (.Name "self" p1) a p2] v' p3'∧q v'=true) r fun o b p2 r=>qE (M:=fun o=>∃ v' p1 p2' p3',.Assign [.Attribute o b p2] v p3=Stmt.Assign [.Attribute (.Name "self" p1) a p2'] v' p3'∧q v'=true) (qA (qA r)) fun y p1 hy=>by
   rw [be hy,be (qv (qA r))]
   exact (c4a2 _ _ _ _ rfl (qv r))
noncomputable def ZC (Ca:uP0):List Value→Bool
 | c::d::r=>c==.ref Ca&&(UY d).isSome&&r==[.type "Exception",.type "BaseException",.type "object"]
 | _=>false
theorem KQ {Ca:uP0} {l:List Value} (h:ZC Ca l=true):∃ P,l=[.ref Ca,.ref P,.type "Exception",.type "BaseException",.type "object"]:=by
 cases l with
 | nil=>exact ftB h
 | cons c l=>cases l with
  | nil=>exact ftB h
  | cons d r =>
   rw [be (qA (qA h)),be (qv h)]
   cases d with
   | ref P=>exact ⟨P,rfl⟩
   | _=>exact ftB (qv (qA h))
noncomputable def Xh (l:List (Option Value)):Bool:=l==[l.getD 0 .none,l.getD 1 .none,l.getD 2 .none,l.getD 3 .none,some (.builtin "Exception.__new__"),l.getD 5 .none]
noncomputable def Xb (K:Frag) (Ca:uP0):Bool:=Gj K Ca zR0 fun o cd=>o.cls==.type "type" && cd.hasDict&&!cd.hasDel&&ZC Ca cd.mro&&Xh o.slots.toList
noncomputable def Od (K:Frag) (fI:uP0):Bool:=Gj K fI Qk fun _ fd=>(AG fd.body).any fun b=>(un2 b).any fun ss=>qG0 K fd&&DK "number" ss.1 (fun v=>ofE v (vO (fun c _ _=>c==.int 0)))&&DK "text" ss.2 (fun v=>ofE v (qV (fun y _=>y==("text" : Str))))&&fd.params.args.map (·.arg)==[("self" : Str), "text"]&&vW (fd.scope.names.lookup ("self" : Str))&&vW (fd.scope.names.lookup ("text" : Str)) &&
   (UY fd.defaults).any fun D=>Gj K D qA0 fun _ _=>true
noncomputable def AF (K:Frag) (Ca fI:uP0):Bool :=
 Xb K Ca&&specialIn K (.ref Ca) "__call__" == some (some (.builtin "type.__call__"))&&instIn K (.ref Ca) (.type "type")==some true&&keepIn K (.ref Ca)&&findIn K (.ref Ca) "__init__" == some (some (.ref fI))&&typeIn K (.ref fI)==some (.type "function") &&
 findIn K (.ref Ca) "__setattr__" == some (some (.builtin "object.__setattr__"))&&findIn K (.ref Ca) "number" == some none&&findIn K (.ref Ca) "text" == some none&&Od K fI
theorem wi {K:Frag} {Ca fI:uP0} (h:AF K Ca fI=true):StopOk K Ca fI:=by
 have h10:=qv h
 have u9:=qA h
 have h9:=qv u9
 have u8:=qA u9
 have h8:=qv u8
 have u7:=qA u8
 have h7:=qv u7
 have u6:=qA u7
 have h6:=qv u6
 have u5:=qA u6
 have h5:=qv u5
 have u4:=qA u5
 have h4:=qv u4
 have u3:=qA u4
 have h3:=qv u3
 have u2:=qA u3
 have h2:=qv u2
 have h1:=qA u2
 refine ⟨?_,be h2,be h3,h4,be h5,be h6,be h7,be h8,be h9,?_⟩
 ·refine x5a3 (xg h1) fun c dd dt sl cd hl hdt h=>?_
  rw [QT hdt] at hl
  have g5:=qv h
  have u4:=qA h
  have g4:=qv u4
  have u3:=qA u4
  have g3:=qv u3
  have u2:=qA u3
  have g2:=qv u2
  have g1:=qA u2
  obtain ⟨nm,bs,mro,ns,q,hdct,sn,sub,ab,col,del⟩:=cd
  refine x1a1 (KQ g4) fun P e4=>?_
  obtain ⟨k0,k1,k2,k3,k5,hs⟩:∃ k0 k1 k2 k3 k5,sl.toList=[k0,k1,k2,k3,some (.builtin "Exception.__new__"),k5]:=(c5a1 _ _ _ _ _ (eq_of_beq g5))
  refine ⟨⟨nm,q,ns,bs,[.ref P,.type "Exception",.type "BaseException",.type "object"],sn,sub,ab,col,dd,k0,k1,k2,k3,k5⟩,?_,(YH (by kernel_rfl) (by kernel_rfl) (by kernel_rfl) (by kernel_rfl)),P,rfl⟩
  rw [hl,show sl=#[k0,k1,k2,k3,some (.builtin "Exception.__new__"),k5] from by rw [← uy0 (xs:=sl),hs],show c=_ from be g1,show mro=_ from e4,show hdct=true from g2,show del=false from bn g3]
 ·refine x5a3 (xg h10) fun oc od dt osl fd hl hdt h=>x1a2 (any_some h) fun b hb h=>?_
  rw [kM hdt] at hl
  have hb:=yQ hb
  refine x2a1 (qI0 (M:=fun l=>∃ s1 s2,l=[s1,s2]) h fun s1 s2 _=>c2a1 s1 s2 rfl) fun s1 s2 hss=>?_
  subst hss
  have g7:=qv h
  have u6:=qA h
  have g6:=qv u6
  have u5:=qA u6
  have g5:=qv u5
  have u4:=qA u5
  have g4:=qv u4
  have u3:=qA u4
  have g3:=qv u3
  have u2:=qA u3
  have g2:=qv u2
  have g1:=qA u2
  have F:=kP g1
  have e:=MT F hb
  refine x4a2 (ka g2) fun v1 p1 p2 p4 uQ0 z1=>?_; subst uQ0
  refine x4a2 (ka g3) fun v2 p5 p6 p8 uQ0 z2=>?_; subst uQ0
  refine x2a1 (xq (M:=fun v=>∃ k p,v=.Constant (.int 0) k p) z1 fun c k p hc=>(c2a1 k p (by rw [be hc]))) fun k p3 uQ0=>?_; subst uQ0
  refine x1a1 (qE (M:=fun v=>∃ p,v=.Name "text" p) z2 fun y p hy=>⟨p,by rw [be hy]⟩) fun p7 uQ0=>?_; subst uQ0
  refine x1a2 (wB g7) fun D hD g7=>x5a3 (xg g7) fun c1 d1 dt2 sl1 p hl2 hp _=>?_
  rw [AM hp] at hl2
  refine (c1a6 ⟨fd.name,fd.qualname,fd.params,fd.scope,D,fd.kwdefaults,fd.doc,fd.pyModule,fd.code,fd.closureTuple,oc,fd.annotations,od,osl,c1,d1,p.1,p.2,sl1,k,p1,p2,p3,p4,p5,p6,p7,p8⟩ ?_ F.code hl2 (qJ0 F.p.1 (be g4) F.p.2.1 F.p.2.2.1 F.p.2.2.2) ⟨zx g5,zx g6⟩ F.s)
  rw [hl,← hD,← e]
noncomputable def AZ (K:Frag) (T:TT) (mn:Nat→Str) (c m f:Nat):Bool :=
 findIn K (.ref (T.ca c)) (mn m)==some (some (.ref (T.fa f)))&&typeIn K (.ref (T.fa f))==some (.type "function")&&keepIn K (.ref (T.fa f))&&!(T.fld c).contains (mn m) &&
 findIn K (.ref (T.ca c)) "__getattribute__" == some (some (.builtin "object.__getattribute__"))&&findIn K (.ref (T.ca c)) "__getattr__" == some none
theorem BN {K:Frag} {T:TT} {mn:Nat→Str} {c m f:Nat} (h:AZ K T mn c m f=true):MethOk K T mn c m f:=by
 have h6:=qv h
 have u5:=qA h
 have h5:=qv u5
 have u4:=qA u5
 have h4:=qv u4
 have u3:=qA u4
 have h3:=qv u3
 have u2:=qA u3
 have h2:=qv u2
 have h1:=qA u2
 exact ⟨be h1,be h2,h3,bn h4,be h5,be h6⟩
noncomputable def MU (K:Frag) (T:TT) (an mn:Nat→Str) (fns:List Fn) (clss:List Cls) (ms:List (Nat×Nat×Nat)) (fI:uP0):Bool :=
 fns.zipIdx.all (fun x=>Dj K T an mn x.2 x.1)&&(clss.zipIdx.all (fun x=>kz K T an mn x.2 x.1)&&(ms.all (fun x=>AZ K T mn x.1 x.2.1 x.2.2)&&AF K T.stop fI))
theorem DB {α:Type} {l:List α} {q:α×Nat→Bool} (h:l.zipIdx.all q=true) {i:Nat} {a:α} (e:l[i]?=some a):q (a,i)=true :=
 vE0.mp h _ (List.mem_zipIdx_iff_getElem?.mpr e)
noncomputable def pOf (fns:List Fn) (clss:List Cls) (ms:List (Nat×Nat×Nat)) (sp:List Nat→Option (List (List Nat))):P:=⟨fun f=>fns[f]?,fun c=>clss[c]?,fun c m=>(ms.find? fun x=>x.1==c&&x.2.1==m).map (·.2.2),sp⟩
theorem qw0 {prog:Program} {w:World} {K:Frag} {T:TT} {b₀:Heap} {an mn:Nat→Str} {fns:List Fn} {clss:List Cls} {ms:List (Nat×Nat×Nat)} {sp:List Nat→Option (List (List Nat))} {fI:uP0} (B:BOk K b₀) (S:SplitOk (pOf fns clss ms sp)) (F:MU K T an mn fns clss ms fI=true):∀ d,Ok (Zd prog w K T b₀ an mn (pOf fns clss ms sp) d):=by
 have F1:∀ f k,fns[f]?=some k→Dj K T an mn f k=true:=fun f k e=>DB (qA F) e
 have F2:∀ c k,clss[c]?=some k→kz K T an mn c k=true:=fun f k e=>DB (qA (qv F)) e
 have TC:∀ c k,clss[c]?=some k→ClsOk K T an c k:=fun c k e=>ut (qA (F2 c k e))
 have TM:∀ c m f,(pOf fns clss ms sp).meth c m=some f→MethOk K T mn c m f:=fun c m f e=>by
  refine x1a2 (kS0.mp e) fun x hx uQ0=>?_; rw [← uQ0]
  have h:=ko0 hx
  have q:=vE0.mp (qA (qv (qv F))) x (wQ0 hx)
  rw [be (qA h),be (qv h)] at q
  exact BN q
 intro d
 induction d with
 | zero=>exact ⟨B,TC,TM,S,fun C names m g s st f vs ps _ _ _ _=>Den.bad,fun C names m g s st f vs ps _ _ _ _=>Den.bad,_,wi (qv (qv (qv F)))⟩
 | succ d ih=>exact ⟨B,TC,TM,S,NB ih F1,KV ih F2,_,wi (qv (qv (qv F)))⟩
set_option genCtorIdx true in
inductive Sg where
 | fin | la | lb | lc | ld | com | lp | rp | lt | gt | ge | eq | eqq | eqqq | arr
deriving DecidableEq
noncomputable def Sg.txt:Sg→List Nat
 | .fin=>[] | .la=>[97] | .lb=>[98] | .lc=>[99] | .ld=>[100] | .com=>[44] | .lp=>[40] | .rp=>[41] | .lt=>[60] | .gt=>[62] | .ge=>[62,61] | .eq=>[61] | .eqq=>[61,61] | .eqqq=>[61,61,61] | .arr=>[61,62]
noncomputable def Sg.kind:Sg→Int
 | .fin=>0 | .la=>1 | .lb=>1 | .lc=>1 | .ld=>1 | _=>5
noncomputable def Sg.letter:Sg→Bool
 | .la=>true | .lb=>true | .lc=>true | .ld=>true | _=>false
structure Tk where
 sg:Sg
 at_:Nat
 fin:Nat
 line:Bool
deriving DecidableEq
noncomputable def Bt (x:Nat):Bool:=x==32||x==10
noncomputable def skip (src:List Nat) (c:Nat):Nat:=c+((src.drop c).takeWhile Bt).length
noncomputable def jk (l:List Nat):List Nat :=
 let t:=l.take 1
 let t:=if l.take 2=[62,61] then [62,61] else t
 let t:=if l.take 2=[61,61] then [61,61] else t
 let t:=if l.take 2=[61,62] then [61,62] else t
 if l.take 3=[61,61,61] then [61,61,61] else t
noncomputable def YG:List Nat→Sg
 | [97]=>.la | [98]=>.lb | [99]=>.lc | [100]=>.ld | [44]=>.com | [40]=>.lp | [41]=>.rp | [60]=>.lt | [62]=>.gt | [62,61]=>.ge | [61]=>.eq | [61,61]=>.eqq | [61,61,61]=>.eqqq | [61,62]=>.arr
 | _=>.fin
@[irreducible] noncomputable def tk (src:List Nat) (c:Nat):Tk :=
 ⟨YG (jk (src.drop (skip src c))),skip src c,skip src c+(YG (jk (src.drop (skip src c)))).txt.length,((src.take (skip src c)).drop c).contains 10⟩
theorem yb {src:List Nat} {c:Nat}:(tk src c).fin=skip src c+(tk src c).sg.txt.length:=by unfold tk; rfl
theorem ux {src:List Nat} {c:Nat}:(tk src c).at_=skip src c:=by unfold tk; rfl
theorem UZ {src:List Nat} {c:Nat}:(tk src c).line=((src.take (skip src c)).drop c).contains 10:=by unfold tk; rfl
theorem jb0 {src:List Nat} {c:Nat}:(tk src c).sg=YG (jk (src.drop (skip src c))):=by unfold tk; rfl
noncomputable def Yl (src:List Nat):Nat→Nat→List Tk
 | 0,_=>[]
 | f+1,c=>tk src c::if (tk src c).sg=.fin then [] else Yl src f (tk src c).fin
noncomputable def due (src:List Nat) (c:Nat):List Tk:=Yl src (src.length+1-c) c
noncomputable def BG (x:Nat):Bool:=[97,98,99,100,44,40,41,60,62,61,32,10].contains x
noncomputable def KM (l:List Nat):Bool:=!([62,61,61,61,61].isPrefixOf l||([62,61,61,62].isPrefixOf l||[62,61,62,61].isPrefixOf l))
structure Good (src:List Nat):Prop where
 len:src.length≤60
 ch:∀ x∈src,BG x=true
 ge:∀ a,KM (src.drop a)=true
 lt:src.count 60≤7
theorem ve (x:Nat) (r:List Nat):jk (x::r)=[x]∨(jk (x::r)=[62,61]∧x=62)∨(jk (x::r)=[61,61]∧x=61)∨(jk (x::r)=[61,62]∧x=61)∨(jk (x::r)=[61,61,61]∧x=61):=by
 unfold jk
 dsimp only
 by_cases h4:(x::r).take 3=[61,61,61]
 ·have:x=61:=by simp at h4; exact h4.1
  exact .inr (.inr (.inr (.inr ⟨by rw [if_pos h4],this⟩)))
 ·by_cases h3:(x::r).take 2=[61,62]
  ·have:x=61:=by simp at h3; exact h3.1
   exact .inr (.inr (.inr (.inl ⟨by rw [if_neg h4,if_pos h3],this⟩)))
  ·by_cases h2:(x::r).take 2=[61,61]
   ·have:x=61:=by simp at h2; exact h2.1
    exact .inr (.inr (.inl ⟨by rw [if_neg h4,if_neg h3,if_pos h2],this⟩))
   ·by_cases h1:(x::r).take 2=[62,61]
    ·have:x=62:=by simp at h1; exact h1.1
     exact .inr (.inl ⟨by rw [if_neg h4,if_neg h3,if_neg h2,if_pos h1],this⟩)
    ·left
     rw [if_neg h4,if_neg h3,if_neg h2,if_neg h1]; rfl
theorem wY (src:List Nat) (c:Nat):c≤skip src c:=yN0 ..
theorem AE {l:List Nat}:(l.takeWhile Bt).length≤l.length:=(List.takeWhile_sublist _).length_le
theorem AI {src:List Nat} {c:Nat} (h:c≤src.length):skip src c≤src.length:=by
 have:=AE (l:=src.drop c)
 rw [wa0] at this
 unfold skip; exact far [_,_,_,_] [.le qb qj,.le (.p qj qa) qg] (.le (.p qa qb) qg) rfl this (yi0 (yg0 (far [_,_] [.le qa qb] (.le qa qb) rfl h)))
theorem uD (l:List Nat):l.drop (l.takeWhile Bt).length=l.dropWhile Bt:=by
 induction l with
 | nil=>rfl
 | cons x l ih =>
  by_cases h:Bt x=true
  ·rw [wt0 h,List.dropWhile_cons_of_pos h,vr0,wi0,ih]
  ·rw [wu0 h,List.dropWhile_cons_of_neg h]; rfl
theorem Ds (src:List Nat) (c:Nat):src.drop (skip src c)=(src.drop c).dropWhile Bt:=by
 unfold skip
 rw [← wh0,uD]
theorem MJ {src:List Nat} {c x:Nat} {r:List Nat} (h:src.drop (skip src c)=x::r):Bt x=false:=by
 rw [Ds] at h
 have:=List.head?_dropWhile_not Bt (src.drop c)
 rw [h] at this
 simpa using this
theorem vN {x:Nat} (h:BG x=true):x=97∨x=98∨x=99∨x=100∨x=44∨x=40∨x=41∨x=60∨x=62∨x=61∨x=32∨x=10:=by
 simpa [BG] using h
theorem GT {src:List Nat} (G:∀ x∈src,BG x=true) (c:Nat):(tk src c).sg.txt=jk (src.drop (skip src c)):=by
 rw [jb0]
 cases e:src.drop (skip src c) with
 | nil=>rfl
 | cons x r =>
  have hb:=MJ e
  have hx:BG x=true:=G x (ws0 (by rw [e]; exact vV0))
  rcases ve x r with q | ⟨q,_⟩ | ⟨q,_⟩ | ⟨q,_⟩ | ⟨q,_⟩ <;> rw [q] <;> try rfl
  rcases vN hx with rfl | rfl | rfl | rfl | rfl | rfl | rfl | rfl | rfl | rfl | rfl | rfl <;> first | rfl | exact tfB hb
theorem QY (src:List Nat) (c:Nat):c≤(tk src c).at_:=ux▸wY src c
theorem txt_nil {s:Sg}:s.txt=[]↔s=.fin:=by cases s <;> decide
theorem ya (s:Sg):s.txt.length≤3:=by cases s <;> decide
theorem DJ (l:List Nat):(jk l).length≤l.length:=by
 cases l with
 | nil=>decide
 | cons x r =>
  unfold jk
  dsimp only
  split
  ·rename_i h
   have:=congrArg wM0 h
   rw [vC0] at this
   simp at this ⊢; exact far [_,_] [.qe qb (.n 3),.le qb (.p qa qh)] (.le qC qa) rfl this (yp0 _ _)
  ·split
   ·rename_i h
    have:=congrArg wM0 h
    rw [vC0] at this
    simp at this ⊢; exact far [_,_] [.qe qb qC,.le qb (.p qa qh)] (.le qh qa) rfl this (yp0 _ _)
   ·split
    ·rename_i h
     have:=congrArg wM0 h
     rw [vC0] at this
     simp at this ⊢; exact far [_,_] [.qe qb qC,.le qb (.p qa qh)] (.le qh qa) rfl this (yp0 _ _)
    ·split
     ·rename_i h
      have:=congrArg wM0 h
      rw [vC0] at this
      simp at this ⊢; exact far [_,_] [.qe qb qC,.le qb (.p qa qh)] (.le qh qa) rfl this (yp0 _ _)
     ·rw [vC0]; exact yp0 _ _
theorem je {src:List Nat} (G:∀ x∈src,BG x=true) {c:Nat} (h:c≤src.length):(tk src c).fin≤src.length:=by
 rw [yb,GT G]
 have h1:=DJ (src.drop (skip src c))
 rw [wa0] at h1
 have:=AI h
 exact far [_,_,_,_] [.le qb qj,.le (.p qj qa) qg] (.le (.p qa qb) qg) rfl h1 (yi0 (yg0 (far [_,_] [.le qa qb] (.le qa qb) rfl this)))
theorem jz {src:List Nat} {c:Nat} (h:(tk src c).sg≠.fin):c<(tk src c).fin:=by
 rw [yb]
 have h1:=wY src c
 have h2:(tk src c).sg.txt.length≠0:=fun q=>h (txt_nil.mp (vK0.mp q))
 exact o0 _ _ _ h1 h2
theorem ug {src:List Nat} (G:∀ x∈src,BG x=true):∀ (f g c:Nat),c≤src.length→src.length+1-c≤f→src.length+1-c≤g→Yl src f c=Yl src g c
 | 0,_,c,hc,h,_=>by exact (far [_,_,_] [.le qa qb,.le qg (.n 0),.le (.p qb qh) (.p qg qa)] (.ff) rfl hc h (lsa _ _)).elim
 | _+1,0,c,hc,_,h=>by exact (far [_,_,_] [.le qa qb,.le qg (.n 0),.le (.p qb qh) (.p qg qa)] (.ff) rfl hc h (lsa _ _)).elim
 | f+1,g+1,c,hc,h1,h2=>by
  unfold Yl
  congr 1
  split
  ·rfl
  ·rename_i q
   have l1:=jz q
   have l2:=je G hc
   exact ug G f g _ l2 (by exact yl0.mpr (far [_,_,_,_,_] [.le qw (.p qb qh),.lt qj qg,.le (.p qa qh) (.p qw qj)] (.le (.p qa qh) (.p qb qg)) rfl h1 l1 (lsa _ _))) (by exact yl0.mpr (far [_,_,_,_,_] [.le qw (.p qb qh),.lt qj qg,.le (.p qa qh) (.p qw qj)] (.le (.p qa qh) (.p qb qg)) rfl h2 l1 (lsa _ _)))
theorem yk {src:List Nat} (G:∀ x∈src,BG x=true) {c:Nat} (hc:c≤src.length):due src c=tk src c::if (tk src c).sg=.fin then [] else due src (tk src c).fin:=by
 show Yl src (src.length+1-c) c=_
 rw [show src.length+1-c=(src.length-c)+1 from by exact yk0 (far [_,_,_,_] [.le (.p qg qb) (.p qa qh),.le qa (.p qj qb)] (.le qg (.p qj qh)) rfl (yi0 (yg0 (far [_,_] [.le qb qa] (.le qb (.p qa qh)) rfl hc))) (lsa _ _)) (far [_,_,_,_] [.le (.p qj qb) qa,.le (.p qa qh) (.p qg qb)] (.le (.p qj qh) qg) rfl (yi0 (yg0 (far [_,_] [.le qb qa] (.le qb qa) rfl hc))) (lsa _ _))]
 rw [Yl]
 congr 1
 split
 ·rfl
 ·rename_i q
  have l1:=jz q
  have l2:=je G hc
  exact ug G _ _ _ l2 (by exact yl0.mpr (far [_,_,_,_] [.lt qb qj,.le qa (.p qg qb)] (.le (.p qa qh) (.p qg qj)) rfl l1 (lsa _ _))) (by exact yh0 _)
theorem MZ {src:List Nat} (G:∀ x∈src,BG x=true):∀ (n c:Nat),c≤src.length→src.length-c≤n→(due src c).length≤n+1
 | 0,c,hc,h=>by
  rw [yk G hc]
  by_cases q:(tk src c).sg=.fin
  ·rw [if_pos q]; simp
  ·have l1:=jz q
   have l2:=je G hc
   exact o1 _ _ _ _ h l1 l2
 | n+1,c,hc,h=>by
  rw [yk G hc]
  by_cases q:(tk src c).sg=.fin
  ·rw [if_pos q]; simp
  ·have l1:=jz q
   have l2:=je G hc
   rw [if_neg q,vr0]
   have:=MZ G n (tk src c).fin l2 (by exact yl0.mpr (far [_,_,_,_,_] [.le qw (.p qb qh),.lt qj qg,.le qa (.p qw qj)] (.le qa (.p qb qg)) rfl h l1 (lsa _ _)))
   exact yu0 this
theorem Mw {l:List Nat} {c:Nat}:((l.take c).drop c).contains 10=false:=by
 have:(l.take c).drop c=[]:=by rw [List.drop_eq_nil_iff,vC0]; exact yv0 _ _
 rw [this]; rfl
theorem Kb {src:List Nat} {c x:Nat} {r:List Nat} (e:src.drop c=x::r) (hb:Bt x=false):tk src c=⟨YG (jk (x::r)),c,c+(YG (jk (x::r))).txt.length,false⟩:=by
 have hs:skip src c=c:=by
  unfold skip
  rw [e,wu0 (by rw [hb]; decide)]; rfl
 unfold tk
 rw [hs,e,Mw]
noncomputable def kF:Sg→Option Sg
 | .eq=>some .eqq
 | .eqq=>some .eqqq
 | .gt=>some .arr
 | _=>none
theorem Xi {l:List Nat} (ht:[62,61]=jk l):∃ r,l=62::61::r:=by
 match l,ht with
 | [],ht=>cases ht
 | [a],ht =>
  simp [jk] at ht
 | a::b::r,ht =>
  by_cases q:[a,b]=[62,61]
  ·cases q; exact ⟨r,rfl⟩
  ·unfold jk at ht
   have q':(a::b::r).take 2≠[62,61]:=q
   dsimp only at ht
   rw [if_neg q'] at ht
   split at ht
   ·cases ht
   ·split at ht
    ·cases ht
    ·split at ht <;> cases ht
theorem je0 {l:List Nat} (a:l.take 2≠[62,61]) (b:l.take 2≠[61,61]) (c:l.take 2≠[61,62]) (d:l.take 3≠[61,61,61]):jk l=l.take 1:=by
 unfold jk
 dsimp only
 rw [if_neg d,if_neg c,if_neg b,if_neg a]
theorem jd0 {y:Nat} {r:List Nat} (h1:y≠61) (h2:y≠62):jk (y::r)=[y] :=
 je0 (fun q=>h2 (vO0.inj q).1) (fun q=>h1 (vO0.inj q).1) (fun q=>h1 (vO0.inj q).1) (fun q=>h1 (vO0.inj q).1)
theorem Ue {y:Nat} {r:List Nat} (h1:y≠61) (h2:y≠62):jk (61::y::r)=[61] :=
 je0 (fun q=>absurd (vO0.inj q).1 (by decide)) (fun q=>h1 (vO0.inj (vO0.inj q).2).1) (fun q=>h2 (vO0.inj (vO0.inj q).2).1) (fun q=>h1 (vO0.inj (vO0.inj q).2).1)
theorem zH0 {y:Nat} {r:List Nat} (h:y≠61):jk (61::61::y::r)=[61,61]:=by
 unfold jk
 dsimp only
 rw [if_neg (show ¬ (61::61::y::r).take 3=[61,61,61] from fun q=>h (vO0.inj (vO0.inj (vO0.inj q).2).2).1),if_neg (show ¬ (61::61::y::r).take 2=[61,62] from fun q=>absurd (vO0.inj (vO0.inj q).2).1 (by decide)),if_pos (show (61::61::y::r).take 2=[61,61] from rfl)]
theorem MA {y:Nat} (h:BG y=true) (h1:y≠61) (h2:y≠62):kF (YG [y])=none:=by
 rcases vN h with rfl | rfl | rfl | rfl | rfl | rfl | rfl | rfl | rfl | rfl | rfl | rfl <;> first | rfl | exact absurd rfl h1 | exact absurd rfl h2
theorem Og {src:List Nat} (G:Good src) {c:Nat} (h:(tk src c).sg=.ge):(tk src c).fin=(tk src c).at_+2∧tk src ((tk src c).at_+1)=(match (if (tk src (tk src c).fin).at_=(tk src c).fin then kF (tk src (tk src c).fin).sg else none) with
  | some j=>⟨j,(tk src c).at_+1,(tk src (tk src c).fin).fin,false⟩
  | none=>⟨.eq,(tk src c).at_+1,(tk src c).fin,false⟩):=by
 have hf:(tk src c).fin=(tk src c).at_+2:=by rw [yb,ux,h]; rfl
 refine ⟨hf,?_⟩
 have ht:=GT G.ch c
 rw [h] at ht
 have hl:∃ r,src.drop (tk src c).at_=62::61::r:=by rw [ux]; exact Xi ht
 refine x1a1 hl fun r hl=>?_
 generalize (tk src c).at_=a at hl hf
 rw [hf]
 have d1:src.drop (a+1)=61::r:=by rw [← wh0,hl]; rfl
 have d2:src.drop (a+2)=r:=by rw [← wh0,hl]; rfl
 have nb:=G.ge a
 rw [hl] at nb
 rw [Kb d1 rfl]
 cases r with
 | nil =>
  have e2:(tk src (a+2)).sg=.fin:=by
   have e3:src.drop (skip src (a+2))=[]:=by rw [Ds,d2]; rfl
   unfold tk
   rw [e3]; rfl
  rw [e2]
  split
  ·rename_i j q
   split at q <;> exact nsO q
  ·rfl
 | cons y r2 =>
  have hy:BG y=true:=G.ch y (ws0 (by rw [d2]; exact vV0))
  by_cases hyb:Bt y=true
  ·have hne:(tk src (a+2)).at_≠a+2:=by
    rw [ux]; unfold skip
    rw [d2,wt0 hyb,vr0]; lia
   rw [if_neg hne]
   have:y=32∨y=10:=by simpa [Bt] using hyb
   rcases this with rfl | rfl <;> rfl
  ·have hyb':Bt y=false:=by simpa using hyb
   have e2:=Kb d2 hyb'
   rw [e2]
   dsimp only
   rw [if_pos rfl]
   by_cases h1:y=61
   ·subst h1
    cases r2 with
    | nil=>rfl
    | cons z r3 =>
     by_cases hz:z=61
     ·subst hz
      cases r3 with
      | nil=>rfl
      | cons u r4 =>
       by_cases hu:u=61
       ·subst hu; exact ftB nb
       ·rw [zH0 hu]; rfl
     ·by_cases hz2:z=62
      ·subst hz2; exact ftB nb
      ·rw [Ue hz hz2,zH0 hz]; rfl
   by_cases h2:y=62
   ·subst h2
    cases r2 with
    | nil=>rfl
    | cons z r3 =>
     by_cases hz:z=61
     ·subst hz; exact ftB nb
     ·rw [je0 (l:=62::z::r3) (fun q=>hz (vO0.inj (vO0.inj q).2).1) (fun q=>absurd (vO0.inj q).1 (by decide)) (fun q=>absurd (vO0.inj q).1 (by decide)) (fun q=>absurd (vO0.inj q).1 (by decide))]; rfl
   rw [Ue h1 h2,jd0 h1 h2,MA hy h1 h2]
   rfl
theorem qz {d f:Nat} {args:List V} {σ:H} {k:Fn} {ρ:List (Option LV)} (h1:prog.fn f=some k) (h2:bindArgs k.n k.slots k.defs args=some ρ) :
  qk prog (d+1) f args σ=Oq (exs prog (qk prog d) (mkD prog d) k.body ⟨ρ,σ⟩):=by
 rw [NC]
 unfold QU
 rw [h1]
 dsimp only
 rw [h2]
section
variable {p:P} {call mk:Nat→List V→H→RC} {st:St}
noncomputable def nx {α β:Type} (k:α→St→R β) (r:R α):R β:=r.bind k
noncomputable def yF (p:P) (call mk:Nat→List V→H→RC) (c:E) (b:Ss) (f:Nat) (st:St):R Flow:=zA (fun st=>tst p call mk c st) (fun st=>exs p call mk b st) f st
noncomputable def Gr (p:P) (call mk:Nat→List V→H→RC) (i:Nat) (b:Ss) (vs:List V) (st:St):R Flow:=xG i (fun st=>exs p call mk b st) vs st
noncomputable def Nz (p:P) (call mk:Nat→List V→H→RC) (body:E) (x:V) (f i:Nat) (st:St) (acc:List V):R V:=ju x (fun v σ=>ev p call mk body ⟨[some (.val v)],σ⟩) f i st acc
noncomputable def XZ (p:P) (call mk:Nat→List V→H→RC) (c:E) (b:Ss) (f:Nat) (x:Flow) (st:St):R Flow:=match x with
 | .next=>yF p call mk c b f st
 | .brk=>.ok .next st
 | .ret v=>.ok (.ret v) st
noncomputable def xo0 (p:P) (call mk:Nat→List V→H→RC) (c:E) (b:Ss) (f:Nat) (t:Bool) (st:St):R Flow:=if t then nx (XZ p call mk c b f) (exs p call mk b st) else .ok .next st
noncomputable def zM0 (p:P) (call mk:Nat→List V→H→RC) (i:Nat) (b:Ss) (vs:List V) (x:Flow) (st:St):R Flow:=match x with
 | .next=>Gr p call mk i b vs st
 | .brk=>.ok .next st
 | .ret v=>.ok (.ret v) st
theorem jf {c:E} {b:Ss} {f:Nat}:yF p call mk c b (f+1) st=nx (xo0 p call mk c b f) (tst p call mk c st):=rfl
theorem yB {i:Nat} {b:Ss}:Gr p call mk i b [] st=.ok .next st:=rfl
theorem kO {i:Nat} {b:Ss} {v:V} {vs:List V}:Gr p call mk i b (v::vs) st=nx (zM0 p call mk i b vs) (exs p call mk b (qB st i (.val v))):=rfl
theorem Ny {body:E} {x:V} {f i:Nat} {acc:List V}:Nz p call mk body x (f+1) i st acc=match yJ x i st.σ with
  | none=>.bad
  | some none=>.ok (.lst acc.reverse) st
  | some (some v)=>match ev p call mk body ⟨[some (.val v)],st.σ⟩ with
   | .ok w st2=>Nz p call mk body x f (i+1) {st with σ:=st2.σ} (w::acc)
   | _=>.bad:=by
 show ju _ _ _ _ _ _=_
 rw [ju]; rfl
noncomputable def jR (b:Bool) (x y:R Flow):R Flow:=if b then x else y
noncomputable def xr0 (i:Nat) (v:V) (st:St):R Flow:=.ok .next (qB st i (.val v))
noncomputable def YI (st:St) (x v:V):R Flow:=match x with
  | .ref n=>(match st.σ[n]? with
   | some (.list vs)=>if vs.length<qD then .ok .next {st with σ:=st.σ.set n (.list (vs++[v]))} else .bad
   | _=>.bad)
  | _=>.bad
noncomputable def xq0 (p:P) (call mk:Nat→List V→H→RC) (a b:Ss) (t:Bool) (st:St):R Flow:=jR t (exs p call mk a st) (exs p call mk b st)
noncomputable def xp0 (p:P) (call mk:Nat→List V→H→RC) (ss:Ss) (f:Flow) (st:St):R Flow:=match f with
 | .next=>exs p call mk ss st
 | f=>.ok f st
theorem qf0 {i:Nat} {e:E}:ex p call mk (.asg i e) st=nx (xr0 i) (ev p call mk e st):=rfl
theorem qe0 {c:E} {a b:Ss}:ex p call mk (.ifs c a b) st=nx (xq0 p call mk a b) (tst p call mk c st):=rfl
theorem UI {c:E} {b:Ss}:ex p call mk (.whl c b) st=yF p call mk c b qy st:=rfl
theorem IB {s:S} {ss:Ss}:exs p call mk (.cons s ss) st=nx (xp0 p call mk ss) (ex p call mk s st):=rfl
theorem qI {s:S} {ss:Ss} {st':St} (h:ex p call mk s st=.ok .next st'):exs p call mk (.cons s ss) st=exs p call mk ss st':=by rw [IB,h]; rfl
end
theorem ki {i:Int} (h1:-1000000<i) (h2:i<1000000):okI i=true:=yX0 (by exact o3 _ h1 h2)
theorem qM {n:Nat} (h:n<1000000):okI (n:Int)=true:=ki (by exact kt0 _) (by exact kw0.mpr h)
theorem zj {a b:Int} (ha:okI a=true) (hb:okI b=true):jS .add (.int a) (.int b)=some (.int (a+b)):=by
 show orO (if okI a&&okI b then some (V.int (a+b)) else none) _=_
 rw [ha,hb]; rfl
theorem Kw {a b:Int} (ha:okI a=true) (hb:okI b=true):jS .sub (.int a) (.int b)=some (.int (a-b)):=by
 show (if okI a&&okI b then some (V.int (a-b)) else none)=_
 rw [ha,hb]; rfl
theorem Bo {a b:Int} (ha:okI a=true) (hb:okI b=true):xc .add (.int a) (.int b)=some (.int (a+b)):=by
 show (if okI a&&okI b then some (V.int (a+b)) else none)=_
 rw [ha,hb]; rfl
theorem NJ {a b:Int} (ha:okI a=true) (hb:okI b=true):xc .sub (.int a) (.int b)=some (.int (a-b)):=by
 show (if okI a&&okI b then some (V.int (a-b)) else none)=_
 rw [ha,hb]; rfl
theorem Ui {a b:Nat} (h1:0<b) (h2:b<1000000):jS .mod (.int a) (.int b)=some (.int ((a % b:Nat):Int)):=by
 show (if (decide ((0:Int)<(b:Int))&&okI (b:Int))=true then some (V.int ((a:Int) % (b:Int))) else none)=_
 rw [qM h2,decide_eq_true (show (0:Int)<(b:Int) by exact kF0.mpr h1)]
 rfl
theorem Uj {a b:Nat} (h1:0<b) (h2:b<1000000) (h3:a<1000000):jS .div (.int a) (.int b)=some (.int ((a / b:Nat):Int)):=by
 show (if (decide ((0:Int)<(b:Int))&&okI (b:Int)&&okI (a:Int))=true then some (V.int ((a:Int) / (b:Int))) else none)=_
 rw [qM h2,qM h3,decide_eq_true (show (0:Int)<(b:Int) by exact kF0.mpr h1)]
 rfl
theorem Uh {a b:Int} (ha:okI a=true) (hb:okI b=true):jS .mul (.int a) (.int b)=some (.int (a*b)):=by
 show (if okI a&&okI b then some (V.int (a*b)) else none)=_
 rw [ha,hb]; rfl
theorem Bh (i:Int):flat (.int i)=true:=by rfl
theorem qd0 (i:Bool):flat (.bool i)=true:=by rfl
theorem wR {s:List Nat} (h:∀ x∈s,x<0x110000):flat (.str s)=true:=by
 exact uf0.mpr ⟨vE0.mpr fun x hx=>decide_eq_true (h x hx),rfl⟩
theorem UK (a b:Int):qF .eq (.int a) (.int b)=some (a==b):=by
 rfl
theorem MX {a b:List Nat} (ha:∀ x∈a,x<0x110000) (hb:∀ x∈b,x<0x110000):qF .eq (.str a) (.str b)=some (a==b):=by
 show (if flat (.str a)&&flat (.str b) then some (veq (.str a) (.str b)) else none)=_
 rw [wR ha,wR hb]; rfl
theorem BJ {a b:List Nat} (ha:∀ x∈a,x<0x110000) (hb:∀ x∈b,x<0x110000):qF .ne (.str a) (.str b)=some (!(a==b)):=by
 show (if flat (.str a)&&flat (.str b) then some (!veq (.str a) (.str b)) else none)=_
 rw [wR ha,wR hb]; rfl
theorem Xy {x:Nat} (h:BG x=true):x<0x110000:=by rcases vN h with rfl | rfl | rfl | rfl | rfl | rfl | rfl | rfl | rfl | rfl | rfl | rfl <;> decide
theorem wZ (s:Sg):∀ x∈s.txt,x<0x110000:=by cases s <;> decide
abbrev Q1 (α:Type):=St→α→Prop
abbrev QX:=St→Prop
noncomputable def xF:QX:=fun _=>False
noncomputable def oP {α:Type} (o:Option α) (K:α→Prop):Prop:=@ub0 α (fun _=>Prop) False K o
noncomputable def bP (b:Bool) (P:Prop):Prop:=@uj0 (fun _=>Prop) False P b
noncomputable def bQ (b:Bool) (T F:Prop):Prop:=@uj0 (fun _=>Prop) F T b
noncomputable def up (st:St) (σ:H):St:=⟨st.ρ,σ⟩
noncomputable def cP (st:St) (r:RC) (Q:Q1 V) (X:QX):Prop:=@RC.rec (fun _=>Prop) (fun v σ=>Q (up st σ) v) (fun σ=>X (up st σ)) False r
noncomputable def rP {α:Type} (r:R α) (Q:Q1 α) (X:QX):Prop:=@R.rec α (fun _=>Prop) (fun v st=>Q st v) X False r
noncomputable def lP {α:Type} (o:Option (Option LV)) (f:V→α) (g:List V→α) (n:α):α :=
 @ub0 (Option LV) (fun _=>α) n (fun x=>@ub0 LV (fun _=>α) n (fun l=>@LV.rec (fun _=>α) f g l) x) o
noncomputable def asR:V→Option Nat
 | .ref n=>some n
 | _=>none
noncomputable def ya0:V→Option (List V)
 | .tup vs=>some vs
 | .lst vs=>some vs
 | _=>none
noncomputable def asT:V→Option (List V)
 | .tup vs=>some vs
 | _=>none
noncomputable def qK0:O→Option (List V)
 | .list vs=>some vs
 | _=>none
noncomputable def nb (neg b:Bool):Bool:=@uj0 (fun _=>Bool) b (!b) neg
noncomputable def fl (N B:QX) (R:Q1 V):Q1 Flow:=fun st f=>@Flow.rec (fun _=>Prop) (N st) (B st) (fun v=>R st v) f
section
variable (p:P) (call mk:Nat→List V→H→RC)
abbrev WE:=Q1 V→QX→QX
abbrev WL:=Q1 (List V)→QX→QX
noncomputable def xF0 (i:Nat) (Q:Q1 V) (st:St) (vs:List V):Prop:=Q (qB st i (.val (.lst vs))) (.lst vs)
noncomputable def qs0 (f:Nat) (Q:Q1 V) (st:St) (v:V):Prop:=oP (jK p st.σ v f) (Q st)
noncomputable def jT0 (x:V) (Q:Q1 V) (st:St) (y:V):Prop:=oP (zB x y st.σ) (Q st)
noncomputable def zX0 (g:WE) (Q:Q1 V) (X:QX) (st:St) (x:V):Prop:=g (jT0 x Q) X st
noncomputable def xz0 (hp:Bool) (x l:V) (Q:Q1 V) (X:QX) (st:St) (h:V):Prop:=rP (jO hp x l h st) Q X
noncomputable def xA0 (g:WE) (hp:Bool) (x:V) (Q:Q1 V) (X:QX) (st:St) (l:V):Prop:=g (xz0 hp x l Q X) X st
noncomputable def cSl (g h:WE) (hp:Bool) (Q:Q1 V) (X:QX) (st:St) (x:V):Prop:=g (xA0 h hp x Q X) X st
noncomputable def zV0 (Q:Q1 V) (st:St) (vs:List V):Prop:=bP (yS0 vs.length qD) (Q st (.tup vs))
noncomputable def xI0 (hp:Bool) (Q:Q1 V) (st:St) (vs:List V):Prop:=bP (yS0 vs.length qD) (bQ hp (Q (up st (st.σ++[.list vs])) (.ref st.σ.length)) (Q st (.lst vs)))
noncomputable def jV0 (ks:List (List Nat)) (Q:Q1 V) (st:St) (vs:List V):Prop:=bP (vp0 ks.length vs.length&&kE ks) (Q (up st (st.σ++[.dict ((ks.map V.str).zip vs)])) (.ref st.σ.length))
noncomputable def jX0 (body:E) (Q:Q1 V) (X:QX) (st:St) (x:V):Prop:=rP (Nz p call mk body x qy 0 st []) Q X
noncomputable def YC (f:Nat) (Q:Q1 V) (X:QX) (st:St) (vs:List V):Prop:=cP st (call f vs st.σ) Q X
noncomputable def qn0 (o:V) (f:Nat) (Q:Q1 V) (X:QX) (st:St) (vs:List V):Prop:=cP st (call f (o::vs) st.σ) Q X
noncomputable def qo0 (g:WL) (o:V) (Q:Q1 V) (X:QX) (st:St) (f:Nat):Prop:=g (qn0 call o f Q X) X st
noncomputable def qp0 (m:Nat) (g:WL) (Q:Q1 V) (X:QX) (st:St) (o:V):Prop:=oP ((Bm st.σ o).bind fun c=>p.meth c m) (qo0 call g o Q X st)
noncomputable def xK0 (Q:Q1 V) (st:St) (n:Int):Prop:=Q st (.int n)
noncomputable def xJ0 (Q:Q1 V) (st:St) (v:V):Prop:=oP (zb v st.σ) (xK0 Q st)
noncomputable def ql0 (Q:Q1 V) (st:St) (v:V):Prop:=oP (asL v) (zV0 Q st)
noncomputable def cWs (Q:Q1 V) (st:St) (ws:List (List Nat)):Prop:=Q st (.lst (ws.map V.str))
noncomputable def YB (Q:Q1 V) (st:St) (s:List Nat):Prop:=oP (p.split s) (cWs Q st)
noncomputable def qm0 (Q:Q1 V) (st:St) (v:V):Prop:=oP (asS v) (YB p Q st)
noncomputable def zb0 (o:Bin) (x:V) (Q:Q1 V) (st:St) (y:V):Prop:=oP (jS o x y) (Q st)
noncomputable def xQ0 (g:WE) (o:Bin) (Q:Q1 V) (X:QX) (st:St) (x:V):Prop:=g (zb0 o x Q) X st
noncomputable def za0 (Q:Q1 V) (st:St) (b:Bool):Prop:=Q st (.bool b)
noncomputable def qr0 (o:Cmp) (x:V) (Q:Q1 V) (st:St) (y:V):Prop:=oP (qF o x y) (za0 Q st)
noncomputable def zY0 (g:WE) (o:Cmp) (Q:Q1 V) (X:QX) (st:St) (x:V):Prop:=g (qr0 o x Q) X st
noncomputable def jY0 (g:WE) (o:Cmp) (y:V) (Q:Q1 V) (X:QX) (st:St) (b:Bool):Prop:=bQ b (g (qr0 o y Q) X st) (Q st (.bool false))
noncomputable def jZ0 (g:WE) (o:Cmp) (x:V) (Q:Q1 V) (X:QX) (st:St) (y:V):Prop:=oP (qF o x y) (jY0 g o y Q X st)
noncomputable def zZ0 (g h:WE) (o:Cmp) (Q:Q1 V) (X:QX) (st:St) (x:V):Prop:=g (jZ0 h o x Q X) X st
noncomputable def cNb (neg:Bool) (Q:Q1 V) (st:St) (b:Bool):Prop:=Q st (.bool (nb neg b))
noncomputable def xL0 (neg:Bool) (x:V) (Q:Q1 V) (st:St) (y:V):Prop:=oP (xl neg x y st.σ) (cNb neg Q st)
noncomputable def cIn (g:WE) (neg:Bool) (Q:Q1 V) (X:QX) (st:St) (x:V):Prop:=g (xL0 neg x Q) X st
noncomputable def zW0 (Q:Q1 V) (st:St) (v:V):Prop:=Q st (.bool (xE v))
noncomputable def xH0 (Q:Q1 V) (st:St) (v:V):Prop:=oP (truthy v st.σ) (cNb true Q st)
noncomputable def zg0 (g:QX) (Q:Q1 V) (v:V) (st:St) (b:Bool):Prop:=bQ b (g st) (Q st v)
noncomputable def xV0 (g:QX) (Q:Q1 V) (st:St) (v:V):Prop:=oP (truthy v st.σ) (zg0 g Q v st)
noncomputable def xG0 (g:QX) (Q:Q1 V) (v:V) (st:St) (b:Bool):Prop:=bQ b (Q st v) (g st)
noncomputable def cOr (g:QX) (Q:Q1 V) (st:St) (v:V):Prop:=oP (truthy v st.σ) (xG0 g Q v st)
noncomputable def jP0 (n:Nat) (vs:List V) (Q:Q1 V) (st:St) (x:V):Prop:=Q (up st (st.σ.set n (.list vs.dropLast))) x
noncomputable def jQ0 (n:Nat) (Q:Q1 V) (st:St) (vs:List V):Prop:=oP vs.getLast? (jP0 n vs Q st)
noncomputable def jR0 (n:Nat) (Q:Q1 V) (st:St) (o:O):Prop:=oP (qK0 o) (jQ0 n Q st)
noncomputable def jS0 (Q:Q1 V) (st:St) (n:Nat):Prop:=oP st.σ[n]? (jR0 n Q st)
noncomputable def xD0 (Q:Q1 V) (st:St) (v:V):Prop:=oP (asR v) (jS0 Q st)
noncomputable def xE0 (i:Nat) (vs:List V) (Q:Q1 V) (st:St) (x:V):Prop:=Q (qB st i (.own vs.dropLast)) x
noncomputable def cPo (i:Nat) (Q:Q1 V) (st:St) (vs:List V):Prop:=oP vs.getLast? (xE0 i vs Q st)
noncomputable def qq0 (v:V) (Q:Q1 (List V)) (st:St) (vs:List V):Prop:=Q st (v::vs)
noncomputable def jW0 (g:WL) (Q:Q1 (List V)) (X:QX) (st:St) (v:V):Prop:=g (qq0 v Q) X st
noncomputable def jL0 (T F:QX) (st:St) (b:Bool):Prop:=bQ b (T st) (F st)
noncomputable def cTr (T F:QX) (st:St) (v:V):Prop:=oP (truthy v st.σ) (jL0 T F st)
noncomputable def cTl (T F:QX) (st:St) (vs:List V):Prop:=bQ vs.isEmpty (F st) (T st)
mutual
noncomputable def wE:E→Q1 V→QX→St→Prop
 | .loc i,Q,_,st=>lP st.ρ[i]? (Q st) (xF0 i Q st) False
 | .cst v,Q,_,st=>Q st v
 | .attr e f,Q,X,st=>wE e (qs0 p f Q) X st
 | .idx a b,Q,X,st=>wE a (zX0 (wE b) Q X) X st
 | .slice hp a lo hi,Q,X,st=>wE a (cSl (wE lo) (wE hi) hp Q X) X st
 | .tup es,Q,X,st=>wEs es (zV0 Q) X st
 | .lst hp es,Q,X,st=>wEs es (xI0 hp Q) X st
 | .dict ks es,Q,_,st=>wEs es (jV0 ks Q) xF st
 | .comp _ body iter,Q,X,st=>wE iter (jX0 p call mk body Q X) X st
 | .callF f es,Q,X,st=>wEs es (YC call f Q X) X st
 | .meth e m es,Q,X,st=>wE e (qp0 p call m (wEs es) Q X) X st
 | .new c es,Q,X,st=>wEs es (YC mk c Q X) X st
 | .len e,Q,X,st=>wE e (xJ0 Q) X st
 | .tuple e,Q,X,st=>wE e (ql0 Q) X st
 | .split e,Q,X,st=>wE e (qm0 p Q) X st
 | .bin o a b,Q,X,st=>wE a (xQ0 (wE b) o Q X) X st
 | .cmp o a b,Q,X,st=>wE a (zY0 (wE b) o Q X) X st
 | .cmp2 o a b c,Q,X,st=>wE a (zZ0 (wE b) (wE c) o Q X) X st
 | .isin neg a b,Q,X,st=>wE a (cIn (wE b) neg Q X) X st
 | .isNone e,Q,X,st=>wE e (zW0 Q) X st
 | .not e,Q,X,st=>wE e (xH0 Q) X st
 | .and a b,Q,X,st=>wE a (xV0 (wE b Q X) Q) X st
 | .or a b,Q,X,st=>wE a (cOr (wE b Q X) Q) X st
 | .ite c a b,Q,X,st=>wT c (wE a Q X) (wE b Q X) X st
 | .pop e,Q,X,st=>wE e (xD0 Q) X st
 | .popOwn i,Q,_,st=>lP st.ρ[i]? (fun _=>False) (cPo i Q st) False
 | .bad,_,_,_=>False
termination_by structural e=>e
noncomputable def wEs:Es→Q1 (List V)→QX→St→Prop
 | .nil,Q,_,st=>Q st []
 | .cons e es,Q,X,st=>wE e (jW0 (wEs es) Q X) X st
termination_by structural e=>e
noncomputable def wT:E→QX→QX→QX→St→Prop
 | .not e,T,F,X,st=>wT e F T X st
 | .and a b,T,F,X,st=>wT a (wT b T F X) F X st
 | .or a b,T,F,X,st=>wT a T (wT b T F X) X st
 | .loc i,T,F,_,st=>lP st.ρ[i]? (cTr T F st) (cTl T F st) False
 | .attr e f,T,F,X,st=>wE e (qs0 p f (cTr T F)) X st
 | .idx a b,T,F,X,st=>wE a (zX0 (wE b) (cTr T F) X) X st
 | .callF f es,T,F,X,st=>wEs es (YC call f (cTr T F) X) X st
 | .meth e m es,T,F,X,st=>wE e (qp0 p call m (wEs es) (cTr T F) X) X st
 | .cmp o a b,T,F,X,st=>wE a (zY0 (wE b) o (cTr T F) X) X st
 | .cmp2 o a b c,T,F,X,st=>wE a (zZ0 (wE b) (wE c) o (cTr T F) X) X st
 | .isin neg a b,T,F,X,st=>wE a (cIn (wE b) neg (cTr T F) X) X st
 | .isNone e,T,F,X,st=>wE e (zW0 (cTr T F)) X st
 | _,_,_,_,_=>False
termination_by structural e=>e
end
noncomputable def xa0 (i:Nat) (N:QX) (st:St) (v:V):Prop:=N (qB st i (.val v))
noncomputable def xS0 (i:Nat) (N:QX) (st:St) (vs:List V):Prop:=bP (decide (vs.length≤qD)&&st.ρ.all (fun x=>match x with | some (.own _)=>false | _=>true)) (N (qB st i (.own vs)))
noncomputable def jK0 (is:List Nat) (N:QX) (st:St) (vs:List V):Prop:=oP (NU st is vs) N
noncomputable def xw0 (is:List Nat) (N:QX) (st:St) (v:V):Prop:=oP (asT v) (jK0 is N st)
noncomputable def cUp (N:QX) (st:St) (σ:H):Prop:=N (up st σ)
noncomputable def jO0 (f:Nat) (v:V) (N:QX) (st:St) (x:V):Prop:=oP (jp p st.σ x f v) (cUp N st)
noncomputable def xB0 (g:WE) (f:Nat) (N X:QX) (st:St) (v:V):Prop:=g (jO0 p f v N) X st
noncomputable def jM0 (v x:V) (N B:QX) (R:Q1 V) (X:QX) (st:St) (k:V):Prop:=rP (xa st x k v) (fl N B R) X
noncomputable def jN0 (g:WE) (v:V) (N B:QX) (R:Q1 V) (X:QX) (st:St) (x:V):Prop:=g (jM0 v x N B R X) X st
noncomputable def xy0 (g h:WE) (N B:QX) (R:Q1 V) (X:QX) (st:St) (v:V):Prop:=g (jN0 h v N B R X) X st
noncomputable def zc0 (i:Nat) (o:Bin) (x:V) (N:QX) (st:St) (y:V):Prop:=oP (xc o x y) (xa0 i N st)
noncomputable def xR0 (g:WE) (i:Nat) (o:Bin) (N X:QX) (st:St) (x:V):Prop:=g (zc0 i o x N) X st
noncomputable def zh0 (x:V) (f:Nat) (N:QX) (st:St) (v:V):Prop:=oP (jp p st.σ x f v) (cUp N st)
noncomputable def zi0 (x:V) (f:Nat) (o:Bin) (a:V) (N:QX) (st:St) (y:V):Prop:=oP (xc o a y) (zh0 p x f N st)
noncomputable def zj0 (g:WE) (x:V) (f:Nat) (o:Bin) (N X:QX) (st:St) (a:V):Prop:=g (zi0 p x f o a N) X st
noncomputable def xW0 (g:WE) (f:Nat) (o:Bin) (N X:QX) (st:St) (x:V):Prop:=oP (jK p st.σ x f) (zj0 p g x f o N X st)
noncomputable def zd0 (n:Nat) (N B:QX) (R:Q1 V) (X:QX) (st:St) (v:V):Prop:=rP (YI st (.ref n) v) (fl N B R) X
noncomputable def ze0 (g:WE) (n:Nat) (N B:QX) (R:Q1 V) (X:QX) (st:St) (_:List V):Prop:=g (zd0 n N B R X) X st
noncomputable def zf0 (g:WE) (N B:QX) (R:Q1 V) (X:QX) (st:St) (n:Nat):Prop:=oP (st.σ[n]?.bind qK0) (ze0 g n N B R X st)
noncomputable def xT0 (g:WE) (N B:QX) (R:Q1 V) (X:QX) (st:St) (x:V):Prop:=oP (asR x) (zf0 g N B R X st)
noncomputable def xU0 (i:Nat) (v:V) (N:QX) (st:St) (vs:List V):Prop:=bP (yS0 (vs.length+1) qD) (N (qB st i (.own (vs++[v]))))
noncomputable def cAp (i:Nat) (N:QX) (st:St) (v:V):Prop:=lP st.ρ[i]? (fun _=>False) (xU0 i v N st) False
noncomputable def xO0 (i:Nat) (vs:List V) (N:QX) (st:St) (ws:List V):Prop:=bP (yS0 (vs.length+ws.length+1) qD) (N (qB st i (.own (vs++ws))))
noncomputable def xP0 (i:Nat) (v:V) (N:QX) (st:St) (vs:List V):Prop:=oP (asL v) (xO0 i vs N st)
noncomputable def cEx (i:Nat) (N:QX) (st:St) (v:V):Prop:=lP st.ρ[i]? (fun _=>False) (xP0 i v N st) False
noncomputable def jU0 (N:QX) (st:St) (_:V):Prop:=N st
noncomputable def xM0 (i:Nat) (b:Ss) (N B:QX) (R:Q1 V) (X:QX) (st:St) (k:Int):Prop:=bP (decide (0≤k∧k<1000)) (rP (Gr p call mk i b ((wd0 k.toNat).map fun (j:Nat)=>V.int j) st) (fl N B R) X)
noncomputable def cFr (i:Nat) (b:Ss) (N B:QX) (R:Q1 V) (X:QX) (st:St) (v:V):Prop:=oP (asI v) (xM0 p call mk i b N B R X st)
noncomputable def xN0 (i:Nat) (b:Ss) (N B:QX) (R:Q1 V) (X:QX) (st:St) (vs:List V):Prop:=rP (Gr p call mk i b vs st) (fl N B R) X
noncomputable def cFe (i:Nat) (b:Ss) (N B:QX) (R:Q1 V) (X:QX) (st:St) (v:V):Prop:=oP (ya0 v) (xN0 p call mk i b N B R X st)
noncomputable def xC0 (X:QX) (st:St) (k:Int):Prop:=bP (okI k) (X st)
noncomputable def cRs (X:QX) (st:St) (v:V):Prop:=oP (asI v) (xC0 X st)
noncomputable def xx0 (i:Nat) (v:V) (N:QX) (st:St):Prop:=bP (uA v) (N (qB st i (.val v)))
mutual
noncomputable def wS:S→QX→QX→Q1 V→QX→St→Prop
 | .asg i e,N,_,_,X,st=>wE p call mk e (xa0 i N) X st
 | .asgOwn i es,N,_,_,X,st=>wEs p call mk es (xS0 i N) X st
 | .unpack is e,N,_,_,X,st=>wE p call mk e (xw0 is N) X st
 | .setAttr o f e,N,_,_,X,st=>wE p call mk e (xB0 p (wE p call mk o) f N X) X st
 | .setIdx o i e,N,B,R,X,st=>wE p call mk e (xy0 (wE p call mk o) (wE p call mk i) N B R X) X st
 | .augLoc i o e,N,_,_,X,st=>lP st.ρ[i]? (xR0 (wE p call mk e) i o N X st) (fun _=>False) False
 | .augAttr x f o e,N,_,_,X,st=>wE p call mk x (xW0 p (wE p call mk e) f o N X) X st
 | .append o e,N,B,R,X,st=>wE p call mk o (xT0 (wE p call mk e) N B R X) X st
 | .appendOwn i e,N,_,_,X,st=>lP st.ρ[i]? (fun _=>False) (fun _=>wE p call mk e (cAp i N) X st) False
 | .extendOwn i e,N,_,_,X,st=>lP st.ρ[i]? (fun _=>False) (fun _=>wE p call mk e (cEx i N) X st) False
 | .expr e,N,_,_,X,st=>wE p call mk e (jU0 N) X st
 | .ifs c a b,N,B,R,X,st=>wT p call mk c (wSs a N B R X) (wSs b N B R X) X st
 | .whl c b,N,B,R,X,st=>rP (yF p call mk c b qy st) (fl N B R) X
 | .forr i n b,N,B,R,X,st=>wE p call mk n (cFr p call mk i b N B R X) X st
 | .fore i e b,N,B,R,X,st=>wE p call mk e (cFe p call mk i b N B R X) X st
 | .ret e,_,_,R,X,st=>wE p call mk e R X st
 | .raise e,_,_,_,X,st=>wE p call mk e (cRs X) X st
 | .tryy b i v,N,B,R,_,st=>wSs b N B R (xx0 i v N) st
 | .brk,_,B,_,_,st=>B st
 | .bad,_,_,_,_,_=>False
termination_by structural s=>s
noncomputable def wSs:Ss→QX→QX→Q1 V→QX→St→Prop
 | .nil,N,_,_,_,st=>N st
 | .cons s ss,N,B,R,X,st=>wS s (wSs ss N B R X) B R X st
termination_by structural s=>s
end
end
section
variable {p:P} {call mk:Nat→List V→H→RC}
theorem rB {α β:Type} {r:R α} {f:α→St→R β} {K:Q1 α} {Q:Q1 β} {X:QX} (h:rP r K X) (g:∀ v st,K st v→rP (f v st) Q X):rP (r.bind f) Q X:=by
 cases r with
 | ok v st=>exact g v st h
 | exc st=>exact h
 | bad=>exact h
theorem rT {α β:Type} {r:R α} {f:α→St→R β} {K:Q1 α} {Q:Q1 β} {X:QX} (h:rP r K xF) (g:∀ v st,K st v→rP (f v st) Q X):rP (r.strict f) Q X:=by
 cases r with
 | ok v st=>exact g v st h
 | exc st=>exact h
 | bad=>exact h
theorem bE {b:Bool} {P:Prop} (h:bP b P):b=true∧P:=by
 cases b
 ·exact h.elim
 ·exact ⟨rfl,h⟩
theorem cB {r:RC} {st:St} {Q:Q1 V} {X:QX} (h:cP st r Q X):rP (match r with | .ok v σ=>R.ok v {st with σ:=σ} | .exc σ=>R.exc {st with σ:=σ} | .bad=>R.bad) Q X:=by
 cases r <;> exact h
theorem wg {r:R V} {T F X:QX} (h:rP r (cTr T F) X):rP (toB r) (jL0 T F) X:=by
 refine rB h fun v st h=>?_
 revert h
 show oP (truthy v st.σ) _→_
 generalize truthy v st.σ=o
 cases o <;> exact id
abbrev OkE (p:P) (call mk:Nat→List V→H→RC) (e:E):Prop:=∀ {Q:Q1 V} {X:QX} {st:St},wE p call mk e Q X st→rP (ev p call mk e st) Q X
abbrev OkL (p:P) (call mk:Nat→List V→H→RC) (e:Es):Prop:=∀ {Q:Q1 (List V)} {X:QX} {st:St},wEs p call mk e Q X st→rP (evs p call mk e st) Q X
theorem JR {e:E} {f:Nat} (i_e:OkE p call mk e) {Q:Q1 V} {X:QX} {st:St} (h:wE p call mk (.attr e f) Q X st):rP (ev p call mk (.attr e f) st) Q X:=by
  refine rB (i_e h) fun x st h=>?_
  revert h
  show oP (jK p st.σ x f) _→_
  generalize jK p st.σ x f=o
  cases o <;> exact id
theorem Ua {a b:E} (i_a:OkE p call mk a) (i_b:OkE p call mk b) {Q:Q1 V} {X:QX} {st:St} (h:wE p call mk (.idx a b) Q X st):rP (ev p call mk (.idx a b) st) Q X:=by
  refine rB (i_a h) fun x st h=>rB (i_b h) fun y st h=>?_
  revert h
  show oP (zB x y st.σ) _→_
  generalize zB x y st.σ=o
  cases o <;> exact id
theorem GQ {f:Nat} {es:Es} (i_es:OkL p call mk es) {Q:Q1 V} {X:QX} {st:St} (h:wE p call mk (.callF f es) Q X st):rP (ev p call mk (.callF f es) st) Q X:=rB (i_es h) fun vs st h=>cB h
theorem JO {e:E} {m:Nat} {es:Es} (i_e:OkE p call mk e) (i_es:OkL p call mk es) {Q:Q1 V} {X:QX} {st:St} (h:wE p call mk (.meth e m es) Q X st):rP (ev p call mk (.meth e m es) st) Q X:=by
  refine rB (i_e h) fun x st h=>?_
  revert h
  show oP ((Bm st.σ x).bind fun c=>p.meth c m) _→rP (match (Bm st.σ x).bind fun c=>p.meth c m with | some f=>_ | none=>_) Q X
  generalize ((Bm st.σ x).bind fun c=>p.meth c m)=o
  cases o
  ·exact id
  ·exact fun h=>rB (i_es h) fun vs st h=>cB h
theorem Ub {o:Cmp} {a b:E} (i_a:OkE p call mk a) (i_b:OkE p call mk b) {Q:Q1 V} {X:QX} {st:St} (h:wE p call mk (.cmp o a b) Q X st):rP (ev p call mk (.cmp o a b) st) Q X:=by
  refine rB (i_a h) fun x st h=>rB (i_b h) fun y st h=>?_
  revert h
  show oP (qF o x y) _→_
  generalize qF o x y=o
  cases o <;> exact id
theorem JQ {o:Cmp} {a b c:E} (i_a:OkE p call mk a) (i_b:OkE p call mk b) (i_c:OkE p call mk c) {Q:Q1 V} {X:QX} {st:St} (h:wE p call mk (.cmp2 o a b c) Q X st):rP (ev p call mk (.cmp2 o a b c) st) Q X:=by
  refine rB (i_a h) fun x st h=>rB (i_b h) fun y st h=>?_
  revert h
  show oP (qF o x y) _→rP (match qF o x y with | some true=>_ | some false=>_ | none=>_) Q X
  generalize qF o x y=u
  rcases u with _ | _ | _
  ·exact id
  ·exact id
  ·refine fun h=>rB (i_c h) fun z st h=>?_
   revert h
   show oP (qF o y z) _→_
   generalize qF o y z=o
   cases o <;> exact id
theorem JP {neg:Bool} {a b:E} (i_a:OkE p call mk a) (i_b:OkE p call mk b) {Q:Q1 V} {X:QX} {st:St} (h:wE p call mk (.isin neg a b) Q X st):rP (ev p call mk (.isin neg a b) st) Q X:=by
  refine rB (i_a h) fun x st h=>rB (i_b h) fun y st h=>?_
  revert h
  show oP (xl neg x y st.σ) _→_
  generalize xl neg x y st.σ=o
  rcases o with _ | b
  ·exact id
  ·show Q st (.bool (nb neg b))→Q st (.bool (b != neg))
   cases neg <;> cases b <;> exact id
theorem Bv {e:E} (i_e:OkE p call mk e) {Q:Q1 V} {X:QX} {st:St} (h:wE p call mk (.isNone e) Q X st):rP (ev p call mk (.isNone e) st) Q X:=rB (i_e h) fun x st h=>h
mutual
theorem qN:∀ (e:E) {Q:Q1 V} {X:QX} {st:St},wE p call mk e Q X st→rP (ev p call mk e st) Q X
 | .loc i,Q,X,st,h=>by
  revert h
  show lP st.ρ[i]? _ _ _→rP (match st.ρ[i]? with | some (some (.val v))=>.ok v st | some (some (.own vs))=>.ok (.lst vs) (qB st i (.val (.lst vs))) | _=>.bad) Q X
  generalize st.ρ[i]?=o
  rcases o with _ | _ | _ | _ <;> exact id
 | .cst v,Q,X,st,h=>h
 | .attr e f,Q,X,st,h=>JR (qN e) h
 | .idx a b,Q,X,st,h=>Ua (qN a) (qN b) h
 | .slice hp a lo hi,Q,X,st,h=>rB (qN a h) fun x st h=>rB (qN lo h) fun y st h=>rB (qN hi h) fun z st h=>h
 | .tup es,Q,X,st,h=>by
  refine rB (yG es h) fun vs st h=>?_
  show rP (if _ then _ else _) Q X
  rw [if_pos (yc0 (bE h).1)]
  exact (bE h).2
 | .lst hp es,Q,X,st,h=>by
  refine rB (yG es h) fun vs st h=>?_
  show rP (if _ then _ else _) Q X
  rw [if_neg (yR0.mpr (yc0 (bE h).1))]
  cases hp <;> exact (bE h).2
 | .dict ks es,Q,X,st,h=>by
  refine rT (yG es h) fun vs st h=>?_
  have q:=bE h
  rw [ug0] at q
  show rP (if _ then _ else _) Q X
  rw [if_pos ⟨yW0 q.1.1,q.1.2⟩]
  exact q.2
 | .comp _ body iter,Q,X,st,h=>rB (qN iter h) fun x st h=>h
 | .callF f es,Q,X,st,h=>GQ (yG es) h
 | .meth e m es,Q,X,st,h=>JO (qN e) (yG es) h
 | .new c es,Q,X,st,h=>rB (yG es h) fun vs st h=>cB h
 | .len e,Q,X,st,h=>by
  refine rB (qN e h) fun x st h=>?_
  revert h
  show oP (zb x st.σ) _→_
  generalize zb x st.σ=o
  cases o <;> exact id
 | .tuple e,Q,X,st,h=>by
  refine rB (qN e h) fun x st h=>?_
  cases x with
  | lst vs =>
   show rP (if _ then _ else _) Q X
   rw [if_pos (yc0 (bE h).1)]
   exact (bE h).2
  | _=>exact h
 | .split e,Q,X,st,h=>by
  refine rB (qN e h) fun x st h=>?_
  cases x with
  | str s =>
   revert h
   show oP (p.split s) _→_
   dsimp only
   generalize p.split s=o
   cases o <;> exact id
  | _=>exact h
 | .bin o a b,Q,X,st,h=>by
  refine rB (qN a h) fun x st h=>rB (qN b h) fun y st h=>?_
  revert h
  show oP (jS o x y) _→_
  generalize jS o x y=o
  cases o <;> exact id
 | .cmp o a b,Q,X,st,h=>Ub (qN a) (qN b) h
 | .cmp2 o a b c,Q,X,st,h=>JQ (qN a) (qN b) (qN c) h
 | .isin neg a b,Q,X,st,h=>JP (qN a) (qN b) h
 | .isNone e,Q,X,st,h=>Bv (qN e) h
 | .not e,Q,X,st,h=>by
  refine rB (qN e h) fun x st h=>?_
  revert h
  show oP (truthy x st.σ) _→_
  generalize truthy x st.σ=o
  cases o <;> exact id
 | .and a b,Q,X,st,h=>by
  refine rB (qN a h) fun x st h=>?_
  revert h
  show oP (truthy x st.σ) _→_
  generalize truthy x st.σ=o
  rcases o with _ | _ | _
  ·exact id
  ·exact id
  ·exact qN b
 | .or a b,Q,X,st,h=>by
  refine rB (qN a h) fun x st h=>?_
  revert h
  show oP (truthy x st.σ) _→_
  generalize truthy x st.σ=o
  rcases o with _ | _ | _
  ·exact id
  ·exact qN b
  ·exact id
 | .ite c a b,Q,X,st,h=>by
  refine rB (AB c h) fun t st h=>?_
  cases t
  ·exact qN b h
  ·exact qN a h
 | .pop e,Q,X,st,h=>by
  refine rB (qN e h) fun x st h=>?_
  cases x with
  | ref n =>
   revert h
   show oP st.σ[n]? _→rP (match st.σ[n]? with | some (.list vs)=>(match vs.getLast? with | some x=>_ | none=>_) | _=>_) Q X
   generalize st.σ[n]?=o
   rcases o with _ | vs | _ | _
   ·exact id
   ·show oP vs.getLast? _→rP (match vs.getLast? with | some x=>_ | none=>_) Q X
    generalize he:vs.getLast?=o
    cases o <;> exact id
   ·exact id
   ·exact id
  | _=>exact h
 | .popOwn i,Q,X,st,h=>by
  revert h
  show lP st.ρ[i]? _ _ _→rP (match st.ρ[i]? with | some (some (.own vs))=>(match vs.getLast? with | some x=>_ | none=>_) | _=>.bad) Q X
  generalize st.ρ[i]?=o
  rcases o with _ | _ | _ | vs
  ·exact id
  ·exact id
  ·exact id
  ·show oP vs.getLast? _→rP (match vs.getLast? with | some x=>_ | none=>_) Q X
   generalize he:vs.getLast?=o
   cases o <;> exact id
 | .bad,Q,X,st,h=>h.elim
theorem yG:∀ (e:Es) {Q:Q1 (List V)} {X:QX} {st:St},wEs p call mk e Q X st→rP (evs p call mk e st) Q X
 | .nil,Q,X,st,h=>h
 | .cons e es,Q,X,st,h=>rB (qN e h) fun x st h=>rB (yG es h) fun vs st h=>h
theorem AB:∀ (e:E) {T F:QX} {X:QX} {st:St},wT p call mk e T F X st→rP (tst p call mk e st) (jL0 T F) X
 | .not e,T,F,X,st,h=>by
  refine rB (AB e h) fun b st h=>?_
  cases b <;> exact h
 | .and a b,T,F,X,st,h=>by
  refine rB (AB a h) fun t st h=>?_
  cases t
  ·exact h
  ·exact AB b h
 | .or a b,T,F,X,st,h=>by
  refine rB (AB a h) fun t st h=>?_
  cases t
  ·exact AB b h
  ·exact h
 | .loc i,T,F,X,st,h=>by
  revert h
  show lP st.ρ[i]? _ _ _→rP (match st.ρ[i]? with | some (some (.val v))=>(match truthy v st.σ with | some b=>.ok b st | none=>.bad) | some (some (.own vs))=>.ok (!vs.isEmpty) st | _=>.bad) _ X
  generalize st.ρ[i]?=o
  rcases o with _ | _ | v | vs
  ·exact id
  ·exact id
  ·show oP (truthy v st.σ) _→rP (match truthy v st.σ with | some b=>.ok b st | none=>.bad) _ X
   generalize truthy v st.σ=o
   cases o <;> exact id
  ·cases vs <;> exact id
 | .attr e f,T,F,X,st,h=>wg (JR (qN e) h)
 | .idx a b,T,F,X,st,h=>wg (Ua (qN a) (qN b) h)
 | .callF f es,T,F,X,st,h=>wg (GQ (yG es) h)
 | .meth e m es,T,F,X,st,h=>wg (JO (qN e) (yG es) h)
 | .cmp o a b,T,F,X,st,h=>wg (Ub (qN a) (qN b) h)
 | .cmp2 o a b c,T,F,X,st,h=>wg (JQ (qN a) (qN b) (qN c) h)
 | .isin neg a b,T,F,X,st,h=>wg (JP (qN a) (qN b) h)
 | .isNone e,T,F,X,st,h=>wg (Bv (qN e) h)
 | .cst _,T,F,X,st,h | .slice _ _ _ _,T,F,X,st,h | .tup _,T,F,X,st,h | .lst _ _,T,F,X,st,h | .dict _ _,T,F,X,st,h | .comp _ _ _,T,F,X,st,h | .new _ _,T,F,X,st,h | .len _,T,F,X,st,h
 | .tuple _,T,F,X,st,h | .split _,T,F,X,st,h | .bin _ _ _,T,F,X,st,h | .ite _ _ _,T,F,X,st,h | .pop _,T,F,X,st,h | .popOwn _,T,F,X,st,h | .bad,T,F,X,st,h=>h.elim
end
mutual
theorem YL:∀ (s:S) {N B:QX} {R:Q1 V} {X:QX} {st:St},wS p call mk s N B R X st→rP (ex p call mk s st) (fl N B R) X
 | .asg i e,N,B,R,X,st,h=>rB (qN e h) fun v st h=>h
 | .asgOwn i es,N,B,R,X,st,h=>by
  refine rB (yG es h) fun vs st h=>?_
  exact Eq.mpr (congrArg (fun r=>rP r (fl N B R) X) (if_pos (bE h).1)) (bE h).2
 | .unpack is e,N,B,R,X,st,h=>by
  refine rB (qN e h) fun x st h=>?_
  cases x with
  | tup vs =>
   revert h
   show oP (NU st is vs) _→rP (match NU st is vs with | some st=>_ | none=>_) _ X
   generalize NU st is vs=o
   cases o <;> exact id
  | _=>exact h
 | .setAttr o f e,N,B,R,X,st,h=>by
  refine rB (qN e h) fun v st h=>rB (qN o h) fun x st h=>?_
  revert h
  show oP (jp p st.σ x f v) _→_
  generalize jp p st.σ x f v=o
  cases o <;> exact id
 | .setIdx o i e,N,B,R,X,st,h=>rB (qN e h) fun v st h=>rB (qN o h) fun x st h=>rB (qN i h) fun k st h=>h
 | .augLoc i o e,N,B,R,X,st,h=>by
  revert h
  show lP st.ρ[i]? _ _ _→rP (match st.ρ[i]? with | some (some (.val x))=>_ | _=>_) _ X
  generalize st.ρ[i]?=u
  rcases u with _ | _ | x | _
  ·exact id
  ·exact id
  ·refine fun h=>rB (qN e h) fun y st h=>?_
   revert h
   show oP (xc o x y) _→_
   generalize xc o x y=o
   cases o <;> exact id
  ·exact id
 | .augAttr x f o e,N,B,R,X,st,h=>by
  refine rB (qN x h) fun x st h=>?_
  revert h
  show oP (jK p st.σ x f) _→rP (match jK p st.σ x f with | some a=>_ | none=>_) _ X
  generalize jK p st.σ x f=u
  rcases u with _ | a
  ·exact id
  ·refine fun h=>rB (qN e h) fun y st h=>?_
   revert h
   show oP (xc o a y) _→rP (match xc o a y with | some v=>(match jp p st.σ x f v with | some σ=>_ | none=>_) | none=>_) _ X
   generalize xc o a y=o
   rcases o with _ | v
   ·exact id
   ·show oP (jp p st.σ x f v) _→rP (match jp p st.σ x f v with | some σ=>_ | none=>_) _ X
    generalize jp p st.σ x f v=o
    cases o <;> exact id
 | .append o e,N,B,R,X,st,h=>by
  refine rB (qN o h) fun x st h=>?_
  cases x with
  | ref n =>
   revert h
   show oP (st.σ[n]?.bind qK0) _→rP (match st.σ[n]? with | some (.list _)=>_ | _=>_) _ X
   generalize st.σ[n]?=u
   rcases u with _ | vs | _ | _
   ·exact id
   ·exact fun h=>rB (qN e h) fun v st h=>h
   ·exact id
   ·exact id
  | _=>exact h
 | .appendOwn i e,N,B,R,X,st,h=>by
  revert h
  show lP st.ρ[i]? _ _ _→rP (match st.ρ[i]? with | some (some (.own _))=>_ | _=>_) _ X
  generalize st.ρ[i]?=u
  rcases u with _ | _ | _ | _
  ·exact id
  ·exact id
  ·exact id
  ·refine fun h=>rB (qN e h) fun v st h=>?_
   revert h
   show lP st.ρ[i]? _ _ _→rP (match st.ρ[i]? with | some (some (.own vs))=>_ | _=>_) _ X
   generalize st.ρ[i]?=u
   rcases u with _ | _ | _ | vs
   ·exact id
   ·exact id
   ·exact id
   ·intro h
    exact Eq.mpr (congrArg (fun r=>rP r (fl N B R) X) (if_pos (vc0 (yc0 (bE h).1)))) (bE h).2
 | .extendOwn i e,N,B,R,X,st,h=>by
  revert h
  show lP st.ρ[i]? _ _ _→rP (match st.ρ[i]? with | some (some (.own _))=>_ | _=>_) _ X
  generalize st.ρ[i]?=u
  rcases u with _ | _ | _ | _
  ·exact id
  ·exact id
  ·exact id
  ·refine fun h=>rB (qN e h) fun v st h=>?_
   revert h
   show lP st.ρ[i]? _ _ _→rP (match st.ρ[i]? with | some (some (.own vs))=>_ | _=>_) _ X
   generalize st.ρ[i]?=u
   rcases u with _ | _ | _ | vs
   ·exact id
   ·exact id
   ·exact id
   ·intro h
    cases v with
    | lst ws =>
     exact Eq.mpr (congrArg (fun r=>rP r (fl N B R) X) (if_pos (vc0 (yc0 (bE h).1)))) (bE h).2
    | _=>exact h
 | .expr e,N,B,R,X,st,h=>rB (qN e h) fun v st h=>h
 | .ifs c a b,N,B,R,X,st,h=>by
  refine rB (AB c h) fun t st h=>?_
  cases t
  ·exact wf b h
  ·exact wf a h
 | .whl c b,N,B,R,X,st,h=>h
 | .forr i n b,N,B,R,X,st,h=>by
  refine rB (qN n h) fun v st h=>?_
  cases v with
  | int k =>
   show rP (if _ then _ else _) _ X
   rw [if_pos (of_decide_eq_true (bE h).1)]
   exact (bE h).2
  | _=>exact h
 | .fore i e b,N,B,R,X,st,h=>by
  refine rB (qN e h) fun v st h=>?_
  cases v <;> exact h
 | .ret e,N,B,R,X,st,h=>rB (qN e h) fun v st h=>h
 | .raise e,N,B,R,X,st,h=>by
  refine rB (qN e h) fun v st h=>?_
  cases v with
  | int i =>
   show rP (if _ then _ else _) _ X
   rw [if_pos (bE h).1]
   exact (bE h).2
  | _=>exact h
 | .tryy b i v,N,B,R,X,st,h=>by
  have q:=wf b h
  revert q
  show rP (exs p call mk b st) _ _→rP (match exs p call mk b st with | .exc st=>_ | r=>r) _ X
  generalize exs p call mk b st=r
  cases r with
  | ok f st=>exact id
  | exc st =>
   intro h
   show rP (if _ then _ else _) _ X
   rw [if_pos (bE h).1]
   exact (bE h).2
  | bad=>exact id
 | .brk,N,B,R,X,st,h=>h
 | .bad,N,B,R,X,st,h=>h.elim
theorem wf:∀ (s:Ss) {N B:QX} {R:Q1 V} {X:QX} {st:St},wSs p call mk s N B R X st→rP (exs p call mk s st) (fl N B R) X
 | .nil,N,B,R,X,st,h=>h
 | .cons s ss,N,B,R,X,st,h=>by
  refine rB (YL s h) fun f st h=>?_
  cases f
  ·exact wf ss h
  ·exact h
  ·exact h
end
theorem sO {α:Type} {o:Option α} {v:α} {K:α→Prop} (h:o=some v) (q:K v):@ub0 α (fun _=>Prop) False K o:=by subst h; exact q
theorem sC {r:RC} {v:V} {σ:H} {st:St} {Q:Q1 V} {X:QX} (h:r=.ok v σ) (q:Q (up st σ) v):@RC.rec (fun _=>Prop) (fun v σ=>Q (up st σ) v) (fun σ=>X (up st σ)) False r:=by subst h; exact q
theorem sX {r:RC} {σ:H} {st:St} {Q:Q1 V} {X:QX} (h:r=.exc σ) (q:X (up st σ)):@RC.rec (fun _=>Prop) (fun v σ=>Q (up st σ) v) (fun σ=>X (up st σ)) False r:=by subst h; exact q
theorem sK {α:Type} {r:R α} {v:α} {st:St} {Q:Q1 α} {X:QX} (h:r=.ok v st) (q:Q st v):@R.rec α (fun _=>Prop) (fun v st=>Q st v) X False r:=by subst h; exact q
theorem sE {α:Type} {r:R α} {st:St} {Q:Q1 α} {X:QX} (h:r=.exc st) (q:X st):@R.rec α (fun _=>Prop) (fun v st=>Q st v) X False r:=by subst h; exact q
theorem sT {b:Bool} {T F:Prop} (h:b=true) (q:T):@uj0 (fun _=>Prop) F T b:=by subst h; exact q
theorem sF {b:Bool} {T F:Prop} (h:b=false) (q:F):@uj0 (fun _=>Prop) F T b:=by subst h; exact q
theorem sT1 {b:Bool} {T F:Prop} (h:b=false) (q:T):@uj0 (fun _=>Prop) F T (!b):=by subst h; exact q
theorem sF1 {b:Bool} {T F:Prop} (h:b=true) (q:F):@uj0 (fun _=>Prop) F T (!b):=by subst h; exact q
theorem sT2 {b:Bool} {T F:Prop} (h:some b=some true) (q:T):@uj0 (fun _=>Prop) F T b:=sT (kT0.inj h) q
theorem sF2 {b:Bool} {T F:Prop} (h:some b=some false) (q:F):@uj0 (fun _=>Prop) F T b:=sF (kT0.inj h) q
theorem sT3 {b:Bool} {T F:Prop} (h:some b=some false) (q:T):@uj0 (fun _=>Prop) F T (nb true b):=sT1 (kT0.inj h) q
theorem sF3 {b:Bool} {T F:Prop} (h:some b=some true) (q:F):@uj0 (fun _=>Prop) F T (nb true b):=sF1 (kT0.inj h) q
theorem sL {a b:Nat} {T F:Prop} (h:a≤b) (q:T):@uj0 (fun _=>Prop) F T (yS0 a b):=sT (yX0 h) q
theorem sI {c:Prop} {i:Decidable c} {T F:Prop} (h:c) (q:T):@uj0 (fun _=>Prop) F T (@decide c i):=sT (decide_eq_true h) q
theorem eT {α:Type} {x u w:α} {b:Bool} (h:x=if b=true then u else w) (k:b=true):x=u:=h.trans (if_pos k)
theorem eF {α:Type} {x u w:α} {b:Bool} (h:x=if b=true then u else w) (k:b=false):x=w:=h.trans (if_neg (by rw [k]; exact uk0))
noncomputable def fN (r:RC):QX:=fun st=>RC.ok .none st.σ=r
noncomputable def fR (r:RC):Q1 V:=fun st v=>RC.ok v st.σ=r
noncomputable def fX (r:RC):QX:=fun st=>RC.exc st.σ=r
noncomputable def gO {α:Type} (r:R α) (a:α):QX:=fun st=>R.ok a st=r
noncomputable def gU (r:R Flow):Q1 V:=fun st v=>R.ok (.ret v) st=r
noncomputable def gX {α:Type} (r:R α):QX:=fun st=>R.exc st=r
noncomputable def gQ {α:Type} (r:R α):Q1 α:=fun st v=>R.ok v st=r
noncomputable def gW (p:P) (call mk:Nat→List V→H→RC) (c:E) (b:Ss) (f:Nat) (r:R Flow):QX:=fun st=>yF p call mk c b f st=r
noncomputable def gF (p:P) (call mk:Nat→List V→H→RC) (i:Nat) (b:Ss) (vs:List V) (r:R Flow):QX:=fun st=>Gr p call mk i b vs st=r
theorem wGo {β:Type} {x:R Flow} {k:R Flow→β} {r:β} (h:rP x (fl (fun st=>k (.ok .next st)=r) (fun st=>k (.ok .brk st)=r) (fun st v=>k (.ok (.ret v) st)=r)) (fun st=>k (.exc st)=r)):k x=r:=by
 rcases x with ⟨_ | _ | _,_⟩ | _ | _
 ·exact h
 ·exact h
 ·exact h
 ·exact h
 ·exact h.elim
theorem jc {ss:Ss} {st:St} {r:RC} (h:wSs p call mk ss (fN r) xF (fR r) (fX r) st):Oq (exs p call mk ss st)=r:=by
 have q:=wf ss h
 revert q
 generalize exs p call mk ss st=x
 rcases x with ⟨_ | _ | _,_⟩ | _ | _
 ·exact id
 ·exact False.elim
 ·exact id
 ·exact id
 ·exact False.elim
theorem js {d f:Nat} {args:List V} {σ:H} {k:Fn} {ρ:List (Option LV)} {r:RC} (h1:prog.fn f=some k) (h2:bindArgs k.n k.slots k.defs args=some ρ) (h:wSs prog (qk prog d) (mkD prog d) k.body (fN r) xF (fR r) (fX r) ⟨ρ,σ⟩):qk prog (d+1) f args σ=r:=(qz h1 h2).trans (jc h)
theorem IM {ss:Ss} {st:St} {r:R Flow} (h:wSs p call mk ss (gO r .next) (gO r .brk) (gU r) (gX r) st):exs p call mk ss st=r:=wGo (k:=id) (wf ss h)
theorem wEx {s:S} {st:St} {r:R Flow} (h:wS p call mk s (gO r .next) (gO r .brk) (gU r) (gX r) st):ex p call mk s st=r:=wGo (k:=id) (YL s h)
theorem rQ {α:Type} {x r:R α} (h:rP x (gQ r) (gX r)):x=r:=by
 cases x
 ·exact h
 ·exact h
 ·exact h.elim
theorem wEv {e:E} {st:St} {r:R V} (h:wE p call mk e (gQ r) (gX r) st):ev p call mk e st=r:=rQ (qN e h)
theorem NT {e:E} {st:St} {r:R Bool} (h:wT p call mk e (gO r true) (gO r false) (gX r) st):tst p call mk e st=r:=by
 have q:=AB e h
 revert q
 generalize tst p call mk e st=x
 rcases x with ⟨_ | _,_⟩ | _ | _
 ·exact id
 ·exact id
 ·exact id
 ·exact False.elim
theorem zr0 {i:Nat} {b:Ss} {v:V} {vs:List V} {st:St} {r:R Flow} (h:wSs p call mk b (gF p call mk i b vs r) (gO r .next) (gU r) (gX r) (qB st i (.val v))):Gr p call mk i b (v::vs) st=r:=by
 rw [kO]
 exact wGo (k:=nx (zM0 p call mk i b vs)) (wf b h)
theorem xV {c:E} {b:Ss} {f:Nat} {st:St} {r:R Flow} (h:wT p call mk c (wSs p call mk b (gW p call mk c b f r) (gO r .next) (gU r) (gX r)) (gO r .next) (gX r) st):yF p call mk c b (f+1) st=r:=by
 rw [jf]
 have q:=AB c h
 revert q
 generalize tst p call mk c st=x
 rcases x with ⟨_ | _,_⟩ | _ | _
 ·exact id
 ·exact fun h=>wGo (k:=nx (XZ p call mk c b f)) (wf b h)
 ·exact id
 ·exact False.elim
theorem kN {i:Nat} {b:Ss} {v:V} {vs:List V} {st st':St} {r:R Flow} (h:exs p call mk b (qB st i (.val v))=.ok .next st') (k:Gr p call mk i b vs st'=r):Gr p call mk i b (v::vs) st=r:=by rw [kO,h]; exact k
theorem UH {s:S} {ss:Ss} {st st':St} {r:R Flow} (h:ex p call mk s st=.ok .next st') (k:exs p call mk ss st'=r):exs p call mk (.cons s ss) st=r:=(qI h).trans k
theorem UX {c:E} {b:Ss} {f:Nat} {st st1 st2:St} {r:R Flow} (h:tst p call mk c st=.ok true st1) (k:exs p call mk b st1=.ok .next st2) (q:yF p call mk c b f st2=r):yF p call mk c b (f+1) st=r:=by
 rw [jf,h]
 show nx (XZ p call mk c b f) (exs p call mk b st1)=_
 rw [k]; exact q
theorem JS {c:E} {b:Ss} {f:Nat} {st st1:St} (h:tst p call mk c st=.ok false st1):yF p call mk c b (f+1) st=.ok .next st1:=by
 rw [jf,h]; rfl
theorem MW {i:Nat} {e:E} {v:V} {st st':St} (h:ev p call mk e st=.ok v st'):ex p call mk (.asg i e) st=.ok .next (qB st' i (.val v)):=by rw [qf0,h]; rfl
theorem ZZ {c:E} {a b:Ss} {st st1:St} {r:R Flow} (h:tst p call mk c st=.ok true st1) (k:exs p call mk a st1=r):ex p call mk (.ifs c a b) st=r:=by rw [qe0,h]; exact k
theorem YZ {s:S} {ss:Ss} {st st':St} {r:RC} (h:ex p call mk s st=.ok .next st') (k:Oq (exs p call mk ss st')=r):Oq (exs p call mk (.cons s ss) st)=r:=by rw [qI h]; exact k
end
noncomputable def sgV (t:Tk):V:=.tup [.str t.sg.txt,.int t.at_,.int t.fin,.bool t.line]
section
variable {d:Nat} {σ:H} {src:List Nat} {c:Nat}
theorem Kl {a x:Nat} (h:src[a]?=some x) (hb:Bt x=true):skip src a=skip src (a+1):=by
 unfold skip
 have e:src.drop a=x::src.drop (a+1):=by
  refine x1a1 (vv0.mp h) fun hl uQ0=>?_; subst uQ0
  exact we0 hl
 rw [e,wt0 hb,vr0]; exact yk0 (far [_,_] [] (.le (.p qa (.p qb qh)) (.p (.p qa qh) qb)) rfl) (far [_,_] [] (.le (.p (.p qa qh) qb) (.p qa (.p qb qh))) rfl)
theorem Kk {a x:Nat} (h:src[a]?=some x) (hb:Bt x=false):skip src a=a:=by
 unfold skip
 have e:src.drop a=x::src.drop (a+1):=by
  refine x1a1 (vv0.mp h) fun hl uQ0=>?_; subst uQ0
  exact we0 hl
 rw [e,wu0 (by rw [hb]; decide)]; rfl
theorem Oh {a:Nat} (h:src.length≤a):skip src a=a:=by
 unfold skip
 rw [wo0 h]; rfl
theorem ku {a:Nat} (ha:a<1000000):¬ ((decide ((a:Int)<0)||!okI (a:Int))=true):=by
 rw [qM ha,uu0,uv0,decide_eq_true_eq]
 exact kD0.mpr (kt0 _)
theorem Yd {a x:Nat} (h:src[a]?=some x) (ha:a<1000):zB (.str src) (.int a) σ=some (.str [x]):=by
 show (if ((a:Int)<0||!okI (a:Int))=true then none else (src[(a:Int).toNat]?).map fun c=>V.str [c])=_
 rw [if_neg (ku (by exact yd0 ha)),show ((a:Int)).toNat=a from rfl,h]
 rfl
theorem ZY (x:Nat):xl false (.str [x]) (.str [32,10]) σ=some (Bt x):=by
 show some ([32,10].contains x)=_
 by_cases h1:x=32 <;> by_cases h2:x=10 <;> simp [Bt,h1,h2]
theorem Km (G:src.length≤60) (call mk:Nat→List V→H→RC) (x:Option LV):∀ (n f a:Nat),a≤src.length→src.length-a≤n→n<f →
  yF prog call mk (.and (.cmp .lt qm (.len qc)) (.isin false (.idx qc qm) (.cst (.str [32,10])))) (.cons (.augLoc 2 .add qu) .nil) f ⟨[some (.val (.str src)),x,some (.val (.int a)),none,none],σ⟩ =
   .ok .next ⟨[some (.val (.str src)),x,some (.val (.int (skip src a:Nat))),none,none],σ⟩:=by
 intro n
 induction n with
 | zero =>
  intro f a ha hn hf
  obtain ⟨f,rfl⟩:∃ g,f=g+1:=⟨f-1,by exact (yg0 hf).symm⟩
  have hl:a=src.length:=by exact yk0 (far [_,_] [.le qa qb] (.le qa qb) rfl ha) (far [_,_,_] [.le qg (.n 0),.le qb (.p qg qa)] (.le qb qa) rfl hn (lsa _ _))
  have e1:zb (.str src) σ=some (src.length:Int):=by unfold zb; exact if_pos (by unfold qD; exact yd0 G)
  have e2:qF .lt (.int a) (.int (src.length:Int))=some false:=congrArg some (decide_eq_false (by exact o4 _ _ hl))
  rw [jf,Oh (by exact yi0 (Eq.symm hl))]
  exact xV<|sO e1<|sF2 e2<|rfl
 | succ n ih =>
  intro f a ha hn hf
  by_cases hlt:a<src.length
  ·obtain ⟨f,rfl⟩:∃ g,f=g+1:=⟨f-1,by exact (yg0 (far [_,_] [.lt (.p qb qh) qa] (.le qh qa) rfl hf)).symm⟩
   have e1:zb (.str src) σ=some (src.length:Int):=by unfold zb; exact if_pos (by unfold qD; exact yd0 G)
   have e2:qF .lt (.int a) (.int (src.length:Int))=some true:=congrArg some (decide_eq_true (by exact kw0.mpr hlt))
   obtain ⟨y,hy⟩:∃ y,src[a]?=some y:=⟨_,vB0 hlt⟩
   have e3:=Yd (σ:=σ) hy (by exact ye0 (ye0 hlt G) (yc0 rfl))
   have e4:=Bo (qM (n:=a) (by exact ye0 (ye0 hlt G) (yc0 rfl))) (show okI 1=true by rfl)
   rw [jf]
   by_cases hb:Bt y=true
   ·have:=ih f (a+1) (by exact hlt) (by exact yl0.mpr (far [_,_,_,_] [.le qj (.p qb qh),.le qa (.p qj qg)] (.le qa (.p qb (.p qg qh))) rfl hn (lsa _ _))) (by exact yj0 hf)
    rw [kx0,kz0] at this
    rw [Kl hy hb]
    exact xV<|sO e1<|sT2 e2<|sO e3<|sT2 ((ZY (σ:=[]) y).trans (congrArg some hb))<|sO e4<|this
   ·have hb':Bt y=false:=by simpa using hb
    rw [Kk hy hb']
    exact xV<|sO e1<|sT2 e2<|sO e3<|sF2 ((ZY (σ:=[]) y).trans (congrArg some hb'))<|rfl
  ·exact ih f a ha (by exact yl0.mpr (far [_,_,_] [.nl qg qa] (.le qa (.p qb qg)) rfl hlt)) (by exact yx0 hf)
theorem wX {a b:Nat} (G:src.length≤60):∀ st,jO false (.str src) (.int a) (.int b) st=.ok (.str ((src.take b).drop a)) st:=by
 intro st
 show (if src.length≤qD then _ else _)=_
 rw [if_pos (by unfold qD; exact yd0 G)]
 rfl
theorem By {a k:Nat} {l:List Nat}:(l.take (a+k)).drop a=(l.drop a).take k:=by
 rw [kp0]; congr 1; exact yk0 (far [_,_,_] [.le (.p qg qa) (.p qa qb)] (.le qg qb) rfl (yi0 (yg0 (far [_,_] [] (.le qa (.p qa qb)) rfl)))) (far [_,_,_] [.le (.p qa qb) (.p qg qa)] (.le qb qg) rfl (lsa _ _))
theorem qk0 {l m:List Nat} (G:∀ x∈l,BG x=true) (h:∀ x∈m,x∈l):∀ x∈m,x<0x110000:=fun x hx=>Xy (G x (h x hx))
theorem vd (G:Good src) (hc:c≤src.length) {call mk:Nat→List V→H→RC} {t b:List Nat} {x3:Option LV} (hb:∀ x∈b,x<0x110000) (hl:b.length≤3) :
  exs prog call mk (.cons (.ifs (.cmp .eq (.slice false qc qm (.bin .add qm (.len qq))) qq) (.cons (.asg 3 qq) .nil) .nil) .nil) (qB ⟨[some (LV.val (.str src)),some (.val (.int c)),some (.val (.int (skip src c:Nat))),some (.val (.str t)),x3],σ⟩ 4 (.val (.str b))) =
   .ok .next ⟨[some (LV.val (.str src)),some (.val (.int c)),some (.val (.int (skip src c:Nat))),some (.val (.str (if (src.drop (skip src c)).take b.length=b then b else t))),some (.val (.str b))],σ⟩:=by
 have hs:=AI hc
 have hL:=G.len
 have e1:zb (.str b) σ=some (b.length:Int):=by unfold zb; exact if_pos (by unfold qD; exact yd0 hl)
 have e2:=zj (qM (n:=skip src c) (by exact yf0 (ye0 hs hL) (yc0 rfl))) (qM (n:=b.length) (by exact yf0 hl (yc0 rfl)))
 have s1:=wX (a:=skip src c) (b:=skip src c+b.length) hL
 rw [By,kx0] at s1
 have q:=MX (qk0 G.ch (m:=(src.drop (skip src c)).take b.length) fun x hx=>ws0 (wf0 hx)) hb
 by_cases h:(src.drop (skip src c)).take b.length=b
 ·rw [if_pos h]
  have h':((src.drop (skip src c)).take b.length==b)=true:=by rw [beq_iff_eq]; exact h
  exact IM<|sO e1<|sO e2<|sK (s1 ..)<|sO q<|sT h'<|rfl
 ·rw [if_neg h]
  have h':((src.drop (skip src c)).take b.length==b)=false:=by rw [beq_eq_false_iff_ne]; exact h
  exact IM<|sO e1<|sO e2<|sK (s1 ..)<|sO q<|sF h'<|rfl
theorem jG (G:Good src) (hc:c≤src.length):qk prog (d+1) 53 [.str src,.int c] σ=.ok (sgV (tk src c)) σ:=by
 rw [qz (k:=Ae) (ρ:=[some (.val (.str src)),some (.val (.int c)),none,none,none]) rfl rfl]
 have hL:=G.len
 have hs:=AI hc
 have w:=Km (σ:=σ) hL (qk prog d) (mkD prog d) (some (.val (.int c))) 60 qy c hc (by exact ye0 (yn0 _ _) hL) (by decide)
 have ea:=zj (qM (n:=skip src c) (by exact yf0 (ye0 hs hL) (yc0 rfl))) (show okI 1=true by rfl)
 have s1:=wX (a:=skip src c) (b:=skip src c+1) hL
 have s4:=wX (a:=c) (b:=skip src c) hL
 rw [By,kx0,kz0] at s1
 have f5:Gr prog (qk prog d) (mkD prog d) 4 (.cons (.ifs (.cmp .eq (.slice false qc qm (.bin .add qm (.len qq))) qq) (.cons (.asg 3 qq) .nil) .nil) .nil) [.str [62,61],.str [61,61],.str [61,62],.str [61,61,61]] ⟨[some (.val (.str src)),some (.val (.int c)),some (.val (.int (skip src c:Nat))),some (.val (.str ((src.drop (skip src c)).take 1))),none],σ⟩=.ok .next ⟨[some (.val (.str src)),some (.val (.int c)),some (.val (.int (skip src c:Nat))),some (.val (.str (tk src c).sg.txt)),some (.val (.str [61,61,61]))],σ⟩ :=
  kN (vd G hc (by decide) (by decide))<|kN (vd G hc (by decide) (by decide))<|kN (vd G hc (by decide) (by decide))<|kN (vd G hc (by decide) (by decide))<|by rw [yB,GT G.ch]; rfl
 have l1:zb (.str (tk src c).sg.txt) σ=some ((tk src c).sg.txt.length:Int):=by unfold zb; exact if_pos (by have:=ya (tk src c).sg; unfold qD; exact yd0 this)
 have a1:=zj (qM (n:=skip src c) (by exact yf0 (ye0 hs hL) (yc0 rfl))) (qM (n:=(tk src c).sg.txt.length) (by have:=ya (tk src c).sg; exact yf0 this (yc0 rfl)))
 exact jc<|sK w<|sO ea<|sK (s1 ..)<|sK f5<|sO l1<|sO a1<|sK (s4 ..)<|by rw [sgV,yb,ux,UZ]; rfl
end
noncomputable def IT (t:Tk):V:=.tup [.int t.sg.kind,.str t.sg.txt,.int 0,.int t.at_,.int t.fin,.bool t.line]
section
variable {d:Nat} {σ:H} {src:List Nat} {c:Nat} {call mk:Nat→List V→H→RC}
theorem BL (s:Sg):qF .ne (.str s.txt) (.str [])=some (!(s==.fin)):=by cases s <;> rfl
theorem Qo {s:Sg} {x0 x1 x2 x4 x5 x6:Option LV}:ev prog call mk (.ite (.cmp .eq qt qp) qo (.ite (.cmp2 .le (.cst (.str [97])) qt (.cst (.str [122]))) qu qT)) ⟨[x0,x1,x2,some (.val (.str s.txt)),x4,x5,x6],σ⟩=.ok (.int s.kind) ⟨[x0,x1,x2,some (.val (.str s.txt)),x4,x5,x6],σ⟩:=by
 cases s <;> with_unfolding_all exact wEv rfl
theorem Bk (G:Good src) (hc:c≤src.length) {acc:List V} {x3 x4 x5 x6:Option LV} (ha:acc.length<4000) :
  exs prog (qk prog (d+1)) mk (.cons (.unpack [3,5,1,6] (.callF 53 (.cons qc (.cons qi .nil)))) (.cons (.asg 4 (.ite (.cmp .eq qt qp) qo (.ite (.cmp2 .le (.cst (.str [97])) qt (.cst (.str [122]))) qu qT))) (.cons (.appendOwn 2 (.tup (.cons qq (.cons qt (.cons qo (.cons qL (.cons qi (.cons qK .nil)))))))) .nil)))
   ⟨[some (.val (.str src)),some (.val (.int c)),some (.own acc),x3,x4,x5,x6],σ⟩=.ok .next ⟨[some (.val (.str src)),some (.val (.int (tk src c).fin)),some (.own (acc++[IT (tk src c)])),some (.val (.str (tk src c).sg.txt)),some (.val (.int (tk src c).sg.kind)),some (.val (.int (tk src c).at_)),some (.val (.bool (tk src c).line))],σ⟩:=by
 have ha':acc.length<4096:=by exact yd0 ha
 exact UH (wEx<|sC (jG G hc)<|rfl)<|UH (MW Qo)<|IM<|sL ha'<|rfl
theorem Qp (G:Good src):∀ (n f c:Nat) (acc:List V) (s:List Nat) (x4 x5 x6:Option LV),c≤src.length→src.length-c≤n→n+2≤f→acc.length+n<1000→s≠[]→(∀ x∈s,x<0x110000) →
  ∃ y1 y4 y5 y6,yF prog (qk prog (d+1)) mk (.cmp .ne qt qp) (.cons (.unpack [3,5,1,6] (.callF 53 (.cons qc (.cons qi .nil)))) (.cons (.asg 4 (.ite (.cmp .eq qt qp) qo (.ite (.cmp2 .le (.cst (.str [97])) qt (.cst (.str [122]))) qu qT))) (.cons (.appendOwn 2 (.tup (.cons qq (.cons qt (.cons qo (.cons qL (.cons qi (.cons qK .nil)))))))) .nil))) f
   ⟨[some (.val (.str src)),some (.val (.int c)),some (.own acc),some (.val (.str s)),x4,x5,x6],σ⟩=.ok .next ⟨[some (.val (.str src)),y1,some (.own (acc++(due src c).map IT)),some (.val (.str [])),y4,y5,y6],σ⟩:=by
 intro n
 induction n with
 | zero =>
  intro f c acc s x4 x5 x6 hc hn hf ha hs hsl
  obtain ⟨f,rfl⟩:∃ g,f=g+2:=⟨f-2,by exact (yg0 hf).symm⟩
  have hfin:(tk src c).sg=.fin:=by
   refine Classical.byContradiction fun q=>?_
   have l1:=jz q
   have l2:=je G.ch hc
   exact far [_,_,_,_] [.le qg (.n 0),.lt qb qj,.le qj qa,.le qa (.p qg qb)] (.ff) rfl hn l1 l2 (lsa _ _)
  have q1:=BJ hsl (show ∀ x∈([]:List Nat),x<0x110000 by decide)
  have q2:(s==[])=false:=by rw [beq_eq_false_iff_ne]; exact hs
  rw [yk G.ch hc,if_pos hfin]
  have dt:=Bk (d:=d) (σ:=σ) (mk:=mk) (x3:=some (.val (.str s))) (x4:=x4) (x5:=x5) (x6:=x6) G hc (by exact yd0 ha)
  rw [hfin] at dt
  exact (c4a1 _ _ _ _ (UX (NT<|sO q1<|sT1 q2<|rfl) dt (JS (NT rfl))))
 | succ n ih =>
  intro f c acc s x4 x5 x6 hc hn hf ha hs hsl
  obtain ⟨f,rfl⟩:∃ g,f=g+1:=⟨f-1,by exact (yg0 (far [_,_] [.le (.p qb (.n 3)) qa] (.le qh qa) rfl hf)).symm⟩
  by_cases hfin:(tk src c).sg=.fin
  ·obtain ⟨f,rfl⟩:∃ g,f=g+1:=⟨f-1,by exact (yg0 (far [_,_] [.le (.p qb (.n 3)) (.p qa qh)] (.le qh qa) rfl hf)).symm⟩
   have q1:=BJ hsl (show ∀ x∈([]:List Nat),x<0x110000 by decide)
   have q2:(s==[])=false:=by rw [beq_eq_false_iff_ne]; exact hs
   rw [yk G.ch hc,if_pos hfin]
   have dt:=Bk (d:=d) (σ:=σ) (mk:=mk) (x3:=some (.val (.str s))) (x4:=x4) (x5:=x5) (x6:=x6) G hc (by exact far [_,_] [.lt (.p qa (.p qb qh)) qG] (.lt qa (.n 4000)) rfl ha)
   rw [hfin] at dt
   exact (c4a1 _ _ _ _ (UX (NT<|sO q1<|sT1 q2<|rfl) dt (JS (NT rfl))))
  ·have l1:=jz hfin
   have l2:=je G.ch hc
   have q1:=BJ hsl (show ∀ x∈([]:List Nat),x<0x110000 by decide)
   have q2:(s==[])=false:=by rw [beq_eq_false_iff_ne]; exact hs
   rw [yk G.ch hc,if_neg hfin]
   refine x4a1 (ih f (tk src c).fin (acc++[IT (tk src c)]) (tk src c).sg.txt (some (.val (.int (tk src c).sg.kind))) (some (.val (.int (tk src c).at_))) (some (.val (.bool (tk src c).line))) l2 (by exact yl0.mpr (far [_,_,_,_,_] [.le qw (.p qb qh),.lt qj qg,.le qa (.p qw qj)] (.le qa (.p qb qg)) rfl hn l1 (lsa _ _))) (by exact yj0 hf) (by simp; exact far [_,_] [.lt (.p qa (.p qb qh)) qG] (.lt (.p (.p qa qh) qb) qG) rfl ha) (fun q=>hfin (txt_nil.mp q)) (wZ _)) fun y1 y4 y5 y6 e=>?_
   refine (c4a1 y1 y4 y5 y6 (UX (NT<|sO q1<|sT1 q2<|rfl) (Bk G hc (by exact far [_,_] [.lt (.p qa (.p qb qh)) qG] (.lt qa (.n 4000)) rfl ha)) ?_))
   rw [e]
   simp
theorem ZI (G:Good src) (hc:c≤src.length):qk prog (d+2) 54 [.str src,.int c] σ=.ok (.lst ((due src c).map IT)) σ:=by
 rw [qz (k:=Do) (ρ:=[some (.val (.str src)),some (.val (.int c)),none,none,none,none,none]) rfl rfl]
 have hL:=G.len
 show Oq (exs prog (qk prog (d+1)) (mkD prog (d+1)) (.cons _ (.cons _ (.cons _ (.cons _ .nil)))) _)=_
 rw [qI (st':=⟨[some (.val (.str src)),some (.val (.int c)),some (.own []),none,none,none,none],σ⟩) (by exact wEx<|rfl)]
 rw [qI (st':=⟨[some (.val (.str src)),some (.val (.int c)),some (.own []),some (.val (.str [109,111,114,101])),none,none,none],σ⟩) (by exact wEx<|rfl)]
 refine x4a1 (Qp (d:=d) (mk:=mkD prog (d+1)) (σ:=σ) G 60 qy c [] [109,111,114,101] none none none hc (by exact ye0 (yn0 _ _) hL) (by decide) (by simp) (by simp) (by decide)) fun y1 y4 y5 y6 e=>?_
 rw [qI (by rw [UI]; exact e)]
 exact jc<|rfl
end
noncomputable def zc (t:Tk):V:=.obj 2 [.int t.sg.kind,.str t.sg.txt,.int 0,.int t.at_,.int t.fin,.bool t.line]
structure Dg where
 sg:Option Sg
 at_:Nat
deriving DecidableEq
noncomputable def Dg.num (d:Dg):Int:=match d.sg with | none=>1110 | some _=>1005
noncomputable def Dg.args (d:Dg):V:=match d.sg with | none=>.tup [] | some s=>.tup [.str s.txt]
noncomputable def dgV (d:Dg):V:=.obj 0 [.int d.num,.int d.at_,d.args,.str []]
structure Mk where
 at_:Nat
 told:Nat
 splits:Nat
 deep:Int
noncomputable def mkV (m:Mk):V:=.obj 3 [.int m.at_,.int m.told,.int m.splits,.lst [],.int m.deep,.tup [.str [],.int 0,.int 0],.bool true,.int 0,.int 0,.int 0,.lst [],.bool false,.bool false,.int 0]
noncomputable def spV (s:Nat×Tk):V:=.tup [.int s.1,zc s.2]
structure PS where
 toks:List Tk
 at_:Nat
 rows:List Dg
 deep:Int
 splits:List (Nat×Tk)
 saved:List Mk
noncomputable def zJ0 (at_:Nat) (deep:Int):O:=.inst 4 [.ref 4,.int at_,.ref 3,.ref 5,.ref 6,.ref 7,.ref 8,.int deep,.tup [.str [],.int 0,.int 0],.bool true,.int 0,.int 0,.int 0,.lst [],.bool false,.bool false,.int 0,.lst [],.ref 9,.ref 10,.ref 11,.ref 12]
noncomputable def Zf:O:=.dict [(.int 1,.obj 6 []),(.int 2,.obj 6 [])]
noncomputable def YO:O:=.dict [(.str [35,110,97,109,101],.obj 7 [])]
noncomputable def hp (m0 wd:O) (ext:H) (ps:PS):H :=
 m0::wd::.list (ps.rows.map dgV)::.inst 1 [.ref 2,.str []]::.list (ps.toks.map zc)::Zf::.dict []::.dict []::YO::.dict []::.dict []::.list (ps.splits.map spV)::.list (ps.saved.map mkV)::zJ0 ps.at_ ps.deep::ext
section
variable {d:Nat} {m0 wd:O} {ps:PS} {ext:H}
theorem hp2:(hp m0 wd ext ps)[2]?=some (.list (ps.rows.map dgV)):=rfl
theorem xt0:(hp m0 wd ext ps)[12]?=some (.list (ps.saved.map mkV)):=rfl
theorem jG0:jK prog (hp m0 wd ext ps) (.ref 13) 1=some (.int ps.at_):=rfl
structure At (ps:PS) (t:Tk):Prop where
 here:ps.toks[ps.at_]?=some t
 low:ps.toks.length≤200
theorem At.lt {t:Tk} (h:At ps t):ps.at_<ps.toks.length:=(vv0.mp h.here).1
theorem Iu {i:Nat} {t:Tk} (h:ps.toks[i]?=some t) (hl:i<1000):zB (.ref 4) (.int i) (hp m0 wd ext ps)=some (zc t):=by
 show (if ((i:Int)<0||!okI (i:Int))=true then none else (ps.toks.map zc)[(i:Int).toNat]?)=_
 rw [if_neg (ku (by exact yd0 hl)),show ((i:Int)).toNat=i from rfl,vG0,h]
 rfl
theorem At.idx {t:Tk} (h:At ps t):zB (.ref 4) (.int ps.at_) (hp m0 wd ext ps)=some (zc t):=Iu h.here (by have:=h.lt; have:=h.low; exact ye0 (ye0 (by assumption) this) (yc0 rfl))
theorem jQ {t:Tk} (h:At ps t):qk prog (d+1) 4 [.ref 13] (hp m0 wd ext ps)=.ok (zc t) (hp m0 wd ext ps):=by
 exact js (k:=wv) (ρ:=[some (.val (.ref 13))]) rfl rfl<|sO h.idx<|rfl
theorem OX {s:Sg} (h:s≠.fin):(s.kind==0)=false:=by cases s <;> first | rfl | exact absurd rfl h
theorem Ih {t:Tk} (h:At ps t) (hk:t.sg≠.fin):qk prog (d+1) 6 [.ref 13] (hp m0 wd ext ps)=.ok (zc t) (hp m0 wd ext {ps with at_:=ps.at_+1}):=by
 have e3:=Bo (qM (n:=ps.at_) (by have:=h.lt; have:=h.low; exact ye0 (ye0 (by assumption) this) (yc0 rfl))) (show okI 1=true by rfl)
 exact js (k:=vy) (ρ:=[some (.val (.ref 13)),none]) rfl rfl<|sO h.idx<|sT1 (OX hk)<|sO e3<|rfl
theorem Il {t:Tk} (h:At ps t):qk prog (d+1) 5 [.ref 13,.int 1] (hp m0 wd ext ps)=.ok (zc ((ps.toks[ps.at_+1]?).getD t)) (hp m0 wd ext ps):=by
 rw [qz (k:=yN) (ρ:=[some (.val (.ref 13)),some (.val (.int 1)),none]) rfl rfl]
 have hl:=h.lt
 have hw:=h.low
 have e3:=zj (qM (n:=ps.at_) (by exact ye0 (ye0 hl hw) (yc0 rfl))) (show okI 1=true by rfl)
 have ll:(ps.toks.map zc).length=ps.toks.length:=vq0 ..
 have e6:=Kw (qM (n:=ps.toks.length) (by exact yf0 hw (yc0 rfl))) (show okI 1=true by rfl)
 by_cases hn:ps.at_+1<ps.toks.length
 ·have e5:qF .ge (.int ((ps.at_:Int)+1)) (.int ((ps.toks.map zc).length:Int))=some false:=by rw [ll]; exact congrArg some (decide_eq_false (kQ0.mpr (kw0.mpr hn)))
  have e7:=Iu (m0:=m0) (wd:=wd) (ext:=ext) (vB0 hn) (by exact ye0 (ye0 hn hw) (yc0 rfl))
  rw [kx0,kz0] at e7
  rw [vB0 hn,uc0]
  exact jc<|sO e3<|sF2 e5<|sO e7<|rfl
 ·have e5:qF .ge (.int ((ps.at_:Int)+1)) (.int ((ps.toks.map zc).length:Int))=some true:=by rw [ll]; exact congrArg some (decide_eq_true (kB0.mpr (yo0 hn)))
  have e7:=h.idx (m0:=m0) (wd:=wd) (ext:=ext)
  have e8:(ps.toks.length:Int)-1=ps.at_:=by exact o6 _ _ hl hn
  rw [wz0 (by exact o7 _ _ e8),kW0]
  rw [e8,← ll] at e6
  exact jc<|sO e3<|sT2 e5<|sO e6<|sO e7<|rfl
theorem jH {t:Tk} {k:Int} {s:List Nat} {σ:H} (hs:∀ x∈s,x<0x110000):qk prog (d+1) 22 [zc t,.int k,.str s] σ=.ok (.bool (t.sg.kind==k&&t.sg.txt==s)) σ:=by
 rw [qz (k:=Al) (ρ:=[some (.val (zc t)),some (.val (.int k)),some (.val (.str s))]) rfl rfl]
 have e2:=MX (wZ t.sg) hs
 cases h:(t.sg.kind==k)
 ·exact jc<|sF h<|congrArg (fun b=>RC.ok (V.bool b) σ) h
 ·exact jc<|sT h<|sO e2<|rfl
theorem zG {t:Tk} {s:List Nat} (h:At ps t) (hs:∀ x∈s,x<0x110000):qk prog (d+2) 7 [.ref 13,.str s] (hp m0 wd ext ps)=.ok (.bool (t.sg.kind==5&&t.sg.txt==s)) (hp m0 wd ext ps):=by
 exact js (k:=xS) (ρ:=[some (.val (.ref 13)),some (.val (.str s))]) rfl rfl<|sO h.idx<|sC (jH hs)<|rfl
theorem OL {t:Tk} {s:List Nat} (h:At ps t) (hs:∀ x∈s,x<0x110000):qk prog (d+2) 8 [.ref 13,.str s] (hp m0 wd ext ps)=.ok (.bool false) (hp m0 wd ext ps):=by
 have:(t.sg.kind==2)=false:=by cases t.sg <;> rfl
 exact js (k:=xR) (ρ:=[some (.val (.ref 13)),some (.val (.str s))]) rfl rfl<|sO h.idx<|sC (jH hs)<|congrArg (fun b=>RC.ok (V.bool (b&&t.sg.txt==s)) _) this
theorem wO {t:Tk} {s:List Nat} (h:At ps t) (hs:∀ x∈s,x<0x110000):qk prog (d+2) 9 [.ref 13,.str s] (hp m0 wd ext ps)=.ok (.bool (t.sg.kind==1&&t.sg.txt==s)) (hp m0 wd ext ps):=by
 exact js (k:=xT) (ρ:=[some (.val (.ref 13)),some (.val (.str s))]) rfl rfl<|sO h.idx<|sC (jH hs)<|rfl
theorem ON {t:Tk} {s:List Nat} (h:At ps t) (hs:∀ x∈s,x<0x110000):qk prog (d+2) 24 [.ref 13,.int 5,.str s] (hp m0 wd ext ps) =
  if (t.sg.kind==5&&t.sg.txt==s)=true then .ok (.bool true) (hp m0 wd ext {ps with at_:=ps.at_+1}) else .ok (.bool false) (hp m0 wd ext ps):=by
 rw [qz (k:=kY) (ρ:=[some (.val (.ref 13)),some (.val (.int 5)),some (.val (.str s))]) rfl rfl]
 cases hb:(t.sg.kind==5&&t.sg.txt==s)
 ·exact jc<|sC (jQ h)<|sC (jH hs)<|sF hb<|rfl
 ·have hk:t.sg≠.fin:=fun q=>by rw [q] at hb; exact ftB hb
  exact jc<|sC (jQ h)<|sC (jH hs)<|sT hb<|sC (Ih h hk)<|rfl
theorem jI {t:Tk} {s:List Nat} (h:At ps t) (hs:∀ x∈s,x<0x110000):qk prog (d+3) 10 [.ref 13,.str s] (hp m0 wd ext ps) =
  if (t.sg.kind==5&&t.sg.txt==s)=true then .ok (.bool true) (hp m0 wd ext {ps with at_:=ps.at_+1}) else .ok (.bool false) (hp m0 wd ext ps):=by
 rw [qz (k:=xo) (ρ:=[some (.val (.ref 13)),some (.val (.str s))]) rfl rfl]
 cases hb:(t.sg.kind==5&&t.sg.txt==s)
 ·exact jc<|sC (eF (ON h hs) hb)<|rfl
 ·exact jc<|sC (eT (ON h hs) hb)<|rfl
end
theorem vj {d c:Nat} {args:List V} {σ:H} {k:Cls} {ρ:List (Option LV)} (h1:prog.cls c=some k) (h2:args.length+k.defs.length=k.n) (h3:none::(args++k.defs).map (fun v=>some (LV.val v))=ρ) :
  mkD prog (d+1) c args σ=qB0 c k (uW prog (qk prog d) (mkD prog d) k.init ⟨ρ,σ⟩ []):=by
 rw [ZE]
 unfold mkW
 rw [h1]
 dsimp only
 rw [if_pos h2,h3]
section
variable {d:Nat} {m0 wd:O} {ps:PS} {ext:H} {src:List Nat} {c:Nat}
theorem XI {a b c e:V} {σ:H}:mkD prog (d+1) 0 [a,b,c,e] σ=.ok (.obj 0 [a,b,c,e]) σ:=by
 rw [vj (k:=UT) (ρ:=[none,some (.val a),some (.val b),some (.val c),some (.val e)]) rfl rfl rfl]
 rfl
theorem uO {a b c e f g:V} {σ:H}:mkD prog (d+1) 2 [a,b,c,e,f,g] σ=.ok (.obj 2 [a,b,c,e,f,g]) σ:=by
 rw [vj (k:=ND) (ρ:=[none,some (.val a),some (.val b),some (.val c),some (.val e),some (.val f),some (.val g)]) rfl rfl rfl]
 rfl
theorem AY {a b c e f:V} {σ:H}:mkD prog (d+1) 5 [a,b,c,e,f] σ=.ok (.obj 5 [a,b,c,e,f,.int 0]) σ:=by
 rw [vj (k:=UR) (ρ:=[none,some (.val a),some (.val b),some (.val c),some (.val e),some (.val f)]) rfl rfl rfl]
 rfl
theorem XE {σ:H}:mkD prog (d+1) 8 [] σ=.ok (.obj 8 []) σ:=by
 rw [vj (k:=yP) (ρ:=[none]) rfl rfl rfl]
 rfl
theorem XG {σ:H}:mkD prog (d+1) 6 [] σ=.ok (.obj 6 []) σ:=by
 rw [vj (k:=Aw) (ρ:=[none]) rfl rfl rfl]
 rfl
theorem XF {σ:H}:mkD prog (d+1) 7 [] σ=.ok (.obj 7 []) σ:=by
 rw [vj (k:=yO) (ρ:=[none]) rfl rfl rfl]
 rfl
noncomputable def allSg:List Sg:=[.fin,.la,.lb,.lc,.ld,.com,.lp,.rp,.lt,.gt,.ge,.eq,.eqq,.eqqq,.arr]
theorem ZG (s:Sg):allSg.contains s=true:=by cases s <;> rfl
theorem UU {p:Sg→Bool} (h:allSg.all p=true) (s:Sg):p s=true:=vE0.mp h s (ka0.mp (ZG s))
theorem IS (s x:Sg) (h:s.kind=5):(x.kind==5&&x.txt==s.txt)=(x==s):=by
 have q:=UU (p:=fun s=>s.kind != 5||allSg.all fun x=>(x.kind==5&&x.txt==s.txt)==(x==s)) (by decide +kernel) s
 rw [h] at q
 exact beq_iff_eq.mp (UU (p:=fun x=>(x.kind==5&&x.txt==s.txt)==(x==s)) q x)
theorem vg (s:List Nat) (h:∀ x:Sg,x.txt≠s) (x:Sg) (k:Int):(x.kind==k&&x.txt==s)=false:=by
 rw [Bool.and_eq_false_iff]; right; rw [beq_eq_false_iff_ne]; exact h x
theorem QZ {ρ:List (Option LV)} {g:Dg} (h:ps.rows.length<4000):YI ⟨ρ,hp m0 wd ext ps⟩ (.ref 2) (dgV g)=.ok .next ⟨ρ,hp m0 wd ext {ps with rows:=ps.rows++[g]}⟩:=by
 show (if (ps.rows.map dgV).length<qD then R.ok Flow.next ⟨ρ,(hp m0 wd ext ps).set 2 (.list (ps.rows.map dgV++[dgV g]))⟩ else R.bad)=_
 rw [if_pos (by rw [vq0]; unfold qD; exact yd0 h)]
 show R.ok Flow.next ⟨ρ,(hp m0 wd ext ps).set 2 (.list (ps.rows.map dgV++[dgV g]))⟩=_
 unfold hp
 rw [vL0]
 rfl
theorem jm0 {g:Dg} (h:ps.rows.length<4000):qk prog (d+2) 1 [.ref 3,.int g.num,.int g.at_,g.args] (hp m0 wd ext ps)=.ok .none (hp m0 wd ext {ps with rows:=ps.rows++[g]}):=by
 rw [qz (k:=ua) (ρ:=[some (.val (.ref 3)),some (.val (.int g.num)),some (.val (.int g.at_)),some (.val g.args)]) rfl rfl]
 have:=QZ (m0:=m0) (wd:=wd) (ext:=ext) (g:=g) (ρ:=[some (.val (.ref 3)),some (.val (.int g.num)),some (.val (.int g.at_)),some (.val g.args)]) h
 unfold dgV at this
 exact jc<|sC XI<|sK this<|rfl
theorem Ml {g:Dg} (h:ps.rows.length<4000):qk prog (d+3) 14 [.ref 13,.int g.num,.int g.at_,g.args] (hp m0 wd ext ps)=.exc (hp m0 wd ext {ps with rows:=ps.rows++[g]}):=by
 have ho:okI g.num=true:=by cases hg:g.sg <;> simp only [Dg.num,hg] <;> rfl
 exact js (k:=xn) (ρ:=[some (.val (.ref 13)),some (.val (.int g.num)),some (.val (.int g.at_)),some (.val g.args)]) rfl rfl<|sC (jm0 h)<|sT ho<|rfl
theorem Mn {t:Tk} {g:Dg} (ht:At ps t) (hg:g.at_=t.at_) (h:ps.rows.length<4000):qk prog (d+4) 13 [.ref 13,.int g.num,g.args] (hp m0 wd ext ps)=.exc (hp m0 wd ext {ps with rows:=ps.rows++[g]}):=by
 rw [qz (k:=yM) (ρ:=[some (.val (.ref 13)),some (.val (.int g.num)),some (.val g.args)]) rfl rfl]
 have:=Ml (d:=d) (m0:=m0) (wd:=wd) (ext:=ext) (g:=g) h
 rw [hg] at this
 exact jc<|sC (jQ ht)<|sX this<|rfl
theorem xf {t:Tk} {s:Sg} (ht:At ps t) (hs:s.kind=5) (h:ps.rows.length<4000):qk prog (d+5) 11 [.ref 13,.str s.txt] (hp m0 wd ext ps) =
  if t.sg=s then .ok .none (hp m0 wd ext {ps with at_:=ps.at_+1}) else .exc (hp m0 wd ext {ps with rows:=ps.rows++[⟨some s,t.at_⟩]}):=by
 rw [qz (k:=zX) (ρ:=[some (.val (.ref 13)),some (.val (.str s.txt))]) rfl rfl]
 have e1:=IS s t.sg hs
 by_cases hb:t.sg=s
 ·have e2:(t.sg==s)=true:=by rw [beq_iff_eq]; exact hb
  rw [if_pos hb]
  exact jc<|sC (eT (ON ht (wZ s)) (e1.trans e2))<|rfl
 ·have e2:(t.sg==s)=false:=by rw [beq_eq_false_iff_ne]; exact hb
  have e3:=Mn (d:=d) (m0:=m0) (wd:=wd) (ext:=ext) (g:=⟨some s,t.at_⟩) ht rfl h
  change qk prog (d+4) 13 [.ref 13,.int 1005,.tup [.str s.txt]] (hp m0 wd ext ps)=_ at e3
  rw [if_neg hb]
  exact jc<|sC (eF (ON ht (wZ s)) (e1.trans e2))<|sX e3<|rfl
theorem Gm {s:Sg} (h:s.letter=true):(s.kind==1)=true∧s≠.fin:=by cases s <;> first | exact ⟨rfl,by decide⟩ | exact ftB h
theorem Jf {t:Tk} (ht:At ps t) (hl:t.sg.letter=true):qk prog (d+3) 12 [.ref 13] (hp m0 wd ext ps)=.ok (.str t.sg.txt) (hp m0 wd ext {ps with at_:=ps.at_+1}):=by
 refine zz (Gm hl) fun h1 h2=>?_
 exact js (k:=zY) (ρ:=[some (.val (.ref 13))]) rfl rfl<|sC (jQ ht)<|sF1 h1<|sC (Ih ht h2)<|rfl
theorem Mp (h1:-1000<ps.deep) (h2:ps.deep<40):qk prog (d+1) 15 [.ref 13] (hp m0 wd ext ps)=.ok .none (hp m0 wd ext {ps with deep:=ps.deep+1}):=by
 have e3:=Bo (ki (i:=ps.deep) (by exact kv0 (by decide) h1) (by exact kv0 h2 (by decide))) (show okI 1=true by rfl)
 have e4:qF .gt (.int (ps.deep+1)) (.int 40)=some false:=by show some _=_; congr 1; exact decide_eq_false (by exact kD0.mpr h2)
 exact js (k:=vB) (ρ:=[some (.val (.ref 13))]) rfl rfl<|sO e3<|sF2 e4<|rfl
theorem xl0 (h1:-1000<ps.deep) (h2:ps.deep<1000):qk prog (d+1) 16 [.ref 13] (hp m0 wd ext ps)=.ok .none (hp m0 wd ext {ps with deep:=ps.deep-1}):=by
 have e3:=NJ (ki (i:=ps.deep) (by exact kv0 (by decide) h1) (by exact kv0 h2 (by decide))) (show okI 1=true by rfl)
 exact js (k:=kZ) (ρ:=[some (.val (.ref 13))]) rfl rfl<|sO e3<|rfl
theorem vR {t:Tk} {σ:H}:qk prog (d+1) 25 [zc t] σ=.ok (.str (if t.sg.letter then [35,110,97,109,101] else t.sg.txt)) σ:=by
 obtain ⟨s,a,b,l⟩:=t
 rw [qz (k:=kQ) (ρ:=[some (.val (zc ⟨s,a,b,l⟩))]) rfl rfl]
 cases s <;> exact jc rfl
theorem wq {t:Tk} {σ:H}:qk prog (d+1) 44 [zc t] σ=.ok (.bool false) σ:=by
 obtain ⟨s,a,b,l⟩:=t
 rw [qz (k:=vx) (ρ:=[some (.val (zc ⟨s,a,b,l⟩))]) rfl rfl]
 cases s <;> exact jc rfl
theorem ZH {k a at_:V} {σ:H}:qk prog (d+2) 27 [k,a,at_] σ=.ok (.obj 5 [k,a,.lst [],.int 0,at_,.int 0]) σ:=by
 exact js (k:=UG) (ρ:=[some (.val k),some (.val a),some (.val at_)]) rfl rfl<|sC AY<|rfl
theorem KZ {k a ks at_:V} {σ:H}:qk prog (d+2) 28 [k,a,ks,at_] σ=.ok (.obj 5 [k,a,ks,.int 0,at_,.int 0]) σ:=by
 exact js (k:=UF) (ρ:=[some (.val k),some (.val a),some (.val ks),some (.val at_)]) rfl rfl<|sC AY<|rfl
theorem Mj {k a ks fl at_:V} {σ:H}:qk prog (d+2) 29 [k,a,ks,fl,at_] σ=.ok (.obj 5 [k,a,ks,fl,at_,.int 0]) σ:=by
 exact js (k:=Dp) (ρ:=[some (.val k),some (.val a),some (.val ks),some (.val fl),some (.val at_)]) rfl rfl<|sC AY<|rfl
theorem Ii {ns at_:V} {σ:H}:qk prog (d+2) 30 [ns,at_] σ=.ok (.obj 5 [.int 71,.str [],ns,.int 0,at_,.int 0]) σ:=by
 exact js (k:=Dm) (ρ:=[some (.val ns),some (.val at_)]) rfl rfl<|sC AY<|rfl
structure Sim (src:List Nat) (c:Nat) (ps:PS):Prop where
 drop:ps.toks.drop ps.at_=due src c
 le:c≤src.length
 low:ps.toks.length≤200
 spl:ps.splits.length+2*(src.length-c)≤200
 rows:ps.rows.length≤500
theorem Sim.at (G:Good src) (S:Sim src c ps):At ps (tk src c):=by
 refine ⟨?_,S.low⟩
 have:=S.drop
 rw [yk G.ch S.le] at this
 have e:(ps.toks.drop ps.at_)[0]?=some (tk src c):=by rw [this]; rfl
 rw [wJ0] at e
 exact e
theorem Sim.tail (G:Good src) (S:Sim src c ps) (h:(tk src c).sg≠.fin):ps.toks.drop (ps.at_+1)=due src (tk src c).fin:=by
 have:=S.drop
 rw [yk G.ch S.le,if_neg h] at this
 rw [← wh0,this]
 rfl
theorem Sim.step (G:Good src) (S:Sim src c ps) (h:(tk src c).sg≠.fin):Sim src (tk src c).fin {ps with at_:=ps.at_+1} :=
 ⟨S.tail G h,je G.ch S.le,S.low,by have:=S.spl; have:=jz h; have:=je G.ch S.le; dsimp only; exact sa2 (far [_,_] [.le (.p qa (.m 2 qb)) qQ] (.le qa qQ) rfl (by assumption)) (far [_,_,_,_,_] [.le (.p qa (.m 2 qw)) qQ,.k 2 (.lt qj qg),.k 2 (.le qb (.p qw qj))] (.le (.p qa (.m 2 qb)) (.p qQ (.m 2 qg))) rfl (by assumption) (by assumption) (lsa _ _)),S.rows⟩
noncomputable def xN (new:List (Nat×Tk)) (toks:List Tk):List Tk:=new.foldr (fun s toks=>toks.set s.1 s.2) toks
structure Ext (k:Nat) (ps ps':PS):Prop where
 un:∃ new,ps'.splits=ps.splits++new∧xN new ps'.toks=ps.toks∧new.length≤k∧∀ s∈new,s.1<ps.toks.length
 len:ps'.toks.length=ps.toks.length
 saved:ps'.saved=ps.saved
theorem zE {a b:List (Nat×Tk)} {toks:List Tk}:xN (a++b) toks=xN a (xN b toks):=by unfold xN; rw [List.foldr_append]
theorem Ext.refl {ps':PS} (h1:ps'.toks=ps.toks) (h2:ps'.splits=ps.splits) (h3:ps'.saved=ps.saved):Ext 0 ps ps' :=
 ⟨(c1a4 [] (by rw [h2,vU0]) h1 (yh0 _) (fun _ q=>by exact zv q)),by rw [h1],h3⟩
theorem Ext.trans {j k:Nat} {p1 p2 p3:PS} (a:Ext j p1 p2) (b:Ext k p2 p3):Ext (j+k) p1 p3:=by
 refine x1a4 a.un fun n1 e1 u1 l1 m1=>?_
 refine x1a4 b.un fun n2 e2 u2 l2 m2=>?_
 refine ⟨(c1a4 (n1++n2) (by rw [e2,e1,vM0]) (by rw [zE,u2,u1]) (by rw [vt0]; exact vf0 l1 l2) (fun s hs=>?_)),by rw [b.len,a.len],by rw [b.saved,a.saved]⟩
 rcases vH0.mp hs with q | q
 ·exact m1 s q
 ·rw [← a.len]; exact m2 s q
end
section
variable {d:Nat} {m0 wd:O} {ps:PS} {ext:H} {src:List Nat} {c:Nat} {ρ:List (Option LV)}
theorem yv {α:Type}:∀ {l:List α} {i:Nat} {x:α},l[i]?=some x→l.set i x=l
 | [],_,_,h=>by simp at h
 | y::l,0,x,h=>by simp at h; subst h; rfl
 | y::l,i+1,x,h=>by rw [wL0,yv (by simpa using h)]
theorem xK {α:Type}:∀ {l:List α} {i:Nat} {x:α},i<l.length→(l.set i x).drop i=x::l.drop (i+1)
 | [],_,_,h=>by simp at h
 | y::l,0,x,h=>rfl
 | y::l,i+1,x,h=>by rw [wL0,wi0,xK (by simpa using h),wi0]
theorem ww {α:Type}:∀ {l:List α} {i j:Nat} {x:α},i<j→(l.set i x).drop j=l.drop j
 | [],_,_,_,h=>by simp
 | y::l,0,j+1,x,h=>rfl
 | y::l,i+1,j+1,x,h=>by rw [wL0,wi0,ww (by exact yj0 h),wi0]
theorem Az {s:Nat×Tk} (h:ps.splits.length<4000):YI ⟨ρ,hp m0 wd ext ps⟩ (.ref 11) (spV s)=.ok .next ⟨ρ,hp m0 wd ext {ps with splits:=ps.splits++[s]}⟩:=by
 show (if (ps.splits.map spV).length<qD then R.ok Flow.next ⟨ρ,(hp m0 wd ext ps).set 11 (.list (ps.splits.map spV++[spV s]))⟩ else R.bad)=_
 rw [if_pos (by rw [vq0]; unfold qD; exact yd0 h)]
 unfold hp
 rw [vL0]
 rfl
theorem wF {i:Nat} {t:Tk} (h:i<ps.toks.length):xa ⟨ρ,hp m0 wd ext ps⟩ (.ref 4) (.int i) (zc t)=.ok .next ⟨ρ,hp m0 wd ext {ps with toks:=ps.toks.set i t}⟩:=by
 show (match Xj (.int i) (zc t) (.list (ps.toks.map zc)) with | some o=>R.ok Flow.next ⟨ρ,(hp m0 wd ext ps).set 4 o⟩ | none=>R.bad)=_
 rw [show Xj (.int i) (zc t) (.list (ps.toks.map zc))=some (.list ((ps.toks.map zc).set i (zc t))) from if_pos ⟨by exact kt0 _,by rw [vq0]; exact h⟩]
 unfold hp
 rw [← List.map_set]
 rfl
theorem BE {a b:List Nat} (h:a.length+b.length≤4096):jS .add (.str a) (.str b)=some (.str (a++b)):=by
 show orO (if a.length+b.length≤qD then some (V.str (a++b)) else none) _=_
 rw [if_pos (show a.length+b.length≤qD from h)]
 rfl
theorem De (s:Sg) (σ:H):xl true (.str ([61]++s.txt)) (.tup [(.str [61,62]),(.str [61,61]),(.str [61,61,61])]) σ=some (kF s).isSome:=by
 cases s <;> rfl
theorem BY {s j:Sg} (h:kF s=some j):s.kind=5∧s≠.fin∧j≠.fin∧j.kind=5∧[61]++s.txt=j.txt∧j≠.eq:=by
 cases s <;> first | cases h | skip
 all_goals decide
theorem Sim.behind (G:Good src) (S:Sim src c ps) (h:(tk src c).sg≠.fin):ps.toks[ps.at_+1]?=some (tk src (tk src c).fin)∧ps.at_+1<ps.toks.length:=by
 have:=S.tail G h
 rw [yk G.ch (je G.ch S.le)] at this
 have e:(ps.toks.drop (ps.at_+1))[0]?=some (tk src (tk src c).fin):=by rw [this]; rfl
 rw [wJ0] at e
 exact ⟨e,(vv0.mp e).1⟩
theorem uS (G:Good src) (S:Sim src c ps) (h:(tk src c).sg=.gt):qk prog (d+6) 26 [.ref 13] (hp m0 wd ext ps)=.ok .none (hp m0 wd ext {ps with at_:=ps.at_+1}):=by
 rw [qz (k:=zW) (ρ:=[some (.val (.ref 13)),none,none,none]) rfl rfl]
 have ht:=S.at G
 have e1:((tk src c).sg.kind==5&&(tk src c).sg.txt==[62,61])=false:=by rw [h]; rfl
 have e2:=xf (d:=d) (m0:=m0) (wd:=wd) (ext:=ext) (s:=.gt) ht rfl (by have:=S.rows; exact yf0 this (yc0 rfl))
 rw [if_pos h] at e2
 change qk prog (d+5) 11 [.ref 13,.str [62]] (hp m0 wd ext ps)=_ at e2
 exact jc<|sC (jQ ht)<|sC (jH (show ∀ x∈[62,61],x<0x110000 by decide))<|sF e1<|sC e2<|rfl
theorem Jk (G:Good src) (S:Sim src c ps) (h:(tk src c).sg≠.gt) (h':(tk src c).sg≠.ge):qk prog (d+6) 26 [.ref 13] (hp m0 wd ext ps)=.exc (hp m0 wd ext {ps with rows:=ps.rows++[⟨some .gt,(tk src c).at_⟩]}):=by
 rw [qz (k:=zW) (ρ:=[some (.val (.ref 13)),none,none,none]) rfl rfl]
 have ht:=S.at G
 have e1:((tk src c).sg.kind==5&&(tk src c).sg.txt==[62,61])=false:=by
  have:=IS .ge (tk src c).sg rfl
  change ((tk src c).sg.kind==5&&(tk src c).sg.txt==[62,61])=_ at this
  rw [this,beq_eq_false_iff_ne]; exact h'
 have e2:=xf (d:=d) (m0:=m0) (wd:=wd) (ext:=ext) (s:=.gt) ht rfl (by have:=S.rows; exact yf0 this (yc0 rfl))
 rw [if_neg h] at e2
 change qk prog (d+5) 11 [.ref 13,.str [62]] (hp m0 wd ext ps)=_ at e2
 exact jc<|sC (jQ ht)<|sC (jH (show ∀ x∈[62,61],x<0x110000 by decide))<|sF e1<|sX e2<|rfl
theorem uT (G:Good src) (S:Sim src c ps) (h:(tk src c).sg=.ge):∃ ps',qk prog (d+6) 26 [.ref 13] (hp m0 wd ext ps)=.ok .none (hp m0 wd ext ps')∧Sim src ((tk src c).at_+1) ps'∧Ext 2 ps ps'∧ps'.rows=ps.rows∧ps'.deep=ps.deep ∧
  ((tk src ((tk src c).at_+1)).sg≠.eq→ps'.at_=ps.at_+1∧ps'.toks[ps.at_]?=some ⟨.gt,(tk src c).at_,(tk src c).at_+1,(tk src c).line⟩):=by
 have hk:(tk src c).sg≠.fin:=by rw [h]; decide
 have ht:=S.at G
 refine zz (S.behind G hk) fun hb hbl=>?_
 refine zz (Og G h) fun hf hs=>?_
 have htl:=S.tail G hk
 have hfl:=je G.ch S.le
 have hcl:=jz hk
 have hca:c≤(tk src c).at_:=QY src c
 have hrl:=S.rows
 have hsp:=S.spl
 have hlow:=S.low
 have hlt:=ht.lt
 have hhere:=ht.here
 have hL:=G.len
 have e1:((tk src c).sg.kind==5&&(tk src c).sg.txt==[62,61])=true:=by rw [h]; rfl
 have e0:=jQ (d:=d+4) (m0:=m0) (wd:=wd) (ext:=ext) ht
 change qk prog (d+5) 4 _ _=_ at e0
 have e2:=Il (d:=d+4) (m0:=m0) (wd:=wd) (ext:=ext) ht
 change qk prog (d+5) 5 _ _=_ at e2
 rw [hb,uc0] at e2
 obtain ⟨toks,at_,rows,deep,splits,saved⟩:=ps
 dsimp only at hb hbl hrl hsp hlow hlt hhere e2 htl
 generalize ht1:tk src (tk src c).fin=t1 at *
 have e3:=Az (m0:=m0) (wd:=wd) (ext:=ext) (ps:=⟨toks,at_,rows,deep,splits,saved⟩) (s:=(at_,tk src c)) (ρ:=[some (LV.val (V.ref 13)),some (LV.val (zc (tk src c))),some (LV.val (zc t1)),none]) (by dsimp only; exact far [_,_] [.le (.p qa (.m 2 qb)) qQ] (.lt qa (.n 4000)) rfl hsp)
 unfold spV at e3
 dsimp only at e3
 have e4:=BE (a:=[61]) (b:=t1.sg.txt) (by have:=ya t1.sg; simp; exact far [_] [.le qa (.n 3)] (.le (.p qh qa) qJ) rfl this)
 have o1:=zj (qM (n:=(tk src c).at_) (by exact far [_,_,_] [.qe qb (.p qa qC),.le qb qg,.le qg (.n 60)] (.lt qa (.n 1000000)) rfl hf hfl hL)) (show okI 1=true by rfl)
 have o2:=zj (qM (n:=at_) (by exact ye0 (ye0 hlt hlow) (yc0 rfl))) (show okI 1=true by rfl)
 have b1:=jG0 (m0:=m0) (wd:=wd) (ext:=ext) (ps:=⟨toks,at_,rows,deep,splits,saved⟩)
 rw [qz (k:=zW) (ρ:=[some (.val (.ref 13)),none,none,none]) rfl rfl]
 by_cases hj:∃ j,t1.at_=(tk src c).fin∧kF t1.sg=some j
 ·refine x1a2 hj fun j hat hj=>?_
  rw [if_pos hat,hj] at hs
  dsimp only at hs
  refine YJ (BY hj) fun k1 k2 k3 k4 k5 k6=>?_
  have q1:(t1.sg.kind==5)=true:=by rw [k1]; rfl
  have q2:((t1.at_:Int)==((tk src c).fin:Int))=true:=by rw [hat]; exact beq_self_eq_true _
  have q3:=De t1.sg (hp m0 wd ext ⟨toks,at_,rows,deep,splits++[(at_,tk src c)],saved⟩)
  rw [hj,k5] at q3
  rw [k5] at e4
  have f1:=Az (m0:=m0) (wd:=wd) (ext:=ext) (ps:=⟨toks,at_,rows,deep,splits++[(at_,tk src c)],saved⟩) (s:=(at_+1,t1)) (ρ:=[some (LV.val (V.ref 13)),some (LV.val (zc (tk src c))),some (LV.val (zc t1)),some (LV.val (.str j.txt))]) (by simp; exact far [_,_] [.le (.p qa (.m 2 qb)) qQ] (.lt (.p qa qh) (.n 4000)) rfl hsp)
  unfold spV at f1
  dsimp only at f1
  rw [kx0,kz0] at f1
  have f2:=wF (m0:=m0) (wd:=wd) (ext:=ext) (ps:=⟨toks,at_,rows,deep,splits++[(at_,tk src c)]++[(at_+1,t1)],saved⟩) (i:=at_) (t:=⟨.gt,(tk src c).at_,(tk src c).at_+1,(tk src c).line⟩) (ρ:=[some (LV.val (V.ref 13)),some (LV.val (zc (tk src c))),some (LV.val (zc t1)),some (LV.val (.str j.txt))]) hlt
  have f3:=wF (m0:=m0) (wd:=wd) (ext:=ext) (ps:=⟨toks.set at_ ⟨.gt,(tk src c).at_,(tk src c).at_+1,(tk src c).line⟩,at_,rows,deep,splits++[(at_,tk src c)]++[(at_+1,t1)],saved⟩) (i:=at_+1) (t:=⟨j,(tk src c).at_+1,t1.fin,false⟩) (ρ:=[some (LV.val (V.ref 13)),some (LV.val (zc (tk src c))),some (LV.val (zc t1)),some (LV.val (.str j.txt))]) (by dsimp only; rw [vS0]; exact hbl)
  have v2:zc ⟨.gt,(tk src c).at_,(tk src c).at_+1,(tk src c).line⟩=.obj 2 [.int 5,.str [62],.int 0,.int (tk src c).at_,.int ((tk src c).at_+1),.bool (tk src c).line]:=rfl
  have v3:zc ⟨j,(tk src c).at_+1,t1.fin,false⟩=.obj 2 [.int 5,.str j.txt,.int 0,.int ((tk src c).at_+1),.int t1.fin,.bool false]:=by
   unfold zc
   dsimp only
   rw [k4,kx0,kz0]
  rw [v2] at f2
  rw [v3,kx0,kz0] at f3
  dsimp only at f2 f3
  have hA:At ⟨(toks.set at_ ⟨.gt,(tk src c).at_,(tk src c).at_+1,(tk src c).line⟩).set (at_+1) ⟨j,(tk src c).at_+1,t1.fin,false⟩,at_,rows,deep,splits++[(at_,tk src c)]++[(at_+1,t1)],saved⟩ ⟨.gt,(tk src c).at_,(tk src c).at_+1,(tk src c).line⟩:=by
   refine ⟨?_,?_⟩
   ·dsimp only
    rw [kg0 (by exact yE0 _),wp0 hlt]
   ·dsimp only
    rw [vS0,vS0]; exact hlow
  have e9:=Ih (d:=d+4) (m0:=m0) (wd:=wd) (ext:=ext) hA (by dsimp only; decide)
  change qk prog (d+5) 6 _ _=_ at e9
  dsimp only at e9
  refine (c1a6 ⟨(toks.set at_ ⟨.gt,(tk src c).at_,(tk src c).at_+1,(tk src c).line⟩).set (at_+1) ⟨j,(tk src c).at_+1,t1.fin,false⟩,at_+1,rows,deep,splits++[(at_,tk src c)]++[(at_+1,t1)],saved⟩ ?_ ?_ ?_ rfl rfl ?_)
  ·exact jc<|sC e0<|sC (jH (show ∀ x∈[62,61],x<0x110000 by decide))<|sT e1<|sC e2<|sK e3<|sO e4<|sF1 q1<|sF1 q2<|sF3 q3<|sO o2<|sK f1<|sO o1<|sC uO<|sK f2<|sO o1<|sC uO<|sO o2<|sK f3<|sC e9<|rfl
  ·have hcf:(tk src c).fin<t1.fin:=by rw [← ht1]; exact jz (by rw [ht1]; exact k2)
   have hff:t1.fin≤src.length:=by rw [← ht1]; exact je G.ch hfl
   refine ⟨?_,by exact far [_,_,_,_] [.qe qg (.p qa qC),.lt qg qj,.le qj qb] (.le (.p qa qh) qb) rfl hf hcf hff,by dsimp only; rw [vS0,vS0]; exact hlow,?_,hrl⟩
   ·dsimp only
    rw [xK (by rw [vS0]; exact hbl),ww (by exact yr0 _),yk G.ch (by exact far [_,_,_,_] [.qe qg (.p qa qC),.lt qg qj,.le qj qb] (.le (.p qa qh) qb) rfl hf hcf hff),hs,if_neg k3]
    congr 1
    rw [yk G.ch hfl,ht1,if_neg k2] at htl
    rw [← wh0,htl]; rfl
   ·dsimp only
    rw [vt0,vt0]
    simp only [vr0,vy0]
    exact sa2 (far [_,_,_,_,_,_] [.lt qb qg,.le (.p qa (.m 2 qw)) qQ,.lt qg (.v 5),.le (.v 5) qj,.le qj (.p qw qb)] (.le (.p qa qC) qQ) rfl hcl hsp hcf hff (lsa _ _)) (far [_,_,_,_,_] [.k 2 (.le qj qg),.le (.p qa (.m 2 qw)) qQ,.k 2 (.le qb (.p qw qj))] (.le (.p (.p qa qC) (.m 2 qb)) (.p qQ (.m 2 (.p qg qh)))) rfl hca hsp (lsa _ _))
  ·refine ⟨(c1a4 [(at_,tk src c),(at_+1,t1)] (by simp) ?_ (by simp) ?_),by simp,rfl⟩
   ·show ((((toks.set at_ _).set (at_+1) _).set (at_+1) t1).set at_ (tk src c))=toks
    rw [wU0,ks0 _ _ (by exact yE0 _),wU0,ks0 _ _ (by exact (yE0 _).symm),yv hb,yv hhere]
   ·intro s hs
    simp at hs
    rcases hs with rfl | rfl
    ·exact hlt
    ·exact hbl
  ·intro _
   refine ⟨rfl,?_⟩
   dsimp only
   rw [kg0 (by exact yE0 _),wp0 hlt]
 ·have hn:(if t1.at_=(tk src c).fin then kF t1.sg else none)=none:=by
   split
   ·rename_i q
    cases hq:kF t1.sg with
    | none=>rfl
    | some j=>exact absurd (c1a2 j q hq) hj
   ·rfl
  rw [hn] at hs
  dsimp only at hs
  have f2:=wF (m0:=m0) (wd:=wd) (ext:=ext) (ps:=⟨toks,at_,rows,deep,splits++[(at_,tk src c)],saved⟩) (i:=at_) (t:=⟨.eq,(tk src c).at_+1,(tk src c).fin,false⟩) (ρ:=[some (LV.val (V.ref 13)),some (LV.val (zc (tk src c))),some (LV.val (zc t1)),some (LV.val (.str ([61]++t1.sg.txt)))]) hlt
  have v2:zc ⟨.eq,(tk src c).at_+1,(tk src c).fin,false⟩=.obj 2 [.int 5,.str [61],.int 0,.int ((tk src c).at_+1),.int (tk src c).fin,.bool false]:=rfl
  rw [v2] at f2
  dsimp only at f2
  have q3:=De t1.sg (hp m0 wd ext ⟨toks,at_,rows,deep,splits++[(at_,tk src c)],saved⟩)
  refine (c1a6 ⟨toks.set at_ ⟨.eq,(tk src c).at_+1,(tk src c).fin,false⟩,at_,rows,deep,splits++[(at_,tk src c)],saved⟩ ?_ ?_ ?_ rfl rfl ?_)
  ·by_cases q1:(t1.sg.kind==5)=true
   ·by_cases q2:((t1.at_:Int)==((tk src c).fin:Int))=true
    ·have q2':t1.at_=(tk src c).fin:=by rw [beq_iff_eq] at q2; exact kC0.inj q2
     rw [if_pos q2'] at hn
     rw [hn] at q3
     exact jc<|sC e0<|sC (jH (show ∀ x∈[62,61],x<0x110000 by decide))<|sT e1<|sC e2<|sK e3<|sO e4<|sF1 q1<|sF1 q2<|sT3 q3<|sO o1<|sC uO<|sK f2<|rfl
    ·have q2':((t1.at_:Int)==((tk src c).fin:Int))=false:=by simpa using q2
     exact jc<|sC e0<|sC (jH (show ∀ x∈[62,61],x<0x110000 by decide))<|sT e1<|sC e2<|sK e3<|sO e4<|sF1 q1<|sT1 q2'<|sO o1<|sC uO<|sK f2<|rfl
   ·have q1':(t1.sg.kind==5)=false:=by simpa using q1
    exact jc<|sC e0<|sC (jH (show ∀ x∈[62,61],x<0x110000 by decide))<|sT e1<|sC e2<|sK e3<|sO e4<|sT1 q1'<|sO o1<|sC uO<|sK f2<|rfl
  ·refine ⟨?_,by exact far [_,_,_] [.qe qg (.p qa qC),.le qg qb] (.le (.p qa qh) qb) rfl hf hfl,by dsimp only; rw [vS0]; exact hlow,?_,hrl⟩
   ·dsimp only
    rw [xK hlt,htl,yk G.ch (c:=(tk src c).at_+1) (by exact far [_,_,_] [.qe qg (.p qa qC),.le qg qb] (.le (.p qa qh) qb) rfl hf hfl),hs,if_neg (by dsimp only; decide)]
   ·dsimp only
    rw [vt0]
    simp only [vr0,vy0]
    exact sa2 (far [_,_,_,_,_] [.le qb qg,.lt qj qb,.le (.p qa (.m 2 qw)) qQ,.le qg (.p qw qj)] (.le (.p qa qh) qQ) rfl hfl hcl hsp (lsa _ _)) (far [_,_,_,_,_] [.k 2 (.le qj qg),.le (.p qa (.m 2 qw)) qQ,.k 2 (.le qb (.p qw qj))] (.le (.p (.p qa qh) (.m 2 qb)) (.p qQ (.m 2 (.p qg qh)))) rfl hca hsp (lsa _ _))
  ·refine ⟨(c1a4 [(at_,tk src c)] rfl ?_ (by simp) ?_),by simp,rfl⟩
   ·show ((toks.set at_ _).set at_ (tk src c))=toks
    rw [wU0,yv hhere]
   ·intro s hs
    simp at hs
    subst hs
    exact hlt
  ·intro q
   rw [hs] at q
   exact absurd rfl q
end
inductive K where
 | mk (s:Sg) (a:Nat) (ks:List K)
mutual
noncomputable def kV:K→V
 | .mk s a ks=>.tup [.str s.txt,.int a,.tup (ksV ks)]
noncomputable def ksV:List K→List V
 | []=>[]
 | k::ks=>kV k::ksV ks
end
mutual
noncomputable def nV:K→V
 | .mk s a ks=>.obj 5 [.int 81,.str s.txt,.lst (nsV ks),.int 0,.int a,.int 0]
noncomputable def nsV:List K→List V
 | []=>[]
 | k::ks=>nV k::nsV ks
end
mutual
noncomputable def ksz:K→Nat
 | .mk _ _ ks=>xZ ks+1
noncomputable def xZ:List K→Nat
 | []=>0
 | k::ks=>ksz k+xZ ks
end
mutual
noncomputable def kht:K→Nat
 | .mk _ _ ks=>yA ks+1
noncomputable def yA:List K→Nat
 | []=>0
 | k::ks=>max (kht k) (yA ks)
end
theorem zJ:∀ (a b:List K),ksV (a++b)=ksV a++ksV b
 | [],b=>by rw [ksV]; rfl
 | k::a,b=>by rw [wj0,ksV,ksV,zJ a b]; rfl
theorem yx:∀ (a b:List K),nsV (a++b)=nsV a++nsV b
 | [],b=>by rw [nsV]; rfl
 | k::a,b=>by rw [wj0,nsV,nsV,yx a b]; rfl
theorem jX:∀ (a b:List K),xZ (a++b)=xZ a+xZ b
 | [],b=>by rw [xZ,wq0,yI0]
 | k::a,b=>by rw [wj0,xZ,xZ,jX a b,Nat.add_assoc]
theorem zn:∀ (a b:List K),yA (a++b)=max (yA a) (yA b)
 | [],b=>by rw [yA,wq0,Nat.zero_max]
 | k::a,b=>by rw [wj0,yA,yA,zn a b,Nat.max_assoc]
theorem kD (k:K):ksV [k]=[kV k]:=by rw [ksV,ksV]
theorem AW (k:K):nsV [k]=[nV k]:=by rw [nsV,nsV]
theorem xB (k:K):xZ [k]=ksz k:=by rw [xZ,xZ,va0]
theorem vn (k:K):yA [k]=kht k:=by rw [yA,yA,Nat.max_zero]
theorem xC:∀ (a:List K),(ksV a).length=a.length
 | []=>by rw [ksV]; rfl
 | k::a=>by rw [ksV,vr0,xC a,vr0]
theorem kn:∀ (a:List K),(nsV a).length=a.length
 | []=>by rw [nsV]; rfl
 | k::a=>by rw [nsV,vr0,kn a,vr0]
theorem XX (k:K):1≤ksz k:=by cases k; rw [ksz]; exact yG0 _
theorem zH:∀ (a:List K),a.length≤xZ a
 | []=>by rw [xZ]; exact yh0 _
 | k::a=>by rw [xZ,vr0]; have:=XX k; have:=zH a; exact far [_,_,_] [.le qh qb,.le qa qg] (.le (.p qa qh) (.p qb qg)) rfl (by assumption) this
set_option genCtorIdx true in
inductive Tag where
 | kind | lt | gt | rp
deriving DecidableEq
noncomputable def Tag.txt:Tag→List Nat
 | .kind=>[107,105,110,100]
 | .lt=>[60]
 | .gt=>[62]
 | .rp=>[41]
structure Err where
 tag:Tag
 c:Nat
 deep:Int
noncomputable def zw (kind:Nat→Int→Except Err (Nat×K)) (src:List Nat) (deep:Int):Nat→Nat→List K→Except Err (Nat×List K)
 | 0,c,_=>.error ⟨.kind,c,deep⟩
 | m+1,c,acc=>match kind c (deep+1) with
  | .error e=>.error e
  | .ok (c',k)=>if (tk src c').sg=.com then zw kind src deep m (tk src c').fin (acc++[k]) else .ok (c',acc++[k])
noncomputable def xr (s:Sg):Bool:=s==.gt||s==.ge
noncomputable def qZ (kind:Nat→Int→Except Err (Nat×K)) (src:List Nat) (c:Nat) (deep:Int):Except Err (Nat×List K) :=
 if (tk src c).sg=.lt then match zw kind src deep 64 (tk src c).fin [] with
  | .error e=>.error e
  | .ok (c',ks)=>if xr (tk src c').sg=true then .ok ((tk src c').at_+1,ks) else .error ⟨.gt,c',deep⟩
 else .error ⟨.lt,c,deep⟩
noncomputable def wn (src:List Nat) (c:Nat):Bool:=(tk src c).sg==.lt&&!(tk src c).line
noncomputable def qY (src:List Nat):Nat→Nat→Int→Except Err (Nat×K)
 | 0,c,deep=>if (tk src c).sg.letter=true then .ok ((tk src c).fin,.mk (tk src c).sg (tk src c).at_ []) else .error ⟨.kind,c,deep⟩
 | n+1,c,deep=>if (tk src c).sg.letter=true then
   if wn src (tk src c).fin=true then match qZ (qY src n) src (tk src c).fin deep with
    | .error e=>.error e
    | .ok (c',ks)=>.ok (c',.mk (tk src c).sg (tk src c).at_ ks)
   else .ok ((tk src c).fin,.mk (tk src c).sg (tk src c).at_ [])
  else .error ⟨.kind,c,deep⟩
noncomputable def cnt (src:List Nat) (c:Nat):Nat:=(src.drop c).count 60
theorem jr {src:List Nat} {a b:Nat} (h:a≤b):cnt src b≤cnt src a:=by
 unfold cnt
 obtain ⟨k,rfl⟩:∃ k,b=a+k:=⟨b-a,by exact yk0 (far [_,_,_] [.le qa (.p qg qb)] (.le qa (.p qb qg)) rfl (lsa _ _)) (far [_,_,_] [.le (.p qg qb) qa] (.le (.p qb qg) qa) rfl (yi0 (yg0 (far [_,_] [.le qb qa] (.le qb qa) rfl h))))⟩
 rw [← wh0]
 exact (List.drop_sublist ..).count_le _
theorem ur {src:List Nat} (G:∀ x∈src,BG x=true) {c:Nat} (h:(tk src c).sg=.lt):cnt src (tk src c).fin+1≤cnt src c:=by
 have ht:=GT G c
 rw [h] at ht
 have hf:(tk src c).fin=skip src c+1:=by rw [yb,h]; rfl
 have hl:∃ r,src.drop (skip src c)=60::r:=by
  generalize src.drop (skip src c)=l at ht
  cases l with
  | nil=>cases ht
  | cons x r =>
   rcases ve x r with q | ⟨q,_⟩ | ⟨q,_⟩ | ⟨q,_⟩ | ⟨q,_⟩ <;> rw [q] at ht <;> cases ht
   exact ⟨r,rfl⟩
 refine x1a1 hl fun r hl=>?_
 have h1:cnt src (skip src c)=cnt src (skip src c+1)+1:=by
  unfold cnt
  rw [← wh0,hl]
  simp
 have h2:=jr (src:=src) (wY src c)
 rw [hf]; exact h1▸h2
structure OkK (src:List Nat) (c c' n sz ht:Nat):Prop where
 lt:c<c'
 le:c'≤src.length
 sz:sz≤c'-c
 ht:ht≤n
structure BadK (src:List Nat) (c n:Nat) (deep:Int) (e:Err):Prop where
 le:e.c≤src.length
 ge:c≤e.c
 lo:deep≤e.deep
 hi:e.deep≤deep+n
theorem xh {s:Sg} (h:s.letter=true):s≠.fin:=by cases s <;> first | decide | exact ftB h
section
variable {src:List Nat} {kind:Nat→Int→Except Err (Nat×K)} {n:Nat}
theorem yz (G:Good src) (H:∀ c deep,c≤src.length→(∀ c' k,kind c deep=.ok (c',k)→OkK src c c' (n+1) (ksz k) (kht k))∧∀ e,kind c deep=.error e→BadK src c n deep e) :
  ∀ (m c:Nat) (deep:Int) (acc:List K),c≤src.length→(∀ c' ks,zw kind src deep m c acc=.ok (c',ks)→OkK src c c' (max (n+1) (yA acc)) (xZ ks-xZ acc) (yA ks))∧∀ e,zw kind src deep m c acc=.error e→BadK src c (n+1) deep e:=by
 intro m
 induction m with
 | zero =>
  intro c deep acc hc
  refine ⟨fun c' ks q=>(by rw [zw] at q; exact eoX q),fun e q=>?_⟩
  rw [zw] at q
  cases q
  exact ⟨hc,yh0 _,kA0 _,by show deep≤_; exact ku0 (kt0 _)⟩
 | succ m ih =>
  intro c deep acc hc
  have h1:=H c (deep+1) hc
  rw [zw]
  cases hk:kind c (deep+1) with
  | error e =>
   dsimp only
   refine ⟨fun c' ks q=>(by exact eoX q),fun e' q=>?_⟩
   cases q
   have b:=h1.2 e hk
   exact ⟨b.le,b.ge,by have:=b.lo; exact kE0 this,by have:=b.hi; exact o8 _ _ _ this⟩
  | ok r =>
   obtain ⟨c1,k⟩:=r
   have o:=h1.1 c1 k hk
   dsimp only
   by_cases hcom:(tk src c1).sg=.com
   ·rw [if_pos hcom]
    have hne:(tk src c1).sg≠.fin:=by rw [hcom]; decide
    have l1:=jz hne
    have l2:=je G.ch o.le
    refine zz (ih (tk src c1).fin deep (acc++[k]) l2) fun i1 i2=>?_
    refine ⟨fun c' ks q=>?_,fun e q=>?_⟩
    ·have o2:=i1 c' ks q
     have a1:=o.lt; have a2:=o.sz; have a3:=o.ht; have b1:=o2.lt; have b2:=o2.sz; have b3:=o2.ht
     rw [jX,xB] at b2
     rw [zn,vn] at b3
     exact ⟨by exact far [_,_,_,_] [.lt qg qj,.lt qa qg,.lt qj qb] (.lt qa qb) rfl l1 a1 b1,o2.le,by exact o9 _ _ _ _ _ _ _ l1 a1 a2 b1 b2,by exact o10 _ _ _ _ a3 b3⟩
    ·have b:=i2 e q
     have a1:=o.lt; have a2:=b.ge
     exact ⟨b.le,by exact far [_,_,_,_] [.lt qg qj,.lt qa qg,.le qj qb] (.le qa qb) rfl l1 a1 a2,b.lo,b.hi⟩
   ·rw [if_neg hcom]
    refine ⟨fun c' ks q=>?_,fun e q=>by exact oeX q⟩
    cases q
    have a1:=o.lt; have a2:=o.sz; have a3:=o.ht
    exact ⟨o.lt,o.le,by rw [jX,xB]; exact far [_,_,_,_] [.le qb qj,.le (.p qg qa) (.p qa qb)] (.le qg qj) rfl a2 (yi0 (yg0 (far [_,_] [] (.le qa (.p qa qb)) rfl))),by rw [zn,vn]; exact yP0.mpr ⟨far [_,_] [.le qa qb] (.le qa qb) rfl (yD0 _ _),far [_,_,_] [.le qa (.p qb qh),.le (.p qb qh) qg] (.le qa qg) rfl a3 (yB0 _ _)⟩⟩
theorem za (G:Good src) (H:∀ c deep,c≤src.length→(∀ c' k,kind c deep=.ok (c',k)→OkK src c c' (n+1) (ksz k) (kht k))∧∀ e,kind c deep=.error e→BadK src c n deep e) (c:Nat) (deep:Int) (hc:c≤src.length) :
  (∀ c' ks,qZ kind src c deep=.ok (c',ks)→OkK src c c' (n+1) (xZ ks) (yA ks))∧∀ e,qZ kind src c deep=.error e→BadK src c (n+1) deep e:=by
 unfold qZ
 by_cases hlt:(tk src c).sg=.lt
 ·rw [if_pos hlt]
  have hne:(tk src c).sg≠.fin:=by rw [hlt]; decide
  have l1:=jz hne
  have l2:=je G.ch hc
  refine zz (yz G H 64 (tk src c).fin deep [] l2) fun i1 i2=>?_
  cases hl:zw kind src deep 64 (tk src c).fin [] with
  | error e =>
   dsimp only
   refine ⟨fun c' ks q=>(by exact eoX q),fun e' q=>?_⟩
   cases q
   have b:=i2 e hl
   have:=b.ge
   exact ⟨b.le,by exact ym0 (yF0 l1 this),b.lo,b.hi⟩
  | ok r =>
   obtain ⟨c1,ks⟩:=r
   have o:=i1 c1 ks hl
   have a1:=o.lt; have a2:=o.le; have a3:=o.sz; have a4:=o.ht
   rw [xZ] at a3
   rw [yA] at a4
   dsimp only
   by_cases hcl:xr (tk src c1).sg=true
   ·rw [if_pos hcl]
    refine ⟨fun c' ks' q=>?_,fun e q=>by exact oeX q⟩
    cases q
    have hne2:(tk src c1).sg≠.fin:=fun q=>by rw [q] at hcl; exact ftB hcl
    have l3:=je G.ch a2
    have l4:c1≤(tk src c1).at_:=QY src c1
    have l5:(tk src c1).at_+1≤(tk src c1).fin:=by
     rw [yb,ux]
     have:(tk src c1).sg.txt.length≠0:=fun q=>hne2 (txt_nil.mp (vK0.mp q))
     lia
    exact ⟨by exact far [_,_,_,_] [.lt qa qg,.lt qg qj,.le qj qb] (.lt qa (.p qb qh)) rfl l1 a1 l4,by exact ye0 l5 l3,by exact o12 _ _ _ _ _ l1 a3 l4,by exact a4⟩
   ·rw [if_neg hcl]
    refine ⟨fun c' ks' q=>(by exact eoX q),fun e q=>?_⟩
    cases q
    exact ⟨a2,by show c≤c1; exact ym0 (yA0 l1 a1),kA0 _,by show deep≤_; exact ku0 (kt0 _)⟩
 ·rw [if_neg hlt]
  refine ⟨fun c' ks q=>(by exact eoX q),fun e q=>?_⟩
  cases q
  exact ⟨hc,yh0 _,kA0 _,by show deep≤_; exact ku0 (kt0 _)⟩
theorem jj (G:Good src):∀ (n c:Nat) (deep:Int),c≤src.length→(∀ c' k,qY src n c deep=.ok (c',k)→OkK src c c' (n+1) (ksz k) (kht k))∧∀ e,qY src n c deep=.error e→BadK src c n deep e:=by
 intro n
 induction n with
 | zero =>
  intro c deep hc
  rw [qY]
  by_cases hl:(tk src c).sg.letter=true
  ·rw [if_pos hl]
   refine ⟨fun c' k q=>?_,fun e q=>by exact oeX q⟩
   cases q
   have l1:=jz (xh hl)
   exact ⟨l1,je G.ch hc,by rw [ksz,xZ]; exact vd0 l1,by rw [kht,yA]; exact yh0 _⟩
  ·rw [if_neg hl]
   refine ⟨fun c' k q=>(by exact eoX q),fun e q=>?_⟩
   cases q
   exact ⟨hc,yh0 _,kA0 _,by show deep≤_; exact ku0 (kt0 _)⟩
 | succ n ih =>
  intro c deep hc
  rw [qY]
  by_cases hl:(tk src c).sg.letter=true
  ·rw [if_pos hl]
   have l1:=jz (xh hl)
   have l2:=je G.ch hc
   by_cases ho:wn src (tk src c).fin=true
   ·rw [if_pos ho]
    refine zz (za G (fun c deep h=>ih c deep h) (tk src c).fin deep l2) fun i1 i2=>?_
    cases ha:qZ (qY src n) src (tk src c).fin deep with
    | error e =>
     dsimp only
     refine ⟨fun c' k q=>(by exact eoX q),fun e' q=>?_⟩
     cases q
     have b:=i2 e ha
     have:=b.ge
     exact ⟨b.le,by exact ym0 (yF0 l1 this),b.lo,b.hi⟩
    | ok r =>
     obtain ⟨c1,ks⟩:=r
     dsimp only
     refine ⟨fun c' k q=>?_,fun e q=>by exact oeX q⟩
     cases q
     have o:=i1 c1 ks ha
     have a1:=o.lt; have a3:=o.sz; have a4:=o.ht
     exact ⟨by exact yA0 l1 a1,o.le,by rw [ksz]; exact far [_,_,_,_,_,_] [.lt qg qw,.le qa (.v 5),.le (.p (.v 5) qw) qb,.le qb (.p qj qg)] (.le (.p qa qh) qj) rfl l1 a3 (yi0 (yg0 (far [_,_] [.lt qb qa] (.le qb qa) rfl a1))) (lsa _ _),by rw [kht]; exact yu0 a4⟩
   ·rw [if_neg ho]
    refine ⟨fun c' k q=>?_,fun e q=>by exact oeX q⟩
    cases q
    exact ⟨l1,l2,by rw [ksz,xZ]; exact vd0 l1,by rw [kht,yA]; exact yG0 _⟩
  ·rw [if_neg hl]
   refine ⟨fun c' k q=>(by exact eoX q),fun e q=>?_⟩
   cases q
   exact ⟨hc,yh0 _,kA0 _,by show deep≤_; exact ku0 (kt0 _)⟩
end
noncomputable def Za (deep:Int) (r:Except Err (Nat×K)) (v:V):Prop:=match r with
 | .ok (c',k)=>v=.tup [.str [],.int c',.int deep,kV k]
 | .error e=>∃ pl,v=.tup [.str e.tag.txt,.int e.c,.int e.deep,pl]
noncomputable def zI0 (deep:Int) (r:Except Err (Nat×List K)) (v:V):Prop:=match r with
 | .ok (c',ks)=>v=.tup [.str [],.int c',.int deep,.tup (ksV ks)]
 | .error e=>∃ pl,v=.tup [.str e.tag.txt,.int e.c,.int e.deep,pl]
section
variable {d D nk:Nat} {src:List Nat} {c n:Nat} {σ:H} {call mk:Nat→List V→H→RC}
theorem JX (x s:Sg):(x.txt==s.txt)=(x==s):=by cases x <;> cases s <;> rfl
theorem OC (x s:Sg):qF .ne (.str x.txt) (.str s.txt)=some (!(x==s)):=by rw [BJ (wZ x) (wZ s),JX]
theorem qh0 (x s:Sg):qF .eq (.str x.txt) (.str s.txt)=some (x==s):=by rw [MX (wZ x) (wZ s),JX]
theorem BM (x:Sg):qF .ne (.str x.txt) (.str [60])=some (!(x==.lt)):=OC x .lt
theorem OD (x:Sg):qF .ne (.str x.txt) (.str [40])=some (!(x==.lp)):=OC x .lp
theorem BK (x:Sg):qF .ne (.str x.txt) (.str [41])=some (!(x==.rp)):=OC x .rp
theorem Up (x:Sg):qF .ne (.str x.txt) (.str [61])=some (!(x==.eq)):=OC x .eq
theorem uc (x:Sg):qF .eq (.str x.txt) (.str [44])=some (x==.com):=qh0 x .com
theorem Yk (x:Sg):qF .eq (.str x.txt) (.str [62])=some (x==.gt):=qh0 x .gt
theorem KP (t:Tag):qF .ne (.str t.txt) (.str [])=some true:=by cases t <;> rfl
theorem UJ (t:Tag):qF .eq (.str t.txt) (.str [])=some false:=by cases t <;> rfl
theorem jJ0 (x:Sg) (st:St):jO false (.str x.txt) .none (.int 1) st=.ok (.str (x.txt.take 1)) st:=by cases x <;> rfl
theorem Nu (x:Sg):qF .ne (.str (x.txt.take 1)) (.str [62])=some (!xr x):=by cases x <;> rfl
theorem Yy (x:Sg):qF .eq (.str (x.txt.take 1)) (.str [62])=some (xr x):=by cases x <;> rfl
theorem xi (x:Sg):(qF .le (.str [97]) (.str x.txt)=some true∧qF .le (.str x.txt) (.str [122])=some x.letter)∨(qF .le (.str [97]) (.str x.txt)=some false∧x.letter=false):=by
 cases x <;> with_unfolding_all first | exact .inl ⟨rfl,rfl⟩ | exact .inr ⟨rfl,rfl⟩
theorem XM (G:Good src) (kind:Nat→Int→Except Err (Nat×K)) (deep:Int) (hd:-1000<deep∧deep<1000) (HF:∀ c deep,c≤src.length→(∀ c' k,kind c deep=.ok (c',k)→OkK src c c' (nk+1) (ksz k) (kht k))∧∀ e,kind c deep=.error e→BadK src c nk deep e)
  (HK:∀ c,c≤src.length→cnt src c≤n→∃ v,qk prog (D+1) 56 [.str src,.int c,.int (deep+1)] σ=.ok v σ∧Za (deep+1) (kind c (deep+1)) v) :
  ∀ (m f c:Nat) (acc:List K) (a b e:V) (x1 x6:Option LV),c≤src.length→cnt src c≤n→src.length-c<m→m<f→acc.length+(src.length-c)≤1000 →
   match zw kind src deep m c acc with
   | .error er=>∃ pl st',yF prog (qk prog (D+1)) mk qL (.cons (.asg 6 (.callF 56 (.cons qc (.cons (.idx qt qH) (.cons (.bin .add qm qu) .nil))))) (.cons (.ifs (.cmp .ne (.idx qK qo) qp) (.cons (.ret qK) .nil) .nil) (.cons (.appendOwn 4 (.idx qK jm)) (.cons (.asg 3 (.callF 53 (.cons qc (.cons (.idx qK qu) .nil)))) (.cons (.asg 5 (.cmp .eq (.idx qt qo) qR)) .nil))))) f ⟨[some (.val (.str src)),x1,some (.val (.int deep)),some (.val (.tup [a,b,.int c,e])),some (.own (ksV acc)),some (.val (.bool true)),x6],σ⟩=.ok (.ret (.tup [.str er.tag.txt,.int er.c,.int er.deep,pl])) st'∧st'.σ=σ
   | .ok (c',ks)=>∃ pl,yF prog (qk prog (D+1)) mk qL (.cons (.asg 6 (.callF 56 (.cons qc (.cons (.idx qt qH) (.cons (.bin .add qm qu) .nil))))) (.cons (.ifs (.cmp .ne (.idx qK qo) qp) (.cons (.ret qK) .nil) .nil) (.cons (.appendOwn 4 (.idx qK jm)) (.cons (.asg 3 (.callF 53 (.cons qc (.cons (.idx qK qu) .nil)))) (.cons (.asg 5 (.cmp .eq (.idx qt qo) qR)) .nil))))) f ⟨[some (.val (.str src)),x1,some (.val (.int deep)),some (.val (.tup [a,b,.int c,e])),some (.own (ksV acc)),some (.val (.bool true)),x6],σ⟩ =
     .ok .next ⟨[some (.val (.str src)),x1,some (.val (.int deep)),some (.val (sgV (tk src c'))),some (.own (ksV ks)),some (.val (.bool false)),some (.val (.tup [.str [],.int c',.int (deep+1),pl]))],σ⟩:=by
 intro m
 induction m with
 | zero=>intro f c acc a b e x1 x6 hc hn hm; exact o13 _ _ _ _ _ hm
 | succ m ih =>
  intro f c acc a b e x1 x6 hc hn hm hf ha
  obtain ⟨f,rfl⟩:∃ g,f=g+1:=⟨f-1,by exact (yg0 (far [_,_] [.lt (.p qb qh) qa] (.le qh qa) rfl hf)).symm⟩
  refine x1a2 (HK c hc hn) fun v hv hr=>?_
  have ad:=zj (ki (i:=deep) (by exact kv0 (by decide) hd.1) (by exact kv0 hd.2 (by decide))) (show okI 1=true by rfl)
  have hal:(ksV acc).length<4096:=by rw [xC]; exact far [_,_] [.le (.p qa qb) qG] (.lt qa qJ) rfl ha
  rw [zw,jf]
  cases hk:kind c (deep+1) with
  | error er =>
   rw [hk] at hr
   refine x1a1 hr fun pl uQ0=>?_; subst uQ0
   dsimp only
   refine (c2a2 pl ⟨[some (.val (.str src)),x1,some (.val (.int deep)),some (.val (.tup [a,b,.int c,e])),some (.own (ksV acc)),some (.val (.bool true)),some (.val (.tup [.str er.tag.txt,.int er.c,.int er.deep,pl]))],σ⟩ ?_ rfl)
   exact xV<|sO ad<|sC hv<|sO (KP ..)<|rfl
  | ok r =>
   obtain ⟨c',k⟩:=r
   rw [hk] at hr
   change v=_ at hr
   subst hr
   dsimp only
   have okk:=(HF c (deep+1) hc).1 c' k hk
   have l1:=okk.lt
   have l2:=okk.le
   have sg:=jG (d:=D) (σ:=σ) G l2
   by_cases hcom:(tk src c').sg=.com
   ·rw [if_pos hcom]
    have hne:(tk src c').sg≠.fin:=by rw [hcom]; decide
    have l3:=jz hne
    have l4:=je G.ch l2
    have hb:((tk src c').sg==.com)=true:=by rw [hcom]; rfl
    have:=ih f (tk src c').fin (acc++[k]) (.str (tk src c').sg.txt) (.int (tk src c').at_) (.bool (tk src c').line) x1 (some (.val (.tup [.str [],.int c',.int (deep+1),kV k]))) l4 (by have:=jr (src:=src) (show c≤(tk src c').fin by exact ym0 (yA0 l1 l3)); exact ye0 this hn) (by exact far [_,_,_,_,_,_,_] [.lt (.v 5) (.p qj qh),.lt qw (.v 6),.lt (.v 6) qb,.le (.p qg qb) qa,.le qa (.p (.v 5) qw)] (.lt qg qj) rfl hm l1 l3 (yi0 (yg0 (far [_,_] [.le qb qa] (.le qb qa) rfl l4))) (lsa _ _)) (by exact yj0 hf) (by rw [vt0]; simp only [vr0,vy0]; exact far [_,_,_,_,_,_,_] [.le (.p qa (.v 5)) qG,.lt qw (.v 6),.lt (.v 6) qg,.le (.p qj qg) qb,.le qb (.p (.v 5) qw)] (.le (.p (.p qa qh) qj) qG) rfl ha l1 l3 (yi0 (yg0 (far [_,_] [.le qb qa] (.le qb qa) rfl l4))) (lsa _ _))
    rw [zJ,kD] at this
    cases hr:zw kind src deep m (tk src c').fin (acc++[k]) with
    | error er =>
     rw [hr] at this
     exact this.elim fun pl t=>t.elim fun st' t=>(c2a2 pl st' (xV<|sO ad<|sC hv<|sL hal<|sC sg<|sO ((uc _).trans (congrArg some hb))<|t.1) t.2)
    | ok r =>
     obtain ⟨c3,ks⟩:=r
     rw [hr] at this
     exact this.elim fun pl t=>⟨pl,xV<|sO ad<|sC hv<|sL hal<|sC sg<|sO ((uc _).trans (congrArg some hb))<|t⟩
   ·rw [if_neg hcom]
    have hb:((tk src c').sg==.com)=false:=by rw [beq_eq_false_iff_ne]; exact hcom
    dsimp only
    refine ⟨kV k,?_⟩
    obtain ⟨f,rfl⟩:∃ g,f=g+1:=⟨f-1,by exact (yg0 (far [_,_] [.lt (.p qb qh) (.p qa qh)] (.le qh qa) rfl hf)).symm⟩
    exact xV<|sO ad<|sC hv<|sL hal<|sC sg<|sO ((uc _).trans (congrArg some hb))<|by rw [zJ,kD]; exact JS (NT rfl)
theorem Ik (G:Good src) (kind:Nat→Int→Except Err (Nat×K)) (deep:Int) (hd:-1000<deep∧deep<1000) (HF:∀ c deep,c≤src.length→(∀ c' k,kind c deep=.ok (c',k)→OkK src c c' (nk+1) (ksz k) (kht k))∧∀ e,kind c deep=.error e→BadK src c nk deep e)
  (HK:∀ c,c≤src.length→cnt src c≤n→∃ v,qk prog (D+1) 56 [.str src,.int c,.int (deep+1)] σ=.ok v σ∧Za (deep+1) (kind c (deep+1)) v) (c:Nat) (hc:c≤src.length) (hn:cnt src c≤n+1) :
  ∃ v,qk prog (D+2) 57 [.str src,.int c,.int deep] σ=.ok v σ∧zI0 deep (qZ kind src c deep) v:=by
 rw [qz (k:=wu) (ρ:=[some (.val (.str src)),some (.val (.int c)),some (.val (.int deep)),none,none,none,none]) rfl rfl]
 have sg:=jG (d:=D) (σ:=σ) G hc
 have hL:=G.len
 unfold qZ
 by_cases hlt:(tk src c).sg=.lt
 ·rw [if_pos hlt]
  have hne:(tk src c).sg≠.fin:=by rw [hlt]; decide
  have l2:=je G.ch hc
  have hb:((tk src c).sg==.lt)=true:=by rw [hlt]; rfl
  have hcn:=ur G.ch hlt
  have lp:=XM (D:=D) (σ:=σ) (mk:=mkD prog (D+1)) G kind deep hd HF HK 64 qy (tk src c).fin [] (.str (tk src c).sg.txt) (.int (tk src c).at_) (.bool (tk src c).line) (some (.val (.int c))) none l2 (by exact far [_,_,_] [.le qg (.p qb qh),.le (.p qa qh) qg] (.le qa qb) rfl hn hcn) (by exact yf0 (ye0 (yn0 _ _) hL) (yc0 rfl)) (by decide) (by simp only [vy0]; exact far [_,_] [.le qa (.n 60),.le qb qa] (.le (.p (.n 0) qb) qG) rfl hL (yn0 _ _))
  rw [ksV] at lp
  cases hl:zw kind src deep 64 (tk src c).fin [] with
  | error er =>
   rw [hl] at lp
   refine x2a2 lp fun pl st' e1 e2=>?_
   exact ⟨_,jc<|sC sg<|sO (BM ..)<|sF1 hb<|sK e1<|congrArg (RC.ok _) e2,pl,rfl⟩
  | ok r =>
   obtain ⟨c',ks⟩:=r
   rw [hl] at lp
   refine x1a1 lp fun pl e1=>?_
   have okk:=(yz G HF 64 (tk src c).fin deep [] l2).1 c' ks hl
   have l5:=okk.le
   have sg2:=AI l5
   have o1:=zj (qM (n:=(tk src c').at_) (by rw [ux]; exact yf0 (ye0 sg2 hL) (yc0 rfl))) (show okI 1=true by rfl)
   have sz:=okk.sz
   rw [xZ] at sz
   have lk:=zH ks
   have hkl:(ksV ks).length≤4096:=by rw [xC]; exact far [_,_,_,_,_,_] [.le qb (.n 60),.le qg qb,.le qw (.v 5),.le qa qj,.le qj (.p qw (.n 0)),.le (.v 5) qg] (.le qa qJ) rfl hL l5 sz lk (lsa _ _) (yn0 _ _)
   dsimp only
   by_cases hcl:xr (tk src c').sg=true
   ·rw [if_pos hcl]
    refine (c1a2 _ ?_ rfl)
    exact jc<|sC sg<|sO (BM ..)<|sF1 hb<|sK e1<|sK (jJ0 ..)<|sO (Nu ..)<|sF1 hcl<|sO o1<|sL hkl<|rfl
   ·rw [if_neg hcl]
    have hcl':xr (tk src c').sg=false:=by simpa using hcl
    refine ⟨_,?_,.tup [],rfl⟩
    exact jc<|sC sg<|sO (BM ..)<|sF1 hb<|sK e1<|sK (jJ0 ..)<|sO (Nu ..)<|sT1 hcl'<|rfl
 ·rw [if_neg hlt]
  have hb:((tk src c).sg==.lt)=false:=by rw [beq_eq_false_iff_ne]; exact hlt
  refine ⟨_,?_,.tup [],rfl⟩
  exact jc<|sC sg<|sO (BM ..)<|sT1 hb<|rfl
theorem zl {c:Nat}:wn src c=true∧(tk src c).sg=.lt∧((tk src c).sg==.lt)=true∧(tk src c).line=false∨wn src c=false∧(((tk src c).sg==.lt)=false∨((tk src c).sg==.lt)=true∧(tk src c).line=true):=by
 unfold wn
 cases h1:((tk src c).sg==.lt)
 ·exact .inr ⟨rfl,.inl rfl⟩
 ·cases h2:(tk src c).line
  ·exact .inl (YH rfl (beq_iff_eq.mp h1) rfl rfl)
  ·exact .inr ⟨rfl,.inr ⟨rfl,rfl⟩⟩
theorem yT (G:Good src) (hc:c≤src.length) (deep:Int) (ho:wn src (tk src c).fin=false∨(tk src c).sg.letter=false) :
  ∃ v,qk prog (D+2) 56 [.str src,.int c,.int deep] σ=.ok v σ∧Za deep (if (tk src c).sg.letter=true then .ok ((tk src c).fin,.mk (tk src c).sg (tk src c).at_ []) else .error ⟨.kind,c,deep⟩) v:=by
 rw [qz (k:=wa) (ρ:=[some (.val (.str src)),some (.val (.int c)),some (.val (.int deep)),none,none,none,none,none,none]) rfl rfl]
 have sg:=jG (d:=D) (σ:=σ) G hc
 have sg2:=jG (d:=D) (σ:=σ) G (je G.ch hc)
 by_cases hl:(tk src c).sg.letter=true
 ·rw [if_pos hl]
  rcases xi (tk src c).sg with ⟨a1,a2⟩ | ⟨a1,a2⟩
  ·rw [hl] at a2
   rcases ho with ho | ho
   ·rcases zl (src:=src) (c:=(tk src c).fin) with ⟨q,_⟩ | ⟨_,q | ⟨q1,q2⟩⟩
    ·rw [ho] at q; exact ftB q
    ·refine (c1a2 _ ?_ rfl)
     exact jc<|sC sg<|sT2 a1<|sT2 a2<|sC sg2<|sO (BM ..)<|sT1 q<|by rw [kV,ksV]; rfl
    ·refine (c1a2 _ ?_ rfl)
     exact jc<|sC sg<|sT2 a1<|sT2 a2<|sC sg2<|sO (BM ..)<|sF1 q1<|sT q2<|by rw [kV,ksV]; rfl
   ·rw [hl] at ho; exact tfB ho
  ·rw [hl] at a2; exact tfB a2
 ·rw [if_neg hl]
  have hl':(tk src c).sg.letter=false:=by simpa using hl
  refine ⟨_,?_,.tup [],rfl⟩
  rcases xi (tk src c).sg with ⟨a1,a2⟩ | ⟨a1,a2⟩
  ·rw [hl'] at a2
   exact jc<|sC sg<|sT2 a1<|sF2 a2<|rfl
  ·exact jc<|sC sg<|sF2 a1<|rfl
theorem Ut (G:Good src):∀ (n c:Nat) (deep:Int),c≤src.length→cnt src c≤n→-900<deep→deep+n<900→∃ v,qk prog (d+2*n+2) 56 [.str src,.int c,.int deep] σ=.ok v σ∧Za deep (qY src n c deep) v:=by
 intro n
 induction n with
 | zero =>
  intro c deep hc hn h1 h2
  rw [qY]
  refine yT (D:=d) G hc deep (.inl ?_)
  rcases zl (src:=src) (c:=(tk src c).fin) with ⟨q,q2,_⟩ | ⟨q,_⟩
  ·by_cases hf:(tk src c).sg=.fin
   ·have e:(tk src c).fin=skip src c:=by rw [yb,hf]; rfl
    have:=ur G.ch q2
    have:=jr (src:=src) (show c≤(tk src c).fin by rw [e]; exact wY src c)
    exact (far [_,_,_] [.le qa (.n 0),.le (.p qb qh) qg,.le qg qa] (.ff) rfl hn (by assumption) this).elim
   ·have:=jz hf
    have:=ur G.ch q2
    have:=jr (src:=src) (show c≤(tk src c).fin by exact ym0 (by assumption))
    exact (far [_,_,_] [.le qa (.n 0),.le (.p qb qh) qg,.le qg qa] (.ff) rfl hn (by assumption) this).elim
  ·exact q
 | succ n ih =>
  intro c deep hc hn h1 h2
  rw [qY]
  by_cases hl:(tk src c).sg.letter=true
  ·have l1:=jz (xh hl)
   have l2:=je G.ch hc
   rcases zl (src:=src) (c:=(tk src c).fin) with ⟨q,q1,q2,q3⟩ | ⟨q,_⟩
   ·rw [if_pos hl,if_pos q]
    have hcn:=jr (src:=src) (show c≤(tk src c).fin by exact ym0 l1)
    refine x1a2 (Ik (D:=d+2*n+1) (n:=n) (σ:=σ) G (qY src n) deep ⟨by exact kv0 (by decide) h1,by exact kv0 (ky0 (ku0 (kt0 _)) h2) (by decide)⟩ (fun c deep h=>jj G n c deep h) (fun c' hc' hn'=>ih c' (deep+1) hc' hn' (by exact kv0 h1 (kJ0 (kA0 _))) (by exact o14 _ _ h2)) (tk src c).fin l2 (by exact ye0 hcn hn)) fun v hv hr=>?_
    change qk prog (d+2*(n+1)+1) 57 _ _=_ at hv
    rw [qz (k:=wa) (ρ:=[some (.val (.str src)),some (.val (.int c)),some (.val (.int deep)),none,none,none,none,none,none]) rfl rfl]
    have sg:=jG (d:=d+2*(n+1)) (σ:=σ) G hc
    have sg2:=jG (d:=d+2*(n+1)) (σ:=σ) G l2
    rcases xi (tk src c).sg with ⟨a1,a2⟩ | ⟨a1,a2⟩
    ·rw [hl] at a2
     cases ha:qZ (qY src n) src (tk src c).fin deep with
     | error e =>
      rw [ha] at hr
      refine x1a1 hr fun pl uQ0=>?_; subst uQ0
      dsimp only
      refine ⟨_,?_,.tup [.str (tk src c).sg.txt,.int (tk src c).at_,pl],rfl⟩
      exact jc<|sC sg<|sT2 a1<|sT2 a2<|sC sg2<|sO (BM ..)<|sF1 q2<|sF q3<|sC hv<|rfl
     | ok r =>
      obtain ⟨c',ks⟩:=r
      rw [ha] at hr
      change v=_ at hr
      subst hr
      dsimp only
      refine (c1a2 _ ?_ rfl)
      exact jc<|sC sg<|sT2 a1<|sT2 a2<|sC sg2<|sO (BM ..)<|sF1 q2<|sF q3<|sC hv<|by rw [kV]; rfl
    ·rw [hl] at a2; exact tfB a2
   ·rw [if_pos hl,if_neg (by rw [q]; decide)]
    have:=yT (D:=d+2*(n+1)) (σ:=σ) G hc deep (.inl q)
    rw [if_pos hl] at this
    exact this
  ·rw [if_neg hl]
   have:=yT (D:=d+2*(n+1)) (σ:=σ) G hc deep (.inr (by simpa using hl))
   rw [if_neg hl] at this
   exact this
theorem BQ (G:Good src) (n:Nat) (deep:Int) (h1:-800<deep) (h2:deep+n<800) (c:Nat) (hc:c≤src.length) (hn:cnt src c≤n+1) :
  ∃ v,qk prog (d+2*n+3) 57 [.str src,.int c,.int deep] σ=.ok v σ∧zI0 deep (qZ (qY src n) src c deep) v :=
 Ik (D:=d+2*n+1) (n:=n) (σ:=σ) G (qY src n) deep ⟨by exact kv0 (by decide) h1,by exact kv0 (ky0 (ku0 (kt0 _)) h2) (by decide)⟩ (fun c deep h=>jj G n c deep h) (fun c' hc' hn'=>Ut (d:=d) G n c' (deep+1) hc' hn' (by exact o15 _ h1) (by exact o16 _ _ h2)) c hc hn
end
noncomputable def vm (kind:Nat→Int→Except Err (Nat×K)) (src:List Nat) (deep:Int):Nat→Nat→List K→Except Err (Nat×List K)
 | 0,c,_=>.error ⟨.kind,c,deep⟩
 | m+1,c,acc=>match kind c (deep+1) with
  | .error e=>.error e
  | .ok (c',k)=>if (tk src c').sg=.com then (if (tk src (tk src c').fin).sg=.rp then .ok ((tk src c').fin,acc++[k]) else vm kind src deep m (tk src c').fin (acc++[k])) else .ok (c',acc++[k])
structure CallR where
 c:Nat
 at_:Nat
 opens:Nat
 ks:List K
 args:List K
noncomputable def wA (kind:Nat→Int→Except Err (Nat×K)) (src:List Nat) (deep:Int) (c:Nat):Except Err (Nat×List K):=if (tk src c).sg=.rp then .ok (c,[]) else vm kind src deep 64 c []
noncomputable def GN (kind:Nat→Int→Except Err (Nat×K)) (src:List Nat) (c:Nat) (deep:Int):Except Err (Option CallR):=match qZ kind src c deep with
 | .error _=>.ok none
 | .ok (c1,ks)=>if (tk src c1).sg=.lp then match wA kind src deep (tk src c1).fin with
   | .error e=>.error e
   | .ok (c2,args)=>if (tk src c2).sg=.rp then .ok (some ⟨(tk src c2).fin,(tk src c).at_,(tk src c1).at_,ks,args⟩) else .error ⟨.rp,c2,deep⟩
  else .ok none
noncomputable def xk0 (c:Nat) (deep:Int) (r:Except Err (Option CallR)) (v:V):Prop:=match r with
 | .ok none=>v=.tup [.str [],.int c,.int deep,.none]
 | .ok (some x)=>v=.tup [.str [],.int x.c,.int deep,.tup [.int x.at_,.tup (ksV x.ks),.int x.opens,.tup (ksV x.args)]]
 | .error e=>∃ pl,v=.tup [.str e.tag.txt,.int e.c,.int e.deep,pl]
section
variable {d D nk:Nat} {src:List Nat} {c n:Nat} {σ:H} {call mk:Nat→List V→H→RC} {kind:Nat→Int→Except Err (Nat×K)}
theorem Gi (G:Good src) (H:∀ c deep,c≤src.length→(∀ c' k,kind c deep=.ok (c',k)→OkK src c c' (n+1) (ksz k) (kht k))∧∀ e,kind c deep=.error e→BadK src c n deep e) :
  ∀ (m c:Nat) (deep:Int) (acc:List K),c≤src.length→(∀ c' ks,vm kind src deep m c acc=.ok (c',ks)→OkK src c c' (max (n+1) (yA acc)) (xZ ks-xZ acc) (yA ks))∧∀ e,vm kind src deep m c acc=.error e→BadK src c (n+1) deep e:=by
 intro m
 induction m with
 | zero =>
  intro c deep acc hc
  refine ⟨fun c' ks q=>(by rw [vm] at q; exact eoX q),fun e q=>?_⟩
  rw [vm] at q
  cases q
  exact ⟨hc,yh0 _,kA0 _,by show deep≤_; exact ku0 (kt0 _)⟩
 | succ m ih =>
  intro c deep acc hc
  have h1:=H c (deep+1) hc
  rw [vm]
  cases hk:kind c (deep+1) with
  | error e =>
   dsimp only
   refine ⟨fun c' ks q=>(by exact eoX q),fun e' q=>?_⟩
   cases q
   have b:=h1.2 e hk
   exact ⟨b.le,b.ge,by have:=b.lo; exact kE0 this,by have:=b.hi; exact o8 _ _ _ this⟩
  | ok r =>
   obtain ⟨c1,k⟩:=r
   have o:=h1.1 c1 k hk
   have a1:=o.lt; have a2:=o.sz; have a3:=o.ht
   dsimp only
   by_cases hcom:(tk src c1).sg=.com
   ·rw [if_pos hcom]
    have hne:(tk src c1).sg≠.fin:=by rw [hcom]; decide
    have l1:=jz hne
    have l2:=je G.ch o.le
    by_cases hrp:(tk src (tk src c1).fin).sg=.rp
    ·rw [if_pos hrp]
     refine ⟨fun c' ks q=>?_,fun e q=>by exact oeX q⟩
     cases q
     exact ⟨by exact yA0 a1 l1,l2,by rw [jX,xB]; exact o17 _ _ _ _ _ a2 l1,by rw [zn,vn]; exact yP0.mpr ⟨far [_,_] [.le qa qb] (.le qa qb) rfl (yD0 _ _),far [_,_,_] [.le qa (.p qb qh),.le (.p qb qh) qg] (.le qa qg) rfl a3 (yB0 _ _)⟩⟩
    ·rw [if_neg hrp]
     refine zz (ih (tk src c1).fin deep (acc++[k]) l2) fun i1 i2=>?_
     refine ⟨fun c' ks q=>?_,fun e q=>?_⟩
     ·have o2:=i1 c' ks q
      have b1:=o2.lt; have b2:=o2.sz; have b3:=o2.ht
      rw [jX,xB] at b2
      rw [zn,vn] at b3
      exact ⟨by exact far [_,_,_,_] [.lt qa qg,.lt qg qj,.lt qj qb] (.lt qa qb) rfl a1 l1 b1,o2.le,by exact o18 _ _ _ _ _ _ _ a1 a2 l1 b1 b2,by exact o10 _ _ _ _ a3 b3⟩
     ·have b:=i2 e q
      have a2:=b.ge
      exact ⟨b.le,by exact far [_,_,_,_] [.lt qa qg,.lt qg qj,.le qj qb] (.le qa qb) rfl a1 l1 a2,b.lo,b.hi⟩
   ·rw [if_neg hcom]
    refine ⟨fun c' ks q=>?_,fun e q=>by exact oeX q⟩
    cases q
    exact ⟨o.lt,o.le,by rw [jX,xB]; exact far [_,_,_,_] [.le qb qj,.le (.p qg qa) (.p qa qb)] (.le qg qj) rfl a2 (yi0 (yg0 (far [_,_] [] (.le qa (.p qa qb)) rfl))),by rw [zn,vn]; exact yP0.mpr ⟨far [_,_] [.le qa qb] (.le qa qb) rfl (yD0 _ _),far [_,_,_] [.le qa (.p qb qh),.le (.p qb qh) qg] (.le qa qg) rfl a3 (yB0 _ _)⟩⟩
theorem we (G:Good src) (H:∀ c deep,c≤src.length→(∀ c' k,kind c deep=.ok (c',k)→OkK src c c' (n+1) (ksz k) (kht k))∧∀ e,kind c deep=.error e→BadK src c n deep e) (c:Nat) (deep:Int) (hc:c≤src.length) :
  (∀ c' ks,wA kind src deep c=.ok (c',ks)→c≤c'∧c'≤src.length∧xZ ks≤c'-c∧yA ks≤n+1)∧∀ e,wA kind src deep c=.error e→BadK src c (n+1) deep e:=by
 unfold wA
 by_cases hrp:(tk src c).sg=.rp
 ·rw [if_pos hrp]
  refine ⟨fun c' ks q=>?_,fun e q=>by exact oeX q⟩
  cases q
  exact (YH (yh0 _) hc (by rw [xZ]; exact yq0 _) (by rw [yA]; exact yq0 _))
 ·rw [if_neg hrp]
  refine zz (Gi G H 64 c deep [] hc) fun i1 i2=>?_
  refine ⟨fun c' ks q=>?_,i2⟩
  have o:=i1 c' ks q
  have a1:=o.lt; have a3:=o.sz; have a4:=o.ht
  rw [xZ] at a3
  rw [yA] at a4
  exact (YH (by exact ym0 a1) o.le (by exact a3) (by exact a4))
theorem XN (G:Good src) (kind:Nat→Int→Except Err (Nat×K)) (deep:Int) (hd:-1000<deep∧deep<1000) (HF:∀ c deep,c≤src.length→(∀ c' k,kind c deep=.ok (c',k)→OkK src c c' (nk+1) (ksz k) (kht k))∧∀ e,kind c deep=.error e→BadK src c nk deep e)
  (HK:∀ c,c≤src.length→cnt src c≤n→∃ v,qk prog (D+1) 56 [.str src,.int c,.int (deep+1)] σ=.ok v σ∧Za (deep+1) (kind c (deep+1)) v) :
  ∀ (m f c:Nat) (acc:List K) (x1 x3 x4 x5 x9:Option LV),c≤src.length→cnt src c≤n→src.length-c<m→m<f→acc.length+(src.length-c)≤1000 →
   match vm kind src deep m c acc with
   | .error er=>∃ pl st',yF prog (qk prog (D+1)) mk (.loc 8) (.cons (.asg 9 (.callF 56 (.cons qc (.cons (.loc 7) (.cons (.bin .add qm qu) .nil))))) (.cons (.ifs (.cmp .ne (.idx (.loc 9) qo) qp) (.cons (.ret (.loc 9)) .nil) .nil) (.cons (.appendOwn 6 (.idx (.loc 9) jm)) (.cons (.asg 7 (.idx (.loc 9) qu)) (.cons (.asg 4 (.callF 53 (.cons qc (.cons (.loc 7) .nil)))) (.cons (.asg 8 (.cmp .eq (.idx qq qo) qR)) (.cons (.ifs (.loc 8) (.cons (.asg 7 (.idx qq qH)) (.cons (.asg 8 (.cmp .ne (.idx (.callF 53 (.cons qc (.cons (.loc 7) .nil))) qo) jT)) .nil)) .nil) .nil))))))) f ⟨[some (.val (.str src)),x1,some (.val (.int deep)),x3,x4,x5,some (.own (ksV acc)),some (.val (.int c)),some (.val (.bool true)),x9],σ⟩=.ok (.ret (.tup [.str er.tag.txt,.int er.c,.int er.deep,pl])) st'∧st'.σ=σ
   | .ok (c',ks)=>∃ y4 y9,yF prog (qk prog (D+1)) mk (.loc 8) (.cons (.asg 9 (.callF 56 (.cons qc (.cons (.loc 7) (.cons (.bin .add qm qu) .nil))))) (.cons (.ifs (.cmp .ne (.idx (.loc 9) qo) qp) (.cons (.ret (.loc 9)) .nil) .nil) (.cons (.appendOwn 6 (.idx (.loc 9) jm)) (.cons (.asg 7 (.idx (.loc 9) qu)) (.cons (.asg 4 (.callF 53 (.cons qc (.cons (.loc 7) .nil)))) (.cons (.asg 8 (.cmp .eq (.idx qq qo) qR)) (.cons (.ifs (.loc 8) (.cons (.asg 7 (.idx qq qH)) (.cons (.asg 8 (.cmp .ne (.idx (.callF 53 (.cons qc (.cons (.loc 7) .nil))) qo) jT)) .nil)) .nil) .nil))))))) f ⟨[some (.val (.str src)),x1,some (.val (.int deep)),x3,x4,x5,some (.own (ksV acc)),some (.val (.int c)),some (.val (.bool true)),x9],σ⟩ =
     .ok .next ⟨[some (.val (.str src)),x1,some (.val (.int deep)),x3,y4,x5,some (.own (ksV ks)),some (.val (.int c')),some (.val (.bool false)),y9],σ⟩:=by
 intro m
 induction m with
 | zero=>intro f c acc x1 x3 x4 x5 x9 hc hn hm; exact o13 _ _ _ _ _ hm
 | succ m ih =>
  intro f c acc x1 x3 x4 x5 x9 hc hn hm hf ha
  obtain ⟨f,rfl⟩:∃ g,f=g+2:=⟨f-2,by exact (yg0 (far [_,_] [.lt (.p qb qh) qa] (.le qC qa) rfl hf)).symm⟩
  refine x1a2 (HK c hc hn) fun v hv hr=>?_
  have ad:=zj (ki (i:=deep) (by exact kv0 (by decide) hd.1) (by exact kv0 hd.2 (by decide))) (show okI 1=true by rfl)
  have hal:(ksV acc).length<4096:=by rw [xC]; exact far [_,_] [.le (.p qa qb) qG] (.lt qa qJ) rfl ha
  rw [vm,jf]
  cases hk:kind c (deep+1) with
  | error er =>
   rw [hk] at hr
   refine x1a1 hr fun pl uQ0=>?_; subst uQ0
   dsimp only
   refine (c2a2 pl ⟨[some (.val (.str src)),x1,some (.val (.int deep)),x3,x4,x5,some (.own (ksV acc)),some (.val (.int c)),some (.val (.bool true)),some (.val (.tup [.str er.tag.txt,.int er.c,.int er.deep,pl]))],σ⟩ ?_ rfl)
   exact xV<|sO ad<|sC hv<|sO (KP ..)<|rfl
  | ok r =>
   obtain ⟨c',k⟩:=r
   rw [hk] at hr
   change v=_ at hr
   subst hr
   dsimp only
   have okk:=(HF c (deep+1) hc).1 c' k hk
   have l1:=okk.lt
   have l2:=okk.le
   have sg:=jG (d:=D) (σ:=σ) G l2
   by_cases hcom:(tk src c').sg=.com
   ·rw [if_pos hcom]
    have hne:(tk src c').sg≠.fin:=by rw [hcom]; decide
    have l3:=jz hne
    have l4:=je G.ch l2
    have sg2:=jG (d:=D) (σ:=σ) G l4
    have hb:((tk src c').sg==.com)=true:=by rw [hcom]; rfl
    by_cases hrp:(tk src (tk src c').fin).sg=.rp
    ·rw [if_pos hrp]
     have hb2:((tk src (tk src c').fin).sg==.rp)=true:=by rw [hrp]; rfl
     dsimp only
     exact (c2a1 (some (.val (sgV (tk src c')))) (some (.val (.tup [.str [],.int c',.int (deep+1),kV k]))) (xV<|sO ad<|sC hv<|sL hal<|sC sg<|sO ((uc _).trans (congrArg some hb))<|sC sg2<|sO ((BK _).trans (congrArg (fun b=>some (!b)) hb2))<|by rw [zJ,kD]; exact JS (NT rfl)))
    ·rw [if_neg hrp]
     have hb2:((tk src (tk src c').fin).sg==.rp)=false:=by rw [beq_eq_false_iff_ne]; exact hrp
     have:=ih (f+1) (tk src c').fin (acc++[k]) x1 x3 (some (.val (.tup [.str (tk src c').sg.txt,.int (tk src c').at_,.int (tk src c').fin,.bool (tk src c').line]))) x5 (some (.val (.tup [.str [],.int c',.int (deep+1),kV k]))) l4 (by have:=jr (src:=src) (show c≤(tk src c').fin by exact ym0 (yA0 l1 l3)); exact ye0 this hn) (by exact far [_,_,_,_,_,_,_] [.lt (.v 5) (.p qj qh),.lt qw (.v 6),.lt (.v 6) qb,.le (.p qg qb) qa,.le qa (.p (.v 5) qw)] (.lt qg qj) rfl hm l1 l3 (yi0 (yg0 (far [_,_] [.le qb qa] (.le qb qa) rfl l4))) (lsa _ _)) (by exact yj0 hf) (by rw [vt0]; simp only [vr0,vy0]; exact far [_,_,_,_,_,_,_] [.le (.p qa (.v 5)) qG,.lt qw (.v 6),.lt (.v 6) qg,.le (.p qj qg) qb,.le qb (.p (.v 5) qw)] (.le (.p (.p qa qh) qj) qG) rfl ha l1 l3 (yi0 (yg0 (far [_,_] [.le qb qa] (.le qb qa) rfl l4))) (lsa _ _))
     rw [zJ,kD] at this
     cases hr:vm kind src deep m (tk src c').fin (acc++[k]) with
     | error er =>
      rw [hr] at this
      exact this.elim fun pl t=>t.elim fun st' t=>(c2a2 pl st' (xV<|sO ad<|sC hv<|sL hal<|sC sg<|sO ((uc _).trans (congrArg some hb))<|sC sg2<|sO ((BK _).trans (congrArg (fun b=>some (!b)) hb2))<|t.1) t.2)
     | ok r =>
      obtain ⟨c3,ks⟩:=r
      rw [hr] at this
      exact this.elim fun y4 t=>t.elim fun y9 t=>(c2a1 y4 y9 (xV<|sO ad<|sC hv<|sL hal<|sC sg<|sO ((uc _).trans (congrArg some hb))<|sC sg2<|sO ((BK _).trans (congrArg (fun b=>some (!b)) hb2))<|t))
   ·rw [if_neg hcom]
    have hb:((tk src c').sg==.com)=false:=by rw [beq_eq_false_iff_ne]; exact hcom
    dsimp only
    exact (c2a1 (some (.val (sgV (tk src c')))) (some (.val (.tup [.str [],.int c',.int (deep+1),kV k]))) (xV<|sO ad<|sC hv<|sL hal<|sC sg<|sO ((uc _).trans (congrArg some hb))<|by rw [zJ,kD]; exact JS (NT rfl)))
theorem ZK (G:Good src) (n:Nat) (deep:Int) (h1:-800<deep) (h2:deep+n<800) (c:Nat) (hc:c≤src.length) (hn:cnt src c≤n+1) :
  ∃ v,qk prog (d+2*n+4) 58 [.str src,.int c,.int deep] σ=.ok v σ∧xk0 c deep (GN (qY src n) src c deep) v:=by
 have HF:=fun c deep h=>jj G n c deep h
 have af:=za G HF c deep hc
 refine x1a2 (BQ (d:=d) (σ:=σ) G n deep h1 h2 c hc hn) fun v hv hr=>?_
 rw [qz (k:=Aj) (ρ:=[some (.val (.str src)),some (.val (.int c)),some (.val (.int deep)),none,none,none,none,none,none,none]) rfl rfl]
 have hL:=G.len
 have sg0:=jG (d:=d+2*n+2) (σ:=σ) G hc
 unfold GN
 cases ha:qZ (qY src n) src c deep with
 | error e =>
  rw [ha] at hr
  refine x1a1 hr fun pl uQ0=>?_; subst uQ0
  have b:=af.2 e ha
  have sg:=jG (d:=d+2*n+2) (σ:=σ) G b.le
  dsimp only
  refine (c1a2 _ ?_ rfl)
  exact jc<|sC hv<|sC sg<|sO (KP ..)<|rfl
 | ok r =>
  obtain ⟨c1,ks⟩:=r
  rw [ha] at hr
  change v=_ at hr
  subst hr
  have o:=af.1 c1 ks ha
  have sg:=jG (d:=d+2*n+2) (σ:=σ) G o.le
  dsimp only
  by_cases hlp:(tk src c1).sg=.lp
  ·rw [if_pos hlp]
   have hne:(tk src c1).sg≠.fin:=by rw [hlp]; decide
   have l1:=jz hne
   have l2:=je G.ch o.le
   have hb:((tk src c1).sg==.lp)=true:=by rw [hlp]; rfl
   have sg2:=jG (d:=d+2*n+2) (σ:=σ) G l2
   have a1:=o.lt
   have cn:cnt src (tk src c1).fin≤n:=by
    have hlt:(tk src c).sg=.lt:=by
     refine Classical.byContradiction fun q=>?_
     unfold qZ at ha
     rw [if_neg q] at ha
     exact eoX ha
    have q1:=ur G.ch hlt
    have q2:(tk src c).fin≤c1:=by
     unfold qZ at ha
     rw [if_pos hlt] at ha
     have lf:=(yz G HF 64 (tk src c).fin deep [] (je G.ch hc)).1
     cases hl:zw (qY src n) src deep 64 (tk src c).fin [] with
     | error e=>rw [hl] at ha; exact eoX ha
     | ok r =>
      obtain ⟨c2,ks2⟩:=r
      rw [hl] at ha
      dsimp only at ha
      have o2:=lf c2 ks2 hl
      split at ha
      ·cases ha
       have:=o2.lt
       have:c2≤(tk src c2).at_:=QY src c2
       exact far [_,_,_] [.lt qa qg,.le qg qb] (.le qa (.p qb qh)) rfl (by assumption) this
      ·exact eoX ha
    have q3:=jr (src:=src) (show (tk src c).fin≤(tk src c1).fin by exact ym0 (yf0 q2 l1))
    exact far [_,_,_,_] [.le qg (.p qb qh),.le (.p qj qh) qg,.le qa qj] (.le qa qb) rfl hn q1 q3
   have rf:=we G HF (tk src c1).fin deep l2
   have lp:match wA (qY src n) src deep (tk src c1).fin with
    | .error er=>∃ pl st',yF prog (qk prog (d+2*n+3)) (mkD prog (d+2*n+3)) (.loc 8) (.cons (.asg 9 (.callF 56 (.cons qc (.cons (.loc 7) (.cons (.bin .add qm qu) .nil))))) (.cons (.ifs (.cmp .ne (.idx (.loc 9) qo) qp) (.cons (.ret (.loc 9)) .nil) .nil) (.cons (.appendOwn 6 (.idx (.loc 9) jm)) (.cons (.asg 7 (.idx (.loc 9) qu)) (.cons (.asg 4 (.callF 53 (.cons qc (.cons (.loc 7) .nil)))) (.cons (.asg 8 (.cmp .eq (.idx qq qo) qR)) (.cons (.ifs (.loc 8) (.cons (.asg 7 (.idx qq qH)) (.cons (.asg 8 (.cmp .ne (.idx (.callF 53 (.cons qc (.cons (.loc 7) .nil))) qo) jT)) .nil)) .nil) .nil))))))) qy ⟨[some (.val (.str src)),some (.val (.int c)),some (.val (.int deep)),some (.val (.tup [.str [],.int c1,.int deep,.tup (ksV ks)])),some (.val (sgV (tk src c1))),some (.val (.int (tk src c1).at_)),some (.own []),some (.val (.int (tk src c1).fin)),some (.val (.bool (!((tk src (tk src c1).fin).sg==.rp)))),none],σ⟩=.ok (.ret (.tup [.str er.tag.txt,.int er.c,.int er.deep,pl])) st'∧st'.σ=σ
    | .ok (c',args)=>∃ y4 y9,yF prog (qk prog (d+2*n+3)) (mkD prog (d+2*n+3)) (.loc 8) (.cons (.asg 9 (.callF 56 (.cons qc (.cons (.loc 7) (.cons (.bin .add qm qu) .nil))))) (.cons (.ifs (.cmp .ne (.idx (.loc 9) qo) qp) (.cons (.ret (.loc 9)) .nil) .nil) (.cons (.appendOwn 6 (.idx (.loc 9) jm)) (.cons (.asg 7 (.idx (.loc 9) qu)) (.cons (.asg 4 (.callF 53 (.cons qc (.cons (.loc 7) .nil)))) (.cons (.asg 8 (.cmp .eq (.idx qq qo) qR)) (.cons (.ifs (.loc 8) (.cons (.asg 7 (.idx qq qH)) (.cons (.asg 8 (.cmp .ne (.idx (.callF 53 (.cons qc (.cons (.loc 7) .nil))) qo) jT)) .nil)) .nil) .nil))))))) qy ⟨[some (.val (.str src)),some (.val (.int c)),some (.val (.int deep)),some (.val (.tup [.str [],.int c1,.int deep,.tup (ksV ks)])),some (.val (sgV (tk src c1))),some (.val (.int (tk src c1).at_)),some (.own []),some (.val (.int (tk src c1).fin)),some (.val (.bool (!((tk src (tk src c1).fin).sg==.rp)))),none],σ⟩ =
      .ok .next ⟨[some (.val (.str src)),some (.val (.int c)),some (.val (.int deep)),some (.val (.tup [.str [],.int c1,.int deep,.tup (ksV ks)])),y4,some (.val (.int (tk src c1).at_)),some (.own (ksV args)),some (.val (.int c')),some (.val (.bool false)),y9],σ⟩:=by
    unfold wA
    by_cases hrp:(tk src (tk src c1).fin).sg=.rp
    ·rw [if_pos hrp]
     have hb2:((tk src (tk src c1).fin).sg==.rp)=true:=by rw [hrp]; rfl
     dsimp only
     rw [ksV,hb2]
     refine (c2a1 (some (.val (sgV (tk src c1)))) none ?_)
     show yF _ _ _ _ _ (999+1) _=_
     rw [jf]
     exact xV<|rfl
    ·rw [if_neg hrp]
     have hb2:((tk src (tk src c1).fin).sg==.rp)=false:=by rw [beq_eq_false_iff_ne]; exact hrp
     have q:=XN (D:=d+2*n+2) (n:=n) (σ:=σ) (mk:=mkD prog (d+2*n+3)) G (qY src n) deep ⟨by exact kv0 (by decide) h1,by exact kv0 (ky0 (ku0 (kt0 _)) h2) (by decide)⟩ HF (fun c' hc' hn'=>Ut (d:=d+1) (σ:=σ) G n c' (deep+1) hc' hn' (by exact o15 _ h1) (by exact o16 _ _ h2) |> fun ⟨v,e,r⟩=>⟨v,by rw [show d+2*n+2+1=d+1+2*n+2 by exact yk0 (far [_,_] [] (.le (.p (.p qa (.m 2 qb)) (.n 3)) (.p (.p (.p qa qh) (.m 2 qb)) qC)) rfl) (far [_,_] [] (.le (.p (.p (.p qa qh) (.m 2 qb)) qC) (.p (.p qa (.m 2 qb)) (.n 3))) rfl)]; exact e,r⟩) 64 qy (tk src c1).fin [] (some (.val (.int c))) (some (.val (.tup [.str [],.int c1,.int deep,.tup (ksV ks)]))) (some (.val (sgV (tk src c1)))) (some (.val (.int (tk src c1).at_))) none l2 cn (by exact yf0 (ye0 (yn0 _ _) hL) (yc0 rfl)) (by decide) (by simp only [vy0]; exact far [_,_] [.le qa (.n 60),.le qb qa] (.le (.p (.n 0) qb) qG) rfl hL (yn0 _ _))
     rw [ksV] at q
     rw [hb2]
     exact q
   cases hl:wA (qY src n) src deep (tk src c1).fin with
   | error er =>
    rw [hl] at lp
    refine x2a2 lp fun pl st' e1 e2=>?_
    exact ⟨_,jc<|sC hv<|sC sg<|sO (OD ..)<|sF1 hb<|sC sg2<|sO (BK ..)<|sK e1<|congrArg (RC.ok _) e2,pl,rfl⟩
   | ok r =>
    obtain ⟨c2,args⟩:=r
    rw [hl] at lp
    refine x2a1 lp fun y4 y9 e1=>?_
    refine JL (rf.1 c2 args hl) fun f1 f2 f3 f4=>?_
    have sg3:=jG (d:=d+2*n+2) (σ:=σ) G f2
    have az:=zH args
    have hal:(ksV args).length≤4096:=by rw [xC]; exact far [_,_,_,_,_] [.le qb (.n 60),.le qg qb,.le qj qw,.le qa qj,.le qw qg] (.le qa qJ) rfl hL f2 f3 az (yn0 _ _)
    dsimp only
    by_cases hrp:(tk src c2).sg=.rp
    ·rw [if_pos hrp]
     have hb3:((tk src c2).sg==.rp)=true:=by rw [hrp]; rfl
     refine (c1a2 _ ?_ rfl)
     exact jc<|sC hv<|sC sg<|sO (OD ..)<|sF1 hb<|sC sg2<|sO (BK ..)<|sK e1<|sC sg3<|sO (BK ..)<|sF1 hb3<|sC sg0<|sL hal<|rfl
    ·rw [if_neg hrp]
     have hb3:((tk src c2).sg==.rp)=false:=by rw [beq_eq_false_iff_ne]; exact hrp
     refine ⟨_,?_,.tup [],rfl⟩
     exact jc<|sC hv<|sC sg<|sO (OD ..)<|sF1 hb<|sC sg2<|sO (BK ..)<|sK e1<|sC sg3<|sO (BK ..)<|sT1 hb3<|rfl
  ·rw [if_neg hlp]
   have hb:((tk src c1).sg==.lp)=false:=by rw [beq_eq_false_iff_ne]; exact hlp
   refine (c1a2 _ ?_ rfl)
   exact jc<|sC hv<|sC sg<|sO (OD ..)<|sT1 hb<|rfl
end
section
variable {d D:Nat} {m0 wd:O} {ps ps':PS} {ext:H} {src:List Nat} {c:Nat} {σ:H} {v:V} {t t':Tk}
theorem Jq {s:Sg} (h:s.letter=false):xl true (.str s.txt) (.ref 8) (hp m0 wd ext ps)=some false:=by cases s <;> first | rfl | cases h
theorem zF (s:Sg):(∀ x:Sg,x.txt≠[124])∧(∀ x:Sg,x.txt≠[38])∧(∀ x:Sg,x.txt≠[91])∧(∀ x:Sg,x.txt≠[46])∧(∀ x:Sg,x.txt≠[46,46,46])∧(∀ x:Sg,x.txt≠[115,121,109,98,111,108])∧(∀ x:Sg,x.txt≠[98,105,103,105,110,116])∧(∀ x:Sg,x.txt≠[117,110,105,113,117,101])∧(∀ x:Sg,x.txt≠[97,98,115,116,114,97,99,116]):=by
 refine (xX0 ?_ ?_ ?_ ?_ ?_ ?_ ?_ ?_ ?_) <;> intro x <;> cases x <;> decide
theorem DY (x:Sg) (k:Int):(x.kind==k&&x.txt==[124])=false:=vg _ (zF x).1 x k
theorem DZ (x:Sg) (k:Int):(x.kind==k&&x.txt==[38])=false:=vg _ (zF x).2.1 x k
theorem XB (x:Sg) (k:Int):(x.kind==k&&x.txt==[91])=false:=vg _ (zF x).2.2.1 x k
theorem XA (x:Sg) (k:Int):(x.kind==k&&x.txt==[46])=false:=vg _ (zF x).2.2.2.1 x k
theorem OB (x:Sg) (k:Int):(x.kind==k&&x.txt==[46,46,46])=false:=vg _ (zF x).2.2.2.2.1 x k
theorem ZB (x:Sg) (k:Int):(x.kind==k&&x.txt==[115,121,109,98,111,108])=false:=vg _ (zF x).2.2.2.2.2.1 x k
theorem ZA (x:Sg) (k:Int):(x.kind==k&&x.txt==[98,105,103,105,110,116])=false:=vg _ (zF x).2.2.2.2.2.2.1 x k
theorem Zz (x:Sg) (k:Int):(x.kind==k&&x.txt==[117,110,105,113,117,101])=false:=vg _ (zF x).2.2.2.2.2.2.2.1 x k
theorem Zy (x:Sg) (k:Int):(x.kind==k&&x.txt==[97,98,115,116,114,97,99,116])=false:=vg _ (zF x).2.2.2.2.2.2.2.2 x k
theorem Mu:∀ x∈([124]:List Nat),x<0x110000:=by decide
theorem Mv:∀ x∈([38]:List Nat),x<0x110000:=by decide
theorem ZP:∀ x∈([91]:List Nat),x<0x110000:=by decide
theorem ZO:∀ x∈([46]:List Nat),x<0x110000:=by decide
theorem XR:∀ x∈([46,46,46]:List Nat),x<0x110000:=by decide
theorem js0:∀ x∈([115,121,109,98,111,108]:List Nat),x<0x110000:=by decide
theorem jr0:∀ x∈([98,105,103,105,110,116]:List Nat),x<0x110000:=by decide
theorem jq0:∀ x∈([117,110,105,113,117,101]:List Nat),x<0x110000:=by decide
theorem jp0:∀ x∈([97,98,115,116,114,97,99,116]:List Nat),x<0x110000:=by decide
theorem OP:∀ x∈([60]:List Nat),x<0x110000:=by decide
theorem BU:∀ x∈([44]:List Nat),x<0x110000:=by decide
theorem ju0:∀ x∈([40]:List Nat),x<0x110000:=by decide
theorem jt0:∀ x∈([41]:List Nat),x<0x110000:=by decide
theorem Qa (x:Sg):(x.kind==5&&x.txt==[60])=(x==.lt):=IS .lt x rfl
theorem BZ (x:Sg):(x.kind==5&&x.txt==[44])=(x==.com):=IS .com x rfl
theorem jy0 (x:Sg):(x.kind==5&&x.txt==[40])=(x==.lp):=IS .lp x rfl
theorem jx0 (x:Sg):(x.kind==5&&x.txt==[41])=(x==.rp):=IS .rp x rfl
theorem wN (h:At ps t):qk prog (d+3) 41 [.ref 13] (hp m0 wd ext ps)=.ok .none (hp m0 wd ext ps):=by
 exact js (k:=xm) (ρ:=[some (.val (.ref 13)),none]) rfl rfl<|sC (Il h)<|sC (wO h js0)<|sF (ZB ..)<|sC (wO h jr0)<|sF (ZA ..)<|sC (wO h jq0)<|sF (Zz ..)<|sC (wO h jp0)<|sF (Zy ..)<|rfl
theorem wP (h:At ps t) (hl:t.sg.letter=true) (h':At {ps with at_:=ps.at_+1} t'):qk prog (d+4) 42 [.ref 13] (hp m0 wd ext ps)=.ok (.str t.sg.txt) (hp m0 wd ext {ps with at_:=ps.at_+1}):=by
 have hw:∀ mk ρ',yF prog (qk prog (d+3)) mk (.meth qc 13 (.cons (.cst (.str [46])) .nil)) (.cons .bad .nil) qy ⟨some (.val (.ref 13))::ρ',hp m0 wd ext {ps with at_:=ps.at_+1}⟩=.ok .next ⟨some (.val (.ref 13))::ρ',hp m0 wd ext {ps with at_:=ps.at_+1}⟩:=by
  intro mk ρ'
  show yF _ _ _ _ _ (999+1) _=_
  rw [jf]
  exact xV<|sC (eF (jI h' ZO) (XA ..))<|rfl
 exact js (k:=vu) (ρ:=[some (.val (.ref 13)),none,none,none]) rfl rfl<|sC (jQ h)<|sC (Jf h hl)<|sK (hw ..)<|rfl
theorem It (s:Sg):xl false (.str s.txt) (.tup [(.str [97,110,121]),(.str [117,110,107,110,111,119,110]),(.str [110,101,118,101,114]),(.str [117,110,100,101,102,105,110,101,100]),(.str [115,116,114,105,110,103]),(.str [110,117,109,98,101,114]),(.str [98,111,111,108,101,97,110]),(.str [111,98,106,101,99,116])]) σ=some false:=by cases s <;> rfl
theorem Ug (s:Sg):xl false (.str s.txt) (.tup [(.str [107,101,121,111,102]),(.str [114,101,97,100,111,110,108,121]),(.str [105,110,102,101,114])]) σ=some false:=by cases s <;> rfl
theorem Gf (h:At ps t) (hl:t.sg.letter=true) (h':At {ps with at_:=ps.at_+1} t') (ho:(t'.sg==.lt)=false∨(t'.sg==.lt)=true∧t'.line=true) :
  qk prog (d+5) 40 [.obj 7 [],.ref 13,.none] (hp m0 wd ext ps)=.ok (nV (.mk t.sg t.at_ [])) (hp m0 wd ext {ps with at_:=ps.at_+1}):=by
 rw [qz (k:=jw) (ρ:=[some (.val (.obj 7 [])),some (.val (.ref 13)),some (.val .none),none,none,none]) rfl rfl]
 rw [nV,nsV]
 rcases ho with ho | ⟨ho,hq⟩
 ·exact jc<|sC (jQ h)<|sF2 (It (σ:=[]) t.sg)<|sC (wN h)<|sC (wP h hl h')<|sC (zG h' OP)<|sF ((Qa t'.sg).trans ho)<|sC KZ<|rfl
 ·exact jc<|sC (jQ h)<|sF2 (It (σ:=[]) t.sg)<|sC (wN h)<|sC (wP h hl h')<|sC (zG h' OP)<|sT ((Qa t'.sg).trans ho)<|sC (jQ h')<|sT hq<|sC KZ<|rfl
theorem Gg (h:At ps t) (hl:t.sg.letter=true) (h':At {ps with at_:=ps.at_+1} t') (ho:(t'.sg==.lt)=true) (hq:t'.line=false) {ks:List K} (e:qk prog (d+4) 43 [.ref 13] (hp m0 wd ext {ps with at_:=ps.at_+1})=.ok (.lst (nsV ks)) σ) :
  qk prog (d+5) 40 [.obj 7 [],.ref 13,.none] (hp m0 wd ext ps)=.ok (nV (.mk t.sg t.at_ ks)) σ:=by
 rw [qz (k:=jw) (ρ:=[some (.val (.obj 7 [])),some (.val (.ref 13)),some (.val .none),none,none,none]) rfl rfl]
 rw [nV]
 exact jc<|sC (jQ h)<|sF2 (It (σ:=[]) t.sg)<|sC (wN h)<|sC (wP h hl h')<|sC (zG h' OP)<|sT ((Qa t'.sg).trans ho)<|sC (jQ h')<|sF hq<|sC e<|sC KZ<|rfl
theorem Jc (h:At ps t) (hl:t.sg.letter=true) (h':At {ps with at_:=ps.at_+1} t') (ho:(t'.sg==.lt)=true) (hq:t'.line=false) (e:qk prog (d+4) 43 [.ref 13] (hp m0 wd ext {ps with at_:=ps.at_+1})=.exc σ) :
  qk prog (d+5) 40 [.obj 7 [],.ref 13,.none] (hp m0 wd ext ps)=.exc σ:=by
 exact js (k:=jw) (ρ:=[some (.val (.obj 7 [])),some (.val (.ref 13)),some (.val .none),none,none,none]) rfl rfl<|sC (jQ h)<|sF2 (It (σ:=[]) t.sg)<|sC (wN h)<|sC (wP h hl h')<|sC (zG h' OP)<|sT ((Qa t'.sg).trans ho)<|sC (jQ h')<|sF hq<|sX e<|rfl
theorem Mh (h:At ps t) (hl:t.sg.letter=true) (e:qk prog (d+5) 40 [.obj 7 [],.ref 13,.none] (hp m0 wd ext ps)=.ok v (hp m0 wd ext ps')) (h':At ps' t'):qk prog (d+6) 39 [.ref 13] (hp m0 wd ext ps)=.ok v (hp m0 wd ext ps'):=by
 have hw:∀ mk ρ',yF prog (qk prog (d+5)) mk (.and (.meth qc 14 (.cons (.cst (.str [91])) .nil)) (.not (.attr (.meth qc 1 .nil) 9))) (.cons .bad .nil) qy ⟨some (.val (.ref 13))::ρ',hp m0 wd ext ps'⟩=.ok .next ⟨some (.val (.ref 13))::ρ',hp m0 wd ext ps'⟩:=by
  intro mk ρ'
  show yF _ _ _ _ _ (999+1) _=_
  rw [jf]
  exact xV<|sC (zG h' ZP)<|sF (XB ..)<|rfl
 have tk:=(vR (t:=t) (d:=d+4) (σ:=hp m0 wd ext ps)).trans (congrArg (fun s=>RC.ok (.str s) (hp m0 wd ext ps)) (if_pos hl))
 exact js (k:=zu) (ρ:=[some (.val (.ref 13)),none,none,none,none,none]) rfl rfl<|sC (jQ h)<|sC tk<|sC e<|sK (hw ..)<|rfl
theorem Ji (h:At ps t) (hl:t.sg.letter=true) (e:qk prog (d+5) 40 [.obj 7 [],.ref 13,.none] (hp m0 wd ext ps)=.exc σ):qk prog (d+6) 39 [.ref 13] (hp m0 wd ext ps)=.exc σ:=by
 have tk:=(vR (t:=t) (d:=d+4) (σ:=hp m0 wd ext ps)).trans (congrArg (fun s=>RC.ok (.str s) (hp m0 wd ext ps)) (if_pos hl))
 exact js (k:=zu) (ρ:=[some (.val (.ref 13)),none,none,none,none,none]) rfl rfl<|sC (jQ h)<|sC tk<|sX e<|rfl
theorem Mi (h:At ps t) (hl:t.sg.letter=false) (hr:ps.rows.length<4000):qk prog (d+6) 39 [.ref 13] (hp m0 wd ext ps)=.exc (hp m0 wd ext {ps with rows:=ps.rows++[⟨none,t.at_⟩]}):=by
 have e3:=Mn (d:=d+1) (m0:=m0) (wd:=wd) (ext:=ext) (g:=⟨none,t.at_⟩) h rfl hr
 change qk prog (d+5) 13 [.ref 13,.int 1110,.tup []] (hp m0 wd ext ps)=_ at e3
 have tk:=(vR (t:=t) (d:=d+4) (σ:=hp m0 wd ext ps)).trans (congrArg (fun s=>RC.ok (.str s) (hp m0 wd ext ps)) (if_neg (nF hl)))
 exact js (k:=zu) (ρ:=[some (.val (.ref 13)),none,none,none,none,none]) rfl rfl<|sC (jQ h)<|sC tk<|sT3 (Jq (m0:=m0) (wd:=wd) (ps:=ps) (ext:=ext) hl)<|sX e3<|rfl
theorem Uq {x:RC} (h:At ps t) (e:qk prog (d+6) 39 [.ref 13] (hp m0 wd ext ps)=x) (hx:(∃ v σ,x=.ok v σ)∨∃ σ,x=.exc σ):qk prog (d+7) 38 [.ref 13] (hp m0 wd ext ps)=x:=by
 rw [qz (k:=yg) (ρ:=[some (.val (.ref 13)),none]) rfl rfl]
 rcases hx with ⟨v,σ,rfl⟩ | ⟨σ,rfl⟩
 ·cases hk:(t.sg.kind==1)
  ·exact jc<|sC (jQ h)<|sF hk<|sC e<|rfl
  ·exact jc<|sC (jQ h)<|sT hk<|sF2 (Ug (σ:=[]) ..)<|sC e<|rfl
 ·cases hk:(t.sg.kind==1)
  ·exact jc<|sC (jQ h)<|sF hk<|sX e<|rfl
  ·exact jc<|sC (jQ h)<|sT hk<|sF2 (Ug (σ:=[]) ..)<|sX e<|rfl
theorem Jh (h:At ps t) (e:qk prog (d+7) 38 [.ref 13] (hp m0 wd ext ps)=.ok v (hp m0 wd ext ps')) (h':At ps' t'):qk prog (d+8) 37 [.ref 13] (hp m0 wd ext ps)=.ok v (hp m0 wd ext ps'):=by
 exact js (k:=yh) (ρ:=[some (.val (.ref 13)),none,none]) rfl rfl<|sC (eF (jI h Mv) (DZ ..))<|sC e<|sC (zG h' Mv)<|sF (DZ ..)<|rfl
theorem Gh (h:At ps t) (e:qk prog (d+7) 38 [.ref 13] (hp m0 wd ext ps)=.exc σ):qk prog (d+8) 37 [.ref 13] (hp m0 wd ext ps)=.exc σ:=by
 exact js (k:=yh) (ρ:=[some (.val (.ref 13)),none,none]) rfl rfl<|sC (eF (jI h Mv) (DZ ..))<|sX e<|rfl
theorem Jb (h:At ps t) (e:qk prog (d+8) 37 [.ref 13] (hp m0 wd ext ps)=.ok v (hp m0 wd ext ps')) (h':At ps' t'):qk prog (d+9) 36 [.ref 13] (hp m0 wd ext ps)=.ok v (hp m0 wd ext ps'):=by
 exact js (k:=yf) (ρ:=[some (.val (.ref 13)),none,none]) rfl rfl<|sC (eF (jI h Mu) (DY ..))<|sC e<|sC (zG h' Mu)<|sF (DY ..)<|rfl
theorem Ge (h:At ps t) (e:qk prog (d+8) 37 [.ref 13] (hp m0 wd ext ps)=.exc σ):qk prog (d+9) 36 [.ref 13] (hp m0 wd ext ps)=.exc σ:=by
 exact js (k:=yf) (ρ:=[some (.val (.ref 13)),none,none]) rfl rfl<|sC (eF (jI h Mu) (DY ..))<|sX e<|rfl
theorem Ij {x:RC} (e:qk prog (d+9) 36 [.ref 13] (hp m0 wd ext ps)=x) (hx:(∃ v σ,x=.ok v σ)∨∃ σ,x=.exc σ):qk prog (d+10) 33 [.ref 13] (hp m0 wd ext ps)=x:=by
 rw [qz (k:=vw) (ρ:=[some (.val (.ref 13))]) rfl rfl]
 rcases hx with ⟨v,σ,rfl⟩ | ⟨σ,rfl⟩
 ·exact jc<|sC e<|rfl
 ·exact jc<|sX e<|rfl
theorem KN (k:K) (σ:H):jK prog σ (nV k) 5=some (.int 81):=by cases k; rw [nV]; rfl
theorem Mo (h:At ps t) (k:K):qk prog (d+3) 34 [.ref 13,nV k] (hp m0 wd ext ps)=.ok (.bool false) (hp m0 wd ext ps):=by
 rw [qz (k:=yK) (ρ:=[some (.val (.ref 13)),some (.val (nV k))]) rfl rfl]
 cases hq:t.line
 ·exact jc<|sO (KN ..)<|sC (jQ h)<|sF hq<|sC (OL h (show ∀ x∈[101,120,116,101,110,100,115],x<0x110000 by decide))<|rfl
 ·exact jc<|sO (KN ..)<|sC (jQ h)<|sT hq<|rfl
theorem Bb {k:K} (e:qk prog (d+10) 33 [.ref 13] (hp m0 wd ext ps)=.ok (nV k) (hp m0 wd ext ps')) (h':At ps' t'):qk prog (d+11) 32 [.ref 13] (hp m0 wd ext ps)=.ok (nV k) (hp m0 wd ext ps'):=by
 exact js (k:=zg) (ρ:=[some (.val (.ref 13)),none]) rfl rfl<|sC e<|sC (Mo h' ..)<|rfl
theorem uy (e:qk prog (d+10) 33 [.ref 13] (hp m0 wd ext ps)=.exc σ):qk prog (d+11) 32 [.ref 13] (hp m0 wd ext ps)=.exc σ:=by
 exact js (k:=zg) (ρ:=[some (.val (.ref 13)),none]) rfl rfl<|sX e<|rfl
theorem Md {x:RC} (e:qk prog (d+11) 32 [.ref 13] (hp m0 wd ext ps)=x) (hx:(∃ v σ,x=.ok v σ)∨∃ σ,x=.exc σ):qk prog (d+12) 31 [.obj 6 [],.ref 13] (hp m0 wd ext ps)=x:=by
 rw [qz (k:=xQ) (ρ:=[some (.val (.obj 6 [])),some (.val (.ref 13))]) rfl rfl]
 rcases hx with ⟨v,σ,rfl⟩ | ⟨σ,rfl⟩
 ·exact jc<|sC e<|rfl
 ·exact jc<|sX e<|rfl
theorem Uf {k:K} (h:At ps t) (hl:t.sg.letter=true) (e:qk prog (d+5) 40 [.obj 7 [],.ref 13,.none] (hp m0 wd ext ps)=.ok (nV k) (hp m0 wd ext ps')) (h':At ps' t'):qk prog (d+12) 31 [.obj 6 [],.ref 13] (hp m0 wd ext ps)=.ok (nV k) (hp m0 wd ext ps') :=
 Md (Bb (Ij (Jb h (Jh h (Uq h (Mh h hl e h') (.inl (c2a1 _ _ rfl))) h') h') (.inl (c2a1 _ _ rfl))) h') (.inl (c2a1 _ _ rfl))
theorem Kr (h:At ps t) (e:qk prog (d+6) 39 [.ref 13] (hp m0 wd ext ps)=.exc σ):qk prog (d+12) 31 [.obj 6 [],.ref 13] (hp m0 wd ext ps)=.exc σ :=
 Md (uy (Ij (Ge h (Gh h (Uq h e (.inr ⟨_,rfl⟩)))) (.inr ⟨_,rfl⟩))) (.inr ⟨_,rfl⟩)
end
noncomputable def stV (e:K×Nat):V:=.tup [nV e.1,.int e.2]
noncomputable def tot (S:List (K×Nat)):Nat:=xZ (S.map (·.1))
section
variable {d D:Nat} {m0 wd:O} {ps ps':PS} {ext:H} {src:List Nat} {c:Nat} {σ:H} {v:V} {t t':Tk} {call mk:Nat→List V→H→RC}
theorem BX (l:Nat) (hl:l<1000) (x0 x1 x4:Option LV):∀ (ks:List K) (S:List (K×Nat)) (x3:Option LV),S.length+ks.length<4000→∃ y3,Gr prog call mk 3 (.cons (.appendOwn 2 (.tup (.cons qt (.cons (.bin .add qL qu) .nil)))) .nil) (nsV ks) ⟨[x0,x1,some (.own (S.map stV)),x3,x4,some (.val (.int l))],σ⟩ =
  .ok .next ⟨[x0,x1,some (.own ((S++ks.map (·,l+1)).map stV)),y3,x4,some (.val (.int l))],σ⟩
 | [],S,x3,h=>⟨x3,by rw [nsV,yB,wl0,vU0]⟩
 | k::ks,S,x3,h=>by
  rw [vr0] at h
  have e1:=zj (qM (n:=l) (by exact yd0 hl)) (show okI 1=true by rfl)
  have e2:(S.map stV).length<4096:=by rw [vq0]; exact far [_,_] [.lt (.p qa (.p qb qh)) (.n 4000)] (.lt qa qJ) rfl h
  refine x1a1 (BX l hl x0 x1 x4 ks (S++[(k,l+1)]) (some (.val (nV k))) (by rw [vt0]; simp only [vr0,vy0]; exact far [_,_] [.lt (.p qa (.p qb qh)) (.n 4000)] (.lt (.p (.p qa qh) qb) (.n 4000)) rfl h)) fun y3 e=>?_
  refine ⟨y3,?_⟩
  rw [vL0,vJ0,wl0] at e
  unfold stV at e
  dsimp only at e
  rw [kx0,kz0] at e
  rw [nsV,kO]
  unfold stV at e2
  unfold stV
  exact zr0<|sO e1<|sL e2<|e.trans (by rw [vJ0,vM0,List.singleton_append])
theorem uI (S R:List (K×Nat)):tot (S++R)=tot S+tot R:=by unfold tot; rw [vL0,jX]
theorem JY (S:List (K×Nat)):S.length≤tot S:=by have:=zH (S.map (·.1)); rw [vq0] at this; exact this
theorem NX (ks:List K) (l:Nat):tot (ks.map (·,l))=xZ ks:=by unfold tot; rw [List.map_map]; congr 1; exact km0 _
theorem vo {k:K}:∀ {ks:List K},k∈ks→kht k≤yA ks
 | k'::ks,h=>by
  rw [yA]
  rcases vI0.mp h with rfl | h
  ·exact yB0 _ _
  ·have:=vo h; exact far [_,_,_] [.le qa qb,.le qb qg] (.le qa qg) rfl this (yD0 _ _)
theorem Gp (x0 x1:Option LV):∀ (n f:Nat) (S:List (K×Nat)) (x3 x4 x5:Option LV),tot S≤n→n<f→n≤900→(∀ e∈S,kht e.1+e.2≤100)→∃ y3 y4 y5,yF prog call mk qm (.cons (.unpack [4,5] (.popOwn 2)) (.cons (.ifs (.isNone qq) (.cons .bad .nil) .nil) (.cons (.ifs (.cmp .gt qL (.cst (.int 160))) (.cons .bad .nil) .nil) (.cons (.fore 3 (.attr qq 33) (.cons (.appendOwn 2 (.tup (.cons qt (.cons (.bin .add qL qu) .nil)))) .nil)) .nil)))) f ⟨[x0,x1,some (.own (S.map stV)),x3,x4,x5],σ⟩=.ok .next ⟨[x0,x1,some (.own []),y3,y4,y5],σ⟩:=by
 intro n
 induction n with
 | zero =>
  intro f S x3 x4 x5 hn hf hn9 hh
  obtain ⟨f,rfl⟩:∃ g,f=g+1:=⟨f-1,by exact (yg0 hf).symm⟩
  have hS:S=[]:=vK0.mp (by have:=JY S; exact yk0 (far [_,_] [.le qb (.n 0),.le qa qb] (.le qa (.n 0)) rfl hn this) (far [_] [] (.le (.n 0) qa) rfl))
  subst hS
  rw [jf]
  refine (c3a1 x3 x4 x5 ?_)
  exact xV<|rfl
 | succ n ih =>
  intro f S x3 x4 x5 hn hf hn9 hh
  obtain ⟨f,rfl⟩:∃ g,f=g+1:=⟨f-1,by exact (yg0 (far [_,_] [.lt (.p qb qh) qa] (.le qh qa) rfl hf)).symm⟩
  rcases wB0 S with rfl | ⟨S',e,rfl⟩
  ·rw [jf]
   refine (c3a1 x3 x4 x5 ?_)
   exact xV<|rfl
  ·obtain ⟨k,l⟩:=e
   obtain ⟨s,a,ks⟩:=k
   rw [wC0] at hn hh ⊢
   rw [uI] at hn
   have h1:tot [(K.mk s a ks,l)]=xZ ks+1:=by unfold tot; rw [vJ0,wl0,xB,ksz]
   have h2:=hh (K.mk s a ks,l) (by simp)
   rw [kht] at h2
   dsimp only at h2
   have lk:=zH ks
   have lS:=JY S'
   refine x1a1 (BX (σ:=σ) (call:=call) (mk:=mk) l (by exact far [_,_] [.le (.p (.p qb qh) qa) (.n 100)] (.lt qa qG) rfl h2) x0 x1 (some (.val (nV (.mk s a ks)))) ks S' x3 (by exact far [_,_,_,_,_,_] [.le (.p qg qh) qP,.le (.p qj qw) (.p qg qh),.qe qw (.p (.v 5) qh),.le qb (.v 5),.le qa qj] (.lt (.p qa qb) (.n 4000)) rfl hn9 hn h1 lk lS)) fun y3 ek=>?_
   obtain ⟨z3,z4,z5,er⟩:=ih f (S'++ks.map (·,l+1)) y3 (some (.val (nV (.mk s a ks)))) (some (.val (.int l))) (by rw [uI,NX]; exact far [_,_,_,_] [.le (.p qa qj) (.p qg qh),.qe qj (.p qb qh)] (.le (.p qa qb) qg) rfl hn h1) (by exact yj0 hf) (by exact ym0 hn9) (fun e he=>by
    rcases vH0.mp he with q | q
    ·exact hh e (wD0 _ q)
    ·refine x1a2 (wk0.mp q) fun k' hk' uQ0=>?_; subst uQ0
     have:=vo hk'
     dsimp only; exact far [_,_,_] [.le (.p (.p qg qh) qb) (.n 100),.le qa qg] (.le (.p qa (.p qb qh)) (.n 100)) rfl h2 this)
   refine (c3a1 z3 z4 z5 ?_)
   rw [jf,← er]
   have g1:((S'++[(K.mk s a ks,l)]).map stV).isEmpty=false:=by simp
   have g2:((S'++[(K.mk s a ks,l)]).map stV).getLast?=some (.tup [nV (.mk s a ks),.int l]):=by rw [vL0]; simp [stV]
   have g3:((S'++[(K.mk s a ks,l)]).map stV).dropLast=S'.map stV:=by rw [vL0]; simp
   have g4:qF .gt (.int l) (.int 160)=some false:=by show some _=_; congr 1; exact decide_eq_false (by exact o19 _ _ h2)
   rw [← g3] at ek
   exact xV<|sF g1<|sO g2<|sF2 g4<|sK ek<|rfl
theorem OM {k:K} (hs:ksz k≤900) (hh:kht k≤90):qk prog (d+1) 23 [.ref 13,nV k] σ=.ok .none σ:=by
 obtain ⟨y3,y4,y5,e⟩:=Gp (σ:=σ) (call:=qk prog d) (mk:=mkD prog d) (some (.val (.ref 13))) (some (.val (nV k))) (ksz k) qy [(k,1)] none none none (by unfold tot; rw [vJ0,wl0,xB]; exact yh0 _) (by unfold qy; exact yf0 hs (yc0 rfl)) hs (fun e he=>by
  rw [vu0.mp he]; dsimp only; exact yf0 hh (yc0 rfl))
 have e':yF prog (qk prog d) (mkD prog d) qm (.cons (.unpack [4,5] (.popOwn 2)) (.cons (.ifs (.isNone qq) (.cons .bad .nil) .nil) (.cons (.ifs (.cmp .gt qL (.cst (.int 160))) (.cons .bad .nil) .nil) (.cons (.fore 3 (.attr qq 33) (.cons (.appendOwn 2 (.tup (.cons qt (.cons (.bin .add qL qu) .nil)))) .nil)) .nil)))) qy ⟨[some (.val (.ref 13)),some (.val (nV k)),some (.own [.tup [nV k,.int 1]]),none,none,none],σ⟩=_:=e
 exact js (k:=yL) (ρ:=[some (.val (.ref 13)),some (.val (nV k)),none,none,none,none]) rfl rfl<|sK e'<|rfl
theorem Bf {w:Int} (h:w=1∨w=2):xl true (.int w) (.ref 5) (hp m0 wd ext ps)=some true:=by rcases h with rfl | rfl <;> rfl
theorem kK {w:Int} (h:w=1∨w=2):zB (.ref 5) (.int w) (hp m0 wd ext ps)=some (.obj 6 []):=by rcases h with rfl | rfl <;> rfl
theorem MG {w:Int} (h:w=1∨w=2):xl false (.int w) (.tup [(.int 3),(.int 4),(.int 5),(.int 6)]) σ=some false:=by rcases h with rfl | rfl <;> rfl
theorem BP {w:Int} {k:K} (hw:w=1∨w=2) (h1:-900<ps.deep) (h2:ps.deep<40) (e:qk prog (d+12) 31 [.obj 6 [],.ref 13] (hp m0 wd ext {ps with deep:=ps.deep+1})=.ok (nV k) (hp m0 wd ext ps')) (hd:ps'.deep=ps.deep+1) (hs:ksz k≤900) (hh:kht k≤90) :
  qk prog (d+13) 17 [.ref 13,.int w] (hp m0 wd ext ps)=.ok (nV k) (hp m0 wd ext {ps' with deep:=ps.deep}):=by
 rw [qz (k:=xI) (ρ:=[some (.val (.ref 13)),some (.val (.int w)),none]) rfl rfl]
 have hu:=xl0 (d:=d+11) (m0:=m0) (wd:=wd) (ext:=ext) (ps:=ps') (by exact o20 _ _ h1 hd) (by exact o21 _ _ h2 hd)
 change qk prog (d+12) 16 _ _=_ at hu
 have e2:ps'.deep-1=ps.deep:=by exact Int.sub_eq_iff_eq_add.mpr hd
 rw [e2] at hu
 cases hq:(ps'.deep==1)
 ·exact jc<|sF3 (Bf (m0:=m0) (wd:=wd) (ps:=ps) (ext:=ext) hw)<|sC (Mp (show -1000<ps.deep by exact kv0 (by decide) h1) h2)<|sF2 (MG (σ:=[]) hw)<|sO (kK (m0:=m0) (wd:=wd) (ps:={ps with deep:=ps.deep+1}) (ext:=ext) hw)<|sC e<|sF hq<|sC hu<|rfl
 ·exact jc<|sF3 (Bf (m0:=m0) (wd:=wd) (ps:=ps) (ext:=ext) hw)<|sC (Mp (show -1000<ps.deep by exact kv0 (by decide) h1) h2)<|sF2 (MG (σ:=[]) hw)<|sO (kK (m0:=m0) (wd:=wd) (ps:={ps with deep:=ps.deep+1}) (ext:=ext) hw)<|sC e<|sT hq<|sC (OM hs hh)<|sC hu<|rfl
theorem uQ {w:Int} (hw:w=1∨w=2) (h1:-900<ps.deep) (h2:ps.deep<40) (e:qk prog (d+12) 31 [.obj 6 [],.ref 13] (hp m0 wd ext {ps with deep:=ps.deep+1})=.exc σ) :
  qk prog (d+13) 17 [.ref 13,.int w] (hp m0 wd ext ps)=.exc σ:=by
 exact js (k:=xI) (ρ:=[some (.val (.ref 13)),some (.val (.int w)),none]) rfl rfl<|sF3 (Bf (m0:=m0) (wd:=wd) (ps:=ps) (ext:=ext) hw)<|sC (Mp (show -1000<ps.deep by exact kv0 (by decide) h1) h2)<|sF2 (MG (σ:=[]) hw)<|sO (kK (m0:=m0) (wd:=wd) (ps:={ps with deep:=ps.deep+1}) (ext:=ext) hw)<|sX e<|rfl
theorem KY (e:qk prog (d+13) 17 [.ref 13,.int 1] (hp m0 wd ext ps)=.ok v (hp m0 wd ext ps')):qk prog (d+14) 35 [.ref 13,.bool false] (hp m0 wd ext ps)=.ok v (hp m0 wd ext ps'):=by
 exact js (k:=yU) (ρ:=[some (.val (.ref 13)),some (.val (.bool false)),none,none]) rfl rfl<|sC e<|rfl
theorem Ja (e:qk prog (d+13) 17 [.ref 13,.int 1] (hp m0 wd ext ps)=.exc σ):qk prog (d+14) 35 [.ref 13,.bool false] (hp m0 wd ext ps)=.exc σ:=by
 exact js (k:=yU) (ρ:=[some (.val (.ref 13)),some (.val (.bool false)),none,none]) rfl rfl<|sX e<|rfl
end
noncomputable def XT (ps ps':PS):Prop:=∃ k,Ext k ps ps'
noncomputable def Tag.sg:Tag→Option Sg
 | .kind=>none
 | .lt=>some .lt
 | .gt=>some .gt
 | .rp=>some .rp
noncomputable def Yp (src:List Nat) (e:Err):Dg:=⟨e.tag.sg,(tk src e.c).at_⟩
section
variable {d D:Nat} {m0 wd:O} {ps ps':PS} {ext:H} {src:List Nat} {c:Nat} {σ:H} {v:V} {t t':Tk} {call mk:Nat→List V→H→RC}
theorem XT.refl {ps':PS} (h1:ps'.toks=ps.toks) (h2:ps'.splits=ps.splits) (h3:ps'.saved=ps.saved):XT ps ps':=⟨0,Ext.refl h1 h2 h3⟩
theorem XT.trans {p1 p2 p3:PS} (a:XT p1 p2) (b:XT p2 p3):XT p1 p3:=by refine x1a1 a fun j a=>?_; refine x1a1 b fun k b=>?_; exact ⟨_,a.trans b⟩
structure Went (src:List Nat) (ps:PS) (c':Nat) (ps':PS):Prop where
 sim:Sim src c' ps'
 ext:XT ps ps'
 rows:ps'.rows=ps.rows
 deep:ps'.deep=ps.deep
structure Fell (src:List Nat) (ps:PS) (e:Err) (ps':PS):Prop where
 sim:Sim src e.c {ps' with rows:=ps.rows}
 ext:XT ps ps'
 rows:ps'.rows=ps.rows++[Yp src e]
 deep:ps'.deep=e.deep
theorem Went.trans {p1 p2 p3:PS} {c1 c2:Nat} (a:Went src p1 c1 p2) (b:Went src p2 c2 p3):Went src p1 c2 p3:=⟨b.sim,a.ext.trans b.ext,by rw [b.rows,a.rows],by rw [b.deep,a.deep]⟩
theorem Went.fell {p1 p2 p3:PS} {c1:Nat} {e:Err} (a:Went src p1 c1 p2) (b:Fell src p2 e p3):Fell src p1 e p3:=⟨by have:=b.sim; rw [a.rows] at this; exact this,a.ext.trans b.ext,by rw [b.rows,a.rows],b.deep⟩
theorem Sim.deep {x:Int} (S:Sim src c ps):Sim src c {ps with deep:=x}:=⟨S.drop,S.le,S.low,S.spl,S.rows⟩
noncomputable def PK (src:List Nat) (m0 wd:O) (ext:H) (ps:PS) (x:RC):Except Err (Nat×K)→Prop
 | .ok (c',k)=>∃ ps',x=.ok (nV k) (hp m0 wd ext ps')∧Went src ps c' ps'
 | .error e=>∃ ps',x=.exc (hp m0 wd ext ps')∧Fell src ps e ps'
noncomputable def PA (src:List Nat) (m0 wd:O) (ext:H) (ps:PS) (x:RC):Except Err (Nat×List K)→Prop
 | .ok (c',ks)=>∃ ps',x=.ok (.lst (nsV ks)) (hp m0 wd ext ps')∧Went src ps c' ps'
 | .error e=>∃ ps',x=.exc (hp m0 wd ext ps')∧Fell src ps e ps'
theorem Sim.stepW (G:Good src) (S:Sim src c ps) (h:(tk src c).sg≠.fin):Went src ps (tk src c).fin {ps with at_:=ps.at_+1}:=⟨S.step G h,XT.refl rfl rfl rfl,rfl,rfl⟩
theorem Sim.fault (S:Sim src c ps) {tag:Tag} (g:Dg) (hg:g=⟨tag.sg,(tk src c).at_⟩):Fell src ps ⟨tag,c,ps.deep⟩ {ps with rows:=ps.rows++[g]}:=by
 subst hg
 exact ⟨⟨S.drop,S.le,S.low,S.spl,S.rows⟩,XT.refl rfl rfl rfl,rfl,rfl⟩
theorem Mr (G:Good src) (S:Sim src c ps):if xr (tk src c).sg=true then ∃ ps',qk prog (d+6) 26 [.ref 13] (hp m0 wd ext ps)=.ok .none (hp m0 wd ext ps')∧Went src ps ((tk src c).at_+1) ps'
  else ∃ ps',qk prog (d+6) 26 [.ref 13] (hp m0 wd ext ps)=.exc (hp m0 wd ext ps')∧Fell src ps ⟨.gt,c,ps.deep⟩ ps':=by
 by_cases h1:(tk src c).sg=.gt
 ·rw [if_pos (by rw [h1]; rfl)]
  have hf:(tk src c).fin=(tk src c).at_+1:=by rw [yb,ux,h1]; rfl
  refine (c1a2 _ (uS G S h1) ?_)
  rw [← hf]
  exact S.stepW G (by rw [h1]; decide)
 ·by_cases h2:(tk src c).sg=.ge
  ·rw [if_pos (by rw [h2]; rfl)]
   refine x1a6 (uT (d:=d) (m0:=m0) (wd:=wd) (ext:=ext) G S h2) fun ps' e1 e2 e3 e4 e5 _=>?_
   exact ⟨ps',e1,e2,⟨_,e3⟩,e4,e5⟩
  ·rw [if_neg (by unfold xr; rw [uq0,beq_iff_eq,beq_iff_eq]; exact fun q=>q.elim h1 h2)]
   exact (c1a2 _ (Jk G S h1 h2) (S.fault _ rfl))
end
noncomputable def HP (src:List Nat) (m0 wd:O) (ext:H) (d n:Nat):Prop:=∀ (c:Nat) (ps:PS) (w:Int),(w=1∨w=2)→Sim src c ps→cnt src c≤n→-800<ps.deep→ps.deep+n<40 →
 PK src m0 wd ext ps (qk prog (d+11*n+13) 17 [.ref 13,.int w] (hp m0 wd ext ps)) (qY src n c (ps.deep+1))
noncomputable def HA (src:List Nat) (m0 wd:O) (ext:H) (d n:Nat):Prop:=∀ (c:Nat) (ps:PS),Sim src c ps→cnt src c≤n+1→-800<ps.deep→ps.deep+n<40 →
 PA src m0 wd ext ps (qk prog (d+11*n+15) 43 [.ref 13] (hp m0 wd ext ps)) (qZ (qY src n) src c ps.deep)
section
variable {d n:Nat} {m0 wd:O} {ps ps':PS} {ext:H} {src:List Nat} {c:Nat} {σ:H} {v:V} {t t':Tk} {call mk:Nat→List V→H→RC}
theorem Ku (H:HP src m0 wd ext d n) {c:Nat} {ps:PS} (S:Sim src c ps) (hn:cnt src c≤n) (h1:-800<ps.deep) (h2:ps.deep+n<40) :
  PK src m0 wd ext ps (qk prog (d+11*n+14) 35 [.ref 13,.bool false] (hp m0 wd ext ps)) (qY src n c (ps.deep+1)):=by
 have h:=H c ps 1 (.inl rfl) S hn h1 h2
 cases hk:qY src n c (ps.deep+1) with
 | ok r =>
  obtain ⟨c',k⟩:=r
  rw [hk] at h
  refine x1a2 h fun ps' e W=>?_
  exact ⟨ps',KY e,W⟩
 | error e =>
  rw [hk] at h
  refine x1a2 h fun ps' e W=>?_
  exact ⟨ps',Ja e,W⟩
theorem NO (G:Good src) (H:HP src m0 wd ext d n):∀ (m f c:Nat) (acc:List K) (ps:PS),Sim src c ps→cnt src c≤n→src.length-c<m→m<f→acc.length+(src.length-c)≤1000→-800<ps.deep→ps.deep+n<40 →
  match (if (tk src c).sg=.com then zw (qY src n) src ps.deep m (tk src c).fin acc else .ok (c,acc)) with
  | .ok (c',ks)=>∃ ps',yF prog (qk prog (d+11*n+14)) mk (.meth qc 13 (.cons qR .nil)) (.cons (.appendOwn 1 (.callF 35 (.cons qc (.cons jb .nil)))) .nil) f ⟨[some (.val (.ref 13)),some (.own (nsV acc))],hp m0 wd ext ps⟩=.ok .next ⟨[some (.val (.ref 13)),some (.own (nsV ks))],hp m0 wd ext ps'⟩∧Went src ps c' ps'
  | .error e=>∃ ps' ρ',yF prog (qk prog (d+11*n+14)) mk (.meth qc 13 (.cons qR .nil)) (.cons (.appendOwn 1 (.callF 35 (.cons qc (.cons jb .nil)))) .nil) f ⟨[some (.val (.ref 13)),some (.own (nsV acc))],hp m0 wd ext ps⟩=.exc ⟨ρ',hp m0 wd ext ps'⟩∧Fell src ps e ps':=by
 intro m
 induction m with
 | zero=>intro f c acc ps S hn hm; exact o22 _ _ _ _ _ _ _ hm
 | succ m ih =>
  intro f c acc ps S hn hm hf ha h1 h2
  obtain ⟨f,rfl⟩:∃ g,f=g+1:=⟨f-1,by exact (yg0 (far [_,_] [.lt (.p qb qh) qa] (.le qh qa) rfl hf)).symm⟩
  have A:=S.at G
  rw [jf]
  by_cases hcom:(tk src c).sg=.com
  ·rw [if_pos hcom]
   have hne:(tk src c).sg≠.fin:=by rw [hcom]; decide
   have hb:((tk src c).sg==.com)=true:=by rw [hcom]; rfl
   have l1:=jz hne
   have l2:=je G.ch S.le
   have W1:=S.stepW G hne
   have cm:=jr (src:=src) (show c≤(tk src c).fin by exact ym0 l1)
   have hal:(nsV acc).length<4096:=by rw [kn]; exact far [_,_] [.le (.p qa qb) qG] (.lt qa qJ) rfl ha
   have hk:=Ku (ps:={ps with at_:=ps.at_+1}) H W1.sim (by exact ye0 cm hn) h1 h2
   rw [zw]
   dsimp only at hk
   cases hkk:qY src n (tk src c).fin (ps.deep+1) with
   | error e =>
    rw [hkk] at hk
    refine x1a2 hk fun p2 e2 F=>?_
    dsimp only
    refine (c2a2 p2 [some (.val (.ref 13)),some (.own (nsV acc))] ?_ (W1.fell F))
    exact xV<|sC (eT (jI A BU) ((BZ _).trans hb))<|sX e2<|rfl
   | ok r =>
    obtain ⟨c1,k⟩:=r
    rw [hkk] at hk
    refine x1a2 hk fun p2 e2 W2=>?_
    dsimp only
    have okk:=(jj G n (tk src c).fin (ps.deep+1) l2).1 c1 k hkk
    have o1:=okk.lt
    have W12:=W1.trans W2
    have:=ih f c1 (acc++[k]) p2 W2.sim (by have:=jr (src:=src) (show c≤c1 by exact ym0 (yA0 l1 o1)); exact ye0 this hn) (by exact slt (far [_,_,_,_,_] [.lt qj (.p qa qh),.lt qg qw,.le qw qb,.le qb (.p qj qg)] (.lt (.n 0) qa) rfl hm l1 l2 (lsa _ _)) (far [_,_,_,_,_,_] [.lt qw (.p qb qh),.lt qj (.v 5),.lt (.v 5) qg,.le qa (.p qw qj)] (.lt qa (.p qb qg)) rfl hm l1 o1 (lsa _ _))) (by exact yj0 hf) (by rw [vt0]; simp only [vr0,vy0]; exact sad (far [_,_,_,_,_] [.le (.p qa qj) qG,.lt qg qw,.le qw qb,.le qb (.p qj qg)] (.le (.p qa qh) qG) rfl ha l1 l2 (lsa _ _)) (far [_,_,_,_,_,_] [.le (.p qa qw) qG,.lt qj (.v 5),.lt (.v 5) qg,.le qb (.p qw qj)] (.le (.p (.p qa qh) qb) (.p qG qg)) rfl ha l1 o1 (lsa _ _))) (by rw [W12.deep]; exact h1) (by rw [W12.deep]; exact h2)
    rw [W12.deep,yx,AW] at this
    cases hr:(if (tk src c1).sg=.com then zw (qY src n) src ps.deep m (tk src c1).fin (acc++[k]) else .ok (c1,acc++[k])) with
    | error e =>
     rw [hr] at this
     refine x2a2 this fun p3 ρ' e3 F=>?_
     refine (c2a2 p3 ρ' ?_ (W12.fell F))
     exact xV<|sC (eT (jI A BU) ((BZ _).trans hb))<|sC e2<|sL hal<|e3
    | ok r =>
     obtain ⟨c3,ks⟩:=r
     rw [hr] at this
     refine x1a2 this fun p3 e3 W3=>?_
     refine (c1a2 p3 ?_ (W12.trans W3))
     exact xV<|sC (eT (jI A BU) ((BZ _).trans hb))<|sC e2<|sL hal<|e3
  ·rw [if_neg hcom]
   have hb:((tk src c).sg==.com)=false:=by rw [beq_eq_false_iff_ne]; exact hcom
   refine ⟨ps,?_,S,XT.refl rfl rfl rfl,rfl,rfl⟩
   exact xV<|sC (eF (jI A BU) ((BZ _).trans hb))<|rfl
theorem Yh (G:Good src) (H:HP src m0 wd ext d n):HA src m0 wd ext d n:=by
 intro c ps S hn h1 h2
 have A:=S.at G
 have hL:=G.len
 have ns:=xf (d:=d+11*n+9) (m0:=m0) (wd:=wd) (ext:=ext) (s:=.lt) A rfl (by have:=S.rows; exact yf0 this (yc0 rfl))
 change qk prog (d+11*n+14) 11 [.ref 13,.str [60]] (hp m0 wd ext ps)=_ at ns
 rw [qz (k:=xP) (ρ:=[some (.val (.ref 13)),none]) rfl rfl]
 unfold qZ
 by_cases hlt:(tk src c).sg=.lt
 ·rw [if_pos hlt]
  rw [if_pos hlt] at ns
  have hne:(tk src c).sg≠.fin:=by rw [hlt]; decide
  have l2:=je G.ch S.le
  have hcn:=ur G.ch hlt
  have W1:=S.stepW G hne
  have hk:=Ku (ps:={ps with at_:=ps.at_+1}) H W1.sim (by exact far [_,_,_] [.le qg (.p qb qh),.le (.p qa qh) qg] (.le qa qb) rfl hn hcn) h1 h2
  dsimp only at hk
  rw [zw]
  show PA _ _ _ _ _ (Oq (exs prog (qk prog (d+11*n+14)) (mkD prog (d+11*n+14)) (.cons _ (.cons _ (.cons _ (.cons _ (.cons _ .nil))))) _)) _
  rw [qI (st':=⟨[some (.val (.ref 13)),none],hp m0 wd ext {ps with at_:=ps.at_+1}⟩) (by exact wEx<|sC ns<|rfl)]
  cases hkk:qY src n (tk src c).fin (ps.deep+1) with
  | error e =>
   rw [hkk] at hk
   refine x1a2 hk fun p2 e2 F=>?_
   dsimp only
   refine ⟨p2,?_,W1.fell F⟩
   exact jc<|sX e2<|rfl
  | ok r =>
   obtain ⟨c1,k⟩:=r
   rw [hkk] at hk
   refine x1a2 hk fun p2 e2 W2=>?_
   dsimp only
   have okk:=(jj G n (tk src c).fin (ps.deep+1) l2).1 c1 k hkk
   have o1:=okk.lt
   have W12:=W1.trans W2
   rw [qI (st':=⟨[some (.val (.ref 13)),some (.own (nsV [k]))],hp m0 wd ext p2⟩) (by rw [AW]; exact wEx<|sC e2<|rfl)]
   have lp:=NO (mk:=mkD prog (d+11*n+14)) G H 63 qy c1 [k] p2 W2.sim (by have:=jr (src:=src) (show (tk src c).fin≤c1 by exact ym0 o1); exact far [_,_,_,_] [.le qg (.p qb qh),.le (.p qj qh) qg,.le qa qj] (.le qa qb) rfl hn hcn this) (by exact yf0 (ye0 (yn0 _ _) hL) (yc0 rfl)) (by decide) (by simp only [vr0,vy0]; exact far [_,_] [.le qa (.n 60),.le qb qa] (.le (.p qh qb) qG) rfl hL (yn0 _ _)) (by rw [W12.deep]; exact h1) (by rw [W12.deep]; exact h2)
   rw [W12.deep] at lp
   rw [wq0,IB,UI]
   cases hr:(if (tk src c1).sg=.com then zw (qY src n) src ps.deep 63 (tk src c1).fin [k] else .ok (c1,[k])) with
   | error e =>
    rw [hr] at lp
    refine x2a2 lp fun p3 ρ' e3 F=>?_
    refine ⟨p3,?_,W12.fell F⟩
    rw [e3]
    rfl
   | ok r =>
    obtain ⟨c3,ks⟩:=r
    rw [hr] at lp
    refine x1a2 lp fun p3 e3 W3=>?_
    have W13:=W12.trans W3
    have an:=Mr (d:=d+11*n+8) (m0:=m0) (wd:=wd) (ext:=ext) G W3.sim
    change if xr (tk src c3).sg=true then ∃ ps',qk prog (d+11*n+14) 26 _ _=_∧_ else ∃ ps',qk prog (d+11*n+14) 26 _ _=_∧_ at an
    rw [e3]
    dsimp only
    by_cases hcl:xr (tk src c3).sg=true
    ·rw [if_pos hcl] at an ⊢
     refine x1a2 an fun p4 e4 W4=>?_
     refine ⟨p4,?_,W13.trans W4⟩
     exact jc<|sC e4<|rfl
    ·rw [if_neg hcl] at an ⊢
     refine x1a2 an fun p4 e4 F=>?_
     rw [W13.deep] at F
     refine ⟨p4,?_,W13.fell F⟩
     exact jc<|sX e4<|rfl
 ·rw [if_neg hlt]
  rw [if_neg hlt] at ns
  refine ⟨_,?_,S.fault ⟨some .lt,(tk src c).at_⟩ rfl⟩
  exact jc<|sX ns<|rfl
theorem yd (G:Good src) (D:Nat) {c:Nat} {ps:PS} {w:Int} (hw:w=1∨w=2) (S:Sim src c ps) (h1:-800<ps.deep) (h2:ps.deep<40) (ho:(tk src c).sg.letter=false∨wn src (tk src c).fin=false) :
  PK src m0 wd ext ps (qk prog (D+13) 17 [.ref 13,.int w] (hp m0 wd ext ps)) (if (tk src c).sg.letter=true then .ok ((tk src c).fin,.mk (tk src c).sg (tk src c).at_ []) else .error ⟨.kind,c,ps.deep+1⟩):=by
 have S1:=S.deep (x:=ps.deep+1)
 have A1:=S1.at G
 by_cases hl:(tk src c).sg.letter=true
 ·rw [if_pos hl]
  have ho':wn src (tk src c).fin=false:=ho.resolve_left (by rw [hl]; decide)
  have W1:=S1.stepW G (xh hl)
  have A2:=W1.sim.at G
  have e1:=Gf (d:=D) (m0:=m0) (wd:=wd) (ext:=ext) A1 hl A2 (by
   rcases zl (src:=src) (c:=(tk src c).fin) with ⟨q,_⟩ | ⟨_,q⟩
   ·rw [ho'] at q; exact ftB q
   ·exact q)
  have e2:=BP hw (by exact kv0 (by decide) h1) h2 (Uf A1 hl e1 A2) rfl (by rw [ksz,xZ]; exact yG0 _) (by rw [kht,yA]; exact yG0 _)
  exact ⟨_,e2,⟨W1.sim.drop,W1.sim.le,W1.sim.low,W1.sim.spl,W1.sim.rows⟩,XT.refl rfl rfl rfl,rfl,rfl⟩
 ·rw [if_neg hl]
  have hl':(tk src c).sg.letter=false:=by simpa using hl
  have e1:=uQ hw (by exact kv0 (by decide) h1) h2 (Kr (d:=D) A1 (Mi (m0:=m0) (wd:=wd) (ext:=ext) A1 hl' (by have:=S.rows; dsimp only; exact yf0 this (yc0 rfl))))
  exact ⟨_,e1,⟨S.drop,S.le,S.low,S.spl,S.rows⟩,XT.refl rfl rfl rfl,rfl,rfl⟩
theorem Iw (G:Good src):∀ n,n≤80→HP src m0 wd ext d n:=by
 intro n
 induction n with
 | zero =>
  intro _ c ps w hw S hn h1 h2
  rw [qY]
  refine yd G (d+11*0) hw S h1 (by exact ky0 (ku0 (kt0 _)) h2) (.inr ?_)
  rcases zl (src:=src) (c:=(tk src c).fin) with ⟨q,q2,_⟩ | ⟨q,_⟩
  ·have:=ur G.ch q2
   have:=jr (src:=src) (show c≤(tk src c).fin by
    have:=wY src c
    rw [yb]; exact Nat.le_add_right_of_le this)
   exact (far [_,_,_] [.le qa (.n 0),.le (.p qb qh) qg,.le qg qa] (.ff) rfl hn (by assumption) this).elim
  ·exact q
 | succ n ih =>
  intro h80 c ps w hw S hn h1 h2
  rw [qY]
  by_cases hl:(tk src c).sg.letter=true
  ·rw [if_pos hl]
   have l1:=jz (xh hl)
   have l2:=je G.ch S.le
   rcases zl (src:=src) (c:=(tk src c).fin) with ⟨q,q1,q2,q3⟩ | ⟨q,_⟩
   ·rw [if_pos q]
    have S1:=S.deep (x:=ps.deep+1)
    have A1:=S1.at G
    have W1:=S1.stepW G (xh hl)
    have A2:=W1.sim.at G
    have ha:=Yh G (ih (by exact ym0 h80)) (tk src c).fin _ W1.sim (by have:=jr (src:=src) (show c≤(tk src c).fin by exact ym0 l1); exact ye0 this hn) (by dsimp only; exact kv0 h1 (kJ0 (kA0 _))) (by dsimp only; exact o23 _ _ h2)
    dsimp only at ha
    have hD:d+11*(n+1)+4=d+11*n+15:=by exact rfl
    rw [← hD] at ha
    have af:=(za G (fun c deep h=>jj G n c deep h) (tk src c).fin (ps.deep+1) l2).1
    cases hs:qZ (qY src n) src (tk src c).fin (ps.deep+1) with
    | error e =>
     rw [hs] at ha
     refine x1a2 ha fun p3 e3 F=>?_
     dsimp only
     have e4:=uQ hw (by exact kv0 (by decide) h1) (by exact ky0 (ku0 (kt0 _)) h2) (Kr A1 (Ji A1 hl (Jc A1 hl A2 q2 q3 e3)))
     exact ⟨p3,e4,F.sim,XT.trans (p2:={ps with at_:=ps.at_+1,deep:=ps.deep+1}) (XT.refl rfl rfl rfl) F.ext,F.rows,F.deep⟩
    | ok r =>
     obtain ⟨c',ks⟩:=r
     rw [hs] at ha
     refine x1a2 ha fun p3 e3 W3=>?_
     dsimp only
     have o:=af c' ks hs
     have a1:=o.lt; have a2:=o.sz; have a3:=o.ht; have a4:=o.le
     have hL:=G.len
     have e4:=BP hw (by exact kv0 (by decide) h1) (by exact ky0 (ku0 (kt0 _)) h2) (Uf A1 hl (Gg A1 hl A2 q2 q3 e3) (W3.sim.at G)) W3.deep (by rw [ksz]; exact far [_,_,_,_] [.le qa qg,.le qb qj,.le qj (.n 60),.le qg qb] (.le (.p qa qh) qP) rfl a2 a4 hL (yn0 _ _)) (by rw [kht]; exact yf0 (ye0 a3 h80) (yc0 rfl))
     exact ⟨_,e4,W3.sim.deep,XT.trans (p2:={ps with at_:=ps.at_+1,deep:=ps.deep+1}) (XT.refl rfl rfl rfl) (W3.ext.trans (XT.refl rfl rfl rfl)),W3.rows,rfl⟩
   ·rw [if_neg (by rw [q]; decide)]
    have:=yd (m0:=m0) (wd:=wd) (ext:=ext) G (d+11*(n+1)) hw S h1 (by exact ky0 (ku0 (kt0 _)) h2) (.inr q)
    rw [if_pos hl] at this
    exact this
  ·rw [if_neg hl]
   have:=yd (m0:=m0) (wd:=wd) (ext:=ext) G (d+11*(n+1)) hw S h1 (by exact ky0 (ku0 (kt0 _)) h2) (.inl (by simpa using hl))
   rw [if_neg hl] at this
   exact this
end
noncomputable def zQ (ps:PS):Mk:=⟨ps.at_,ps.rows.length,ps.splits.length,ps.deep⟩
noncomputable def jV (ps:PS) (m:Mk) (n:Nat):PS:=⟨xN (ps.splits.drop m.splits) ps.toks,m.at_,ps.rows.take m.told,m.deep,ps.splits.take m.splits,ps.saved.take n⟩
section
variable {d n:Nat} {m0 wd:O} {ps ps':PS} {ext:H} {σ:H} {v:V} {call mk:Nat→List V→H→RC} {m:Mk} {x0 x1 x2 x3:Option LV}
theorem XH:mkD prog (d+1) 3 [.ref 13] (hp m0 wd ext ps)=.ok (mkV (zQ ps)) (hp m0 wd ext ps):=by
 rw [vj (k:=US) (ρ:=[none,some (.val (.ref 13))]) rfl rfl rfl]
 have l1:(ps.rows.map dgV).length=ps.rows.length:=vq0 ..
 have l2:(ps.splits.map spV).length=ps.splits.length:=vq0 ..
 show _=RC.ok (mkV ⟨ps.at_,ps.rows.length,ps.splits.length,ps.deep⟩) _
 rw [← l1,← l2]
 rfl
theorem NP {ρ:List (Option LV)} (h:ps.saved.length<4000):YI ⟨ρ,hp m0 wd ext ps⟩ (.ref 12) (mkV m)=.ok .next ⟨ρ,hp m0 wd ext {ps with saved:=ps.saved++[m]}⟩:=by
 show (if (ps.saved.map mkV).length<qD then R.ok Flow.next ⟨ρ,(hp m0 wd ext ps).set 12 (.list (ps.saved.map mkV++[mkV m]))⟩ else R.bad)=_
 rw [if_pos (by rw [vq0]; unfold qD; exact yd0 h)]
 unfold hp
 rw [vL0]
 rfl
theorem Us (h:ps.saved.length<4000):qk prog (d+2) 18 [.ref 13] (hp m0 wd ext ps)=.ok (.int ps.saved.length) (hp m0 wd ext {ps with saved:=ps.saved++[zQ ps]}):=by
 have hlen:(ps.saved++[zQ ps]).length=ps.saved.length+1:=by rw [vt0]; rfl
 have e2:jS .sub (.int (((ps.saved++[zQ ps]).map mkV).length:Int)) (.int 1)=some (.int ps.saved.length):=by
  rw [vq0,Kw (qM (by exact far [_,_] [.lt qb (.n 4000),.eq qa (.p qb qh)] (.lt qa (.n 1000000)) rfl h hlen)) (show okI 1=true by rfl)]
  congr 2
  exact o24 _ _ hlen
 have a1:=NP (m0:=m0) (wd:=wd) (ext:=ext) (ps:=ps) (m:=zQ ps) (ρ:=[some (.val (.ref 13))]) h
 exact js (k:=vz) (ρ:=[some (.val (.ref 13))]) rfl rfl<|sC (XH (d:=d) (m0:=m0) (wd:=wd) (ext:=ext) (ps:=ps))<|sK a1<|sO e2<|rfl
theorem QQ {r n:Nat} (hn:n<100000):∀ (k f:Nat) (σ:H) (vs:List V),σ[r]?=some (.list vs)→vs.length-n≤k→k<f→vs.length<100000→yF prog call mk (.cmp .gt (.len qc) qi) (.cons (.expr (.pop qc)) .nil) f ⟨[some (.val (.ref r)),some (.val (.int n))],σ⟩ =
  .ok .next ⟨[some (.val (.ref r)),some (.val (.int n))],σ.set r (.list (vs.take n))⟩:=by
 intro k
 induction k with
 | zero =>
  intro f σ vs hσ hk hf hv
  obtain ⟨f,rfl⟩:∃ g,f=g+1:=⟨f-1,by exact (yg0 hf).symm⟩
  have e1:zb (.ref r) σ=some (vs.length:Int):=by simp only [zb,vh,hσ]
  have e2:qF .gt (.int (vs.length:Int)) (.int n)=some false:=by show some _=_; congr 1; exact decide_eq_false (by exact o25 _ _ hk)
  rw [jf,vQ0 (by exact yz0 (yy0 hk)),yv hσ]
  exact xV<|sO e1<|sF2 e2<|rfl
 | succ k ih =>
  intro f σ vs hσ hk hf hv
  obtain ⟨f,rfl⟩:∃ g,f=g+1:=⟨f-1,by exact (yg0 (far [_,_] [.lt (.p qb qh) qa] (.le qh qa) rfl hf)).symm⟩
  have e1:zb (.ref r) σ=some (vs.length:Int):=by simp only [zb,vh,hσ]
  by_cases hlt:n<vs.length
  ·have e2:qF .gt (.int (vs.length:Int)) (.int n)=some true:=by show some _=_; congr 1; exact decide_eq_true (by exact kw0.mpr hlt)
   rcases wB0 vs with rfl | ⟨vs',x,rfl⟩
   ·simp at hlt
   ·rw [wC0] at hσ hlt hk hv e1 e2 ⊢
    have g2:(vs'++[x]).getLast?=some x:=by simp
    have g3:(vs'++[x]).dropLast=vs':=by simp
    rw [vt0,vr0,vy0] at hlt hk hv
    have hr:r<σ.length:=(vv0.mp hσ).1
    have:=ih f (σ.set r (.list vs')) vs' (wp0 hr) (by exact yl0.mpr (far [_,_,_,_] [.le qj (.p qb qh),.le (.p qa qh) (.p qj qg)] (.le qa (.p qb qg)) rfl hk (lsa _ _))) (by exact yj0 hf) (by exact yx0 hv)
    rw [wU0] at this
    rw [jf,vF0 (by exact yj0 hlt),← this]
    exact xV<|sO e1<|sT2 e2<|sO hσ<|sO g2<|congrArg (fun l=>yF prog call mk (.cmp .gt (.len qc) qi) (.cons (.expr (.pop qc)) .nil) f ⟨[some (.val (.ref r)),some (.val (.int n))],σ.set r (.list l)⟩) g3
  ·have e2:qF .gt (.int (vs.length:Int)) (.int n)=some false:=by show some _=_; congr 1; exact decide_eq_false (by exact kD0.mpr (kB0.mpr (yo0 hlt)))
   rw [jf,vQ0 (by exact yo0 hlt),yv hσ]
   exact xV<|sO e1<|sF2 e2<|rfl
theorem ZJ {r n:Nat} {vs:List V} (hn:n<100000) (h:σ[r]?=some (.list vs)) (hv:vs.length<900):qk prog (d+1) 3 [.ref r,.int n] σ=.ok .none (σ.set r (.list (vs.take n))):=by
 have e:=QQ (call:=qk prog d) (mk:=mkD prog d) hn vs.length qy σ vs h (by exact yn0 _ _) (by unfold qy; exact yd0 hv) (by exact yd0 hv)
 exact js (k:=Am) (ρ:=[some (.val (.ref r)),some (.val (.int n))]) rfl rfl<|sK e<|rfl
theorem Mq {n:Nat} (hn:n<100000) (hr:ps.rows.length<900):qk prog (d+1) 3 [.ref 2,.int n] (hp m0 wd ext ps)=.ok .none (hp m0 wd ext {ps with rows:=ps.rows.take n}):=by
 rw [ZJ hn hp2 (by rw [vq0]; exact hr),← wr0]
 rfl
theorem Jj {n:Nat} (hn:n<100000) (hr:ps.saved.length<900):qk prog (d+1) 3 [.ref 12,.int n] (hp m0 wd ext ps)=.ok .none (hp m0 wd ext {ps with saved:=ps.saved.take n}):=by
 rw [ZJ hn xt0 (by rw [vq0]; exact hr),← wr0]
 rfl
theorem NI {n:Nat} (hn:n<100000) (m:Mk) (hm:m.splits=n):∀ (k f:Nat) (ps:PS) (x2 x3:Option LV),ps.splits.length-n≤k→k<f→ps.splits.length<100000→(∀ s∈ps.splits,s.1<ps.toks.length)→∃ y2 y3,yF prog call mk (.cmp .gt (.len (.attr qi 12)) (.attr qc 12)) (.cons (.unpack [2,3] (.pop (.attr qi 12))) (.cons (.setIdx (.attr qi 24) qm qt) .nil)) f ⟨[some (.val (mkV m)),some (.val (.ref 13)),x2,x3],hp m0 wd ext ps⟩ =
  .ok .next ⟨[some (.val (mkV m)),some (.val (.ref 13)),y2,y3],hp m0 wd ext {ps with toks:=xN (ps.splits.drop n) ps.toks,splits:=ps.splits.take n}⟩:=by
 intro k
 induction k with
 | zero =>
  intro f ps x2 x3 hk hf hv hs
  obtain ⟨f,rfl⟩:∃ g,f=g+1:=⟨f-1,by exact (yg0 hf).symm⟩
  have e2:qF .gt (.int ((ps.splits.map spV).length:Int)) (.int m.splits)=some false:=by rw [vq0]; exact congrArg some<|decide_eq_false (by exact o26 _ _ _ hm hk)
  refine (c2a1 x2 x3 ?_)
  rw [jf,vQ0 (by exact yz0 (yy0 hk)),wo0 (by exact yz0 (yy0 hk))]
  exact xV<|sF2 e2<|rfl
 | succ k ih =>
  intro f ps x2 x3 hk hf hv hs
  obtain ⟨f,rfl⟩:∃ g,f=g+1:=⟨f-1,by exact (yg0 (far [_,_] [.lt (.p qb qh) qa] (.le qh qa) rfl hf)).symm⟩
  by_cases hlt:n<ps.splits.length
  ·have e2:qF .gt (.int ((ps.splits.map spV).length:Int)) (.int m.splits)=some true:=by rw [vq0]; exact congrArg some<|decide_eq_true (by exact o27 _ _ _ hm hlt)
   obtain ⟨toks,at_,rows,deep,splits,saved⟩:=ps
   dsimp only at hk hv hs hlt e2 ⊢
   rcases wB0 splits with rfl | ⟨S,s,rfl⟩
   ·simp at hlt
   ·rw [wC0] at hlt hk hv hs e2 ⊢
    rw [vt0,vr0,vy0] at hlt hk hv
    have hs1:=hs s (by simp)
    have g2:((S++[s]).map spV).getLast?=some (.tup [.int s.1,zc s.2]):=by rw [vL0]; simp [spV]
    have g3:((S++[s]).map spV).dropLast=S.map spV:=by rw [vL0]; simp
    have hset:(hp m0 wd ext ⟨toks,at_,rows,deep,S++[s],saved⟩).set 11 (.list (S.map spV))=hp m0 wd ext ⟨toks,at_,rows,deep,S,saved⟩:=rfl
    have sto:=wF (m0:=m0) (wd:=wd) (ext:=ext) (ps:=⟨toks,at_,rows,deep,S,saved⟩) (i:=s.1) (t:=s.2) (ρ:=[some (.val (mkV m)),some (.val (.ref 13)),some (.val (.int s.1)),some (.val (zc s.2))]) hs1
    dsimp only at sto
    refine x2a1 (ih f ⟨toks.set s.1 s.2,at_,rows,deep,S,saved⟩ (some (.val (.int s.1))) (some (.val (zc s.2))) (by dsimp only; exact yl0.mpr (far [_,_,_,_] [.le qj (.p qb qh),.le (.p qa qh) (.p qj qg)] (.le qa (.p qb qg)) rfl hk (lsa _ _))) (by exact yj0 hf) (by dsimp only; exact yx0 hv) (fun q hq=>by dsimp only; rw [vS0]; exact hs q (wD0 _ hq))) fun y2 y3 e=>?_
    dsimp only at e
    refine (c2a1 y2 y3 ?_)
    rw [jf,vF0 (by exact yj0 hlt),vY0 (by exact yj0 hlt),zE,(show xN [s] toks=toks.set s.1 s.2 from rfl),← e]
    rw [← hset,← g3] at sto
    exact xV<|sT2 e2<|sO g2<|sK sto<|rfl
  ·have e2:qF .gt (.int ((ps.splits.map spV).length:Int)) (.int m.splits)=some false:=by rw [vq0]; exact congrArg some<|decide_eq_false (by exact o28 _ _ _ hm hlt)
   refine (c2a1 x2 x3 ?_)
   rw [jf,vQ0 (by exact yo0 hlt),wo0 (by exact yo0 hlt)]
   exact xV<|sF2 e2<|rfl
theorem Mc (hr:ps.rows.length<900) (hsl:ps.splits.length<900) (ht:m.told<100000) (hp':m.splits<100000) (hs:∀ s∈ps.splits,s.1<ps.toks.length):qk prog (d+2) 2 [mkV m,.ref 13] (hp m0 wd ext ps) =
  .ok .none (hp m0 wd ext ⟨xN (ps.splits.drop m.splits) ps.toks,m.at_,ps.rows.take m.told,m.deep,ps.splits.take m.splits,ps.saved⟩):=by
 rw [qz (k:=yi) (ρ:=[some (.val (mkV m)),some (.val (.ref 13)),none,none]) rfl rfl]
 obtain ⟨toks,at_,rows,deep,splits,saved⟩:=ps
 dsimp only at hr hsl hs
 refine x2a1 (NI (call:=qk prog (d+1)) (mk:=mkD prog (d+1)) (m0:=m0) (wd:=wd) (ext:=ext) hp' m rfl splits.length qy ⟨toks,m.at_,rows.take m.told,deep,splits,saved⟩ none none (by dsimp only; exact yn0 _ _) (by unfold qy; exact yd0 hsl) (by dsimp only; exact yd0 hsl) hs) fun y2 y3 e=>?_
 have ec:=Mq (d:=d) (m0:=m0) (wd:=wd) (ext:=ext) (ps:=⟨toks,m.at_,rows,deep,splits,saved⟩) ht hr
 dsimp only at e ec
 exact jc<|sC ec<|sK e<|rfl
theorem MH {i:Nat} (h:ps.saved[i]?=some m) (hl:i<1000):zB (.ref 12) (.int i) (hp m0 wd ext ps)=some (mkV m):=by
 show (if ((i:Int)<0||!okI (i:Int))=true then none else (ps.saved.map mkV)[(i:Int).toNat]?)=_
 rw [if_neg (ku (by exact yd0 hl)),show ((i:Int)).toNat=i from rfl,vG0,h]
 rfl
theorem uP {i:Nat} (h:ps.saved[i]?=some m) (hl:ps.saved.length<900):qk prog (d+2) 21 [.ref 13,.int i] (hp m0 wd ext ps)=.ok (mkV m) (hp m0 wd ext {ps with saved:=ps.saved.take i}):=by
 have hi:=(vv0.mp h).1
 have e2:qF .ge (.int i) (.int ((ps.saved.map mkV).length:Int))=some false:=by rw [vq0]; exact congrArg some<|decide_eq_false (by exact kQ0.mpr (kw0.mpr hi))
 exact js (k:=kR) (ρ:=[some (.val (.ref 13)),some (.val (.int i)),none]) rfl rfl<|sF2 e2<|sO (MH h (show i<1000 by exact far [_,_] [.lt qb qP,.lt qa qb] (.lt qa qG) rfl hl hi))<|sC (Jj (show i<100000 by exact far [_,_] [.lt qb qP,.lt qa qb] (.lt qa (.n 100000)) rfl hl hi) hl)<|rfl
theorem Uv {i:Nat} (h:ps.saved[i]?=some m) (hl:ps.saved.length<900) (hr:ps.rows.length<900) (hsl:ps.splits.length<900) (ht:m.told<100000) (hp':m.splits<100000) (hs:∀ s∈ps.splits,s.1<ps.toks.length) :
  qk prog (d+3) 19 [.ref 13,.int i] (hp m0 wd ext ps)=.ok .none (hp m0 wd ext (jV ps m i)):=by
 have e1:=uP (d:=d) (m0:=m0) (wd:=wd) (ext:=ext) h hl
 have e2:=Mc (d:=d) (m0:=m0) (wd:=wd) (ext:=ext) (m:=m) (ps:={ps with saved:=ps.saved.take i}) hr hsl ht hp' hs
 exact js (k:=vC) (ρ:=[some (.val (.ref 13)),some (.val (.int i))]) rfl rfl<|sC e1<|sC e2<|rfl
theorem Uu {i:Nat} (h:ps.saved[i]?=some m) (hl:ps.saved.length<900):qk prog (d+3) 20 [.ref 13,.int i] (hp m0 wd ext ps)=.ok .none (hp m0 wd ext {ps with saved:=ps.saved.take i}):=by
 have e1:=uP (d:=d) (m0:=m0) (wd:=wd) (ext:=ext) h hl
 exact js (k:=vA) (ρ:=[some (.val (.ref 13)),some (.val (.int i))]) rfl rfl<|sC e1<|rfl
end
noncomputable def shE {α:Type} (x:Int):Except Err α→Except Err α
 | .ok r=>.ok r
 | .error e=>.error ⟨e.tag,e.c,e.deep+x⟩
noncomputable def Gk (ks:List K) (a:Nat):V:=.obj 5 [.int 71,.str [],.lst (nsV ks),.int 0,.int a,.int 0]
structure Pos (ps:PS):Prop where
 pos:∀ s∈ps.splits,s.1<ps.toks.length
 saved:ps.saved.length≤100
section
variable {d n:Nat} {m0 wd:O} {ps ps':PS} {ext:H} {src:List Nat} {c:Nat} {σ:H} {v:V} {t t':Tk} {call mk:Nat→List V→H→RC}
theorem XS {kind:Nat→Int→Except Err (Nat×K)} {x:Int} (H:∀ c deep,kind c (deep+x)=shE x (kind c deep)) (deep:Int):∀ (m c:Nat) (acc:List K),zw kind src (deep+x) m c acc=shE x (zw kind src deep m c acc):=by
 intro m
 induction m with
 | zero=>intro c acc; rw [zw,zw]; rfl
 | succ m ih =>
  intro c acc
  rw [zw,zw,show deep+x+1=deep+1+x by exact o29 _ _,H]
  cases kind c (deep+1) with
  | error e=>rfl
  | ok r =>
   obtain ⟨c',k⟩:=r
   simp only [shE]
   split
   ·exact ih _ _
   ·rfl
theorem DA {kind:Nat→Int→Except Err (Nat×K)} {x:Int} (H:∀ c deep,kind c (deep+x)=shE x (kind c deep)) (deep:Int) (c:Nat):qZ kind src c (deep+x)=shE x (qZ kind src c deep):=by
 unfold qZ
 split
 ·rw [XS H]
  cases zw kind src deep 64 (tk src c).fin [] with
  | error e=>rfl
  | ok r =>
   obtain ⟨c',ks⟩:=r
   simp only [shE]
   split <;> rfl
 ·rfl
theorem XY (x:Int):∀ (n c:Nat) (deep:Int),qY src n c (deep+x)=shE x (qY src n c deep):=by
 intro n
 induction n with
 | zero=>intro c deep; rw [qY,qY]; split <;> rfl
 | succ n ih =>
  intro c deep
  rw [qY,qY]
  split
  ·split
   ·rw [DA ih]
    cases qZ (qY src n) src (tk src c).fin deep with
    | error e=>rfl
    | ok r=>rfl
   ·rfl
  ·rfl
theorem Pos.of (P:Pos ps) (X:XT ps ps'):Pos ps':=by
 refine x1a1 X fun k uQ0=>?_; obtain ⟨⟨new,h1,h2,h3,h4⟩,h5,h6⟩:=uQ0
 refine ⟨fun s hs=>?_,by rw [h6]; exact P.saved⟩
 rw [h1] at hs
 rw [h5]
 exact (vH0.mp hs).elim (P.pos s) (h4 s)
theorem uJ {p2 p3:PS} (h1:p2.toks=ps.toks) (h2:p2.splits=ps.splits) (h3:p2.saved=ps.saved++[zQ ps]) (X:XT p2 p3) (hr:p3.rows.take ps.rows.length=ps.rows):jV p3 (zQ ps) ps.saved.length=ps:=by
 refine x1a1 X fun k uQ0=>?_; obtain ⟨⟨new,e1,e2,_,_⟩,_,e3⟩:=uQ0
 unfold jV zQ
 dsimp only
 rw [e1,e3,h2,h3,hr,vF0 (yh0 _),vT0,vY0 (yh0 _),wS0,wq0,e2,h1,vF0 (yh0 _),vT0]
theorem jk0 (G:Good src) (S:Sim src c ps) (P:Pos ps) (hn:cnt src c≤n+1) (hn8:n≤80) (h1:-700<ps.deep) (h2:ps.deep+n<40) :
  match qZ (qY src n) src c ps.deep with
  | .ok (c1,ks)=>if (tk src c1).sg=.lp then ∃ ps',qk prog (d+11*n+16) 48 [.ref 13] (hp m0 wd ext ps)=.ok (Gk ks (tk src c).at_) (hp m0 wd ext ps')∧Went src ps c1 ps' else qk prog (d+11*n+16) 48 [.ref 13] (hp m0 wd ext ps)=.ok .none (hp m0 wd ext ps)
  | .error _=>qk prog (d+11*n+16) 48 [.ref 13] (hp m0 wd ext ps)=.ok .none (hp m0 wd ext ps):=by
 have A:=S.at G
 have hsv:=P.saved
 have hrw:=S.rows
 have hsp:=S.spl
 have mm:=Us (d:=d+11*n+13) (m0:=m0) (wd:=wd) (ext:=ext) (ps:=ps) (by exact yf0 hsv (yc0 rfl))
 change qk prog (d+11*n+15) 18 _ _=_ at mm
 have S2:Sim src c {ps with saved:=ps.saved++[zQ ps],deep:=ps.deep-1}:=⟨S.drop,S.le,S.low,S.spl,S.rows⟩
 have ha:=Yh (m0:=m0) (wd:=wd) (ext:=ext) (d:=d) G (Iw (m0:=m0) (wd:=wd) (ext:=ext) (d:=d) G n hn8) c _ S2 hn (by dsimp only; exact o30 _ h1) (by dsimp only; exact o31 _ _ h2)
 dsimp only at ha
 have sh:=DA (src:=src) (fun c deep=>XY (src:=src) (-1) n c deep) ps.deep c
 rw [show ps.deep+-1=ps.deep-1 by exact rfl] at sh
 have sub1:=NJ (ki (i:=ps.deep) (by exact kv0 (by decide) h1) (by exact kv0 (ky0 (ku0 (kt0 _)) h2) (by decide))) (show okI 1=true by rfl)
 have sav:(ps.saved++[zQ ps])[ps.saved.length]?=some (zQ ps):=by rw [vz0 (yh0 _),yt0]; rfl
 have back:∀ p3:PS,XT {ps with saved:=ps.saved++[zQ ps],deep:=ps.deep-1} p3→p3.rows.take ps.rows.length=ps.rows→p3.rows.length<900→p3.splits.length<900→qk prog (d+11*n+15) 19 [.ref 13,.int ps.saved.length] (hp m0 wd ext p3)=.ok .none (hp m0 wd ext ps):=by
  intro p3 X hr hr9 hs9
  have e1:=uJ (ps:=ps) (p2:={ps with saved:=ps.saved++[zQ ps],deep:=ps.deep-1}) rfl rfl rfl X hr
  refine x1a1 X fun k uQ0=>?_; obtain ⟨⟨new,x1,x2,x3,x4⟩,x5,x6⟩:=uQ0
  have e2:=Uv (d:=d+11*n+12) (m0:=m0) (wd:=wd) (ext:=ext) (ps:=p3) (m:=zQ ps) (i:=ps.saved.length) (by rw [x6]; exact sav) (by rw [x6]; dsimp only; rw [vt0,vr0,vy0]; exact far [_] [.le qa (.n 100)] (.lt (.p qa qh) qP) rfl hsv) hr9 hs9 (by unfold zQ; dsimp only; exact yf0 hrw (yc0 rfl)) (by unfold zQ; dsimp only; exact far [_,_] [.le (.p qa (.m 2 qb)) qQ] (.lt qa (.n 100000)) rfl hsp) (fun s hs=>by
   rw [x1] at hs
   rw [x5]
   exact (vH0.mp hs).elim (P.pos s) (x4 s))
  rw [e1] at e2
  exact e2
 cases hs:qZ (qY src n) src c ps.deep with
 | error e =>
  rw [hs] at sh
  change _=Except.error _ at sh
  rw [sh] at ha
  refine x1a2 ha fun p3 e3 F=>?_
  dsimp only
  have b3:=back p3 F.ext (by rw [F.rows]; dsimp only; rw [vF0 (yh0 _),vT0]) (by rw [F.rows,vt0,vr0,vy0]; dsimp only; exact far [_] [.le qa (.n 500)] (.lt (.p qa qh) qP) rfl hrw) (by have:=F.sim.spl; dsimp only at this; exact far [_,_] [.le (.p qa (.m 2 qb)) qQ] (.lt qa qP) rfl this)
  exact js (k:=zN) (ρ:=[some (.val (.ref 13)),none,none,none,none,none]) rfl rfl<|sC (jQ A)<|sC mm<|sO sub1<|sX e3<|sC b3<|rfl
 | ok r =>
  obtain ⟨c1,ks⟩:=r
  rw [hs] at sh
  change _=Except.ok _ at sh
  rw [sh] at ha
  refine x1a2 ha fun p3 e3 W=>?_
  have A3:=W.sim.at G
  have add1:=Bo (ki (i:=p3.deep) (by rw [W.deep]; dsimp only; exact o32 _ h1) (by rw [W.deep]; dsimp only; exact o33 _ _ h2)) (show okI 1=true by rfl)
  have hd4:p3.deep+1=ps.deep:=by rw [W.deep]; dsimp only; exact Int.sub_add_cancel _ _
  rw [hd4] at add1
  have A4:At {p3 with deep:=ps.deep} (tk src c1):=⟨A3.here,A3.low⟩
  have is4:=zG (d:=d+11*n+13) (m0:=m0) (wd:=wd) (ext:=ext) A4 ju0
  change qk prog (d+11*n+15) 7 _ _=_ at is4
  rw [jy0] at is4
  have nw4:=jQ (d:=d+11*n+14) (m0:=m0) (wd:=wd) (ext:=ext) A4
  change qk prog (d+11*n+15) 4 _ _=_ at nw4
  dsimp only
  rw [qz (k:=zN) (ρ:=[some (.val (.ref 13)),none,none,none,none,none]) rfl rfl]
  have X34:XT {ps with saved:=ps.saved++[zQ ps],deep:=ps.deep-1} {p3 with deep:=ps.deep}:=W.ext.trans (XT.refl rfl rfl rfl)
  by_cases hlp:(tk src c1).sg=.lp
  ·rw [if_pos hlp]
   have hb:((tk src c1).sg==.lp)=true:=by rw [hlp]; rfl
   refine x1a1 X34 fun k uQ0=>?_; obtain ⟨⟨new,x1,x2,x3,x4⟩,x5,x6⟩:=uQ0
   have kp:=Uu (d:=d+11*n+12) (m0:=m0) (wd:=wd) (ext:=ext) (ps:={p3 with deep:=ps.deep}) (m:=zQ ps) (i:=ps.saved.length) (by rw [x6]; exact sav) (by rw [x6]; dsimp only; rw [vt0,vr0,vy0]; exact far [_] [.le qa (.n 100)] (.lt (.p qa qh) qP) rfl hsv)
   change qk prog (d+11*n+15) 20 _ _=_ at kp
   refine ⟨{p3 with deep:=ps.deep,saved:=ps.saved},?_,⟨W.sim.drop,W.sim.le,W.sim.low,W.sim.spl,W.sim.rows⟩,⟨k,(c1a4 new x1 x2 x3 x4),x5,rfl⟩,W.rows,rfl⟩
   have hsv3:p3.saved.take ps.saved.length=ps.saved:=by rw [show p3.saved=ps.saved++[zQ ps] from x6,vF0 (yh0 _),vT0]
   dsimp only at kp
   rw [hsv3] at kp
   exact jc<|sC (jQ A)<|sC mm<|sO sub1<|sC e3<|sO add1<|sC is4<|sC nw4<|sC wq<|sT hb<|sC kp<|sC Ii<|rfl
  ·rw [if_neg hlp]
   have hb:((tk src c1).sg==.lp)=false:=by rw [beq_eq_false_iff_ne]; exact hlp
   have b3:=back _ X34 (by dsimp only; rw [W.rows]; dsimp only; rw [vT0]) (by dsimp only; rw [W.rows]; dsimp only; exact yf0 hrw (yc0 rfl)) (by have:=W.sim.spl; dsimp only; exact far [_,_] [.le (.p qa (.m 2 qb)) qQ] (.lt qa qP) rfl this)
   exact jc<|sC (jQ A)<|sC mm<|sO sub1<|sC e3<|sO add1<|sC is4<|sC nw4<|sC wq<|sF hb<|sC b3<|rfl
theorem Xm (G:Good src) (H:HP src m0 wd ext d n) {c:Nat} {ps:PS} (S:Sim src c ps) (hn:cnt src c≤n) (h1:-800<ps.deep) (h2:ps.deep+n<40) :
  PK src m0 wd ext ps (qk prog (d+11*n+14) 46 [.ref 13] (hp m0 wd ext ps)) (qY src n c (ps.deep+1)):=by
 have h:=H c ps 2 (.inr rfl) S hn h1 h2
 have A:=S.at G
 have es:=jI (d:=d+11*n+10) (m0:=m0) (wd:=wd) (ext:=ext) A XR
 change qk prog (d+11*n+13) 10 _ _=_ at es
 rw [OB] at es
 rw [qz (k:=kS) (ρ:=[some (.val (.ref 13)),none]) rfl rfl]
 cases hk:qY src n c (ps.deep+1) with
 | ok r =>
  obtain ⟨c',k⟩:=r
  rw [hk] at h
  refine x1a2 h fun ps' e W=>?_
  refine ⟨ps',?_,W⟩
  exact jc<|sC (jQ A)<|sC es<|sC e<|rfl
 | error e =>
  rw [hk] at h
  refine x1a2 h fun ps' e W=>?_
  refine ⟨ps',?_,W⟩
  exact jc<|sC (jQ A)<|sC es<|sX e<|rfl
theorem Jo (G:Good src) (hn8:n≤80) (H:HP src m0 wd ext d n) (x1 x2:Option LV):∀ (m f c:Nat) (acc:List K) (ps:PS),Sim src c ps→cnt src c≤n→src.length-c<m→m<f→acc.length+(src.length-c)≤1000→-800<ps.deep→ps.deep+n<40 →
  match (if (tk src c).sg=.rp then .ok (c,acc) else vm (qY src n) src ps.deep m c acc) with
  | .ok (c',ks)=>∃ ps',yF prog (qk prog (d+11*n+15)) mk (.not (.meth qc 14 (.cons jT .nil))) (.cons (.appendOwn 3 (.callF 46 (.cons qc .nil))) (.cons (.ifs (.not (.meth qc 13 (.cons qR .nil))) (.cons .brk .nil) .nil) .nil)) f ⟨[some (.val (.ref 13)),x1,x2,some (.own (nsV acc))],hp m0 wd ext ps⟩=.ok .next ⟨[some (.val (.ref 13)),x1,x2,some (.own (nsV ks))],hp m0 wd ext ps'⟩∧Went src ps c' ps'
  | .error e=>∃ ps' ρ',yF prog (qk prog (d+11*n+15)) mk (.not (.meth qc 14 (.cons jT .nil))) (.cons (.appendOwn 3 (.callF 46 (.cons qc .nil))) (.cons (.ifs (.not (.meth qc 13 (.cons qR .nil))) (.cons .brk .nil) .nil) .nil)) f ⟨[some (.val (.ref 13)),x1,x2,some (.own (nsV acc))],hp m0 wd ext ps⟩=.exc ⟨ρ',hp m0 wd ext ps'⟩∧Fell src ps e ps':=by
 intro m
 induction m with
 | zero=>intro f c acc ps S hn hm; exact o22 _ _ _ _ _ _ _ hm
 | succ m ih =>
  intro f c acc ps S hn hm hf ha h1 h2
  obtain ⟨f,rfl⟩:∃ g,f=g+1:=⟨f-1,by exact (yg0 (far [_,_] [.lt (.p qb qh) qa] (.le qh qa) rfl hf)).symm⟩
  have A:=S.at G
  have is0:=zG (d:=d+11*n+13) (m0:=m0) (wd:=wd) (ext:=ext) A jt0
  change qk prog (d+11*n+15) 7 _ _=_ at is0
  rw [jx0] at is0
  rw [jf]
  by_cases hrp:(tk src c).sg=.rp
  ·rw [if_pos hrp]
   have hb:((tk src c).sg==.rp)=true:=by rw [hrp]; rfl
   refine ⟨ps,?_,S,XT.refl rfl rfl rfl,rfl,rfl⟩
   exact xV<|sC is0<|sT hb<|rfl
  ·rw [if_neg hrp]
   have hb:((tk src c).sg==.rp)=false:=by rw [beq_eq_false_iff_ne]; exact hrp
   have hal:(nsV acc).length<4096:=by rw [kn]; exact far [_,_] [.le (.p qa qb) qG] (.lt qa qJ) rfl ha
   have hk':PK src m0 wd ext ps (qk prog (d+11*n+15) 46 [.ref 13] (hp m0 wd ext ps)) (qY src n c (ps.deep+1)):=by
    have H1:HP src m0 wd ext (d+1) n:=Iw (d:=d+1) G n hn8
    have:=Xm G H1 S hn h1 h2
    rw [show d+1+11*n+14=d+11*n+15 by exact yk0 (far [_,_] [] (.le (.p (.p (.p qa qh) (.m 11 qb)) (.n 14)) (.p (.p qa (.m 11 qb)) (.n 15))) rfl) (far [_,_] [] (.le (.p (.p qa (.m 11 qb)) (.n 15)) (.p (.p (.p qa qh) (.m 11 qb)) (.n 14))) rfl)] at this
    exact this
   rw [vm]
   cases hkk:qY src n c (ps.deep+1) with
   | error e =>
    rw [hkk] at hk'
    refine x1a2 hk' fun p2 e2 F=>?_
    dsimp only
    refine (c2a2 p2 [some (.val (.ref 13)),x1,x2,some (.own (nsV acc))] ?_ F)
    exact xV<|sC is0<|sF hb<|sX e2<|rfl
   | ok r =>
    obtain ⟨c1,k⟩:=r
    rw [hkk] at hk'
    refine x1a2 hk' fun p2 e2 W2=>?_
    dsimp only
    have okk:=(jj G n c (ps.deep+1) S.le).1 c1 k hkk
    have o1:=okk.lt
    have A2:=W2.sim.at G
    have es:=jI (d:=d+11*n+12) (m0:=m0) (wd:=wd) (ext:=ext) A2 BU
    change qk prog (d+11*n+15) 10 _ _=_ at es
    rw [BZ] at es
    by_cases hcom:(tk src c1).sg=.com
    ·rw [if_pos hcom]
     have hne:(tk src c1).sg≠.fin:=by rw [hcom]; decide
     have hb2:((tk src c1).sg==.com)=true:=by rw [hcom]; rfl
     have l1:=jz hne
     have l2:=je G.ch okk.le
     have W3:=W2.sim.stepW G hne
     obtain ⟨q,hq⟩:∃ q:PS,q={p2 with at_:=p2.at_+1}:=⟨_,rfl⟩
     rw [← hq] at es W3
     have W13:=W2.trans W3
     have:=ih f (tk src c1).fin (acc++[k]) q W3.sim (by have:=jr (src:=src) (show c≤(tk src c1).fin by exact ym0 (yA0 o1 l1)); exact ye0 this hn) (by exact far [_,_,_,_,_,_,_] [.lt (.v 5) (.p qj qh),.lt qw (.v 6),.lt (.v 6) qb,.le (.p qg qb) qa,.le qa (.p (.v 5) qw)] (.lt qg qj) rfl hm o1 l1 (yi0 (yg0 (far [_,_] [.le qb qa] (.le qb qa) rfl l2))) (lsa _ _)) (by exact yj0 hf) (by rw [vt0]; simp only [vr0,vy0]; exact far [_,_,_,_,_,_,_] [.le (.p qa (.v 5)) qG,.lt qw (.v 6),.lt (.v 6) qg,.le (.p qj qg) qb,.le qb (.p (.v 5) qw)] (.le (.p (.p qa qh) qj) qG) rfl ha o1 l1 (yi0 (yg0 (far [_,_] [.le qb qa] (.le qb qa) rfl l2))) (lsa _ _)) (by rw [W13.deep]; exact h1) (by rw [W13.deep]; exact h2)
     rw [W13.deep,yx,AW] at this
     cases hr:(if (tk src (tk src c1).fin).sg=.rp then .ok ((tk src c1).fin,acc++[k]) else vm (qY src n) src ps.deep m (tk src c1).fin (acc++[k])) with
     | error e =>
      rw [hr] at this
      refine x2a2 this fun p3 ρ' e3 F=>?_
      refine (c2a2 p3 ρ' ?_ (W13.fell F))
      exact xV<|sC is0<|sF hb<|sC e2<|sL hal<|sC (eT es hb2)<|e3
     | ok r =>
      obtain ⟨c3,ks⟩:=r
      rw [hr] at this
      refine x1a2 this fun p3 e3 W4=>?_
      refine (c1a2 p3 ?_ (W13.trans W4))
      exact xV<|sC is0<|sF hb<|sC e2<|sL hal<|sC (eT es hb2)<|e3
    ·rw [if_neg hcom]
     have hb2:((tk src c1).sg==.com)=false:=by rw [beq_eq_false_iff_ne]; exact hcom
     refine (c1a2 p2 ?_ W2)
     exact xV<|sC is0<|sF hb<|sC e2<|sL hal<|sC (eF es hb2)<|by rw [yx,AW]; rfl
theorem Je (G:Good src) (S:Sim src c ps) (hlp:(tk src c).sg=.lp) (hn:cnt src c≤n) (hn8:n≤39) (h1:-800<ps.deep) (h2:ps.deep+n<40) :
  match wA (qY src n) src ps.deep (tk src c).fin with
  | .error e=>∃ ps',qk prog (d+11*n+16) 45 [.ref 13] (hp m0 wd ext ps)=.exc (hp m0 wd ext ps')∧Fell src ps e ps'
  | .ok (c2,args)=>if (tk src c2).sg=.rp then ∃ ps',qk prog (d+11*n+16) 45 [.ref 13] (hp m0 wd ext ps)=.ok (Gk args (tk src c).at_) (hp m0 wd ext ps')∧Went src ps (tk src c2).fin ps'
   else ∃ ps',qk prog (d+11*n+16) 45 [.ref 13] (hp m0 wd ext ps)=.exc (hp m0 wd ext ps')∧Fell src ps ⟨.rp,c2,ps.deep⟩ ps':=by
 have A:=S.at G
 have hL:=G.len
 have hne:(tk src c).sg≠.fin:=by rw [hlp]; decide
 have l1:=jz hne
 have W1:=S.stepW G hne
 have ns:=xf (d:=d+11*n+10) (m0:=m0) (wd:=wd) (ext:=ext) (s:=.lp) A rfl (by have:=S.rows; exact yf0 this (yc0 rfl))
 change qk prog (d+11*n+15) 11 [.ref 13,.str [40]] (hp m0 wd ext ps)=_ at ns
 rw [if_pos hlp] at ns
 have lp:=Jo (mk:=mkD prog (d+11*n+15)) (d:=d) G (by exact yd0 hn8) (Iw (m0:=m0) (wd:=wd) (ext:=ext) (d:=d) G n (by exact yd0 hn8)) (some (.val (.int (tk src c).at_))) (some (.val (.bool true))) 64 qy (tk src c).fin [] _ W1.sim (by have:=jr (src:=src) (show c≤(tk src c).fin by exact ym0 l1); exact ye0 this hn) (by exact yf0 (ye0 (yn0 _ _) hL) (yc0 rfl)) (by decide) (by simp only [vy0]; exact far [_,_] [.le qa (.n 60),.le qb qa] (.le (.p (.n 0) qb) qG) rfl hL (yn0 _ _)) h1 h2
 dsimp only at lp
 rw [nsV] at lp
 unfold wA
 cases hr:(if (tk src (tk src c).fin).sg=.rp then .ok ((tk src c).fin,[]) else vm (qY src n) src ps.deep 64 (tk src c).fin []) with
 | error e =>
  rw [hr] at lp
  refine x2a2 lp fun p3 ρ' e3 F=>?_
  dsimp only
  refine (c1a2 p3 ?_ (W1.fell F))
  exact js (k:=xH) (ρ:=[some (.val (.ref 13)),none,none,none]) rfl rfl<|sC (jQ A)<|sC ns<|sE e3<|rfl
 | ok r =>
  obtain ⟨c2,args⟩:=r
  rw [hr] at lp
  refine x1a2 lp fun p3 e3 W3=>?_
  have W13:=W1.trans W3
  have A3:=W3.sim.at G
  have nr:=xf (d:=d+11*n+10) (m0:=m0) (wd:=wd) (ext:=ext) (s:=.rp) A3 rfl (by have:=W3.sim.rows; exact yf0 this (yc0 rfl))
  change qk prog (d+11*n+15) 11 [.ref 13,.str [41]] (hp m0 wd ext p3)=_ at nr
  dsimp only
  by_cases hrp:(tk src c2).sg=.rp
  ·rw [if_pos hrp] at nr
   simp only [if_pos hrp]
   have hne2:(tk src c2).sg≠.fin:=by rw [hrp]; decide
   refine (c1a2 _ ?_ (W13.trans (W3.sim.stepW G hne2)))
   exact js (k:=xH) (ρ:=[some (.val (.ref 13)),none,none,none]) rfl rfl<|sC (jQ A)<|sC ns<|sK e3<|sC nr<|sC Ii<|rfl
  ·rw [if_neg hrp] at nr
   simp only [if_neg hrp]
   have F:Fell src p3 ⟨.rp,c2,ps.deep⟩ {p3 with rows:=p3.rows++[⟨some .rp,(tk src c2).at_⟩]}:=by
    rw [← W13.deep]
    exact W3.sim.fault (tag:=.rp) ⟨some .rp,(tk src c2).at_⟩ rfl
   refine (c1a2 _ ?_ (W13.fell F))
   exact js (k:=xH) (ρ:=[some (.val (.ref 13)),none,none,none]) rfl rfl<|sC (jQ A)<|sC ns<|sK e3<|sX nr<|rfl
theorem Jd (G:Good src) (S:Sim src c ps) (P:Pos ps) (hn:cnt src c≤n+1) (hn8:n≤39) (h1:-700<ps.deep) (h2:ps.deep+n<40) {lk la lf la2 lat lid:V} :
  match GN (qY src n) src c ps.deep with
  | .error e=>∃ ps',qk prog (d+11*n+17) 47 [.obj 8 [],.ref 13,.obj 5 [lk,la,lf,la2,lat,lid],.int 4] (hp m0 wd ext ps)=.exc (hp m0 wd ext ps')∧Fell src ps e ps'
  | .ok none=>qk prog (d+11*n+17) 47 [.obj 8 [],.ref 13,.obj 5 [lk,la,lf,la2,lat,lid],.int 4] (hp m0 wd ext ps)=.ok .none (hp m0 wd ext ps)
  | .ok (some x)=>∃ ps',qk prog (d+11*n+17) 47 [.obj 8 [],.ref 13,.obj 5 [lk,la,lf,la2,lat,lid],.int 4] (hp m0 wd ext ps)=.ok (.obj 5 [.int 18,.str [],.lst [.obj 5 [lk,la,lf,la2,lat,lid],Gk x.args x.opens,Gk x.ks x.at_],.int 4,lat,.int 0]) (hp m0 wd ext ps')∧Went src ps x.c ps':=by
 have tr:=jk0 (d:=d) (m0:=m0) (wd:=wd) (ext:=ext) G S P hn (by exact yd0 hn8) h1 h2
 have af:=za G (fun c deep h=>jj G n c deep h) c ps.deep S.le
 rw [qz (k:=zO) (ρ:=[some (.val (.obj 8 [])),some (.val (.ref 13)),some (.val (.obj 5 [lk,la,lf,la2,lat,lid])),some (.val (.int 4)),none,none]) rfl rfl]
 unfold GN
 cases hs:qZ (qY src n) src c ps.deep with
 | error e =>
  rw [hs] at tr
  dsimp only at tr ⊢
  exact jc<|sC tr<|rfl
 | ok r =>
  obtain ⟨c1,ks⟩:=r
  rw [hs] at tr
  dsimp only at tr ⊢
  have o:=af.1 c1 ks hs
  by_cases hlp:(tk src c1).sg=.lp
  ·rw [if_pos hlp] at tr ⊢
   refine x1a2 tr fun p2 e2 W2=>?_
   have cn:cnt src c1≤n:=by
    have hlt:(tk src c).sg=.lt:=by
     refine Classical.byContradiction fun q=>?_
     unfold qZ at hs
     rw [if_neg q] at hs
     exact eoX hs
    have q1:=ur G.ch hlt
    have q2:(tk src c).fin≤c1:=by
     unfold qZ at hs
     rw [if_pos hlt] at hs
     have lf:=(yz G (fun c deep h=>jj G n c deep h) 64 (tk src c).fin ps.deep [] (je G.ch S.le)).1
     cases hl:zw (qY src n) src ps.deep 64 (tk src c).fin [] with
     | error e=>rw [hl] at hs; exact eoX hs
     | ok r =>
      obtain ⟨c2,ks2⟩:=r
      rw [hl] at hs
      dsimp only at hs
      have o2:=lf c2 ks2 hl
      split at hs
      ·cases hs
       have:=o2.lt
       have:c2≤(tk src c2).at_:=QY src c2
       exact far [_,_,_] [.lt qa qg,.le qg qb] (.le qa (.p qb qh)) rfl (by assumption) this
      ·exact eoX hs
    have q3:=jr (src:=src) q2
    exact far [_,_,_,_] [.le qg (.p qb qh),.le (.p qj qh) qg,.le qa qj] (.le qa qb) rfl hn q1 q3
   have ra:=Je (d:=d) (m0:=m0) (wd:=wd) (ext:=ext) G W2.sim hlp cn hn8 (by rw [W2.deep]; exact kv0 (by decide) h1) (by rw [W2.deep]; exact h2)
   rw [W2.deep] at ra
   cases har:wA (qY src n) src ps.deep (tk src c1).fin with
   | error e =>
    rw [har] at ra
    refine x1a2 ra fun p3 e3 F=>?_
    dsimp only
    refine (c1a2 p3 ?_ (W2.fell F))
    exact jc<|sC e2<|sX e3<|rfl
   | ok r =>
    obtain ⟨c2,args⟩:=r
    rw [har] at ra
    dsimp only at ra ⊢
    by_cases hrp:(tk src c2).sg=.rp
    ·rw [if_pos hrp] at ra ⊢
     refine x1a2 ra fun p3 e3 W3=>?_
     refine (c1a2 p3 ?_ (W2.trans W3))
     exact jc<|sC e2<|sC e3<|sC Mj<|rfl
    ·rw [if_neg hrp] at ra ⊢
     refine x1a2 ra fun p3 e3 F=>?_
     refine (c1a2 p3 ?_ (W2.fell F))
     exact jc<|sC e2<|sX e3<|rfl
  ·rw [if_neg hlp] at tr ⊢
   exact jc<|sC tr<|rfl
end
mutual
theorem AD:∀ v:V,plain v=true→veq v v=true
 | .none,_=>rfl
 | .bool b,_=>beq_self_eq_true b
 | .int i,_=>beq_self_eq_true i
 | .str s,_=>beq_self_eq_true s
 | .tup vs,h=>wV vs h
 | .lst vs,h=>wV vs h
 | .obj _ _,h=>ftB h
 | .ref _,h=>ftB h
theorem wV:∀ vs:List V,xO vs=true→YF vs vs=true
 | [],_=>rfl
 | v::vs,h=>uf0.mpr ⟨AD v (xy h).1,wV vs (xy h).2⟩
end
theorem xJ {v:V} (h:flat v=true):qF .eq v v=some true:=by
 show (if flat v&&flat v then some (veq v v) else none)=_
 rw [h,AD v (MN h).1]; rfl
theorem wM {v:V} (h:flat v=true):qF .ne v v=some false:=by
 show (if flat v&&flat v then some (!veq v v) else none)=_
 rw [h,AD v (MN h).1]; rfl
theorem vL:∀ {vs:List V},(∀ v∈vs,plain v=true)→xO vs=true
 | [],_=>rfl
 | v::vs,h=>uf0.mpr ⟨h v vV0,vL fun w hw=>h w (wg0 _ hw)⟩
theorem Bl {n:Nat}:∀ {vs:List V},(∀ v∈vs,dep v≤n)→Yq vs≤n
 | [],_=>yq0 _
 | v::vs,h=>yP0.mpr ⟨h v vV0,Bl fun w hw=>h w (wg0 _ hw)⟩
structure Fl (n:Nat) (v:V):Prop where
 p:plain v=true
 d:dep v≤n
theorem Fl.flat {n:Nat} {v:V} (h:Fl n v) (hn:n≤60):flat v=true:=by unfold Mine.flat; rw [h.p,decide_eq_true (by have:=h.d; exact ye0 this hn)]; rfl
theorem Fl.mono {n m:Nat} {v:V} (h:Fl n v) (hn:n≤m):Fl m v:=⟨h.p,ye0 h.d hn⟩
theorem zC (n:Nat) (i:Int):Fl n (.int i):=⟨rfl,yq0 _⟩
theorem MS (n:Nat) (b:Bool):Fl n (.bool b):=⟨rfl,yq0 _⟩
theorem Dl (n:Nat) {s:List Nat} (h:∀ x∈s,x<0x110000):Fl n (.str s):=⟨vE0.mpr fun x hx=>decide_eq_true (h x hx),yq0 _⟩
theorem ye {n:Nat} {vs:List V} (h:∀ v∈vs,Fl n v):Fl (n+1) (.tup vs):=⟨vL fun v hv=>(h v hv).p,by show Yq _+1≤_; have:=Bl fun v hv=>(h v hv).d; exact yu0 this⟩
theorem MP {n:Nat} {vs:List V} (h:∀ v∈vs,Fl n v):Fl (n+1) (.lst vs):=⟨vL fun v hv=>(h v hv).p,by show Yq _+1≤_; have:=Bl fun v hv=>(h v hv).d; exact yu0 this⟩
theorem qW {n:Nat} {v:V} {vs:List V} (h:Fl n v) (hs:∀ w∈vs,Fl n w):∀ w∈v::vs,Fl n w:=fun w hw=>(vI0.mp hw).elim (fun e=>e▸h) (hs w)
theorem wt {n:Nat}:∀ w∈([]:List V),Fl n w:=fun w hw=>by exact zv hw
theorem UD (n:Nat) (t:Tk):Fl (n+1) (IT t):=ye (qW (zC _ _) (qW (Dl _ (wZ _)) (qW (zC _ _) (qW (zC _ _) (qW (zC _ _) (qW (MS _ _) wt))))))
theorem MO (n:Nat) (ts:List Tk):Fl (n+2) (.lst (ts.map IT)):=MP fun v hv=>by
 refine x1a2 (wk0.mp hv) fun t _ uQ0=>?_; subst uQ0
 exact UD n t
noncomputable def dgR (g:Dg):V:=.tup [.int g.num,.int g.at_,g.args]
theorem jF0 (n:Nat) (g:Dg):Fl (n+2) (dgR g):=ye (qW (zC _ _) (qW (zC _ _) (qW (by
 unfold Dg.args
 split
 ·exact ye wt
 ·exact ye (qW (Dl _ (wZ _)) wt)) wt)))
theorem UE (n:Nat) (gs:List Dg):Fl (n+3) (.lst (gs.map dgR)):=MP fun v hv=>by
 refine x1a2 (wk0.mp hv) fun g _ uQ0=>?_; subst uQ0
 exact jF0 n g
mutual
theorem xu0:∀ k:K,Fl (2*kht k) (kV k)
 | .mk s a ks=>by
  rw [kV,kht]
  exact (ye (n:=2*yA ks+1) (qW (Dl _ (wZ _)) (qW (zC _ _) (qW (ye (MQ ks)) wt)))).mono (by exact yh0 _)
theorem MQ:∀ ks:List K,∀ v∈ksV ks,Fl (2*yA ks) v
 | [],v,hv=>by rw [ksV] at hv; exact zv hv
 | k::ks,v,hv=>by
  rw [ksV] at hv
  rw [yA]
  rcases vI0.mp hv with rfl | hv
  ·exact (xu0 k).mono (by exact far [_,_] [.k 2 (.le qa qb)] (.le (.m 2 qa) (.m 2 qb)) rfl (yB0 _ _))
  ·exact (MQ ks v hv).mono (by exact far [_,_] [.k 2 (.le qa qb)] (.le (.m 2 qa) (.m 2 qb)) rfl (yD0 _ _))
end
section
variable {d n:Nat} {m0 wd:O} {ps ps':PS} {ext:H} {src:List Nat} {c:Nat} {σ:H} {v:V} {t t':Tk} {call mk:Nat→List V→H→RC}
theorem Nx {body:E} {x:V} {vs ws:List V} (hx:∀ i,yJ x i σ=some vs[i]?) (hl:ws.length=vs.length) (h:∀ (i:Nat) (v w:V),vs[i]?=some v→ws[i]?=some w→∃ ρ',ev prog call mk body ⟨[some (.val v)],σ⟩=.ok w ⟨ρ',σ⟩) :
  ∀ (n f i:Nat) (acc:List V) (ρ:List (Option LV)),vs.length-i≤n→n<f→Nz prog call mk body x f i ⟨ρ,σ⟩ acc=.ok (.lst (acc.reverse++ws.drop i)) ⟨ρ,σ⟩:=by
 intro n
 induction n with
 | zero =>
  intro f i acc ρ hn hf
  obtain ⟨f,rfl⟩:∃ k,f=k+1:=⟨f-1,by exact (yg0 hf).symm⟩
  rw [Ny,hx,wz0 (by exact yz0 (yy0 hn)),wo0 (by exact far [_,_,_,_] [.eq qa qg,.le qj (.n 0),.le qg (.p qj qb)] (.le qa qb) rfl hl hn (lsa _ _))]
  simp
 | succ n ih =>
  intro f i acc ρ hn hf
  obtain ⟨f,rfl⟩:∃ k,f=k+1:=⟨f-1,by exact (yg0 (far [_,_] [.lt (.p qb qh) qa] (.le qh qa) rfl hf)).symm⟩
  by_cases hi:i<vs.length
  ·refine x1a1 (h i vs[i] (ws[i]'(by exact hl▸hi)) (vB0 hi) (vB0 (by exact hl▸hi))) fun ρ' e=>?_
   rw [Ny,hx,vB0 hi]
   dsimp only
   rw [e]
   dsimp only
   rw [ih f (i+1) _ ρ (by exact yl0.mpr (far [_,_,_,_] [.le qj (.p qb qh),.le qa (.p qj qg)] (.le qa (.p qb (.p qg qh))) rfl hn (lsa _ _))) (by exact yj0 hf),we0 (l:=ws) (show i<ws.length by omega),wO0,vM0]
   rfl
  ·exact ih (f+1) i acc ρ (by exact yl0.mpr (far [_,_,_] [.nl qg qa] (.le qa (.p qb qg)) rfl hi)) (by exact yx0 hf)
theorem vG {body:E} {vs ws:List V} {ρ:List (Option LV)} (hl:ws.length=vs.length) (h:∀ (i:Nat) (v w:V),vs[i]?=some v→ws[i]?=some w→∃ ρ',ev prog call mk body ⟨[some (.val v)],σ⟩=.ok w ⟨ρ',σ⟩) (h9:vs.length<900):Nz prog call mk body (.lst vs) qy 0 ⟨ρ,σ⟩ []=.ok (.lst ws) ⟨ρ,σ⟩:=by
 have:=Nx (x:=.lst vs) (fun _=>rfl) hl h vs.length qy 0 [] ρ (by exact yh0 _) (by unfold qy; exact yd0 h9)
 simpa using this
theorem IK:∀ {ks:List K} {i:Nat} {v w:V},(nsV ks)[i]?=some v→(ksV ks)[i]?=some w→∃ k∈ks,v=nV k∧w=kV k
 | [],i,v,w,h,_=>by rw [nsV] at h; simp at h
 | k::ks,0,v,w,h1,h2=>by
  rw [nsV] at h1
  rw [ksV] at h2
  cases h1; cases h2
  exact (c1a3 k vV0 rfl rfl)
 | k::ks,i+1,v,w,h1,h2=>by
  rw [nsV] at h1
  rw [ksV] at h2
  refine x1a2 (IK (ks:=ks) (i:=i) (by simpa using h1) (by simpa using h2)) fun k' hk e=>?_
  exact (c1a2 k' (wg0 _ hk) e)
theorem kq {ks:List K} {n:Nat} (HK:∀ k∈ks,qk prog (d+n) 59 [nV k] σ=.ok (kV k) σ) (hl:xZ ks<900) (mk:Nat→List V→H→RC) (ρ:List (Option LV)) :
  Nz prog (qk prog (d+n)) mk (.callF 59 (.cons qc .nil)) (.lst (nsV ks)) qy 0 ⟨ρ,σ⟩ []=.ok (.lst (ksV ks)) ⟨ρ,σ⟩:=by
 refine vG (by rw [xC,kn]) (fun i v w h1 h2=>?_) (by rw [kn]; have:=zH ks; exact yf0 this hl)
 refine x1a3 (IK h1 h2) fun k hk uQ0 uR0=>?_; subst uQ0; subst uR0
 refine ⟨[some (.val (nV k))],?_⟩
 exact wEv<|sC (HK k hk)<|rfl
theorem Bd {k:K}:∀ {ks:List K},k∈ks→ksz k≤xZ ks
 | k'::ks,h=>by
  rw [xZ]
  rcases vI0.mp h with rfl | h
  ·exact yN0 _ _
  ·have:=Bd h; exact yd0 this
theorem Ur:∀ (n:Nat) (k:K),kht k≤n→ksz k<900→qk prog (d+n) 59 [nV k] σ=.ok (kV k) σ:=by
 intro n
 induction n with
 | zero=>intro k h; cases k; rw [kht] at h; lia
 | succ n ih =>
  intro k h hz
  obtain ⟨s,a,ks⟩:=k
  rw [kht] at h
  rw [ksz] at hz
  show qk prog (d+n+1) 59 _ _=_
  rw [qz (k:=vY) (ρ:=[some (.val (nV (.mk s a ks)))]) rfl rfl]
  have hk:=kq (σ:=σ) (d:=d) (ks:=ks) (n:=n) (fun k hk=>ih k (by have:=vo hk; exact ye0 this (Nat.sub_le_of_le_add h)) (by have:=Bd hk; exact far [_,_] [.lt (.p qb qh) qP,.le qa qb] (.lt qa qP) rfl hz this)) (by exact yx0 hz) (mkD prog (d+n)) [some (.val (nV (.mk s a ks)))]
  have hl:(ksV ks).length≤4096:=by rw [xC]; have:=zH ks; exact far [_,_] [.lt (.p qb qh) qP,.le qa qb] (.le qa qJ) rfl hz this
  rw [kV]
  exact jc<|sK hk<|sL hl<|rfl
theorem uR {n:Nat} {ks:List K} {a:Nat} (h:yA ks≤n) (hz:xZ ks<900):qk prog (d+n+1) 59 [Gk ks a] σ=.ok (.tup [.str [],.int a,.tup (ksV ks)]) σ:=by
 have hk:=kq (σ:=σ) (d:=d) (ks:=ks) (n:=n) (fun k hk=>Ur n k (by have:=vo hk; exact ye0 this h) (by have:=Bd hk; exact yf0 this hz)) hz (mkD prog (d+n)) [some (.val (Gk ks a))]
 have hl:(ksV ks).length≤4096:=by rw [xC]; have:=zH ks; exact far [_,_] [.lt qb qP,.le qa qb] (.le qa qJ) rfl hz this
 exact js (k:=vY) (ρ:=[some (.val (Gk ks a))]) rfl rfl<|sK hk<|sL hl<|rfl
theorem Mb {i:Nat} (hl:ps.toks.length≤200):qk prog (d+1) 55 [.ref 13,.int i] (hp m0 wd ext ps)=.ok (.lst ((ps.toks.drop i).map IT)) (hp m0 wd ext ps):=by
 have hs:∀ ρ,jO false (.ref 4) (.int i) .none ⟨ρ,hp m0 wd ext ps⟩=.ok (.lst ((ps.toks.drop i).map zc)) ⟨ρ,hp m0 wd ext ps⟩:=by
  intro ρ
  have e1:JI (ps.toks.map zc) (.int i) .none=some ((ps.toks.drop i).map zc):=by rw [List.map_drop]; rfl
  show GK false (ps.toks.map zc) (.int i) .none ⟨ρ,hp m0 wd ext ps⟩=_
  unfold GK
  rw [if_pos (by rw [vq0]; unfold qD; exact yd0 hl),e1]
  rfl
 have hc:∀ ρ,Nz prog (qk prog d) (mkD prog d) (.tup (.cons (.attr qc 5) (.cons (.attr qc 6) (.cons (.attr qc 7) (.cons (.attr qc 1) (.cons (.attr qc 8) (.cons (.attr qc 9) .nil))))))) (.lst ((ps.toks.drop i).map zc)) qy 0 ⟨ρ,hp m0 wd ext ps⟩ []=.ok (.lst ((ps.toks.drop i).map IT)) ⟨ρ,hp m0 wd ext ps⟩:=by
  intro ρ
  refine vG (by rw [vq0,vq0]) (fun j v w h1 h2=>?_) (by rw [vq0,wa0]; exact yf0 (ye0 (yn0 _ _) hl) (yc0 rfl))
  rw [vG0] at h1 h2
  refine x1a2 (kS0.mp h1) fun t ht uQ0=>?_; subst uQ0
  rw [ht] at h2
  cases h2
  refine ⟨[some (.val (zc t))],?_⟩
  exact wEv<|rfl
 exact js (k:=Af) (ρ:=[some (.val (.ref 13)),some (.val (.int i))]) rfl rfl<|sK (hs ..)<|sK (hc ..)<|rfl
theorem jl0 {g:Dg}:qk prog (d+1) 0 [dgV g] σ=.ok (dgR g) σ:=by
 exact js (k:=An) (ρ:=[some (.val (dgV g))]) rfl rfl<|rfl
theorem Bw (hr:ps.rows.length<900) (ρ:List (Option LV)):Nz prog (qk prog (d+1)) mk (.meth qc 21 .nil) (.ref 2) qy 0 ⟨ρ,hp m0 wd ext ps⟩ []=.ok (.lst (ps.rows.map dgR)) ⟨ρ,hp m0 wd ext ps⟩:=by
 have:=Nx (call:=qk prog (d+1)) (mk:=mk) (body:=.meth qc 21 .nil) (σ:=hp m0 wd ext ps) (x:=.ref 2) (vs:=ps.rows.map dgV) (ws:=ps.rows.map dgR) (fun _=>rfl) (by rw [vq0,vq0]) (fun j v w h1 h2=>by
  rw [vG0] at h1 h2
  refine x1a2 (kS0.mp h1) fun g hg uQ0=>?_; subst uQ0
  rw [hg] at h2
  cases h2
  refine ⟨[some (.val (dgV g))],?_⟩
  exact wEv<|sC jl0<|rfl) ps.rows.length qy 0 [] ρ (by rw [vq0]; exact yh0 _) (by unfold qy; exact yd0 hr)
 simpa using this
noncomputable def wj (ps:PS):V:=.tup [.lst (ps.toks.map IT),.int ps.at_,.int ps.deep,.int ps.splits.length,.lst (ps.rows.map dgR),.bool false]
theorem Iy (ps:PS):Fl 4 (wj ps):=ye (qW ((MO 0 _).mono (by exact yr0 _)) (qW (zC _ _) (qW (zC _ _) (qW (zC _ _) (qW (UE 0 _) (qW (MS _ _) wt))))))
theorem Ba (hl:ps.toks.length≤200) (hr:ps.rows.length<900):qk prog (d+2) 66 [.ref 13] (hp m0 wd ext ps)=.ok (wj ps) (hp m0 wd ext ps):=by
 rw [qz (k:=kU) (ρ:=[some (.val (.ref 13))]) rfl rfl]
 have s0:=Mb (d:=d) (m0:=m0) (wd:=wd) (ext:=ext) (i:=0) hl
 rw [wG0] at s0
 change qk prog (d+1) 55 [.ref 13,.int 0] _=_ at s0
 exact jc<|sC s0<|sK (Bw hr ..)<|by rw [wj,← show (ps.splits.map spV).length=ps.splits.length from vq0 ..]; rfl
end
structure W where
 nums:List Int
 next:Nat
 c:Nat
 deep:Int
 told:List Dg
 mr:Nat
 src:List Nat
noncomputable def wD (w:W):O:=.dict [(.str [110,117,109,115],.lst (w.nums.map V.int)),(.str [110,101,120,116],.int w.next),(.str [99],.int w.c),(.str [100,101,101,112],.int w.deep),(.str [116,111,108,100],.lst (w.told.map dgR)),(.str [109,97,114,107,115],.ref w.mr),(.str [115,114,99],.str w.src),(.str [112],.ref 13)]
section
variable {d n:Nat} {m0:O} {w:W} {ps ps':PS} {ext:H} {src:List Nat} {c:Nat} {σ:H} {v:V} {t t':Tk} {call mk:Nat→List V→H→RC} {ρ:List (Option LV)}
structure Nums (w:W):Prop where
 len:1≤w.nums.length∧w.nums.length≤100
 ok:∀ x∈w.nums,0≤x∧x<10000
theorem Ma (N:Nums w) (hx:w.next≤500) (n:Nat) (h0:0<n) (hn:n<1000):∃ k:Nat,k<n∧qk prog (d+1) 49 [.ref 1,.int n] (hp m0 (wD w) ext ps)=.ok (.int k) (hp m0 (wD {w with next:=w.next+1}) ext ps):=by
 rw [qz (k:=vX) (ρ:=[some (.val (.ref 1)),some (.val (.int n)),none,none]) rfl rfl]
 have hL:=N.len
 have e1:=zj (qM (n:=w.next) (by exact yf0 hx (yc0 rfl))) (show okI 1=true by rfl)
 have e2:∀ σ,zb (.lst (w.nums.map V.int)) σ=some (w.nums.length:Int):=by
  intro σ
  show (if (w.nums.map V.int).length≤qD then some (((w.nums.map V.int).length:Nat):Int) else none)=_
  rw [vq0,if_pos (by unfold qD; exact yd0 hL.2)]
 have md:∀ (a b:Nat),0<b→b<1000000→jS .mod (.int a) (.int b)=some (.int ((a % b:Nat):Int)):=by
  intro a b h1 h2
  exact Ui h1 h2
 have dv:∀ (a b:Nat),0<b→b<1000000→a<1000000→jS .div (.int a) (.int b)=some (.int ((a / b:Nat):Int)):=by
  intro a b h1 h2 h3
  exact Uj h1 h2 h3
 have hlt:w.next % w.nums.length<w.nums.length:=yZ0 _ (by exact hL.1)
 obtain ⟨x,hxm⟩:∃ x,w.nums[w.next % w.nums.length]?=some x:=⟨_,vB0 hlt⟩
 refine zz (N.ok x (vx0 hxm)) fun hx0 hx1=>?_
 obtain ⟨y,rfl⟩:∃ y:Nat,x=y:=⟨x.toNat,by exact (kH0 hx0).symm⟩
 have e3:∀ σ,zB (.lst (w.nums.map V.int)) (.int ((w.next % w.nums.length:Nat):Int)) σ=some (.int y):=by
  intro σ
  show (if _ then none else (w.nums.map V.int)[((w.next % w.nums.length:Nat):Int).toNat]?)=_
  rw [if_neg (ku (by exact ye0 (ye0 hlt hL.2) (yc0 rfl))),show (((w.next % w.nums.length:Nat):Int)).toNat=w.next % w.nums.length from rfl,vG0,hxm]
  rfl
 have hq:w.next / w.nums.length≤500:=ye0 (ve0 _ _) hx
 have e4:jS .mul (.int 7) (.int ((w.next / w.nums.length:Nat):Int))=some (.int ((7*(w.next / w.nums.length):Nat):Int)):=by
  have o1:okI 7=true:=rfl
  exact Uh o1 (qM (show w.next / w.nums.length<1000000 by exact yf0 hq (yc0 rfl)))
 have e5:=zj (qM (n:=y) (by exact yA0 (kw0.mp hx1) (yc0 rfl))) (qM (n:=7*(w.next / w.nums.length)) (by exact far [_] [.k 7 (.le qa (.n 500))] (.lt (.m 7 qa) (.n 1000000)) rfl hq))
 rw [← kx0] at e5
 refine (c1a2 ((y+7*(w.next / w.nums.length)) % n) (yZ0 _ h0) ?_)
 exact jc<|sO e1<|sO (e2 ..)<|sO (md _ _ (show 0<w.nums.length by exact yK0 hlt) (show w.nums.length<1000000 by exact yf0 hL.2 (yc0 rfl)))<|sO (e3 ..)<|sO (dv w.next _ (show 0<w.nums.length by exact yK0 hlt) (show w.nums.length<1000000 by exact yf0 hL.2 (yc0 rfl)) (by exact yf0 hx (yc0 rfl)))<|sO e4<|sO e5<|sO (md _ n h0 (by exact yd0 hn))<|rfl
theorem Zi {a b:List V} (h:a.length+b.length≤4096):jS .add (.lst a) (.lst b)=some (.lst (a++b)):=by
 show (if a.length+b.length≤qD then _ else _)=_
 rw [if_pos (by unfold qD; exact h)]
theorem vl (hw:w.src=src) (G:Good src) {c':Nat} (hc:c'≤src.length) {pl:V} {x:Int}:qk prog (d+2) 61 [.ref 1,.tup [.str [],.int c',.int x,pl]] (hp m0 (wD w) ext ps)=.ok .none (hp m0 (wD {w with c:=c',deep:=x}) ext ps):=by
 rw [qz (k:=vZ) (ρ:=[some (.val (.ref 1)),some (.val (.tup [.str [],.int c',.int x,pl])),none]) rfl rfl]
 subst hw
 exact jc<|sC (jG G hc)<|rfl
theorem vS (hw:w.src=src) (G:Good src) {e:Err} (hc:e.c≤src.length) (ht:w.told.length<900) {pl:V}:qk prog (d+2) 61 [.ref 1,.tup [.str e.tag.txt,.int e.c,.int e.deep,pl]] (hp m0 (wD w) ext ps)=.ok .none (hp m0 (wD {w with c:=e.c,deep:=e.deep,told:=w.told++[Yp src e]}) ext ps):=by
 rw [qz (k:=vZ) (ρ:=[some (.val (.ref 1)),some (.val (.tup [.str e.tag.txt,.int e.c,.int e.deep,pl])),none]) rfl rfl]
 subst hw
 have ol:=Zi (a:=w.told.map dgR) (b:=[dgR (Yp w.src e)]) (by rw [vq0]; simp; exact ye0 (ym0 ht) (yc0 rfl))
 have om:w.told.map dgR++[dgR (Yp w.src e)]=(w.told++[Yp w.src e]).map dgR:=by rw [vL0]; rfl
 rw [om] at ol
 obtain ⟨tag,ec,ed⟩:=e
 dsimp only at hc ol
 cases tag with
 | kind =>
  change jS .add (.lst (w.told.map dgR)) (.lst [.tup [.int 1110,.int (tk w.src ec).at_,.tup []]])=_ at ol
  exact jc<|sC (jG G hc)<|sO ol<|rfl
 | lt =>
  change jS .add (.lst (w.told.map dgR)) (.lst [.tup [.int 1005,.int (tk w.src ec).at_,.tup [.str Tag.lt.txt]]])=_ at ol
  exact jc<|sC (jG G hc)<|sO ol<|rfl
 | gt =>
  change jS .add (.lst (w.told.map dgR)) (.lst [.tup [.int 1005,.int (tk w.src ec).at_,.tup [.str Tag.gt.txt]]])=_ at ol
  exact jc<|sC (jG G hc)<|sO ol<|rfl
 | rp =>
  change jS .add (.lst (w.told.map dgR)) (.lst [.tup [.int 1005,.int (tk w.src ec).at_,.tup [.str Tag.rp.txt]]])=_ at ol
  exact jc<|sC (jG G hc)<|sO ol<|rfl
theorem hd0 {s:Sg} (h:s≠.fin):zB (.str s.txt) (.int 0) σ=some (.str [s.txt.headD 0]):=by cases s <;> first | rfl | exact absurd rfl h
theorem jD0 (s:Sg):∀ x∈[s.txt.headD 0],x<0x110000:=by cases s <;> decide
theorem Yi (G:Good src) {l:List Nat} (hl:∀ x∈l,x<0x110000):∀ (n f:Nat) (w:W) (ps:PS),w.src=src→Sim src w.c ps→src.length-w.c≤n→n<f→∃ c' ps' y2,yF prog (qk prog (d+1)) mk (.and (.cmp .ne (.idx qm qo) qp) (.cmp .ne (.idx (.idx qm qo) qo) qi)) (.cons (.expr (.meth (.idx qc jC) 2 .nil)) (.cons (.setIdx qc jv (.idx qm qH)) (.cons (.asg 2 (.callF 53 (.cons (.idx qc zd) (.cons (.idx qc jv) .nil)))) .nil))) f ⟨[some (.val (.ref 1)),some (.val (.str l)),some (.val (sgV (tk src w.c)))],hp m0 (wD w) ext ps⟩ =
  .ok .next ⟨[some (.val (.ref 1)),some (.val (.str l)),y2],hp m0 (wD {w with c:=c'}) ext ps'⟩∧Went src ps c' ps':=by
 intro n
 induction n with
 | zero =>
  intro f w ps hw S hn hf
  obtain ⟨f,rfl⟩:∃ g,f=g+1:=⟨f-1,by exact (yg0 hf).symm⟩
  have hfin:(tk src w.c).sg=.fin:=by
   refine Classical.byContradiction fun q=>?_
   have l1:=jz q
   have l2:=je G.ch S.le
   exact far [_,_,_,_] [.le qg (.n 0),.lt qb qj,.le qj qa,.le qa (.p qg qb)] (.ff) rfl hn l1 l2 (lsa _ _)
  have hb:((tk src w.c).sg==.fin)=true:=by rw [hfin]; rfl
  refine ⟨w.c,ps,some (.val (sgV (tk src w.c))),?_,S,XT.refl rfl rfl rfl,rfl,rfl⟩
  rw [jf]
  exact xV<|sO (BL ..)<|sF1 hb<|rfl
 | succ n ih =>
  intro f w ps hw S hn hf
  obtain ⟨f,rfl⟩:∃ g,f=g+1:=⟨f-1,by exact (yg0 (far [_,_] [.lt (.p qb qh) qa] (.le qh qa) rfl hf)).symm⟩
  by_cases hfin:(tk src w.c).sg=.fin
  ·have hb:((tk src w.c).sg==.fin)=true:=by rw [hfin]; rfl
   refine ⟨w.c,ps,some (.val (sgV (tk src w.c))),?_,S,XT.refl rfl rfl rfl,rfl,rfl⟩
   rw [jf]
   exact xV<|sO (BL ..)<|sF1 hb<|rfl
  ·have hb:((tk src w.c).sg==.fin)=false:=by rw [beq_eq_false_iff_ne]; exact hfin
   have e1:=BJ (jD0 (tk src w.c).sg) hl
   cases hq:([(tk src w.c).sg.txt.headD 0]==l)
   ·have A:=S.at G
    have l1:=jz hfin
    have l2:=je G.ch S.le
    have W1:=S.stepW G hfin
    have sg:=jG (d:=d) (σ:=hp m0 (wD {w with c:=(tk src w.c).fin}) ext {ps with at_:=ps.at_+1}) G l2
    refine x3a2 (ih f {w with c:=(tk src w.c).fin} {ps with at_:=ps.at_+1} hw W1.sim (by dsimp only; exact yl0.mpr (far [_,_,_,_,_] [.le qw (.p qb qh),.lt qj qg,.le qa (.p qw qj)] (.le qa (.p qb qg)) rfl hn l1 (lsa _ _))) (by exact yj0 hf)) fun c' ps' y2 e W2=>?_
    dsimp only at e
    unfold sgV at e sg
    refine (c3a2 c' ps' y2 ?_ (W1.trans W2))
    subst hw
    rw [jf]
    exact xV<|sO (BL ..)<|sT1 hb<|sO (hd0 hfin)<|sO e1<|sT1 hq<|sC (Ih A hfin)<|sC sg<|e
   ·refine ⟨w.c,ps,some (.val (sgV (tk src w.c))),?_,S,XT.refl rfl rfl rfl,rfl,rfl⟩
    rw [jf]
    exact xV<|sO (BL ..)<|sT1 hb<|sO (hd0 hfin)<|sO e1<|sF1 hq<|rfl
theorem qD0 (G:Good src) {l:List Nat} (hl:∀ x∈l,x<0x110000) (hw:w.src=src) (S:Sim src w.c ps):∃ c' ps',qk prog (d+2) 62 [.ref 1,.str l] (hp m0 (wD w) ext ps)=.ok .none (hp m0 (wD {w with c:=c'}) ext ps')∧Went src ps c' ps':=by
 rw [qz (k:=Iz) (ρ:=[some (.val (.ref 1)),some (.val (.str l)),none]) rfl rfl]
 have hL:=G.len
 refine x3a2 (Yi (d:=d) (mk:=mkD prog (d+1)) (m0:=m0) (ext:=ext) G hl 60 qy w ps hw S (by exact ye0 (yn0 _ _) hL) (by decide)) fun c' ps' y2 e W1=>?_
 have sg:=jG (d:=d) (σ:=hp m0 (wD w) ext ps) G S.le
 refine (c2a2 c' ps' ?_ W1)
 subst hw
 exact jc<|sC sg<|sK e<|rfl
structure Same (w:W) (ps:PS) (ms:List V) (σ:H):Prop where
 sim:Sim w.src w.c ps
 told:w.told=ps.rows
 deep:w.deep=ps.deep
 marks:σ[w.mr]?=some (.list ms)
 saved:ms.length=ps.saved.length
theorem yI (G:Good w.src) {ms:List V} (S:Same w ps ms (hp m0 (wD w) ext ps)):qk prog (d+3) 60 [.ref 1] (hp m0 (wD w) ext ps)=.ok (.bool true) (hp m0 (wD w) ext ps):=by
 rw [qz (k:=Ag) (ρ:=[some (.val (.ref 1)),none,none]) rfl rfl]
 have hr:=S.sim.rows
 have e1:=Bw (d:=d+1) (mk:=mkD prog (d+2)) (m0:=m0) (wd:=wD w) (ext:=ext) (ps:=ps) (by exact yf0 hr (yc0 rfl)) [some (.val (.ref 1)),some (.val (.ref 13)),none]
 have e2:qF .ne (.lst (ps.rows.map dgR)) (.lst (w.told.map dgR))=some false:=by rw [S.told]; exact wM ((UE 0 ps.rows).flat (by exact yw0 _ _))
 have e3:qF .ne (.int ps.deep) (.int w.deep)=some false:=by rw [S.deep]; exact wM (Bh _)
 have e4:zb (.ref w.mr) (hp m0 (wD w) ext ps)=some (ps.saved.length:Int):=by simp only [zb,vh,S.marks,S.saved]
 have e5:qF .ne (.int ((ps.saved.map mkV).length:Int)) (.int (ps.saved.length:Int))=some false:=by rw [vq0]; exact wM (Bh _)
 have e6:=Mb (d:=d+1) (m0:=m0) (wd:=wD w) (ext:=ext) (ps:=ps) (i:=ps.at_) S.sim.low
 rw [S.sim.drop] at e6
 have e7:=ZI (d:=d) (σ:=hp m0 (wD w) ext ps) G S.sim.le
 have e8:=xJ ((MO 0 (due w.src w.c)).flat (by exact yw0 _ _))
 exact jc<|sK e1<|sO e2<|sF2 e3<|sO e4<|sF2 e5<|sC e6<|sC e7<|sO e8<|rfl
end
structure HM where
 c:Nat
 ps:PS
noncomputable def ky (h:HM):V:=.tup [.int h.c,.int h.ps.deep,.lst (h.ps.rows.map dgR),wj h.ps]
inductive MI (src:List Nat) (D:Int):List HM→PS→Prop
 | nil {ps:PS}:ps.saved=[]→MI src D [] ps
 | snoc {ms:List HM} {h:HM} {ps:PS}:MI src D ms h.ps→Sim src h.c h.ps→Pos h.ps→0≤h.ps.deep→h.ps.deep≤D→ps.saved=h.ps.saved++[zQ h.ps]→jV ps (zQ h.ps) h.ps.saved.length=h.ps→MI src D (ms++[h]) ps
noncomputable def MR (m0:O) (ext:H) (mr:Nat) (ms:List V):Prop:=(mr=0∧m0=.list ms)∨∃ j,mr=14+j∧ext[j]?=some (.list ms)
structure LI (k:Nat) (m0:O) (ext:H) (w:W) (ps:PS) (ms:List HM):Prop where
 G:Good w.src
 sim:Sim w.src w.c ps
 pos:Pos ps
 told:w.told=ps.rows
 deep:w.deep=ps.deep
 lo:0≤ps.deep
 hi:ps.deep≤7*k
 rows:ps.rows.length≤k
 mr:MR m0 ext w.mr (ms.map ky)
 mi:MI w.src (7*k) ms ps
 ml:ms.length≤k+1
 nums:Nums w
section
variable {d n k:Nat} {m0:O} {w:W} {ps ps':PS} {ext:H} {src:List Nat} {c:Nat} {σ:H} {v:V} {t t':Tk} {call mk:Nat→List V→H→RC} {ρ:List (Option LV)} {ms:List HM} {D:Int}
theorem MI.len (m:MI src D ms ps):ms.length=ps.saved.length:=by
 induction m with
 | nil h=>rw [h]; rfl
 | snoc _ _ _ _ _ h _ ih=>rw [h,vt0,vt0,ih]; rfl
theorem xw {a b:PS} {s n:Nat} (h:jV a (zQ b) n=b):b.splits.length≤a.splits.length∧b.rows.length≤a.rows.length:=by
 have h1:=congrArg (fun p=>p.splits.length) h
 have h2:=congrArg (fun p=>p.rows.length) h
 unfold jV zQ at h1 h2
 dsimp only at h1 h2
 rw [vC0] at h1 h2
 exact ⟨far [_,_,_] [.qe qg qa,.le qg qb] (.le qa qb) rfl h1 (yp0 _ _),far [_,_,_] [.qe qg qa,.le qg qb] (.le qa qb) rfl h2 (yp0 _ _)⟩
theorem DN {b:PS} {n:Nat} (X:XT ps ps') (hr:∃ new,ps'.rows=ps.rows++new) (hb:b.splits.length≤ps.splits.length∧b.rows.length≤ps.rows.length):jV ps' (zQ b) n=jV ps (zQ b) n:=by
 refine x1a1 X fun j uQ0=>?_; obtain ⟨⟨new,e1,e2,_,_⟩,_,e3⟩:=uQ0
 refine x1a1 hr fun nr er=>?_
 unfold jV zQ
 dsimp only
 rw [e1,e3,er,vY0 hb.1,zE,e2,vF0 hb.1,vF0 hb.2]
theorem MI.onX (m:MI src D ms ps) (X:XT ps ps') (hr:∃ new,ps'.rows=ps.rows++new):MI src D ms ps':=by
 have hs:ps'.saved=ps.saved:=by refine x1a1 X fun j X=>?_; exact X.saved
 cases m with
 | nil h=>exact .nil (by rw [hs,h])
 | snoc a b c d e f g=>exact .snoc a b c d e (by rw [hs,f]) (by rw [DN X hr (xw (s:=0) g),g])
theorem MI.mono {D':Int} (m:MI src D ms ps) (h:D≤D'):MI src D' ms ps:=by
 induction m with
 | nil h=>exact .nil h
 | snoc _ b c d e f g ih=>exact .snoc ih b c d (by exact kM0 e h) f g
theorem MR.get {x:List V} {mr:Nat} {wd:O} (h:MR m0 ext mr x):(hp m0 wd ext ps)[mr]?=some (.list x):=by
 rcases h with ⟨rfl,rfl⟩ | ⟨j,rfl,h⟩
 ·rfl
 ·show (_::_::_::_::_::_::_::_::_::_::_::_::_::_::ext:List O)[14+j]?=_
  rw [vm0]
  exact h
theorem LI.same (L:LI k m0 ext w ps ms):Same w ps (ms.map ky) (hp m0 (wD w) ext ps):=⟨L.sim,L.told,L.deep,L.mr.get,by rw [vq0]; exact L.mi.len⟩
theorem LI.mono {k':Nat} (L:LI k m0 ext w ps ms) (h:k≤k'):LI k' m0 ext w ps ms :=
 ⟨L.G,L.sim,L.pos,L.told,L.deep,L.lo,by have:=L.hi; exact o35 _ _ _ h this,by have:=L.rows; exact ye0 this h,L.mr,L.mi.mono (by exact kG0 (kB0.mpr h) (by decide)),by have:=L.ml; exact far [_,_,_] [.le qg qb,.le qa (.p qg qh)] (.le qa (.p qb qh)) rfl h this,L.nums⟩
theorem LI.went (L:LI k m0 ext w ps ms) {c':Nat} (W1:Went w.src ps c' ps'):LI k m0 ext {w with c:=c'} ps' ms where
 G:=L.G
 sim:=W1.sim
 pos:=L.pos.of W1.ext
 told:=by rw [W1.rows]; exact L.told
 deep:=by rw [W1.deep]; exact L.deep
 lo:=by rw [W1.deep]; exact L.lo
 hi:=by rw [W1.deep]; exact L.hi
 rows:=by rw [W1.rows]; exact L.rows
 mr:=L.mr
 mi:=L.mi.onX W1.ext ⟨[],by rw [W1.rows,vU0]⟩
 ml:=L.ml
 nums:=⟨L.nums.len,L.nums.ok⟩
theorem LI.fell (L:LI k m0 ext w ps ms) (hk:k≤400) {e:Err} (F:Fell w.src ps e ps') (h1:0≤e.deep) (h2:e.deep≤ps.deep+7):LI (k+1) m0 ext {w with c:=e.c,deep:=e.deep,told:=w.told++[Yp w.src e]} ps' ms where
 G:=L.G
 sim:=⟨F.sim.drop,F.sim.le,F.sim.low,F.sim.spl,by rw [F.rows,vt0,vr0,vy0]; have:=L.rows; exact yf0 (ye0 this hk) (yc0 rfl)⟩
 pos:=L.pos.of F.ext
 told:=by rw [F.rows,← L.told]
 deep:=F.deep.symm
 lo:=by rw [F.deep]; exact h1
 hi:=by rw [F.deep]; have:=L.hi; exact o36 _ _ _ h2 this
 rows:=by rw [F.rows,vt0,vr0,vy0]; have:=L.rows; exact yu0 this
 mr:=L.mr
 mi:=(L.mi.onX F.ext ⟨[Yp w.src e],F.rows⟩).mono (by exact ku0 (kt0 _))
 ml:=by have:=L.ml; exact yT0 this
 nums:=⟨L.nums.len,L.nums.ok⟩
theorem Kd {n:Nat} (h:n<100000):jS .sub (.int ((n+1:Nat):Int)) (.int 1)=some (.int n):=by
 rw [Kw (qM (by exact yf0 h (yc0 rfl))) (show okI 1=true by rfl)]
 congr 2
 lia
noncomputable def zp0 (k:Nat) (m0:O) (ext:H) (w:W) (ms:List HM) (x:RC):Prop:=∃ w' ps',x=.ok (.bool true) (hp m0 (wD w') ext ps')∧LI k m0 ext w' ps' ms∧w'.next=w.next∧w'.src=w.src
theorem JJ {s:Sg} (h:xr s=true):1≤s.txt.length∧s≠.fin:=by cases s <;> first | exact ⟨by decide,by decide⟩ | exact ftB h
theorem yy (L:LI k m0 ext w ps ms) (hk:k≤400):zp0 (k+1) m0 ext w ms (qk prog (d+7) 63 [.ref 1] (hp m0 (wD w) ext ps)):=by
 have G:=L.G
 have S:=L.sim
 have A:=S.at G
 have hL:=G.len
 have hrw:=L.rows
 have sg:=jG (d:=d+5) (σ:=hp m0 (wD w) ext ps) G S.le
 obtain ⟨X,hX⟩:∃ X,X=qk prog (d+7) 63 [.ref 1] (hp m0 (wD w) ext ps):=⟨_,rfl⟩
 rw [← hX]
 rw [qz (k:=kX) (ρ:=[some (.val (.ref 1)),none,none,none,none,none,none,none]) rfl rfl] at hX
 change X=Oq (exs prog (qk prog (d+6)) (mkD prog (d+6)) (.cons _ (.cons _ (.cons _ (.cons _ (.cons _ (.cons _ (.cons _ .nil))))))) _) at hX
 rw [qI (st':=⟨[some (.val (.ref 1)),some (.val (.ref 13)),none,none,none,none,none,none],hp m0 (wD w) ext ps⟩) (by exact wEx<|rfl)] at hX
 rw [qI (st':=⟨[some (.val (.ref 1)),some (.val (.ref 13)),none,some (.val (.str (tk w.src w.c).sg.txt)),some (.val (.int (tk w.src w.c).at_)),some (.val (.int (tk w.src w.c).fin)),some (.val (.bool (tk w.src w.c).line)),none],hp m0 (wD w) ext ps⟩) (by exact wEx<|sC sg<|rfl)] at hX
 rw [qI (st':=⟨[some (.val (.ref 1)),some (.val (.ref 13)),some (.val (.bool (xr (tk w.src w.c).sg))),some (.val (.str (tk w.src w.c).sg.txt)),some (.val (.int (tk w.src w.c).at_)),some (.val (.int (tk w.src w.c).fin)),some (.val (.bool (tk w.src w.c).line)),none],hp m0 (wD w) ext ps⟩) (by exact wEx<|sK (jJ0 ..)<|sO (Yy ..)<|rfl)] at hX
 cases hcl:xr (tk w.src w.c).sg
 ·
  have an:=Mr (d:=d) (m0:=m0) (wd:=wD w) (ext:=ext) G S
  rw [if_neg (by rw [hcl]; decide)] at an
  refine x1a2 an fun p2 e2 F=>?_
  rw [← L.deep] at F
  have mv:=vS (d:=d+4) (m0:=m0) (ext:=ext) (ps:=p2) (w:=w) (e:=⟨.gt,w.c,w.deep⟩) rfl G S.le (by rw [L.told]; exact yf0 (ye0 hrw hk) (yc0 rfl)) (pl:=.tup [])
  change qk prog (d+6) 61 [.ref 1,.tup [.str [62],.int w.c,.int w.deep,.tup []]] _=_ at mv
  have L':=L.fell hk F (by have:=L.lo; have:=L.deep; dsimp only; exact this▸(by assumption)) (by have:=L.deep; dsimp only; exact o38 _ _ this)
  have sm:=yI (d:=d+3) L'.G L'.same
  dsimp only at sm
  rw [hcl] at hX
  refine ⟨_,p2,?_,L',rfl,rfl⟩
  rw [hX]
  exact jc<|sX e2<|sC mv<|sC sm<|rfl
 ·have an:=JJ hcl
  have hfl:=je G.ch S.le
  have hal:(tk w.src w.c).at_+1≤w.src.length:=by
   have h1:(tk w.src w.c).fin=(tk w.src w.c).at_+(tk w.src w.c).sg.txt.length:=by rw [yb,ux]
   exact far [_,_,_,_] [.le qh qg,.le qj qb,.qe qj (.p qa qg)] (.le (.p qa qh) qb) rfl an.1 hfl h1
  have o1:=zj (qM (n:=(tk w.src w.c).at_) (by exact ye0 (ye0 hal hL) (yc0 rfl))) (show okI 1=true by rfl)
  have main:∃ p2,qk prog (d+6) 26 [.ref 13] (hp m0 (wD w) ext ps)=.ok .none (hp m0 (wD w) ext p2)∧Went w.src ps ((tk w.src w.c).at_+1) p2∧(((tk w.src w.c).sg==.gt)=true∨((tk w.src w.c).sg==.gt)=false∧((tk w.src ((tk w.src w.c).at_+1)).sg==.eq)=false→p2.at_=ps.at_+1∧p2.toks[ps.at_]?=some ⟨.gt,(tk w.src w.c).at_,(tk w.src w.c).at_+1,(tk w.src w.c).line⟩):=by
   by_cases h1:(tk w.src w.c).sg=.gt
   ·have hf:(tk w.src w.c).fin=(tk w.src w.c).at_+1:=by rw [yb,ux,h1]; rfl
    refine (c1a3 _ (uS G S h1) ?_ (fun _=>⟨rfl,?_⟩))
    ·rw [← hf]; exact S.stepW G (by rw [h1]; decide)
    ·dsimp only
     rw [A.here]
     congr 1
     generalize tk w.src w.c=t at h1 hf
     obtain ⟨a,b,c,e⟩:=t
     dsimp only at h1 hf ⊢
     rw [h1,hf]
   ·have h2:(tk w.src w.c).sg=.ge:=by
     revert hcl h1
     cases (tk w.src w.c).sg <;> first | (intro q; cases q; done) | (intro _ _; rfl) | (intro _ q; exact absurd rfl q)
    refine x1a6 (uT (d:=d) (m0:=m0) (wd:=wD w) (ext:=ext) G S h2) fun p2 e1 e2 e3 e4 e5 e6=>?_
    refine (c1a3 p2 e1 ⟨e2,⟨_,e3⟩,e4,e5⟩ (fun q=>?_))
    rcases q with q | ⟨_,q⟩
    ·rw [beq_iff_eq] at q; exact absurd q h1
    ·exact e6 (beq_eq_false_iff_ne.mp q)
  refine x1a3 main fun p2 e2 W2 chk=>?_
  have mv:=vl (d:=d+4) (m0:=m0) (ext:=ext) (ps:=p2) (w:=w) rfl G hal (pl:=.tup []) (x:=w.deep)
  have L':=(L.went W2).mono (k':=k+1) (by exact yr0 _)
  have sm:=yI (d:=d+3) L'.G L'.same
  have sg2:=jG (d:=d+5) (σ:=hp m0 (wD {w with c:=(tk w.src w.c).at_+1,deep:=w.deep}) ext p2) G hal
  rw [kx0,kz0] at mv sg2
  rw [hcl] at hX
  rw [qI (st':=⟨[some (.val (.ref 1)),some (.val (.ref 13)),some (.val (.bool true)),some (.val (.str (tk w.src w.c).sg.txt)),some (.val (.int (tk w.src w.c).at_)),some (.val (.int (tk w.src w.c).fin)),some (.val (.bool (tk w.src w.c).line)),some (.val (.bool true))],hp m0 (wD w) ext p2⟩) (by exact wEx<|sC e2<|rfl)] at hX
  rw [qI (st':=⟨[some (.val (.ref 1)),some (.val (.ref 13)),some (.val (.bool true)),some (.val (.str (tk w.src w.c).sg.txt)),some (.val (.int (tk w.src w.c).at_)),some (.val (.int (tk w.src w.c).fin)),some (.val (.bool (tk w.src w.c).line)),some (.val (.bool true))],hp m0 (wD {w with c:=(tk w.src w.c).at_+1,deep:=w.deep}) ext p2⟩) (by exact wEx<|sO o1<|sC mv<|rfl)] at hX
  refine ⟨_,p2,?_,L',rfl,rfl⟩
  have fin:∀ st:St,st=⟨[some (.val (.ref 1)),some (.val (.ref 13)),some (.val (.bool true)),some (.val (.str (tk w.src w.c).sg.txt)),some (.val (.int (tk w.src w.c).at_)),some (.val (.int (tk w.src w.c).fin)),some (.val (.bool (tk w.src w.c).line)),some (.val (.bool true))],hp m0 (wD {w with c:=(tk w.src w.c).at_+1,deep:=w.deep}) ext p2⟩→p2.at_=ps.at_+1→p2.toks[ps.at_]?=some ⟨.gt,(tk w.src w.c).at_,(tk w.src w.c).at_+1,(tk w.src w.c).line⟩ →
    exs prog (qk prog (d+6)) (mkD prog (d+6)) (.cons (.ifs (.cmp .ne (.idx (.callF 55 (.cons qi (.cons qo .nil))) (.bin .sub (.attr qi 1) qu)) (.tup (.cons qT (.cons jo (.cons qo (.cons qq (.cons (.bin .add qq qu) (.cons qK .nil)))))))) (.cons (.ret jb) .nil) .nil) .nil) st=.ok .next st:=by
   intro st hst h1 h2
   subst hst
   have lo2:=W2.sim.low
   have hlt2:=(vv0.mp h2).1
   have s0:=Mb (d:=d+5) (m0:=m0) (wd:=wD {w with c:=(tk w.src w.c).at_+1,deep:=w.deep}) (ext:=ext) (ps:=p2) (i:=0) lo2
   rw [wG0] at s0
   change qk prog (d+6) 55 [.ref 13,.int 0] _=_ at s0
   have s1:=Kd (n:=ps.at_) (by exact ye0 (ye0 hlt2 lo2) (yc0 rfl))
   rw [← h1] at s1
   have ix:∀ σ,zB (.lst (p2.toks.map IT)) (.int ps.at_) σ=some (.tup [.int 5,.str [62],.int 0,.int (tk w.src w.c).at_,.int ((tk w.src w.c).at_+1),.bool (tk w.src w.c).line]):=by
    intro σ
    show (if _ then none else (p2.toks.map IT)[(ps.at_:Int).toNat]?)=_
    rw [if_neg (ku (by exact ye0 (ye0 hlt2 lo2) (yc0 rfl))),show ((ps.at_:Int)).toNat=ps.at_ from rfl,vG0,h2]
    rfl
   have ne:=wM ((UD 0 ⟨.gt,(tk w.src w.c).at_,(tk w.src w.c).at_+1,(tk w.src w.c).line⟩).flat (by exact yG0 _))
   change qF .ne (.tup [.int 5,.str [62],.int 0,.int (tk w.src w.c).at_,.int ((tk w.src w.c).at_+1),.bool (tk w.src w.c).line]) (.tup [.int 5,.str [62],.int 0,.int (tk w.src w.c).at_,.int ((tk w.src w.c).at_+1),.bool (tk w.src w.c).line])=_ at ne
   exact IM<|sC s0<|sO s1<|sO (ix ..)<|sO o1<|sF2 ne<|rfl
  cases hg:((tk w.src w.c).sg==.gt)
  ·cases hq:((tk w.src ((tk w.src w.c).at_+1)).sg==.eq)
   ·refine zz (chk (.inr ⟨hg,hq⟩)) fun c1 c2=>?_
    have fe:=fin _ rfl c1 c2
    rw [hX]
    exact YZ (ZZ (NT<|sO (Yk ..)<|sF hg<|sO o1<|sC sg2<|sO (Up ..)<|sT1 hq<|rfl) fe)<|jc<|sC sm<|rfl
   ·rw [hX]
    exact jc<|sO (Yk ..)<|sF hg<|sO o1<|sC sg2<|sO (Up ..)<|sF1 hq<|sC sm<|rfl
  ·refine zz (chk (.inl hg)) fun c1 c2=>?_
   have fe:=fin _ rfl c1 c2
   rw [hX]
   exact YZ (ZZ (NT<|sO (Yk ..)<|sT hg<|rfl) fe)<|jc<|sC sm<|rfl
theorem Nw {src:List Nat} (G:Good src) (c:Nat):cnt src c≤7:=by
 have h1:=jr (src:=src) (yq0 c)
 have h2:cnt src 0=src.count 60:=by unfold cnt; rw [wG0]
 have:=G.lt
 exact far [_,_,_] [.le qa qb,.eq qb qg,.le qg (.n 7)] (.le qa (.n 7)) rfl h1 h2 this
theorem Jg (L:LI k m0 ext w ps ms) (hk:k≤4):zp0 (k+1) m0 ext w ms (qk prog (d+90) 64 [.ref 1] (hp m0 (wD w) ext ps)):=by
 have G:=L.G
 have S:=L.sim
 have hL:=G.len
 have hrw:=L.rows
 have hlo:=L.lo
 have hhi:=L.hi
 have hdp:=L.deep
 have cn:=Nw G w.c
 refine x1a2 (BQ (d:=d+74) (σ:=hp m0 (wD w) ext ps) G 6 w.deep (by exact o39 _ _ hlo hdp) (by exact o40 _ _ _ hk hhi hdp) w.c S.le (by exact cn)) fun v hv hr=>?_
 change qk prog (d+89) 57 _ _=_ at hv
 have ha:=Yh (d:=d+8) G (Iw (m0:=m0) (wd:=wD w) (ext:=ext) (d:=d+8) G 6 (by exact yw0 _ _)) w.c ps S (by exact cn) (by exact kI0 (by decide) hlo) (by exact o41 _ _ hk hhi)
 change PA _ _ _ _ _ (qk prog (d+89) 43 _ _) _ at ha
 have af:=za G (fun c deep h=>jj G 6 c deep h) w.c w.deep S.le
 rw [← hdp] at ha
 obtain ⟨X,hX⟩:∃ X,X=qk prog (d+90) 64 [.ref 1] (hp m0 (wD w) ext ps):=⟨_,rfl⟩
 rw [← hX]
 rw [qz (k:=kW) (ρ:=[some (.val (.ref 1)),none,none]) rfl rfl] at hX
 cases hs:qZ (qY w.src 6) w.src w.c w.deep with
 | error e =>
  rw [hs] at hr ha
  refine x1a1 hr fun pl uQ0=>?_; subst uQ0
  refine x1a2 ha fun p2 e2 F=>?_
  have b:=af.2 e hs
  have b1:=b.lo
  have b2:=b.hi
  have mv:=vS (d:=d+87) (m0:=m0) (ext:=ext) (ps:=p2) (w:=w) (e:=e) rfl G b.le (by rw [L.told]; exact yf0 (ye0 hrw hk) (yc0 rfl)) (pl:=pl)
  change qk prog (d+89) 61 _ _=_ at mv
  have L':=L.fell (by exact yd0 hk) F (by exact o42 _ _ _ hlo hdp b1) (by exact hdp▸b2)
  have sm:=yI (d:=d+86) L'.G L'.same
  change qk prog (d+89) 60 _ _=_ at sm
  refine ⟨_,p2,?_,L',rfl,rfl⟩
  rw [hX]
  exact jc<|sC hv<|sX e2<|sC mv<|sO (UJ ..)<|sC sm<|rfl
 | ok r =>
  obtain ⟨c1,ks⟩:=r
  rw [hs] at hr ha
  change v=_ at hr
  subst hr
  refine x1a2 ha fun p2 e2 W2=>?_
  have o:=af.1 c1 ks hs
  have o1:=o.lt; have o2:=o.le; have o3:=o.sz; have o4:=o.ht
  have lk:=zH ks
  have nd:=kq (σ:=hp m0 (wD w) ext p2) (d:=d+9) (ks:=ks) (n:=80) (fun k' hk'=>Ur 80 k' (by have:=vo hk'; exact ye0 (ye0 this o4) (yc0 rfl)) (by have:=Bd hk'; exact far [_,_,_,_,_] [.le qb (.n 60),.le qg qb,.le qj qw,.le qa qj,.le qw qg] (.lt qa qP) rfl hL o2 o3 this (yn0 _ _))) (by exact far [_,_,_,_] [.le qb (.n 60),.le qg qb,.le qa qj,.le qj qg] (.lt qa qP) rfl hL o2 o3 (yn0 _ _)) (mkD prog (d+89)) [some (.val (.ref 1)),some (.val (.tup [.str [],.int c1,.int w.deep,.tup (ksV ks)])),none]
  change Nz prog (qk prog (d+89)) _ _ _ _ _ _ _=_ at nd
  have hl:(ksV ks).length≤4096:=by rw [xC]; exact far [_,_,_,_,_] [.le qb (.n 60),.le qg qb,.le qj qw,.le qa qj,.le qw qg] (.le qa qJ) rfl hL o2 o3 lk (yn0 _ _)
  have mv:=vl (d:=d+87) (m0:=m0) (ext:=ext) (ps:=p2) (w:=w) rfl G o.le (pl:=.tup (ksV ks)) (x:=w.deep)
  change qk prog (d+89) 61 _ _=_ at mv
  have L':=(L.went W2).mono (k':=k+1) (by exact yr0 _)
  have sm:=yI (d:=d+86) L'.G L'.same
  change qk prog (d+89) 60 _ _=_ at sm
  have ee:=xJ ((ye (n:=2*yA ks) (MQ ks)).flat (by exact far [_] [.k 2 (.le qa (.n 7))] (.le (.p (.m 2 qa) qh) (.n 60)) rfl o4))
  refine ⟨_,p2,?_,L',rfl,rfl⟩
  rw [hX]
  exact jc<|sC hv<|sC e2<|sK nd<|sL hl<|sC mv<|sO ee<|sC sm<|rfl
theorem Mf (L:LI k m0 ext w ps ms) (hk:k≤4):zp0 (k+1) m0 ext w ms (qk prog (d+90) 65 [.ref 1] (hp m0 (wD w) ext ps)):=by
 have G:=L.G
 have S:=L.sim
 have hL:=G.len
 have hrw:=L.rows
 have hlo:=L.lo
 have hhi:=L.hi
 have hdp:=L.deep
 have cn:=Nw G w.c
 refine x1a2 (ZK (d:=d+73) (σ:=hp m0 (wD w) ext ps) G 6 w.deep (by exact o39 _ _ hlo hdp) (by exact o40 _ _ _ hk hhi hdp) w.c S.le (by exact cn)) fun v hv hr=>?_
 change qk prog (d+89) 58 _ _=_ at hv
 have lf:=ZH (d:=d+87) (k:=.int 8) (a:=.str [102]) (at_:=.int w.c) (σ:=hp m0 (wD w) ext ps)
 change qk prog (d+89) 27 _ _=_ at lf
 have nt:=XE (d:=d+88) (σ:=hp m0 (wD w) ext ps)
 change mkD prog (d+89) 8 _ _=_ at nt
 have cl:∀ σ,(Bm σ (.obj 8 [])).bind (fun c=>prog.meth c 15)=some 47:=fun _=>rfl
 have tt:=Jd (d:=d+6) (m0:=m0) (wd:=wD w) (ext:=ext) (n:=6) G S L.pos (by exact cn) (by exact yw0 _ _) (by exact kI0 (by decide) hlo) (by exact o41 _ _ hk hhi) (lk:=.int 8) (la:=.str [102]) (lf:=.lst []) (la2:=.int 0) (lat:=.int w.c) (lid:=.int 0)
 rw [show d+6+11*6+17=d+89 by exact rfl,← hdp] at tt
 obtain ⟨X,hX⟩:∃ X,X=qk prog (d+90) 65 [.ref 1] (hp m0 (wD w) ext ps):=⟨_,rfl⟩
 rw [← hX]
 rw [qz (k:=Ad) (ρ:=[some (.val (.ref 1)),none,none,none,none,none,none]) rfl rfl] at hX
 have af:=za G (fun c deep h=>jj G 6 c deep h) w.c w.deep S.le
 cases hs:GN (qY w.src 6) w.src w.c w.deep with
 | error e =>
  rw [hs] at hr tt
  refine x1a1 hr fun pl uQ0=>?_; subst uQ0
  refine x1a2 tt fun p2 e2 F=>?_
  have b:e.c≤w.src.length∧w.deep≤e.deep∧e.deep≤w.deep+7:=by
   unfold GN at hs
   cases ha:qZ (qY w.src 6) w.src w.c w.deep with
   | error e'=>rw [ha] at hs; exact oeX hs
   | ok r =>
    obtain ⟨c1,ks⟩:=r
    rw [ha] at hs
    dsimp only at hs
    have o:=af.1 c1 ks ha
    split at hs
    ·rename_i hlp
     have rf:=we G (fun c deep h=>jj G 6 c deep h) (tk w.src c1).fin w.deep (je G.ch o.le)
     cases hb:wA (qY w.src 6) w.src w.deep (tk w.src c1).fin with
     | error e' =>
      rw [hb] at hs
      cases hs
      have b:=rf.2 e hb
      have b1:=b.lo
      have b2:=b.hi
      exact (yD b.le (by exact b1) (by exact b2))
     | ok r =>
      obtain ⟨c2,args⟩:=r
      rw [hb] at hs
      dsimp only at hs
      have:=rf.1 c2 args hb
      split at hs
      ·exact oeX hs
      ·cases hs
       exact (yD this.2.1 (kA0 _) (by show w.deep≤_; exact ku0 (kt0 _)))
    ·exact oeX hs
  have mv:=vS (d:=d+87) (m0:=m0) (ext:=ext) (ps:=p2) (w:=w) (e:=e) rfl G b.1 (by rw [L.told]; exact yf0 (ye0 hrw hk) (yc0 rfl)) (pl:=pl)
  change qk prog (d+89) 61 _ _=_ at mv
  have L':=L.fell (by exact yd0 hk) F (by exact o42 _ _ _ hlo hdp b.2.1) (by exact hdp▸b.2.2)
  have sm:=yI (d:=d+86) L'.G L'.same
  change qk prog (d+89) 60 _ _=_ at sm
  refine ⟨_,p2,?_,L',rfl,rfl⟩
  rw [hX]
  exact jc<|sC hv<|sC lf<|sC nt<|sX e2<|sC mv<|sO (UJ ..)<|sC sm<|rfl
 | ok r =>
  cases r with
  | none =>
   rw [hs] at hr tt
   change v=_ at hr
   subst hr
   dsimp only at tt
   have mv:=vl (d:=d+87) (m0:=m0) (ext:=ext) (ps:=ps) (w:=w) rfl G S.le (pl:=.none) (x:=w.deep)
   change qk prog (d+89) 61 _ _=_ at mv
   have L':=L.mono (k':=k+1) (by exact yr0 _)
   have sm:=yI (d:=d+86) L'.G L'.same
   change qk prog (d+89) 60 _ _=_ at sm
   refine ⟨_,ps,?_,L',rfl,rfl⟩
   rw [hX]
   exact jc<|sC hv<|sC lf<|sC nt<|sC tt<|sC mv<|sC sm<|rfl
  | some x =>
   rw [hs] at hr tt
   change v=_ at hr
   subst hr
   refine x1a2 tt fun p2 e2 W2=>?_
   have b:x.c≤w.src.length∧yA x.ks≤7∧yA x.args≤7∧xZ x.ks≤60∧xZ x.args≤60:=by
    unfold GN at hs
    cases ha:qZ (qY w.src 6) w.src w.c w.deep with
    | error e'=>rw [ha] at hs; cases hs
    | ok r =>
     obtain ⟨c1,ks⟩:=r
     rw [ha] at hs
     dsimp only at hs
     have o:=af.1 c1 ks ha
     have o3:=o.sz; have o4:=o.ht; have o5:=o.le
     split at hs
     ·rename_i hlp
      have rf:=we G (fun c deep h=>jj G 6 c deep h) (tk w.src c1).fin w.deep (je G.ch o.le)
      cases hb:wA (qY w.src 6) w.src w.deep (tk w.src c1).fin with
      | error e'=>rw [hb] at hs; exact eoX hs
      | ok r =>
       obtain ⟨c2,args⟩:=r
       rw [hb] at hs
       dsimp only at hs
       refine JL (rf.1 c2 args hb) fun f1 f2 f3 f4=>?_
       split at hs
       ·cases hs
        exact (qJ0 (je G.ch f2) (by dsimp only; exact o4) (by dsimp only; exact f4) (by dsimp only; exact far [_,_,_,_] [.le qb (.n 60),.le qa qj,.le qg qb,.le qj qg] (.le qa (.n 60)) rfl hL o3 o5 (yn0 _ _)) (by dsimp only; exact far [_,_,_,_] [.le qb (.n 60),.le qg qb,.le qa qj,.le qj qg] (.le qa (.n 60)) rfl hL f2 f3 (yn0 _ _)))
       ·exact eoX hs
     ·cases hs
   refine qM0 b fun b1 b2 b3 b4 b5=>?_
   have mv:=vl (d:=d+87) (m0:=m0) (ext:=ext) (ps:=p2) (w:=w) rfl G b1 (pl:=.tup [.int x.at_,.tup (ksV x.ks),.int x.opens,.tup (ksV x.args)]) (x:=w.deep)
   change qk prog (d+89) 61 _ _=_ at mv
   have L':=(L.went W2).mono (k':=k+1) (by exact yr0 _)
   have sm:=yI (d:=d+86) L'.G L'.same
   change qk prog (d+89) 60 _ _=_ at sm
   have n1:=uR (σ:=hp m0 (wD w) ext p2) (d:=d+8) (n:=80) (ks:=x.ks) (a:=x.at_) (by exact yd0 b2) (by exact yf0 b4 (yc0 rfl))
   have n2:=uR (σ:=hp m0 (wD w) ext p2) (d:=d+8) (n:=80) (ks:=x.args) (a:=x.opens) (by exact yd0 b3) (by exact yf0 b5 (yc0 rfl))
   change qk prog (d+89) 59 _ _=_ at n1 n2
   have el:=xJ (((MP (n:=0) (qW (zC _ 18) (qW (Dl _ (s:=[]) (by decide)) (qW (zC _ 4) (qW (zC _ w.c) (qW (zC _ 3) (qW (Dl _ (s:=[102]) (by decide)) wt))))))).flat (by exact yG0 _)))
   have ee:=xJ ((ye (n:=20) (qW (zC _ x.at_) (qW ((ye (n:=2*yA x.ks) (MQ x.ks)).mono (by exact far [_] [.k 2 (.le qa (.n 7))] (.le (.p (.m 2 qa) qh) (.n 20)) rfl b2)) (qW (zC _ x.opens) (qW ((ye (n:=2*yA x.args) (MQ x.args)).mono (by exact far [_] [.k 2 (.le qa (.n 7))] (.le (.p (.m 2 qa) qh) (.n 20)) rfl b3)) wt))))).flat (by exact yw0 _ _))
   refine ⟨_,p2,?_,L',rfl,rfl⟩
   rw [hX]
   exact jc<|sC hv<|sC lf<|sC nt<|sC e2<|sT2 el<|sC n1<|sC n2<|sC mv<|sO ee<|sC sm<|rfl
theorem MR.set {x:List V} {mr:Nat} (h:MR m0 ext mr x) (y:List V):∃ m0' ext',(∀ wd ps,(hp m0 wd ext ps).set mr (.list y)=hp m0' wd ext' ps)∧MR m0' ext' mr y:=by
 rcases h with ⟨rfl,rfl⟩ | ⟨j,rfl,h⟩
 ·exact (c2a2 (.list y) ext (fun _ _=>rfl) (.inl ⟨rfl,rfl⟩))
 ·refine (c2a2 m0 (ext.set j (.list y)) (fun wd ps=>?_) (.inr (c1a2 j rfl (wp0 (vv0.mp h).1))))
  rw [vm0]
  rfl
theorem DM {a b e:PS} {i j:Nat} (h1:jV a (zQ b) i=b) (hj:j≤i) (h2:jV b (zQ e) j=e):jV a (zQ e) j=e:=by
 have l2:=xw (s:=0) h2
 rw [← h2]
 have e1:b.splits=a.splits.take b.splits.length:=by have:=congrArg PS.splits h1; exact this.symm
 have e2:b.toks=xN (a.splits.drop b.splits.length) a.toks:=by have:=congrArg PS.toks h1; exact this.symm
 have e3:b.rows=a.rows.take b.rows.length:=by have:=congrArg PS.rows h1; exact this.symm
 have e4:b.saved=a.saved.take i:=by have:=congrArg PS.saved h1; exact this.symm
 have l1:=xw (s:=0) h1
 unfold jV zQ
 dsimp only
 have x1:xN (b.splits.drop e.splits.length) b.toks=xN (a.splits.drop e.splits.length) a.toks:=by
  rw [e2,← zE]
  congr 1
  conv=>lhs; lhs; rw [e1]
  have:a.splits.drop e.splits.length=(a.splits.take b.splits.length++a.splits.drop b.splits.length).drop e.splits.length:=by rw [kb0]
  rw [this,vY0 (by rw [vC0]; exact Nat.le_min.mpr ⟨l2.1,ye0 l2.1 l1.1⟩)]
 have x2:b.rows.take e.rows.length=a.rows.take e.rows.length:=by
  rw [e3,wH0]
  congr 1
  exact ys0 l2.2
 have x3:b.splits.take e.splits.length=a.splits.take e.splits.length:=by
  rw [e1,wH0]
  congr 1
  exact ys0 l2.1
 have x4:b.saved.take j=a.saved.take j:=by
  rw [e4,wH0]
  congr 1
  exact ys0 hj
 rw [x1,x2,x3,x4]
 have y2:(a.rows.take e.rows.length).length=e.rows.length:=by rw [vC0]; exact ys0 (far [_,_,_] [.le qa qg,.le qg qb] (.le qa qb) rfl l2.2 l1.2)
 have y3:(a.splits.take e.splits.length).length=e.splits.length:=by rw [vC0]; exact ys0 (far [_,_,_] [.le qa qg,.le qg qb] (.le qa qb) rfl l2.1 l1.1)
 rw [y2,y3]
structure Held (src:List Nat) (D:Int) (ms:List HM) (ps:PS) (i:Nat) (h:HM):Prop where
 saved:ps.saved[i]?=some (zQ h.ps)
 back:jV ps (zQ h.ps) i=h.ps
 sim:Sim src h.c h.ps
 pos:Pos h.ps
 lo:0≤h.ps.deep
 hi:h.ps.deep≤D
 mi:MI src D (ms.take i) h.ps
theorem MI.get (m:MI src D ms ps):∀ {i:Nat} {h:HM},ms[i]?=some h→Held src D ms ps i h:=by
 induction m with
 | nil _=>intro i h q; simp at q
 | @snoc ms h' ps a b c e f g r ih =>
  intro i h q
  have hl:=a.len
  by_cases hi:i<ms.length
  ·rw [vD0 hi] at q
   have H:=ih q
   refine ⟨?_,DM r (by exact far [_,_,_] [.eq qg qb,.lt qa qg] (.le qa qb) rfl hl hi) H.back,H.sim,H.pos,H.lo,H.hi,?_⟩
   ·rw [g,vD0 (by exact hl▸hi)]; exact H.saved
   ·rw [vF0 (by exact ym0 hi)]; exact H.mi
  ·have hi2:i=ms.length:=by
    have:=(vv0.mp q).1
    rw [vt0,vr0,vy0] at this
    exact yk0 (yj0 this) (yo0 hi)
   subst hi2
   rw [vz0 (yh0 _),yt0] at q
   cases q
   refine ⟨?_,by rw [hl]; exact r,b,c,e,f,?_⟩
   ·rw [g,hl,vz0 (yh0 _),yt0]; rfl
   ·rw [vF0 (yh0 _),vT0]; exact a
theorem MI.take (m:MI src D ms ps) {i:Nat} (hi:i<ms.length):MI src D (ms.take i) {ps with saved:=ps.saved.take i}:=by
 cases i with
 | zero=>exact .nil rfl
 | succ i =>
  have hq:ms[i]?=some (ms[i]'(by exact yx0 hi)):=vB0 (by exact yx0 hi)
  have H:=m.get hq
  generalize ms[i]'(by omega)=h at hq H
  have e1:ms.take (i+1)=ms.take i++[h]:=by
   rw [kq0,hq]; rfl
  have e4:h.ps.saved=ps.saved.take i:=by have:=congrArg PS.saved H.back; exact this.symm
  have hl:h.ps.saved.length=i:=by rw [e4,vC0,← m.len]; exact ys0 (far [_,_] [.lt (.p qa qh) qb] (.le qa qb) rfl hi)
  rw [e1]
  refine .snoc H.mi H.sim H.pos H.lo H.hi ?_ ?_
  ·show ps.saved.take (i+1)=_
   rw [e4,kq0,H.saved]; rfl
  ·rw [hl]
   have:=H.back
   unfold jV at this ⊢
   dsimp only
   rw [wH0,show min i (i+1)=i by exact ys0 (far [_] [] (.le qa (.p qa qh)) rfl)]
   exact this
theorem kA (L:LI k m0 ext w ps ms) (hk:k≤50) {k':Nat} (hkk:k≤k') (hmk:ms.length≤k'):∃ m0' ext',qk prog (d+5) 67 [.ref 1] (hp m0 (wD w) ext ps)=.ok (.bool true) (hp m0' (wD w) ext' {ps with saved:=ps.saved++[zQ ps]})∧LI k' m0' ext' w {ps with saved:=ps.saved++[zQ ps]} (ms++[⟨w.c,ps⟩]):=by
 have hl:=L.mi.len
 have hml:=L.ml
 have hrw:=L.rows
 refine x2a2 (L.mr.set (ms.map ky++[ky ⟨w.c,ps⟩])) fun m0' ext' hset hmr=>?_
 have L':LI k' m0' ext' w {ps with saved:=ps.saved++[zQ ps]} (ms++[⟨w.c,ps⟩]):=by
  refine ⟨L.G,⟨L.sim.drop,L.sim.le,L.sim.low,L.sim.spl,L.sim.rows⟩,⟨L.pos.pos,?_⟩,L.told,L.deep,L.lo,?_,?_,?_,?_,?_,L.nums⟩
  ·dsimp only; rw [vt0,vr0,vy0,← hl]; exact far [_,_] [.le qb (.n 50),.le qa (.p qb qh)] (.le (.p qa qh) (.n 100)) rfl hk hml
  ·have:=L.hi; dsimp only; exact o35 _ _ _ hkk this
  ·dsimp only; exact ye0 hrw hkk
  ·rw [vL0]; exact hmr
  ·exact .snoc (L.mi.mono (by exact kG0 (kB0.mpr hkk) (by decide))) L.sim L.pos L.lo (by have:=L.hi; dsimp only; exact o35 _ _ _ hkk this) rfl (uJ (p2:={ps with saved:=ps.saved++[zQ ps]}) rfl rfl rfl (XT.refl rfl rfl rfl) (by dsimp only; rw [vT0]))
  ·rw [vt0,vr0,vy0]; exact yu0 hmk
 refine (c2a2 m0' ext' ?_ L')
 rw [qz (k:=Ah) (ρ:=[some (.val (.ref 1)),none,none]) rfl rfl]
 have st:=Ba (d:=d+2) (m0:=m0) (wd:=wD w) (ext:=ext) (ps:=ps) L.sim.low (by exact yf0 (ye0 hrw hk) (yc0 rfl))
 change qk prog (d+4) 66 _ _=_ at st
 have mm:=Us (d:=d+2) (m0:=m0) (wd:=wD w) (ext:=ext) (ps:=ps) (by exact far [_,_,_] [.le qb (.n 50),.qe qg qa,.le qg (.p qb qh)] (.lt qa (.n 4000)) rfl hk hl hml)
 change qk prog (d+4) 18 _ _=_ at mm
 have sm:=yI (d:=d+1) L'.G L'.same
 change qk prog (d+4) 60 _ _=_ at sm
 have get:=L.mr.get (wd:=wD w) (ps:={ps with saved:=ps.saved++[zQ ps]})
 have app:∀ ρ,YI ⟨ρ,hp m0 (wD w) ext {ps with saved:=ps.saved++[zQ ps]}⟩ (.ref w.mr) (ky ⟨w.c,ps⟩)=.ok .next ⟨ρ,hp m0' (wD w) ext' {ps with saved:=ps.saved++[zQ ps]}⟩:=by
  intro ρ
  rw [← hset]
  unfold YI
  dsimp only
  rw [get]
  dsimp only
  rw [if_pos (by rw [vq0]; unfold qD; exact far [_,_] [.le qb (.n 50),.le qa (.p qb qh)] (.lt qa qJ) rfl hk hml)]
 have hmv:ky ⟨w.c,ps⟩=.tup [.int w.c,.int w.deep,.lst (w.told.map dgR),wj ps]:=by unfold ky; rw [L.told,L.deep]
 rw [hmv] at app
 have get':=hmr.get (wd:=wD w) (ps:={ps with saved:=ps.saved++[zQ ps]})
 obtain ⟨Lx,hLx⟩:∃ Lx:Nat,Lx=ps.saved.length+1:=⟨_,rfl⟩
 have e1:zb (.ref w.mr) (hp m0' (wD w) ext' {ps with saved:=ps.saved++[zQ ps]})=some (Lx:Int):=by
  simp only [zb,vh,get',vt0,vq0,vr0,vy0,hl,hLx]
 have e2:jS .sub (.int (Lx:Int)) (.int 1)=some (.int ps.saved.length):=by rw [hLx]; exact Kd (n:=ps.saved.length) (by exact far [_,_,_] [.le qb (.n 50),.qe qg qa,.le qg (.p qb qh)] (.lt qa (.n 100000)) rfl hk hl hml)
 clear hLx
 have e3:qF .eq (.int (ps.saved.length:Int)) (.int (ps.saved.length:Int))=some true:=xJ (Bh _)
 exact jc<|sC st<|sC mm<|sO (congrArg (Option.bind · qK0) get)<|sK (app ..)<|sO e1<|sO e2<|sT2 e3<|sC sm<|rfl
theorem Dy {x:List V} {mr i:Nat} {wd:O} (h:MR m0 ext mr x) (hx:x.length<1000) (ρ:List (Option LV)):jO true (.ref mr) .none (.int i) ⟨ρ,hp m0 wd ext ps⟩=.ok (.ref (14+ext.length)) ⟨ρ,hp m0 wd (ext++[.list (x.take i)]) ps⟩:=by
 have g:=h.get (wd:=wd) (ps:=ps)
 have e1:JI x .none (.int i)=some (x.take i):=rfl
 show (match (hp m0 wd ext ps)[mr]? with | some (O.list vs)=>GK true vs .none (.int i) ⟨ρ,hp m0 wd ext ps⟩ | _=>R.bad)=_
 rw [g]
 show GK true x .none (.int i) ⟨ρ,hp m0 wd ext ps⟩=_
 unfold GK
 rw [if_pos (by unfold qD; exact ye0 (ym0 hx) (yc0 rfl)),e1]
 show R.ok (V.ref (hp m0 wd ext ps).length) ⟨ρ,hp m0 wd ext ps++[.list (x.take i)]⟩=_
 have e2:(hp m0 wd ext ps).length=14+ext.length:=by unfold hp; simp; exact yk0 (far [_] [] (.le (.p qa (.n 14)) (.p (.n 14) qa)) rfl) (far [_] [] (.le (.p (.n 14) qa) (.p qa (.n 14))) rfl)
 rw [e2]
 rfl
theorem MR.new (x:List V):MR m0 (ext++[.list x]) (14+ext.length) x:=.inr (c1a2 ext.length rfl (by simp))
theorem kB (L:LI k m0 ext w ps ms) (hk:k≤50) {i:Nat} (hi:i<ms.length):∃ ext' w' ps',qk prog (d+5) 68 [.ref 1,.int i] (hp m0 (wD w) ext ps)=.ok (.bool true) (hp m0 (wD w') ext' ps')∧LI k m0 ext' w' ps' (ms.take i)∧w'.next=w.next∧w'.src=w.src∧w'.nums=w.nums:=by
 have hq:ms[i]?=some (ms[i]'hi):=vB0 hi
 have H:=L.mi.get hq
 generalize ms[i]'hi=h at hq H
 have hl:=L.mi.len
 have hml:=L.ml
 have hrw:=L.rows
 have hsp:=L.sim.spl
 have rl:=xw (s:=0) H.back
 have L':LI k m0 (ext++[.list ((ms.map ky).take i)]) {w with c:=h.c,deep:=h.ps.deep,told:=h.ps.rows,mr:=14+ext.length} h.ps (ms.take i):=by
  refine ⟨L.G,H.sim,H.pos,rfl,rfl,H.lo,H.hi,by exact ye0 rl.2 hrw,?_,H.mi,?_,⟨L.nums.len,L.nums.ok⟩⟩
  ·rw [wr0]; exact .new _
  ·rw [vC0]; exact far [_,_,_] [.le qa (.p qg qh),.le qb qa] (.le qb (.p qg qh)) rfl hml (yp0 _ _)
 refine (c3a5 _ _ _ ?_ L' rfl rfl rfl)
 rw [qz (k:=Ak) (ρ:=[some (.val (.ref 1)),some (.val (.int i)),none]) rfl rfl]
 have bk:=Uv (d:=d+1) (m0:=m0) (wd:=wD w) (ext:=ext) (ps:=ps) (i:=i) H.saved (by rw [← hl]; exact far [_,_] [.le qb (.n 50),.le qa (.p qb qh)] (.lt qa qP) rfl hk hml) (by exact yf0 (ye0 hrw hk) (yc0 rfl)) (by exact far [_,_] [.le (.p qa (.m 2 qb)) qQ] (.lt qa qP) rfl hsp) (by unfold zQ; dsimp only; exact far [_,_,_] [.le qb (.n 50),.le qg qb,.le qa qg] (.lt qa (.n 100000)) rfl hk hrw rl.2) (by unfold zQ; dsimp only; exact far [_,_,_] [.le (.p qb (.m 2 qg)) qQ,.le qa qb] (.lt qa (.n 100000)) rfl hsp rl.1) L.pos.pos
 change qk prog (d+4) 19 _ _=_ at bk
 rw [H.back] at bk
 have get:=L.mr.get (wd:=wD w) (ps:=h.ps)
 have ix:zB (.ref w.mr) (.int i) (hp m0 (wD w) ext h.ps)=some (.tup [.int h.c,.int h.ps.deep,.lst (h.ps.rows.map dgR),wj h.ps]):=by
  show ((hp m0 (wD w) ext h.ps)[w.mr]?).bind (atO (.int i))=_
  rw [get]
  show (if _ then _ else _)=_
  rw [if_neg (ku (by exact far [_,_,_] [.le qb (.n 50),.lt qa qg,.le qg (.p qb qh)] (.lt qa (.n 1000000)) rfl hk hi hml)),show ((i:Int)).toNat=i from rfl,vG0,hq]
  rfl
 have sl:=fun ρ wd=>Dy (ps:=h.ps) (wd:=wd) (i:=i) L.mr (by rw [vq0]; exact far [_,_] [.le qb (.n 50),.le qa (.p qb qh)] (.lt qa qG) rfl hk hml) ρ
 have st:=Ba (d:=d+2) (m0:=m0) (wd:=wD {w with c:=h.c,deep:=h.ps.deep,told:=h.ps.rows,mr:=14+ext.length}) (ext:=ext++[.list ((ms.map ky).take i)]) (ps:=h.ps) H.sim.low (by exact far [_,_,_] [.le qb (.n 50),.le qg qb,.le qa qg] (.lt qa qP) rfl hk hrw rl.2)
 change qk prog (d+4) 66 _ _=_ at st
 have sm:=yI (d:=d+1) L'.G L'.same
 change qk prog (d+4) 60 _ _=_ at sm
 have e3:=xJ ((Iy h.ps).flat (by exact yw0 _ _))
 exact jc<|sC bk<|sO ix<|sK (sl ..)<|sC st<|sO e3<|sC sm<|rfl
theorem Mg (L:LI k m0 ext w ps ms) (hk:k≤50) {i:Nat} (hi:i<ms.length):∃ ext' w' ps',qk prog (d+5) 69 [.ref 1,.int i] (hp m0 (wD w) ext ps)=.ok (.bool true) (hp m0 (wD w') ext' ps')∧LI k m0 ext' w' ps' (ms.take i)∧w'.next=w.next:=by
 have hq:ms[i]?=some (ms[i]'hi):=vB0 hi
 have H:=L.mi.get hq
 have hl:=L.mi.len
 have hml:=L.ml
 have hrw:=L.rows
 have L':LI k m0 (ext++[.list ((ms.map ky).take i)]) {w with mr:=14+ext.length} {ps with saved:=ps.saved.take i} (ms.take i):=by
  refine ⟨L.G,⟨L.sim.drop,L.sim.le,L.sim.low,L.sim.spl,L.sim.rows⟩,⟨L.pos.pos,?_⟩,L.told,L.deep,L.lo,L.hi,L.rows,?_,L.mi.take hi,?_,⟨L.nums.len,L.nums.ok⟩⟩
  ·dsimp only; rw [vC0]; exact far [_,_,_,_] [.le qg (.n 50),.qe qj qa,.le qj (.p qg qh),.le qb qa] (.le qb (.n 100)) rfl hk hl hml (yp0 _ _)
  ·rw [wr0]; exact .new _
  ·rw [vC0]; exact far [_,_,_] [.le qa (.p qg qh),.le qb qa] (.le qb (.p qg qh)) rfl hml (yp0 _ _)
 refine (c3a3 _ _ _ ?_ L' rfl)
 rw [qz (k:=Ai) (ρ:=[some (.val (.ref 1)),some (.val (.int i)),none]) rfl rfl]
 have st0:=Ba (d:=d+2) (m0:=m0) (wd:=wD w) (ext:=ext) (ps:=ps) L.sim.low (by exact yf0 (ye0 hrw hk) (yc0 rfl))
 change qk prog (d+4) 66 _ _=_ at st0
 have kp:=Uu (d:=d+1) (m0:=m0) (wd:=wD w) (ext:=ext) (ps:=ps) (i:=i) H.saved (by rw [← hl]; exact far [_,_] [.le qb (.n 50),.le qa (.p qb qh)] (.lt qa qP) rfl hk hml)
 change qk prog (d+4) 20 _ _=_ at kp
 have sl:=fun ρ wd=>Dy (ps:={ps with saved:=ps.saved.take i}) (wd:=wd) (i:=i) L.mr (by rw [vq0]; exact far [_,_] [.le qb (.n 50),.le qa (.p qb qh)] (.lt qa qG) rfl hk hml) ρ
 have st:=Ba (d:=d+2) (m0:=m0) (wd:=wD {w with mr:=14+ext.length}) (ext:=ext++[.list ((ms.map ky).take i)]) (ps:={ps with saved:=ps.saved.take i}) L.sim.low (by dsimp only; exact yf0 (ye0 hrw hk) (yc0 rfl))
 change qk prog (d+4) 66 _ _=_ at st
 have sm:=yI (d:=d+1) L'.G L'.same
 change qk prog (d+4) 60 _ _=_ at sm
 have e3:=xJ ((Iy ps).flat (by exact yw0 _ _))
 have e4:wj {ps with saved:=ps.saved.take i}=wj ps:=rfl
 rw [e4] at st
 exact jc<|sC st0<|sC kp<|sK (sl ..)<|sC st<|sO e3<|sC sm<|rfl
theorem qF0 {a b:Nat}:qF .lt (.int (a:Int)) (.int (b:Int))=some (decide (a<b)):=by
 show some (decide ((a:Int)<(b:Int)))=_
 congr 1
 exact decide_eq_decide.mpr (by exact o43 _ _)
theorem qH0 {a b:Nat}:qF .eq (.int (a:Int)) (.int (b:Int))=some (decide (a=b)):=by
 rw [UK]
 congr 1
 by_cases h:a=b
 ·subst h; rw [decide_eq_true rfl]; exact beq_self_eq_true _
 ·rw [decide_eq_false h,beq_eq_false_iff_ne]; lia
noncomputable def zo0 (k x:Nat) (r:RC):Prop:=∃ m0' ext' w' ps' ms',r=.ok (.bool true) (hp m0' (wD w') ext' ps')∧LI k m0' ext' w' ps' ms'∧w'.next≤x
theorem LI.draw {x:Nat} (L:LI k m0 ext w ps ms):LI k m0 ext {w with next:=x} ps ms :=
 ⟨L.G,L.sim,L.pos,L.told,L.deep,L.lo,L.hi,L.rows,L.mr,L.mi,L.ml,⟨L.nums.len,L.nums.ok⟩⟩
theorem XO (L:LI k m0 ext w ps ms) (hk:k≤4) (hx:w.next≤400) {xY:Nat} (hp10:xY<10):zo0 (k+1) (w.next+1) (qk prog (d+91) 70 [.ref 1,.int xY] (hp m0 (wD w) ext ps)):=by
 obtain ⟨X,hX⟩:∃ X,X=qk prog (d+91) 70 [.ref 1,.int xY] (hp m0 (wD w) ext ps):=⟨_,rfl⟩
 rw [← hX]
 rw [qz (k:=IA) (ρ:=[some (.val (.ref 1)),some (.val (.int xY)),none]) rfl rfl] at hX
 have hml:=L.ml
 have get:=L.mr.get (wd:=wD w) (ps:=ps)
 have e0:zb (.ref w.mr) (hp m0 (wD w) ext ps)=some (ms.length:Int):=by simp only [zb,vh,get,vq0]
 have c2:=qF0 (a:=xY) (b:=2)
 have c4:=qF0 (a:=xY) (b:=4)
 have c6:=qF0 (a:=xY) (b:=6)
 have c9:=qF0 (a:=xY) (b:=9)
 have q6:=qH0 (a:=xY) (b:=6)
 have q7:=qH0 (a:=xY) (b:=7)
 have q8:=qH0 (a:=xY) (b:=8)
 have q0:=qH0 (a:=ms.length) (b:=0)
 change qF .lt (.int xY) (.int 2)=_ at c2
 change qF .lt (.int xY) (.int 4)=_ at c4
 change qF .lt (.int xY) (.int 6)=_ at c6
 change qF .lt (.int xY) (.int 9)=_ at c9
 change qF .eq (.int xY) (.int 6)=_ at q6
 change qF .eq (.int xY) (.int 7)=_ at q7
 change qF .eq (.int xY) (.int 8)=_ at q8
 change qF .eq (.int ms.length) (.int 0)=_ at q0
 by_cases h2:xY<2
 ·rw [decide_eq_true h2] at c2
  refine x2a2 (qD0 (d:=d+88) (m0:=m0) (ext:=ext) (w:=w) (l:=[60]) L.G (by decide) rfl L.sim) fun c' p1 e1 W1=>?_
  change qk prog (d+90) 62 _ _=_ at e1
  have h:=Jg (d:=d) (L.went W1) hk
  refine x2a4 h fun w' p2 e2 L2 n2 _=>?_
  refine ⟨_,_,w',p2,ms,?_,L2,by rw [n2]; dsimp only; exact yr0 _⟩
  rw [hX]
  exact jc<|sO e0<|sT2 c2<|sC e1<|sC e2<|rfl
 ·rw [decide_eq_false h2] at c2
  by_cases h4:xY<4
  ·rw [decide_eq_true h4] at c4
   refine x2a2 (qD0 (d:=d+88) (m0:=m0) (ext:=ext) (w:=w) (l:=[60]) L.G (by decide) rfl L.sim) fun c' p1 e1 W1=>?_
   change qk prog (d+90) 62 _ _=_ at e1
   have h:=Mf (d:=d) (L.went W1) hk
   refine x2a4 h fun w' p2 e2 L2 n2 _=>?_
   refine ⟨_,_,w',p2,ms,?_,L2,by rw [n2]; dsimp only; exact yr0 _⟩
   rw [hX]
   exact jc<|sO e0<|sF2 c2<|sT2 c4<|sC e1<|sC e2<|rfl
  ·rw [decide_eq_false h4] at c4
   by_cases h6:xY<6
   ·rw [decide_eq_true h6] at c6
    refine x2a2 (qD0 (d:=d+88) (m0:=m0) (ext:=ext) (w:=w) (l:=[62]) L.G (by decide) rfl L.sim) fun c' p1 e1 W1=>?_
    change qk prog (d+90) 62 _ _=_ at e1
    have h:=yy (d:=d+83) (L.went W1) (by exact yd0 hk)
    refine x2a4 h fun w' p2 e2 L2 n2 _=>?_
    change qk prog (d+90) 63 _ _=_ at e2
    refine ⟨_,_,w',p2,ms,?_,L2,by rw [n2]; dsimp only; exact yr0 _⟩
    rw [hX]
    exact jc<|sO e0<|sF2 c2<|sF2 c4<|sT2 c6<|sC e1<|sC e2<|rfl
   ·rw [decide_eq_false h6] at c6
    by_cases hmk:xY=6∨(ms.length=0∧xY<9)
    ·refine x2a2 (kA (d:=d+85) L (by exact yd0 hk) (k':=k+1) (by exact yr0 _) (by exact hml)) fun m0' ext' e1 L1=>?_
     change qk prog (d+90) 67 _ _=_ at e1
     refine ⟨m0',ext',w,_,_,?_,L1,by exact yr0 _⟩
     rw [hX]
     rcases hmk with h | ⟨h,h'⟩
     ·rw [decide_eq_true h] at q6
      exact jc<|sO e0<|sF2 c2<|sF2 c4<|sF2 c6<|sT2 q6<|sC e1<|rfl
     ·rw [decide_eq_true h] at q0
      rw [decide_eq_true h'] at c9
      by_cases h66:xY=6
      ·rw [decide_eq_true h66] at q6
       exact jc<|sO e0<|sF2 c2<|sF2 c4<|sF2 c6<|sT2 q6<|sC e1<|rfl
      ·rw [decide_eq_false h66] at q6
       exact jc<|sO e0<|sF2 c2<|sF2 c4<|sF2 c6<|sF2 q6<|sT2 q0<|sT2 c9<|sC e1<|rfl
    ·have h66:¬ xY=6:=fun q=>hmk (.inl q)
     rw [decide_eq_false h66] at q6
     by_cases h9:xY<9
     ·have hm0:¬ ms.length=0:=fun q=>hmk (.inr ⟨q,h9⟩)
      rw [decide_eq_false hm0] at q0
      refine x1a2 (Ma (d:=d+89) (m0:=m0) (ext:=ext) (ps:=ps) L.nums (by exact yd0 hx) ms.length (by exact yH0 hm0) (by exact far [_,_] [.le qb (.n 4),.le qa (.p qb qh)] (.lt qa qG) rfl hk hml)) fun i hi e1=>?_
      change qk prog (d+90) 49 _ _=_ at e1
      have Ld:LI k m0 ext {w with next:=w.next+1} ps ms:=L.draw
      by_cases h7:xY=7
      ·rw [decide_eq_true h7] at q7
       refine x3a4 (kB (d:=d+85) Ld (by exact yd0 hk) hi) fun ext' w' p2 e2 L2 n2 _=>?_
       change qk prog (d+90) 68 _ _=_ at e2
       refine ⟨_,_,w',p2,_,?_,L2.mono (by exact yr0 _),by rw [n2]; exact yh0 _⟩
       rw [hX]
       exact jc<|sO e0<|sF2 c2<|sF2 c4<|sF2 c6<|sF2 q6<|sF2 q0<|sT2 q7<|sC e1<|sC e2<|rfl
      ·rw [decide_eq_false h7] at q7
       have h8:xY=8:=by exact o45 _ h6 h66 h9 h7
       rw [decide_eq_true h8] at q8
       refine x3a3 (Mg (d:=d+85) Ld (by exact yd0 hk) hi) fun ext' w' p2 e2 L2 n2=>?_
       change qk prog (d+90) 69 _ _=_ at e2
       refine ⟨_,_,w',p2,_,?_,L2.mono (by exact yr0 _),by rw [n2]; exact yh0 _⟩
       rw [hX]
       exact jc<|sO e0<|sF2 c2<|sF2 c4<|sF2 c6<|sF2 q6<|sF2 q0<|sF2 q7<|sT2 q8<|sC e1<|sC e2<|rfl
     ·have h7:¬ xY=7:=by exact o46 _ h9
      have h8:¬ xY=8:=by exact o47 _ h9
      rw [decide_eq_false h9] at c9
      rw [decide_eq_false h7] at q7
      rw [decide_eq_false h8] at q8
      have h:=yy (d:=d+83) L (by exact yd0 hk)
      refine x2a4 h fun w' p2 e2 L2 n2 _=>?_
      change qk prog (d+90) 63 _ _=_ at e2
      refine ⟨_,_,w',p2,ms,?_,L2,by rw [n2]; exact yr0 _⟩
      rw [hX]
      cases hq:decide (ms.length=0)
      ·rw [hq] at q0
       exact jc<|sO e0<|sF2 c2<|sF2 c4<|sF2 c6<|sF2 q6<|sF2 q0<|sF2 q7<|sF2 q8<|sC e2<|rfl
      ·rw [hq] at q0
       exact jc<|sO e0<|sF2 c2<|sF2 c4<|sF2 c6<|sF2 q6<|sT2 q0<|sF2 c9<|sF2 q7<|sF2 q8<|sC e2<|rfl
theorem Na {x0 x1 x3 x4:Option LV}:∀ (vs:List V) (k:Nat) (m0:O) (ext:H) (w:W) (ps:PS) (ms:List HM) (x5:Option LV),LI k m0 ext w ps ms→k+vs.length≤5→w.next+2*vs.length≤400→∃ k' m0' ext' w' ps' ms' y5,Gr prog (qk prog (d+91)) mk 5 (.cons (.ifs (.not (.callF 70 (.cons qm (.cons (.callF 49 (.cons qm (.cons (.cst (.int 10)) .nil))) .nil)))) (.cons (.ret jb) .nil) .nil) .nil) vs ⟨[x0,x1,some (.val (.ref 1)),x3,x4,x5],hp m0 (wD w) ext ps⟩=.ok .next ⟨[x0,x1,some (.val (.ref 1)),x3,x4,y5],hp m0' (wD w') ext' ps'⟩∧LI k' m0' ext' w' ps' ms'∧k'≤5∧w'.next≤400
 | [],k,m0,ext,w,ps,ms,x5,L,h1,h2=>(c7a4 k m0 ext w ps ms x5 yB L (by simp only [vy0] at h1; exact h1) (by simp only [vy0] at h2; exact h2))
 | v::vs,k,m0,ext,w,ps,ms,x5,L,h1,h2=>by
  rw [vr0] at h1 h2
  refine x1a2 (Ma (d:=d+90) (m0:=m0) (ext:=ext) (ps:=ps) L.nums (by exact far [_,_] [.le (.p qa (.m 2 (.p qb qh))) (.n 400)] (.le qa (.n 500)) rfl h2) 10 (by decide) (by decide)) fun xY hp e1=>?_
  change qk prog (d+91) 49 [.ref 1,.int 10] _=_ at e1
  refine x5a3 (XO (d:=d) (L.draw (x:=w.next+1)) (by exact far [_,_] [.le (.p qa (.p qb qh)) (.n 5)] (.le qa (.n 4)) rfl h1) (by dsimp only; exact far [_,_] [.le (.p qa (.m 2 (.p qb qh))) (.n 400)] (.le (.p qa qh) (.n 400)) rfl h2) hp) fun m1 x1' w1 p1 ms1 e2 L1 n1=>?_
  dsimp only at n1
  obtain ⟨k',m2,x2',w2,p2,ms2,y5,e3,L2,l1,l2⟩:=Na vs (k+1) m1 x1' w1 p1 ms1 (some (.val v)) L1 (by exact far [_,_] [.le (.p qa (.p qb qh)) (.n 5)] (.le (.p (.p qa qh) qb) (.n 5)) rfl h1) (by exact far [_,_,_] [.le (.p qg (.m 2 (.p qb qh))) (.n 400),.le qa (.p qg qC)] (.le (.p qa (.m 2 qb)) (.n 400)) rfl h2 n1)
  refine (c7a4 k' m2 x2' w2 p2 ms2 y5 ?_ L2 l1 l2)
  exact zr0<|sC e1<|sC e2<|e3
theorem Mx {mr:Nat} {x:List V} {wd:O} (h:MR m0 ext mr x):zb (.ref mr) (hp m0 wd ext ps)=some (x.length:Int):=by
 have g:=h.get (wd:=wd) (ps:=ps)
 simp only [zb,vh,g]
noncomputable def Mz:Ss:=match f_law.body with
 | .cons _ (.cons _ (.cons _ (.cons _ (.cons _ (.cons _ (.cons _ (.cons _ (.cons _ (.cons _ r)))))))))=>r
 | _=>.nil
theorem OV (L:LI 0 m0 ext w ps []) (hx:w.next≤300) {x0 x1 x3 x4 x5:Option LV}:∃ st,exs prog (qk prog (d+91)) mk Mz ⟨[x0,x1,some (.val (.ref 1)),x3,x4,x5],hp m0 (wD w) ext ps⟩=.ok (.ret (.bool true)) st:=by
 change ∃ st,exs prog (qk prog (d+91)) mk (.cons _ (.cons _ (.cons _ (.cons _ (.cons _ (.cons _ .nil)))))) _=_
 refine x2a2 (kA (d:=d+86) L (by exact yq0 _) (k':=0) (by exact yh0 _) (by simp)) fun m1 y1 e1 L1=>?_
 change qk prog (d+91) 67 _ _=_ at e1
 rw [qI (st':=⟨[x0,x1,some (.val (.ref 1)),x3,x4,x5],hp m1 (wD w) y1 {ps with saved:=ps.saved++[zQ ps]}⟩) (by exact wEx<|sC e1<|rfl)]
 refine x1a2 (Ma (d:=d+90) (m0:=m1) (ext:=y1) (ps:={ps with saved:=ps.saved++[zQ ps]}) L1.nums (by exact yd0 hx) 4 (by decide) (by decide)) fun n4 hn4 e2=>?_
 change qk prog (d+91) 49 [.ref 1,.int 4] _=_ at e2
 obtain ⟨k2,m2,y2,w2,p2,ms2,z5,e3,L2,l1,l2⟩:=Na (d:=d) (mk:=mk) (x0:=x0) (x1:=x1) (x3:=x3) (x4:=x4) ((wd0 (n4+2)).map fun (j:Nat)=>V.int j) 0 m1 y1 {w with next:=w.next+1} _ _ x5 (L1.draw (x:=w.next+1)) (by rw [vq0,vN0]; exact far [_] [.lt qa (.n 4)] (.le (.p (.n 0) (.p qa qC)) (.n 5)) rfl hn4) (by rw [vq0,vN0]; dsimp only; exact far [_,_] [.le qa (.n 300),.k 2 (.lt qb (.n 4))] (.le (.p (.p qa qh) (.m 2 (.p qb qC))) (.n 400)) rfl hx hn4)
 have o1:jS .add (.int 2) (.int n4)=some (.int ((n4+2:Nat):Int)):=by
  rw [zj (show okI 2=true by rfl) (qM (by exact yd0 hn4))]
  congr 2
  exact kN0 _ _
 rw [qI (st':=⟨[x0,x1,some (.val (.ref 1)),x3,x4,z5],hp m2 (wD w2) y2 p2⟩) (by exact wEx<|sC e2<|sO o1<|sI ⟨kt0 _,by exact o48 _ hn4⟩<|sK e3<|rfl)]
 have lm:=Mx (wd:=wD w2) (ps:=p2) L2.mr
 rw [vq0] at lm
 have back:∃ y3 w3 p3,ex prog (qk prog (d+91)) mk (.ifs (.and (.cmp .gt (.len (.idx qm ze)) qo) (.not (.callF 68 (.cons qm (.cons qo .nil))))) (.cons (.ret jb) .nil) .nil) ⟨[x0,x1,some (.val (.ref 1)),x3,x4,z5],hp m2 (wD w2) y2 p2⟩=.ok .next ⟨[x0,x1,some (.val (.ref 1)),x3,x4,z5],hp m2 (wD w3) y3 p3⟩∧LI k2 m2 y3 w3 p3 []:=by
  by_cases h0:0<ms2.length
  ·refine x3a3 (kB (d:=d+86) L2 (by exact yd0 l1) h0) fun y3 w3 p3 e4 L3 _=>?_
   change qk prog (d+91) 68 [.ref 1,.int 0] _=_ at e4
   have g1:qF .gt (.int (ms2.length:Int)) (.int 0)=some true:=by show some (decide _)=_; rw [decide_eq_true (by exact kF0.mpr h0)]
   refine (c3a2 y3 w3 p3 ?_ (by rw [kr0] at L3; exact L3))
   exact wEx<|sO lm<|sT2 g1<|sC e4<|rfl
  ·have hm:ms2=[]:=vK0.mp (by exact yV0 h0)
   have g1:qF .gt (.int (ms2.length:Int)) (.int 0)=some false:=by show some (decide _)=_; rw [decide_eq_false (by exact kD0.mpr (kB0.mpr (yo0 h0)))]
   refine (c3a2 y2 w2 p2 ?_ (by rw [← hm]; exact L2))
   exact wEx<|sO lm<|sF2 g1<|rfl
 refine x3a2 back fun y3 w3 p3 e4 L3=>?_
 rw [qI e4]
 refine x2a2 (qD0 (d:=d+89) (m0:=m2) (ext:=y3) (w:=w3) (l:=[62]) L3.G (by decide) rfl L3.sim) fun c' p4 e5 W4=>?_
 change qk prog (d+91) 62 _ _=_ at e5
 have L4:=L3.went W4
 rw [qI (st':=⟨[x0,x1,some (.val (.ref 1)),x3,x4,z5],hp m2 (wD {w3 with c:=c'}) y3 p4⟩) (by exact wEx<|sC e5<|rfl)]
 refine x2a2 (kA (d:=d+86) L4 (by exact yd0 l1) (k':=k2) (by exact yh0 _) (by simp)) fun m5 y5 e6 L5=>?_
 change qk prog (d+91) 67 _ _=_ at e6
 refine x2a3 (yy (d:=d+84) L5 (by exact yd0 l1)) fun w6 p6 e7 L6 _=>?_
 change qk prog (d+91) 63 _ _=_ at e7
 refine x3a3 (kB (d:=d+86) L6 (by exact yf0 l1 (yc0 rfl)) (i:=0) (by simp)) fun y7 w7 p7 e8 L7 _=>?_
 change qk prog (d+91) 68 [.ref 1,.int 0] _=_ at e8
 rw [qI (st':=⟨[x0,x1,some (.val (.ref 1)),x3,x4,z5],hp m5 (wD w7) y7 p7⟩) (by exact wEx<|sC e6<|sC e7<|sC e8<|rfl)]
 refine x2a3 (yy (d:=d+84) L7 (by exact yf0 l1 (yc0 rfl))) fun w8 p8 e9 L8 _=>?_
 change qk prog (d+91) 63 _ _=_ at e9
 exact ⟨_,by exact IM<|sC e9<|rfl⟩
end
noncomputable def th (nums:List Int) (x:Nat):H:=[.list [],.dict [(.str [110,117,109,115],.lst (nums.map V.int)),(.str [110,101,120,116],.int x),(.str [99],.int 0),(.str [100,101,101,112],.int 0),(.str [116,111,108,100],.lst []),(.str [109,97,114,107,115],.ref 0)]]
structure NumsOk (nums:List Int):Prop where
 len:1≤nums.length∧nums.length≤100
 ok:∀ x∈nums,0≤x∧x<10000
noncomputable def sV (L:List Sg):List V:=(L.map Sg.txt).map V.str
theorem xe (a b:List Sg):sV (a++b)=sV a++sV b:=by unfold sV; rw [vL0,vL0]
theorem wm (a:List Sg):(sV a).length=a.length:=by unfold sV; rw [vq0,vq0]
noncomputable def okR:Bool→List Sg→Bool
 | _,[]=>true
 | b,x::r=>(!(x==.lt)||b)&&okR x.letter r
theorem OA {b:Bool} {L:List Sg} (h:okR false L=true):okR b L=true:=by
 cases L with
 | nil=>rfl
 | cons x r =>
  unfold okR at h ⊢
  rw [ug0,uv0] at h
  rw [h.1,h.2]; rfl
theorem AR {W:List Sg} (hw:okR false W=true):∀ {L:List Sg} {b:Bool},okR b L=true→okR b (L++W)=true
 | [],_,_=>OA hw
 | x::L,b,h=>by
  unfold okR at h
  rw [ug0] at h
  rw [wj0]
  unfold okR
  rw [h.1,AR hw h.2]; rfl
theorem yw {l:Sg} {W:List Sg} (hl:l.letter=true) (hw:okR true W=true):∀ {L:List Sg} {b:Bool},okR b L=true→okR b (L++l::W)=true
 | [],b,_=>by
  rw [wq0]
  unfold okR
  rw [hl,hw]
  cases l <;> first | rfl | exact ftB hl
 | x::L,b,h=>by
  unfold okR at h
  rw [ug0] at h
  rw [wj0]
  unfold okR
  rw [h.1,yw hl hw h.2]; rfl
theorem Ia:∀ {L:List Sg} {b:Bool} (n:Nat),okR b L=true→okR b (L.take n)=true
 | _,b,0,_=>by rw [kr0]; rfl
 | [],b,n+1,_=>by rw [List.take_nil]; rfl
 | x::L,b,n+1,h=>by
  unfold okR at h
  rw [ug0] at h
  rw [List.take_succ_cons]
  unfold okR
  rw [h.1,Ia n h.2]; rfl
theorem BF:∀ (L:List Sg) (b:Bool),okR b L=true→2*L.count .lt≤L.length+(if b then 1 else 0)
 | [],b,_=>by simp
 | x::L,b,h=>by
  unfold okR at h
  rw [ug0] at h
  have ih:=BF L x.letter h.2
  rw [vr0,List.count_cons]
  by_cases hx:x=.lt
  ·subst hx
   have hb:b=true:=by simpa using h.1
   subst hb
   simp only [Sg.letter,ui0,if_false] at ih
   simp
   exact far [_,_] [.le (.m 2 qa) qb] (.le (.m 2 (.p qa qh)) (.p qb qC)) rfl ih
  ·have:(x==.lt)=false:=by rw [beq_eq_false_iff_ne]; exact hx
   rw [this]
   simp only [ui0,if_false]
   split at ih <;> split <;> omega
section
variable {d n:Nat} {nums:List Int} {x:Nat} {σ σ':H} {call mk:Nat→List V→H→RC}
theorem Oa (N:NumsOk nums) (hx:x≤500) (h1:zB (.ref 1) (.str [110,101,120,116]) σ=some (.int x)) (h2:∀ ρ,xa ⟨ρ,σ⟩ (.ref 1) (.str [110,101,120,116]) (.int ((x:Int)+1))=.ok .next ⟨ρ,σ'⟩) (h3:zB (.ref 1) (.str [110,117,109,115]) σ'=some (.lst (nums.map V.int))) (n:Nat) (h0:0<n) (hn:n<1000) :
  ∃ k:Nat,k<n∧qk prog (d+1) 49 [.ref 1,.int n] σ=.ok (.int k) σ':=by
 rw [qz (k:=vX) (ρ:=[some (.val (.ref 1)),some (.val (.int n)),none,none]) rfl rfl]
 have hL:=N.len
 have e1:=zj (qM (n:=x) (by exact yf0 hx (yc0 rfl))) (show okI 1=true by rfl)
 have e2:∀ σ,zb (.lst (nums.map V.int)) σ=some (nums.length:Int):=by
  intro σ
  show (if (nums.map V.int).length≤qD then some (((nums.map V.int).length:Nat):Int) else none)=_
  rw [vq0,if_pos (by unfold qD; exact yd0 hL.2)]
 have md:∀ (a b:Nat),0<b→b<1000000→jS .mod (.int a) (.int b)=some (.int ((a % b:Nat):Int)):=by
  intro a b h1 h2
  exact Ui h1 h2
 have dv:∀ (a b:Nat),0<b→b<1000000→a<1000000→jS .div (.int a) (.int b)=some (.int ((a / b:Nat):Int)):=by
  intro a b h1 h2 h3
  exact Uj h1 h2 h3
 have hlt:x % nums.length<nums.length:=yZ0 _ (by exact hL.1)
 obtain ⟨z,hzm⟩:∃ z,nums[x % nums.length]?=some z:=⟨_,vB0 hlt⟩
 refine zz (N.ok z (vx0 hzm)) fun hx0 hx1=>?_
 obtain ⟨y,rfl⟩:∃ y:Nat,z=y:=⟨z.toNat,by exact (kH0 hx0).symm⟩
 have e3:∀ σ,zB (.lst (nums.map V.int)) (.int ((x % nums.length:Nat):Int)) σ=some (.int y):=by
  intro σ
  show (if _ then none else (nums.map V.int)[((x % nums.length:Nat):Int).toNat]?)=_
  rw [if_neg (ku (by exact ye0 (ye0 hlt hL.2) (yc0 rfl))),show (((x % nums.length:Nat):Int)).toNat=x % nums.length from rfl,vG0,hzm]
  rfl
 have hq:x / nums.length≤500:=ye0 (ve0 _ _) hx
 have e4:jS .mul (.int 7) (.int ((x / nums.length:Nat):Int))=some (.int ((7*(x / nums.length):Nat):Int)):=by
  have o1:okI 7=true:=rfl
  exact Uh o1 (qM (show x / nums.length<1000000 by exact yf0 hq (yc0 rfl)))
 have e5:=zj (qM (n:=y) (by exact yA0 (kw0.mp hx1) (yc0 rfl))) (qM (n:=7*(x / nums.length)) (by exact far [_] [.k 7 (.le qa (.n 500))] (.lt (.m 7 qa) (.n 1000000)) rfl hq))
 rw [← kx0] at e5
 refine (c1a2 ((y+7*(x / nums.length)) % n) (yZ0 _ h0) ?_)
 exact jc<|sO h1<|sO e1<|sK (h2 ..)<|sO h3<|sO (e2 ..)<|sO h3<|sO (md _ _ (show 0<nums.length by exact yK0 hlt) (show nums.length<1000000 by exact yf0 hL.2 (yc0 rfl)))<|sO (e3 ..)<|sO (dv x _ (show 0<nums.length by exact yK0 hlt) (show nums.length<1000000 by exact yf0 hL.2 (yc0 rfl)) (by exact yf0 hx (yc0 rfl)))<|sO e4<|sO e5<|sO (md _ n h0 (by exact yd0 hn))<|rfl
theorem wh (N:NumsOk nums) (hx:x≤500) (n:Nat) (h0:0<n) (hn:n<1000):∃ k:Nat,k<n∧qk prog (d+1) 49 [.ref 1,.int n] (th nums x)=.ok (.int k) (th nums (x+1)) :=
 Oa N hx rfl (fun _=>rfl) rfl n h0 hn
@[elab_as_elim] theorem ltS {P:Nat→Prop} {n k:Nat} (hk:k<n+1) (a:P n) (h:∀ k,k<n→P k):P k:=(Nat.lt_or_eq_of_le (yj0 hk)).elim (h k) fun e=>e▸a
theorem BD {k:Nat} (h:k<4):∃ s:Sg,s.letter=true∧∀ σ,zB (.str [97,98,99,100]) (.int k) σ=some (.str s.txt) :=
 ltS h (c1a2 .ld rfl (fun _=>rfl)) fun k h=>ltS h (c1a2 .lc rfl (fun _=>rfl)) fun k h=>ltS h (c1a2 .lb rfl (fun _=>rfl)) fun k h=>ltS h (c1a2 .la rfl (fun _=>rfl)) fun k h=>absurd h (yC0 k)
theorem Xn {k:Nat} (h:k<8):∃ (z:List Nat) (W:List Sg),prog.split z=some (W.map Sg.txt)∧W.length≤6∧okR true W=true∧(∀ s∈W,s≠.fin)∧∀ σ,zB (.tup [(.str []),(.str []),(.str []),(.str [60,32,100,32,62]),(.str [60,32,100,32,62,61]),(.str [60,32,100]),(.str [60,32,99,32,60,32,100,32,62,32,62]),(.str [60,32,98,32,44,32,100,32,62])]) (.int k) σ=some (.str z) :=
 ltS h (c2a5 _ [.lt,.lb,.com,.ld,.gt] rfl (by decide) (by decide) (by decide) (fun _=>rfl)) fun k h=>ltS h (c2a5 _ [.lt,.lc,.lt,.ld,.gt,.gt] rfl (by decide) (by decide) (by decide) (fun _=>rfl)) fun k h=>ltS h (c2a5 _ [.lt,.ld] rfl (by decide) (by decide) (by decide) (fun _=>rfl)) fun k h=>ltS h (c2a5 _ [.lt,.ld,.ge] rfl (by decide) (by decide) (by decide) (fun _=>rfl)) fun k h=>ltS h (c2a5 _ [.lt,.ld,.gt] rfl (by decide) (by decide) (by decide) (fun _=>rfl)) fun k h=>ltS h (c2a5 _ [] rfl (by decide) (by decide) (by decide) (fun _=>rfl)) fun k h=>ltS h (c2a5 _ [] rfl (by decide) (by decide) (by decide) (fun _=>rfl)) fun k h=>ltS h (c2a5 _ [] rfl (by decide) (by decide) (by decide) (fun _=>rfl)) fun k h=>absurd h (yC0 k)
theorem IX {k:Nat} (h:k<5):∃ s:Sg,okR false [s]=true∧s≠.fin∧∀ σ,zB (.tup [(.str [62,61]),(.str [62]),(.str [62,61]),(.str [62,61]),(.str [44])]) (.int k) σ=some (.str s.txt) :=
 ltS h (c1a3 .com rfl (by decide) (fun _=>rfl)) fun k h=>ltS h (c1a3 .ge rfl (by decide) (fun _=>rfl)) fun k h=>ltS h (c1a3 .ge rfl (by decide) (fun _=>rfl)) fun k h=>ltS h (c1a3 .gt rfl (by decide) (fun _=>rfl)) fun k h=>ltS h (c1a3 .ge rfl (by decide) (fun _=>rfl)) fun k h=>absurd h (yC0 k)
theorem Kv {k:Nat} (h:k<10):∃ (z:List Nat) (W:List Sg),prog.split z=some (W.map Sg.txt)∧W.length≤7∧okR false W=true∧(∀ s∈W,s≠.fin)∧∀ σ,zB (.tup [(.str [61]),(.str [40,32,41]),(.str [61,61]),(.str [61,62]),(.str [62]),(.str []),(.str [40,32,99,32,41]),(.str [61,61,61]),(.str [62,61]),(.str [40,32,98,32,60,32,99,32,62,32,44,32,41])]) (.int k) σ=some (.str z) :=
 ltS h (c2a5 _ [.lp,.lb,.lt,.lc,.gt,.com,.rp] rfl (by decide) (by decide) (by decide) (fun _=>rfl)) fun k h=>ltS h (c2a5 _ [.ge] rfl (by decide) (by decide) (by decide) (fun _=>rfl)) fun k h=>ltS h (c2a5 _ [.eqqq] rfl (by decide) (by decide) (by decide) (fun _=>rfl)) fun k h=>ltS h (c2a5 _ [.lp,.lc,.rp] rfl (by decide) (by decide) (by decide) (fun _=>rfl)) fun k h=>ltS h (c2a5 _ [] rfl (by decide) (by decide) (by decide) (fun _=>rfl)) fun k h=>ltS h (c2a5 _ [.gt] rfl (by decide) (by decide) (by decide) (fun _=>rfl)) fun k h=>ltS h (c2a5 _ [.arr] rfl (by decide) (by decide) (by decide) (fun _=>rfl)) fun k h=>ltS h (c2a5 _ [.eqq] rfl (by decide) (by decide) (by decide) (fun _=>rfl)) fun k h=>ltS h (c2a5 _ [.lp,.rp] rfl (by decide) (by decide) (by decide) (fun _=>rfl)) fun k h=>ltS h (c2a5 _ [.eq] rfl (by decide) (by decide) (by decide) (fun _=>rfl)) fun k h=>absurd h (yC0 k)
structure RowOk (L:List Sg):Prop where
 ok:okR false L=true
 nf:∀ s∈L,s≠.fin
theorem uN {A B:List Sg} (a:∀ s∈A,s≠.fin) (b:∀ s∈B,s≠.fin):∀ s∈A++B,s≠.fin:=fun s h=>(vH0.mp h).elim (a s) (b s)
theorem kC {s:Sg} (h:s.letter=true):s≠.fin:=by cases s <;> first | decide | exact ftB h
theorem UA {ρ0 ρ1 ρ2 ρ3 ρ4:Option LV} {σ σ':H} {z:List Nat} {k2:Nat} (h0:ρ0=some (.val (.ref 1))) (e2:qk prog (d+1) 49 [.ref 1,.int 8] σ=.ok (.int k2) σ')
  (p2:∀ σ,zB (.tup [(.str []),(.str []),(.str []),(.str [60,32,100,32,62]),(.str [60,32,100,32,62,61]),(.str [60,32,100]),(.str [60,32,99,32,60,32,100,32,62,32,62]),(.str [60,32,98,32,44,32,100,32,62])]) (.int k2) σ=some (.str z)) :
  ex prog (qk prog (d+1)) mk (.asg 4 (.idx (.tup (.cons qp (.cons qp (.cons qp (.cons yt (.cons yr (.cons yq (.cons yo (.cons yn .nil))))))))) (.callF 49 (.cons qc (.cons (.cst (.int 8)) .nil))))) ⟨[ρ0,ρ1,ρ2,ρ3,ρ4],σ⟩=.ok .next ⟨[ρ0,ρ1,ρ2,ρ3,some (.val (.str z))],σ'⟩:=by
 subst h0
 exact wEx<|sC e2<|sO (p2 ..)<|rfl
theorem Uz {ρ0 ρ2 ρ3:Option LV} {vs:List V} {σ:H} {z:List Nat} {W:List (List Nat)} (hz:prog.split z=some W) (hl2:vs.length+(W.map V.str).length<4096) :
  exs prog (qk prog (d+1)) mk (.cons (.extendOwn 1 (.split qq)) .nil) ⟨[ρ0,some (.own vs),ρ2,ρ3,some (.val (.str z))],σ⟩=.ok .next ⟨[ρ0,some (.own (vs++W.map V.str)),ρ2,ρ3,some (.val (.str z))],σ⟩:=by
 exact IM<|sO hz<|sL hl2<|rfl
theorem YY (N:NumsOk nums) {L:List Sg} (RO:RowOk L) (hL:L.length<1000) (hx:x≤400) {j:Nat} {x0 x2 x4:Option LV} (h0:x0=some (.val (.ref 1))) :
  ∃ L' y4,exs prog (qk prog (d+1)) mk (.cons (.extendOwn 1 (.ite (.cmp .gt qt qo) (.lst false (.cons qR (.cons (.idx jn (.callF 49 (.cons qc (.cons qS .nil)))) .nil))) (.lst false (.cons (.idx jn (.callF 49 (.cons qc (.cons qS .nil)))) .nil)))) (.cons (.asg 4 (.idx (.tup (.cons qp (.cons qp (.cons qp (.cons yt (.cons yr (.cons yq (.cons yo (.cons yn .nil))))))))) (.callF 49 (.cons qc (.cons (.cst (.int 8)) .nil))))) (.cons (.extendOwn 1 (.split qq)) .nil))) ⟨[x0,some (.own (sV L)),x2,some (.val (.int j)),x4],th nums x⟩=.ok .next ⟨[x0,some (.own (sV L')),x2,some (.val (.int j)),y4],th nums (x+2)⟩∧RowOk L'∧L'.length≤L.length+8:=by
 subst h0
 refine x1a2 (wh (d:=d) N (show x≤500 by exact yd0 hx) 4 (by decide) (by decide)) fun k1 hk1 e1=>?_
 refine x1a2 (BD hk1) fun s hs p1=>?_
 refine x1a2 (wh (d:=d) N (show x+1≤500 by exact yf0 hx (yc0 rfl)) 8 (by decide) (by decide)) fun k2 hk2 e2=>?_
 refine x2a5 (Xn hk2) fun z W hz hW hWo hWn p2=>?_
 change qk prog (d+1) 49 [.ref 1,.int 4] _=_ at e1
 change qk prog (d+1) 49 [.ref 1,.int 8] _=_ at e2
 by_cases hj:0<j
 ·have g:qF .gt (.int (j:Int)) (.int 0)=some true:=by show some (decide _)=_; rw [decide_eq_true (by exact kF0.mpr hj)]
  refine (c2a3 ((L++[.com])++s::W) (some (.val (.str z))) ?_ ⟨yw hs hWo (AR (W:=[.com]) rfl RO.ok),uN (uN RO.nf (by decide)) (fun a ha=>(vI0.mp ha).elim (fun q=>q▸kC hs) (hWn a))⟩ (by simp; exact hW))
  have hx1:(sV L++[V.str [44],.str s.txt])++(W.map Sg.txt).map V.str=sV ((L++[.com])++s::W):=by
   rw [xe,xe,vM0,vM0]; rfl
  have hl1:(sV L).length+2<4096:=by rw [wm]; exact far [_] [.lt qa qG] (.lt (.p qa qC) qJ) rfl hL
  have hl2:(sV L++[V.str [44],.str s.txt]).length+((W.map Sg.txt).map V.str).length<4096:=by
   rw [vt0,wm,vq0,vq0]; simp; exact far [_,_] [.lt qa qG,.le qb (.n 6)] (.lt (.p (.p qa qC) qb) qJ) rfl hL hW
  have q1:ex prog (qk prog (d+1)) mk (.extendOwn 1 (.ite (.cmp .gt qt qo) (.lst false (.cons qR (.cons (.idx jn (.callF 49 (.cons qc (.cons qS .nil)))) .nil))) (.lst false (.cons (.idx jn (.callF 49 (.cons qc (.cons qS .nil)))) .nil)))) ⟨[some (.val (.ref 1)),some (.own (sV L)),x2,some (.val (.int j)),x4],th nums x⟩=.ok .next ⟨[some (.val (.ref 1)),some (.own (sV L++[V.str [44],.str s.txt])),x2,some (.val (.int j)),x4],th nums (x+1)⟩:=by
   exact wEx<|sT2 g<|sC e1<|sO (p1 ..)<|sL hl1<|rfl
  refine (qI q1).trans ((qI (UA rfl e2 p2)).trans ((Uz hz hl2).trans ?_))
  rw [hx1]
 ·have g:qF .gt (.int (j:Int)) (.int 0)=some false:=by show some (decide _)=_; rw [decide_eq_false (by exact kD0.mpr (kB0.mpr (yo0 hj)))]
  refine (c2a3 (L++s::W) (some (.val (.str z))) ?_ ⟨yw hs hWo RO.ok,uN RO.nf (fun a ha=>(vI0.mp ha).elim (fun q=>q▸kC hs) (hWn a))⟩ (by simp; exact yT0 hW))
  have hx1:(sV L++[V.str s.txt])++(W.map Sg.txt).map V.str=sV (L++s::W):=by
   rw [xe,vM0]; rfl
  have hl1:(sV L).length+1<4096:=by rw [wm]; exact yf0 hL (yc0 rfl)
  have hl2:(sV L++[V.str s.txt]).length+((W.map Sg.txt).map V.str).length<4096:=by
   rw [vt0,wm,vq0,vq0]; simp; exact far [_,_] [.lt qa qG,.le qb (.n 6)] (.lt (.p (.p qa qh) qb) qJ) rfl hL hW
  have q1:ex prog (qk prog (d+1)) mk (.extendOwn 1 (.ite (.cmp .gt qt qo) (.lst false (.cons qR (.cons (.idx jn (.callF 49 (.cons qc (.cons qS .nil)))) .nil))) (.lst false (.cons (.idx jn (.callF 49 (.cons qc (.cons qS .nil)))) .nil)))) ⟨[some (.val (.ref 1)),some (.own (sV L)),x2,some (.val (.int j)),x4],th nums x⟩=.ok .next ⟨[some (.val (.ref 1)),some (.own (sV L++[V.str s.txt])),x2,some (.val (.int j)),x4],th nums (x+1)⟩:=by
   exact wEx<|sF2 g<|sC e1<|sO (p1 ..)<|sL hl1<|rfl
  refine (qI q1).trans ((qI (UA rfl e2 p2)).trans ((Uz hz hl2).trans ?_))
  rw [hx1]
theorem uK (N:NumsOk nums) {x2:Option LV}:∀ (vs:List Nat) (L:List Sg) (x:Nat) (x3 x4:Option LV),RowOk L→L.length+8*vs.length<900→x+2*vs.length≤400 →
  ∃ L' y3 y4,Gr prog (qk prog (d+1)) mk 3 (.cons (.extendOwn 1 (.ite (.cmp .gt qt qo) (.lst false (.cons qR (.cons (.idx jn (.callF 49 (.cons qc (.cons qS .nil)))) .nil))) (.lst false (.cons (.idx jn (.callF 49 (.cons qc (.cons qS .nil)))) .nil)))) (.cons (.asg 4 (.idx (.tup (.cons qp (.cons qp (.cons qp (.cons yt (.cons yr (.cons yq (.cons yo (.cons yn .nil))))))))) (.callF 49 (.cons qc (.cons (.cst (.int 8)) .nil))))) (.cons (.extendOwn 1 (.split qq)) .nil))) (vs.map fun (j:Nat)=>V.int j) ⟨[some (.val (.ref 1)),some (.own (sV L)),x2,x3,x4],th nums x⟩=.ok .next ⟨[some (.val (.ref 1)),some (.own (sV L')),x2,y3,y4],th nums (x+2*vs.length)⟩∧RowOk L'∧L'.length≤L.length+8*vs.length
 | [],L,x,x3,x4,RO,_,_=>(c3a3 L x3 x4 (by rw [wl0,yB]; rfl) RO (by exact yh0 _))
 | j::vs,L,x,x3,x4,RO,h1,h2=>by
  rw [vr0] at h1 h2
  refine x2a3 (YY (d:=d) (mk:=mk) (x2:=x2) (x4:=x4) (j:=j) N RO (by exact far [_,_] [.lt (.p qa (.m 8 (.p qb qh))) qP] (.lt qa qG) rfl h1) (show x≤400 by exact far [_,_] [.le (.p qa (.m 2 (.p qb qh))) (.n 400)] (.le qa (.n 400)) rfl h2) rfl) fun L1 z4 e1 R1 l1=>?_
  refine x3a3 (uK N (x2:=x2) vs L1 (x+2) (some (.val (.int j))) z4 R1 (by exact far [_,_,_] [.lt (.p qg (.m 8 (.p qb qh))) qP,.le qa (.p qg (.n 8))] (.lt (.p qa (.m 8 qb)) qP) rfl h1 l1) (by exact far [_,_] [.le (.p qa (.m 2 (.p qb qh))) (.n 400)] (.le (.p (.p qa qC) (.m 2 qb)) (.n 400)) rfl h2)) fun L2 y3 y4 e2 R2 l2=>?_
  refine (c3a3 L2 y3 y4 ?_ R2 (by rw [vr0]; exact far [_,_,_,_] [.le qj (.p qb (.n 8)),.le qa (.p qj (.m 8 qg))] (.le qa (.p qb (.m 8 (.p qg qh)))) rfl l1 l2))
  refine kN e1 (e2.trans ?_)
  rw [vr0,show x+2+2*vs.length=x+2*(vs.length+1) by exact yk0 (far [_,_] [] (.le (.p (.p qa qC) (.m 2 qb)) (.p qa (.m 2 (.p qb qh)))) rfl) (far [_,_] [] (.le (.p qa (.m 2 (.p qb qh))) (.p (.p qa qC) (.m 2 qb))) rfl)]
theorem Xl (N:NumsOk nums) {L:List Sg} (RO:RowOk L) (hL:L.length<500) (hx:x≤300) {x2 x3 x4:Option LV} :
  ∃ L' y3 y4 x',exs prog (qk prog (d+1)) mk (.cons (.extendOwn 1 (.lst false (.cons (.idx jn (.callF 49 (.cons qc (.cons qS .nil)))) (.cons zt .nil)))) (.cons (.forr 3 (.bin .add qu (.callF 49 (.cons qc (.cons qH .nil)))) (.cons (.extendOwn 1 (.ite (.cmp .gt qt qo) (.lst false (.cons qR (.cons (.idx jn (.callF 49 (.cons qc (.cons qS .nil)))) .nil))) (.lst false (.cons (.idx jn (.callF 49 (.cons qc (.cons qS .nil)))) .nil)))) (.cons (.asg 4 (.idx (.tup (.cons qp (.cons qp (.cons qp (.cons yt (.cons yr (.cons yq (.cons yo (.cons yn .nil))))))))) (.callF 49 (.cons qc (.cons (.cst (.int 8)) .nil))))) (.cons (.extendOwn 1 (.split qq)) .nil)))) (.cons (.appendOwn 1 (.idx (.tup (.cons jD (.cons jo (.cons jD (.cons jD (.cons qR .nil)))))) (.callF 49 (.cons qc (.cons qT .nil))))) (.cons (.extendOwn 1 (.split (.idx (.tup (.cons (.cst (.str [61])) (.cons (.cst (.str [40,32,41])) (.cons (.cst (.str [61,61])) (.cons (.cst (.str [61,62])) (.cons jo (.cons qp (.cons (.cst (.str [40,32,99,32,41])) (.cons (.cst (.str [61,61,61])) (.cons jD (.cons AA .nil))))))))))) (.callF 49 (.cons qc (.cons (.cst (.int 10)) .nil)))))) .nil)))) ⟨[some (.val (.ref 1)),some (.own (sV L)),x2,x3,x4],th nums x⟩=.ok .next ⟨[some (.val (.ref 1)),some (.own (sV L')),x2,y3,y4],th nums x'⟩∧RowOk L'∧L'.length≤L.length+30∧x'≤x+8:=by
 refine x1a2 (wh (d:=d) N (show x≤500 by exact yd0 hx) 4 (by decide) (by decide)) fun k1 hk1 e1=>?_
 refine x1a2 (BD hk1) fun s hs p1=>?_
 refine x1a2 (wh (d:=d) N (show x+1≤500 by exact yf0 hx (yc0 rfl)) 2 (by decide) (by decide)) fun k2 hk2 e2=>?_
 change qk prog (d+1) 49 [.ref 1,.int 4] _=_ at e1
 change qk prog (d+1) 49 [.ref 1,.int 2] _=_ at e2
 have R0:RowOk (L++[s,.lt]):=⟨yw hs rfl RO.ok,uN RO.nf (fun a ha=>by
  rcases vI0.mp ha with rfl | ha
  ·exact kC hs
  ·rw [vu0.mp ha]; decide)⟩
 refine x3a3 (uK (d:=d) (mk:=mk) N (x2:=x2) (wd0 (k2+1)) (L++[s,.lt]) (x+1+1) x3 x4 R0 (by rw [vN0,vt0,vr0,vr0,vy0]; exact far [_,_] [.lt qa (.n 500),.k 8 (.lt qb qC)] (.lt (.p (.p qa qC) (.m 8 (.p qb qh))) qP) rfl hL hk2) (by rw [vN0]; exact far [_,_] [.le qa (.n 300),.k 2 (.lt qb qC)] (.le (.p (.p qa qC) (.m 2 (.p qb qh))) (.n 400)) rfl hx hk2)) fun L1 y3 y4 e3 R1 l1=>?_
 rw [vN0] at e3 l1
 rw [vt0,vr0,vr0,vy0] at l1
 refine x1a2 (wh (d:=d) N (show x+1+1+2*(k2+1)≤500 by exact far [_,_] [.le qa (.n 300),.k 2 (.lt qb qC)] (.le (.p (.p qa qC) (.m 2 (.p qb qh))) (.n 500)) rfl hx hk2) 5 (by decide) (by decide)) fun k5 hk5 e5=>?_
 refine x1a2 (wh (d:=d) N (show x+1+1+2*(k2+1)+1≤500 by exact far [_,_] [.le qa (.n 300),.k 2 (.lt qb qC)] (.le (.p (.p (.p qa qC) (.m 2 (.p qb qh))) qh) (.n 500)) rfl hx hk2) 10 (by decide) (by decide)) fun k6 hk6 e6=>?_
 change qk prog (d+1) 49 [.ref 1,.int 5] _=_ at e5
 change qk prog (d+1) 49 [.ref 1,.int 10] _=_ at e6
 refine x1a3 (IX hk5) fun q hqo hqn p5=>?_
 refine x2a5 (Kv hk6) fun z W hz hW hWo hWn p6=>?_
 have o1:jS .add (.int 1) (.int k2)=some (.int ((k2+1:Nat):Int)):=by
  rw [zj (show okI 1=true by rfl) (qM (by exact yd0 hk2))]
  congr 2
  exact kN0 _ _
 refine (c4a4 ((L1++[q])++W) y3 y4 (x+1+1+2*(k2+1)+1+1) ?_ ⟨AR hWo (AR hqo R1.ok),uN (uN R1.nf (fun a ha=>by rw [vu0.mp ha]; exact hqn)) hWn⟩ (by rw [vt0,vt0,vr0,vy0]; exact far [_,_,_,_] [.k 8 (.lt qj qC),.le qa (.p (.p qg qC) (.m 8 (.p qj qh))),.le qb (.n 7)] (.le (.p (.p qa qh) qb) (.p qg (.n 30))) rfl hk2 l1 hW) (by exact far [_,_] [.k 2 (.lt qb qC)] (.le (.p (.p (.p qa qC) (.m 2 (.p qb qh))) qC) (.p qa (.n 8))) rfl hk2))
 have hl1:(sV L).length+2<4096:=by rw [wm]; exact far [_] [.lt qa (.n 500)] (.lt (.p qa qC) qJ) rfl hL
 have hx1:sV L++[V.str s.txt,V.str [60]]=sV (L++[s,.lt]):=by rw [xe]; rfl
 have hl5:(sV L1).length<4096:=by rw [wm]; exact far [_,_,_] [.lt qb (.n 500),.k 8 (.lt qg qC),.le qa (.p (.p qb qC) (.m 8 (.p qg qh)))] (.lt qa qJ) rfl hL hk2 l1
 have hl6:(sV L1++[V.str q.txt]).length+((W.map Sg.txt).map V.str).length<4096:=by
  rw [vt0,wm,vq0,vq0,vr0,vy0]; exact far [_,_,_,_] [.lt qg (.n 500),.k 8 (.lt qj qC),.le qa (.p (.p qg qC) (.m 8 (.p qj qh))),.le qb (.n 7)] (.lt (.p (.p qa qh) qb) qJ) rfl hL hk2 l1 hW
 have hx6:(sV L1++[V.str q.txt])++(W.map Sg.txt).map V.str=sV ((L1++[q])++W):=by rw [xe,xe]; rfl
 rw [← hx1] at e3
 exact IM<|sC e1<|sO (p1 ..)<|sL hl1<|sC e2<|sO o1<|sI ⟨kt0 _,by exact o49 _ hk2⟩<|sK e3<|sC e5<|sO (p5 ..)<|sL hl5<|sC e6<|sO (p6 ..)<|sO hz<|sL hl6<|congrArg (fun l=>R.ok Flow.next (⟨[some (.val (.ref 1)),some (.own l),x2,y3,y4],th nums (x+1+1+2*(k2+1)+1+1)⟩:St)) hx6
theorem uX (N:NumsOk nums):∀ (vs:List Nat) (L:List Sg) (x:Nat) (x2 x3 x4:Option LV),RowOk L→L.length+30*vs.length<400→x+8*vs.length≤250 →
  ∃ L' y2 y3 y4 x',Gr prog (qk prog (d+1)) mk 2 (.cons (.extendOwn 1 (.lst false (.cons (.idx jn (.callF 49 (.cons qc (.cons qS .nil)))) (.cons zt .nil)))) (.cons (.forr 3 (.bin .add qu (.callF 49 (.cons qc (.cons qH .nil)))) (.cons (.extendOwn 1 (.ite (.cmp .gt qt qo) (.lst false (.cons qR (.cons (.idx jn (.callF 49 (.cons qc (.cons qS .nil)))) .nil))) (.lst false (.cons (.idx jn (.callF 49 (.cons qc (.cons qS .nil)))) .nil)))) (.cons (.asg 4 (.idx (.tup (.cons qp (.cons qp (.cons qp (.cons yt (.cons yr (.cons yq (.cons yo (.cons yn .nil))))))))) (.callF 49 (.cons qc (.cons (.cst (.int 8)) .nil))))) (.cons (.extendOwn 1 (.split qq)) .nil)))) (.cons (.appendOwn 1 (.idx (.tup (.cons jD (.cons jo (.cons jD (.cons jD (.cons qR .nil)))))) (.callF 49 (.cons qc (.cons qT .nil))))) (.cons (.extendOwn 1 (.split (.idx (.tup (.cons (.cst (.str [61])) (.cons (.cst (.str [40,32,41])) (.cons (.cst (.str [61,61])) (.cons (.cst (.str [61,62])) (.cons jo (.cons qp (.cons (.cst (.str [40,32,99,32,41])) (.cons (.cst (.str [61,61,61])) (.cons jD (.cons AA .nil))))))))))) (.callF 49 (.cons qc (.cons (.cst (.int 10)) .nil)))))) .nil)))) (vs.map fun (j:Nat)=>V.int j) ⟨[some (.val (.ref 1)),some (.own (sV L)),x2,x3,x4],th nums x⟩=.ok .next ⟨[some (.val (.ref 1)),some (.own (sV L')),y2,y3,y4],th nums x'⟩∧RowOk L'∧L'.length≤L.length+30*vs.length∧x'≤x+8*vs.length
 | [],L,x,x2,x3,x4,RO,_,_=>(c5a4 L x2 x3 x4 x (by rw [wl0,yB]) RO (by exact yh0 _) (by exact yh0 _))
 | j::vs,L,x,x2,x3,x4,RO,h1,h2=>by
  rw [vr0] at h1 h2
  refine x4a4 (Xl (d:=d) (mk:=mk) (x2:=some (.val (.int j))) (x3:=x3) (x4:=x4) N RO (by exact far [_,_] [.lt (.p qa (.m 30 (.p qb qh))) (.n 400)] (.lt qa (.n 500)) rfl h1) (show x≤300 by exact far [_,_] [.le (.p qa (.m 8 (.p qb qh))) (.n 250)] (.le qa (.n 300)) rfl h2)) fun L1 z3 z4 x' e1 R1 l1 l1'=>?_
  refine x5a4 (uX N vs L1 x' (some (.val (.int j))) z3 z4 R1 (by exact far [_,_,_] [.lt (.p qg (.m 30 (.p qb qh))) (.n 400),.le qa (.p qg (.n 30))] (.lt (.p qa (.m 30 qb)) (.n 400)) rfl h1 l1) (by exact far [_,_,_] [.le (.p qg (.m 8 (.p qb qh))) (.n 250),.le qa (.p qg (.n 8))] (.le (.p qa (.m 8 qb)) (.n 250)) rfl h2 l1')) fun L2 y2 y3 y4 x'' e2 R2 l2 l2'=>?_
  refine (c5a4 L2 y2 y3 y4 x'' ?_ R2 (by rw [vr0]; exact far [_,_,_,_] [.le qj (.p qb (.n 30)),.le qa (.p qj (.m 30 qg))] (.le qa (.p qb (.m 30 (.p qg qh)))) rfl l1 l2) (by rw [vr0]; exact far [_,_,_,_] [.le qj (.p qb (.n 8)),.le qa (.p qj (.m 8 qg))] (.le qa (.p qb (.m 8 (.p qg qh)))) rfl l1' l2'))
  exact kN e1 e2
theorem OK (N:NumsOk nums):∃ L x',qk prog (d+2) 51 [.ref 1] (th nums 0)=.ok (.lst (sV L)) (th nums x')∧RowOk L∧L.length≤14∧x'≤20:=by
 rw [qz (k:=Dn) (ρ:=[some (.val (.ref 1)),none,none,none,none]) rfl rfl]
 refine x1a2 (wh (d:=d) N (show 0≤500 by exact yq0 _) 2 (by decide) (by decide)) fun k2 hk2 e2=>?_
 change qk prog (d+1) 49 [.ref 1,.int 2] _=_ at e2
 refine x5a4 (uX (d:=d) (mk:=mkD prog (d+1)) N (wd0 (k2+1)) [] (0+1) none none none ⟨rfl,by decide⟩ (by rw [vN0,vy0]; exact far [_] [.k 30 (.lt qa qC)] (.lt (.p (.n 0) (.m 30 (.p qa qh))) (.n 400)) rfl hk2) (by rw [vN0]; exact far [_] [.k 8 (.lt qa qC)] (.le (.p qh (.m 8 (.p qa qh))) (.n 250)) rfl hk2)) fun L1 y2 y3 y4 x' e3 R1 l1 l1'=>?_
 rw [vN0] at l1 l1'
 rw [vy0] at l1
 have o1:jS .add (.int 1) (.int k2)=some (.int ((k2+1:Nat):Int)):=by
  rw [zj (show okI 1=true by rfl) (qM (by exact yd0 hk2))]
  congr 2
  exact kN0 _ _
 have sl:∀ st:St,jO false (.lst (sV L1)) .none (.int 14) st=.ok (.lst (sV (L1.take 14))) st:=by
  intro st
  show GK false (sV L1) .none (.int 14) st=_
  unfold GK
  have e1:JI (sV L1) .none (.int 14)=some (sV (L1.take 14)):=by
   show some ((sV L1).take 14)=_
   unfold sV
   rw [← wr0,← wr0]
  rw [if_pos (by rw [wm]; unfold qD; exact far [_,_] [.k 30 (.lt qb qC),.le qa (.p (.n 0) (.m 30 (.p qb qh)))] (.le qa qJ) rfl hk2 l1),e1]
  rfl
 refine (c2a4 (L1.take 14) x' ?_ ⟨Ia 14 R1.ok,fun s hs=>R1.nf s (wf0 hs)⟩ (by rw [vC0]; exact yv0 _ _) (by exact far [_,_] [.k 8 (.lt qb qC),.le qa (.p qh (.m 8 (.p qb qh)))] (.le qa (.n 20)) rfl hk2 l1'))
 exact jc<|sC e2<|sO o1<|sI ⟨kt0 _,by exact o49 _ hk2⟩<|sK e3<|sK (sl ..)<|rfl
noncomputable def opS:Sg→Bool
 | .lt=>true | .gt=>true | .ge=>true | .eq=>true | .eqq=>true | .eqqq=>true | .arr=>true | _=>false
noncomputable def tch:Sg→Sg→Bool
 | .gt,.gt=>true | .gt,.ge=>true | .ge,.eq=>true | .ge,.eqq=>true | .ge,.gt=>true | _,_=>false
noncomputable def uH (s t:Sg):Bool:=if opS s&&opS t then tch s t else !(s.letter&&t.letter)
theorem uC {s:Sg} (h:s≠.fin):xl false (.str [s.txt.headD 0]) (.str [60,62,61]) σ=some (opS s):=by cases s <;> first | rfl | exact absurd rfl h
theorem ZX (s t:Sg):xl false (.str ((s.txt++[32])++t.txt)) (.tup [(.str [62,32,62]),(.str [62,32,62,61]),(.str [62,61,32,61]),(.str [62,61,32,61,61]),(.str [62,61,32,62])]) σ=some (tch s t):=by cases s <;> cases t <;> rfl
theorem XL {s t:Sg} (hs:s≠.fin) (ht:t≠.fin):qk prog (d+1) 50 [.str s.txt,.str t.txt] σ=.ok (.bool (uH s t)) σ:=by
 rw [qz (k:=kT) (ρ:=[some (.val (.str s.txt)),some (.val (.str t.txt))]) rfl rfl]
 have c1:=BE (a:=s.txt) (b:=[32]) (by have:=ya s; simp; exact yd0 this)
 have c2:=BE (a:=s.txt++[32]) (b:=t.txt) (by have:=ya s; have:=ya t; simp; exact far [_,_] [.le qa (.n 3),.le qb (.n 3)] (.le (.p (.p qa qh) qb) qJ) rfl (by assumption) this)
 have fin:uH s t=(if opS s&&opS t then tch s t else !(s.letter&&t.letter)):=rfl
 cases h1:opS s
 ·rw [fin,h1]
  rcases xi s with ⟨a1,a2⟩ | ⟨a1,a2⟩
  ·cases h3:s.letter
   ·rw [h3] at a2
    exact jc<|sO (hd0 hs)<|sF2 ((uC (σ:=[]) hs).trans (congrArg some h1))<|sT2 a1<|sF2 a2<|congrArg (fun b=>RC.ok (V.bool (nb true b)) σ) (kT0.inj a2)
   ·rw [h3] at a2
    rcases xi t with ⟨b1,b2⟩ | ⟨b1,b2⟩
    ·exact jc<|sO (hd0 hs)<|sF2 ((uC (σ:=[]) hs).trans (congrArg some h1))<|sT2 a1<|sT2 a2<|sT2 b1<|congrArg (fun b=>RC.ok (V.bool (nb true b)) σ) (kT0.inj b2)
    ·rw [b2]
     exact jc<|sO (hd0 hs)<|sF2 ((uC (σ:=[]) hs).trans (congrArg some h1))<|sT2 a1<|sT2 a2<|sF2 b1<|rfl
  ·rw [a2]
   exact jc<|sO (hd0 hs)<|sF2 ((uC (σ:=[]) hs).trans (congrArg some h1))<|sF2 a1<|rfl
 ·cases h2:opS t
  ·have hl:s.letter=false:=by cases s <;> first | rfl | exact ftB h1
   rw [fin,h1,h2,hl]
   rcases xi s with ⟨a1,a2⟩ | ⟨a1,a2⟩
   ·rw [hl] at a2
    exact jc<|sO (hd0 hs)<|sT2 ((uC (σ:=[]) hs).trans (congrArg some h1))<|sO (hd0 ht)<|sF2 ((uC (σ:=[]) ht).trans (congrArg some h2))<|sT2 a1<|sF2 a2<|congrArg (fun b=>RC.ok (V.bool (nb true b)) σ) (kT0.inj a2)
   ·exact jc<|sO (hd0 hs)<|sT2 ((uC (σ:=[]) hs).trans (congrArg some h1))<|sO (hd0 ht)<|sF2 ((uC (σ:=[]) ht).trans (congrArg some h2))<|sF2 a1<|rfl
  ·rw [fin,h1,h2]
   exact jc<|sO (hd0 hs)<|sT2 ((uC (σ:=[]) hs).trans (congrArg some h1))<|sO (hd0 ht)<|sT2 ((uC (σ:=[]) ht).trans (congrArg some h2))<|sO c1<|sO c2<|congrArg (fun b=>RC.ok (V.bool (nb false b)) σ) (kT0.inj (ZX (σ:=[]) s t))
end
set_option genCtorIdx true in
inductive Q where
 | q0 | q1 | q2 | q3 | q4 | q5
deriving DecidableEq
noncomputable def Oe:Q→Nat→Option Q
 | .q0,62=>some .q1
 | .q1,61=>some .q2
 | .q1,62=>some .q1
 | .q2,61=>some .q3
 | .q2,62=>some .q5
 | .q3,61=>some .q4
 | .q3,62=>none
 | .q4,61=>none
 | .q4,62=>some .q1
 | .q5,61=>none
 | .q5,62=>some .q1
 | _,_=>some .q0
noncomputable def wy:Q→List Nat→Option Q
 | q,[]=>some q
 | q,x::r=>(Oe q x).bind fun q'=>wy q' r
theorem zL:∀ (a b:List Nat) (q:Q),wy q (a++b)=(wy q a).bind fun q'=>wy q' b
 | [],b,q=>rfl
 | x::a,b,q=>by
  show (Oe q x).bind (fun q'=>wy q' (a++b))=((Oe q x).bind fun q'=>wy q' a).bind fun q'=>wy q' b
  cases Oe q x with
  | none=>rfl
  | some q'=>exact zL a b q'
theorem YD {q:Q} {l:List Nat} (h:KM l=false):wy q l=none:=by
 have key:∀ p:List Nat,(∀ r,wy q (p++r)=none)→p.isPrefixOf l=true→wy q l=none:=fun p k e=>(List.isPrefixOf_iff_prefix.mp e).elim fun r e=>e▸k r
 cases h1:[62,61,61,61,61].isPrefixOf l with
 | true=>exact key _ (fun r=>by cases q <;> rfl) h1
 | false =>
  cases h2:[62,61,61,62].isPrefixOf l with
  | true=>exact key _ (fun r=>by cases q <;> rfl) h2
  | false =>
   cases h3:[62,61,62,61].isPrefixOf l with
   | true=>exact key _ (fun r=>by cases q <;> rfl) h3
   | false=>unfold KM at h; rw [h1,h2,h3] at h; exact tfB h
theorem Oo {l:List Nat} {q:Q} (h:wy .q0 l=some q) (a:Nat):KM (l.drop a)=true:=by
 cases hb:KM (l.drop a) with
 | true=>rfl
 | false =>
  have e:wy .q0 (l.take a++l.drop a)=some q:=by rw [kb0]; exact h
  rw [zL] at e
  cases hq:wy .q0 (l.take a) with
  | none=>rw [hq] at e; exact nsO e
  | some q'=>rw [hq] at e; change wy q' (l.drop a)=some q at e; rw [YD hb] at e; exact nsO e
noncomputable def Dh:Sg→Q→Bool
 | .fin,.q0=>true
 | .gt,.q1=>true
 | .gt,.q5=>true
 | .ge,.q2=>true
 | .eq,.q0=>true
 | .eq,.q3=>true
 | .eqq,.q0=>true
 | .eqq,.q4=>true
 | .arr,.q1=>true
 | .la,.q0=>true | .lb,.q0=>true | .lc,.q0=>true | .ld,.q0=>true | .com,.q0=>true | .lp,.q0=>true | .rp,.q0=>true | .lt,.q0=>true | .eqqq,.q0=>true
 | _,_=>false
noncomputable def allS:List Sg:=[.fin,.la,.lb,.lc,.ld,.com,.lp,.rp,.lt,.gt,.ge,.eq,.eqq,.eqqq,.arr]
noncomputable def allQ:List Q:=[.q0,.q1,.q2,.q3,.q4,.q5]
theorem Ig (s:Sg):s∈allS:=by cases s <;> decide
theorem OI (q:Q):q∈allQ:=by cases q <;> decide
noncomputable def onQ (t:Sg) (o:Option Q):Bool:=match o with | some q=>Dh t q | none=>false
noncomputable def zS0:Bool:=allS.all fun s=>allQ.all fun q=>allS.all fun t=>!(Dh s q)||t==.fin||s==.fin||((!(uH s t)||onQ t (wy q t.txt))&&onQ t (wy .q0 t.txt))
theorem Yz:zS0=true:=by decide +kernel
theorem GY {t:Sg} {o:Option Q} (h:onQ t o=true):∃ q,o=some q∧Dh t q=true:=by
 cases o with
 | none=>exact ftB h
 | some q=>exact (c1a2 q rfl h)
theorem Uo {s t:Sg} {q:Q} (h:Dh s q=true) (ht:t≠.fin) (hs:s≠.fin):(uH s t=true→∃ q',wy q t.txt=some q'∧Dh t q'=true)∧∃ q',wy .q0 t.txt=some q'∧Dh t q'=true:=by
 have h0:=Yz
 unfold zS0 at h0
 have h1:=vE0.mp h0 s (Ig s)
 have h2:=vE0.mp h1 q (OI q)
 have h3:=vE0.mp h2 t (Ig t)
 have hb:(t==.fin)=false:=by rw [beq_eq_false_iff_ne]; exact ht
 have hb2:(s==.fin)=false:=by rw [beq_eq_false_iff_ne]; exact hs
 rw [h,hb,hb2] at h3
 simp only [uu0,ur0,ug0] at h3
 refine ⟨fun q=>?_,GY h3.2⟩
 rw [q] at h3
 exact GY (by simpa using h3.1)
theorem Yj {t:Sg} (ht:t≠.fin):∃ q',wy .q0 t.txt=some q'∧Dh t q'=true:=by
 cases t <;> first | exact absurd rfl ht | exact (c1a2 _ rfl rfl)
structure TX (out:List Nat) (last:Sg) (n lts:Nat):Prop where
 q:∃ q,wy .q0 out=some q∧Dh last q=true
 ch:∀ x∈out,BG x=true
 len:out.length≤4*n
 lt:out.count 60=lts
theorem YX (s:Sg):∀ x∈s.txt,BG x=true:=by cases s <;> decide
theorem GU (s:Sg):s.txt.count 60=if s=.lt then 1 else 0:=by cases s <;> decide
theorem qb0 (q:Q):wy q [32]=some .q0∧wy q [10]=some .q0:=by cases q <;> exact ⟨rfl,rfl⟩
theorem TX.add {out:List Nat} {last t:Sg} {n lts:Nat} (T:TX out last n lts) (ht:t≠.fin) {g:List Nat} (hg:(g=[]∧(last=.fin→out=[])∧(last≠.fin→uH last t=true))∨(last≠.fin∧(g=[32]∨g=[10]))):TX (out++g++t.txt) t (n+1) (lts+if t=.lt then 1 else 0):=by
 refine x1a2 T.q fun q hq hgq=>?_
 have hl:=ya t
 rcases hg with ⟨rfl,h1,h2⟩ | ⟨h1,h2⟩
 ·rw [vU0]
  refine ⟨?_,?_,?_,?_⟩
  ·rw [zL,hq]
   by_cases hf:last=.fin
   ·have:=h1 hf
    subst this
    cases hq
    exact Yj ht
   ·exact (Uo hgq ht hf).1 (h2 hf)
  ·exact fun x hx=>(vH0.mp hx).elim (T.ch x) (YX t x)
  ·rw [vt0]; have:=T.len; exact far [_,_,_] [.le qb (.n 3),.le qa (.m 4 qg)] (.le (.p qa qb) (.m 4 (.p qg qh))) rfl hl this
  ·rw [wx0,T.lt,GU]
 ·have gq:wy q g=some .q0:=by rcases h2 with rfl | rfl; exact (qb0 q).1; exact (qb0 q).2
  have gl:g.length=1:=by rcases h2 with rfl | rfl <;> rfl
  have gc:∀ x∈g,BG x=true:=by rcases h2 with rfl | rfl <;> decide
  have g6:g.count 60=0:=by rcases h2 with rfl | rfl <;> rfl
  refine ⟨?_,?_,?_,?_⟩
  ·rw [zL,zL,hq]
   show ∃ q',((wy q g).bind fun q'=>wy q' t.txt)=some q'∧_
   rw [gq]
   exact (Uo hgq ht h1).2
  ·intro x hx
   rcases vH0.mp hx with hx | hx
   ·exact (vH0.mp hx).elim (T.ch x) (gc x)
   ·exact YX t x hx
  ·rw [vt0,vt0]; have:=T.len; exact far [_,_,_,_] [.le qg (.n 3),.eq qb qh,.le qa (.m 4 qj)] (.le (.p (.p qa qb) qg) (.m 4 (.p qj qh))) rfl hl gl this
  ·rw [wx0,wx0,T.lt,g6,GU]; omega
section
variable {d n:Nat} {nums:List Int} {x:Nat} {σ σ':H} {call mk:Nat→List V→H→RC}
theorem Os {k:Nat} (h:k<5):∃ g:List Nat,(g=[]∨g=[32]∨g=[10])∧∀ σ,zB (.tup [(.str []),(.str []),(.str []),(.str [32]),(.str [10])]) (.int k) σ=some (.str g) :=
 ltS h (c1a2 [10] (.inr (.inr rfl)) (fun _=>rfl)) fun k h=>ltS h (c1a2 [32] (.inr (.inl rfl)) (fun _=>rfl)) fun k h=>ltS h (c1a2 [] (.inl rfl) (fun _=>rfl)) fun k h=>ltS h (c1a2 [] (.inl rfl) (fun _=>rfl)) fun k h=>ltS h (c1a2 [] (.inl rfl) (fun _=>rfl)) fun k h=>absurd h (yC0 k)
theorem Kc (N:NumsOk nums) {out:List Nat} {last t:Sg} {m lts:Nat} (T:TX out last m lts) (hm:m≤100) (hx:x≤300) (ht:t≠.fin) (hf:last=.fin→out=[]) {x4:Option LV} :
  ∃ out' y4,exs prog (qk prog (d+1)) mk (.cons (.asg 4 (.idx (.tup (.cons qp (.cons qp (.cons qp (.cons zD (.cons (.cst (.str [10])) .nil)))))) (.callF 49 (.cons qc (.cons qT .nil))))) (.cons (.ifs (.and (.cmp .ne qm qp) (.and (.cmp .eq qq qp) (.not (.callF 50 (.cons qm (.cons qt .nil)))))) (.cons (.asg 4 zD) .nil) .nil) (.cons (.asg 1 (.bin .add (.bin .add qi (.ite (.cmp .ne qm qp) qq qp)) qt)) (.cons (.asg 2 qt) .nil)))) (qB ⟨[some (.val (.ref 1)),some (.val (.str out)),some (.val (.str last.txt)),some (.val (.str t.txt)),x4],th nums x⟩ 3 (.val (.str t.txt)))=.ok .next ⟨[some (.val (.ref 1)),some (.val (.str out')),some (.val (.str t.txt)),some (.val (.str t.txt)),y4],th nums (x+1)⟩∧TX out' t (m+1) (lts+if t=.lt then 1 else 0):=by
 refine x1a2 (wh (d:=d) N (show x≤500 by exact yd0 hx) 5 (by decide) (by decide)) fun k1 hk1 e1=>?_
 change qk prog (d+1) 49 [.ref 1,.int 5] _=_ at e1
 refine x1a2 (Os hk1) fun g hg p1=>?_
 have hlen:=T.len
 have tl:=ya t
 have cat2:∀ a:List Nat,a.length≤1→jS .add (.str out) (.str a)=some (.str (out++a))∧jS .add (.str (out++a)) (.str t.txt)=some (.str (out++a++t.txt)):=fun a ha=>⟨BE (by exact far [_,_,_] [.k 4 (.le qg (.n 100)),.le qa (.m 4 qg),.le qb qh] (.le (.p qa qb) qJ) rfl hm hlen ha),BE (by rw [vt0]; exact far [_,_,_,_] [.k 4 (.le qj (.n 100)),.le qa (.m 4 qj),.le qg (.n 3),.le qb qh] (.le (.p (.p qa qb) qg) qJ) rfl hm hlen tl ha)⟩
 have nl:=BL last
 by_cases hl:last=.fin
 ·have hb:(last==.fin)=true:=by rw [beq_iff_eq]; exact hl
  rw [hb] at nl
  refine zz (cat2 [] (by decide)) fun c1 c2=>?_
  refine (c2a2 (out++[]++t.txt) (some (.val (.str g))) ?_ (T.add ht (.inl (yD rfl hf (fun q=>absurd hl q)))))
  exact IM<|sC e1<|sO (p1 ..)<|sO nl<|sO nl<|sO c1<|sO c2<|rfl
 ·have hb:(last==.fin)=false:=by rw [beq_eq_false_iff_ne]; exact hl
  rw [hb] at nl
  rcases hg with rfl | rfl | rfl
  ·have ge:qF .eq (.str []) (.str [])=some true:=rfl
   have mt:=XL (d:=d) (σ:=th nums (x+1)) hl ht
   cases htt:uH last t
   ·rw [htt] at mt
    refine zz (cat2 [32] (by decide)) fun c1 c2=>?_
    refine (c2a2 (out++[32]++t.txt) (some (.val (.str [32]))) ?_ (T.add ht (.inr ⟨hl,.inl rfl⟩)))
    exact IM<|sC e1<|sO (p1 ..)<|sO nl<|sC mt<|sO nl<|sO c1<|sO c2<|rfl
   ·rw [htt] at mt
    refine zz (cat2 [] (by decide)) fun c1 c2=>?_
    refine (c2a2 (out++[]++t.txt) (some (.val (.str []))) ?_ (T.add ht (.inl (yD rfl (fun q=>absurd q hl) (fun _=>htt)))))
    exact IM<|sC e1<|sO (p1 ..)<|sO nl<|sC mt<|sO nl<|sO c1<|sO c2<|rfl
  ·have ge:qF .eq (.str [32]) (.str [])=some false:=rfl
   refine zz (cat2 [32] (by decide)) fun c1 c2=>?_
   refine (c2a2 (out++[32]++t.txt) (some (.val (.str [32]))) ?_ (T.add ht (.inr ⟨hl,.inl rfl⟩)))
   exact IM<|sC e1<|sO (p1 ..)<|sO nl<|sO nl<|sO c1<|sO c2<|rfl
  ·have ge:qF .eq (.str [10]) (.str [])=some false:=rfl
   refine zz (cat2 [10] (by decide)) fun c1 c2=>?_
   refine (c2a2 (out++[10]++t.txt) (some (.val (.str [10]))) ?_ (T.add ht (.inr ⟨hl,.inr rfl⟩)))
   exact IM<|sC e1<|sO (p1 ..)<|sO nl<|sO nl<|sO c1<|sO c2<|rfl
theorem Bx (N:NumsOk nums):∀ (Rs L:List Sg) (out:List Nat) (last:Sg) (x:Nat) (x3 x4:Option LV),(∀ s∈Rs,s≠.fin)→TX out last L.length (L.count .lt)→(last=.fin→out=[])→L.length+Rs.length≤14→x+Rs.length≤200 →
  ∃ out' last' y3 y4,Gr prog (qk prog (d+1)) mk 3 (.cons (.asg 4 (.idx (.tup (.cons qp (.cons qp (.cons qp (.cons zD (.cons (.cst (.str [10])) .nil)))))) (.callF 49 (.cons qc (.cons qT .nil))))) (.cons (.ifs (.and (.cmp .ne qm qp) (.and (.cmp .eq qq qp) (.not (.callF 50 (.cons qm (.cons qt .nil)))))) (.cons (.asg 4 zD) .nil) .nil) (.cons (.asg 1 (.bin .add (.bin .add qi (.ite (.cmp .ne qm qp) qq qp)) qt)) (.cons (.asg 2 qt) .nil)))) (sV Rs) ⟨[some (.val (.ref 1)),some (.val (.str out)),some (.val (.str last.txt)),x3,x4],th nums x⟩=.ok .next ⟨[some (.val (.ref 1)),some (.val (.str out')),some (.val (.str last'.txt)),y3,y4],th nums (x+Rs.length)⟩∧TX out' last' (L++Rs).length ((L++Rs).count .lt)
 | [],L,out,last,x,x3,x4,_,T,_,_,_=>(c4a2 out last x3 x4 (by unfold sV; rw [wl0,wl0,yB]; rfl) (by rw [vU0]; exact T))
 | t::Rs,L,out,last,x,x3,x4,hn,T,hf,h1,h2=>by
  rw [vr0] at h1 h2
  have ht:=hn t vV0
  refine x2a2 (Kc (d:=d) (mk:=mk) (x4:=x4) N T (by exact far [_,_] [.le (.p qa (.p qb qh)) (.n 14)] (.le qa (.n 100)) rfl h1) (show x≤300 by exact far [_,_] [.le (.p qa (.p qb qh)) qQ] (.le qa (.n 300)) rfl h2) ht hf) fun out1 z4 e1 T1=>?_
  have T1':TX out1 t (L++[t]).length ((L++[t]).count .lt):=by
   have hc:(L++[t]).count Sg.lt=L.count .lt+if t=.lt then 1 else 0:=by
    rw [wx0,List.count_singleton]
    congr 1
    by_cases q:t=.lt
    ·subst q; rfl
    ·rw [if_neg q,if_neg (by rw [beq_iff_eq]; exact q)]
   rw [hc,vt0]
   exact T1
  refine x4a2 (Bx N Rs (L++[t]) out1 t (x+1) (some (.val (.str t.txt))) z4 (fun s hs=>hn s (wg0 _ hs)) T1' (fun q=>absurd q ht) (by rw [vt0,vr0,vy0]; exact far [_,_] [.le (.p qa (.p qb qh)) (.n 14)] (.le (.p (.p qa qh) qb) (.n 14)) rfl h1) (by exact far [_,_] [.le (.p qa (.p qb qh)) qQ] (.le (.p (.p qa qh) qb) qQ) rfl h2)) fun out2 last2 y3 y4 e2 T2=>?_
  refine (c4a2 out2 last2 y3 y4 ?_ (by rw [vM0] at T2; exact T2))
  have hsv:sV (t::Rs)=.str t.txt::sV Rs:=rfl
  rw [hsv]
  have e1':exs prog (qk prog (d+1)) mk (.cons (.asg 4 (.idx (.tup (.cons qp (.cons qp (.cons qp (.cons zD (.cons (.cst (.str [10])) .nil)))))) (.callF 49 (.cons qc (.cons qT .nil))))) (.cons (.ifs (.and (.cmp .ne qm qp) (.and (.cmp .eq qq qp) (.not (.callF 50 (.cons qm (.cons qt .nil)))))) (.cons (.asg 4 zD) .nil) .nil) (.cons (.asg 1 (.bin .add (.bin .add qi (.ite (.cmp .ne qm qp) qq qp)) qt)) (.cons (.asg 2 qt) .nil)))) (qB ⟨[some (.val (.ref 1)),some (.val (.str out)),some (.val (.str last.txt)),x3,x4],th nums x⟩ 3 (.val (.str t.txt)))=_:=e1
  refine kN e1' (e2.trans ?_)
  rw [vr0,show x+1+Rs.length=x+(Rs.length+1) by exact yk0 (far [_,_] [] (.le (.p (.p qa qh) qb) (.p qa (.p qb qh))) rfl) (far [_,_] [] (.le (.p qa (.p qb qh)) (.p (.p qa qh) qb)) rfl)]
theorem Me (N:NumsOk nums):∃ src x',qk prog (d+3) 52 [.ref 1] (th nums 0)=.ok (.str src) (th nums x')∧Good src∧x'≤100:=by
 rw [qz (k:=Ac) (ρ:=[some (.val (.ref 1)),none,none,none,none]) rfl rfl]
 refine x2a4 (OK (d:=d) N) fun L x1 e1 RO hl hx=>?_
 refine x4a2 (Bx (d:=d+1) (mk:=mkD prog (d+2)) N L [] [] .fin x1 none none RO.nf ⟨(c1a2 .q0 rfl rfl),fun x q=>(by exact zv q),yq0 _,rfl⟩ (fun _=>rfl) (by rw [vy0]; exact far [_] [.le qa (.n 14)] (.le (.p (.n 0) qa) (.n 14)) rfl hl) (by exact far [_,_] [.le qb (.n 14),.le qa (.n 20)] (.le (.p qa qb) qQ) rfl hl hx)) fun out last y3 y4 e2 T=>?_
 rw [wq0] at T
 refine x1a2 T.q fun q hq _=>?_
 have hc:=BF L false RO.ok
 simp only [ui0,if_false] at hc
 refine (c2a3 out (x1+L.length) (by exact jc<|sC e1<|sK e2<|rfl) ⟨by have:=T.len; exact far [_,_] [.k 4 (.le qb (.n 14)),.le qa (.m 4 qb)] (.le qa (.n 60)) rfl hl this,T.ch,Oo hq,by rw [T.lt]; exact o50 _ _ hl hc⟩ (by exact far [_,_] [.le qb (.n 14),.le qa (.n 20)] (.le (.p qa qb) (.n 100)) rfl hl hx))
end
noncomputable def es7 (nums:List Int) (x:Nat) (src:List Nat):List (V×V):=[(.str [110,117,109,115],.lst (nums.map V.int)),(.str [110,101,120,116],.int x),(.str [99],.int 0),(.str [100,101,101,112],.int 0),(.str [116,111,108,100],.lst []),(.str [109,97,114,107,115],.ref 0),(.str [115,114,99],.str src)]
noncomputable def th2 (nums:List Int) (x:Nat) (src:List Nat):H:=[.list [],.dict (es7 nums x src)]
noncomputable def th3 (nums:List Int) (x:Nat) (src:List Nat) (parts types:List (V×V)) (toks:List V):H :=
 [.list [],.dict (es7 nums x src),.list [],.inst 1 [.ref 2,.str []],.list toks,.dict parts,.dict [],.dict [],.dict types,.dict [],.dict [],.list [],.list [],zJ0 0 0]
section
variable {d n:Nat} {nums:List Int} {x:Nat} {src:List Nat} {σ σ':H} {call mk:Nat→List V→H→RC}
theorem OH:mkD prog (d+1) 1 [] (th2 nums x src)=.ok (.ref 3) [.list [],.dict (es7 nums x src),.list [],.inst 1 [.ref 2,.str []]]:=by
 rw [vj (k:=NE) (ρ:=[none,some (.val (.str []))]) rfl rfl rfl]
 rfl
theorem Yx {vs:List V} (h:vs.length≤4096) (st:St):jO true (.lst vs) .none .none st=.ok (.ref st.σ.length) {st with σ:=st.σ++[.list vs]}:=by
 show GK true vs .none .none st=_
 unfold GK
 rw [if_pos (by unfold qD; exact h)]
 rfl
theorem KT {vs:List V} (h:vs.length≤4096):mkD prog (d+1) 4 [.lst vs,.ref 3] [.list [],.dict (es7 nums x src),.list [],.inst 1 [.ref 2,.str []]]=.ok (.ref 13) (th3 nums x src [] [] vs):=by
 rw [vj (k:=c_Parser) (ρ:=[none,some (.val (.lst vs)),some (.val (.ref 3))]) rfl rfl rfl]
 have e:=Yx h ⟨[none,some (.val (.lst vs)),some (.val (.ref 3))],[.list [],.dict (es7 nums x src),.list [],.inst 1 [.ref 2,.str []]]⟩
 have i0:uW prog (qk prog d) (mkD prog d) c_Parser.init ⟨[none,some (.val (.lst vs)),some (.val (.ref 3))],[.list [],.dict (es7 nums x src),.list [],.inst 1 [.ref 2,.str []]]⟩ []=(jO true (.lst vs) .none .none ⟨[none,some (.val (.lst vs)),some (.val (.ref 3))],[.list [],.dict (es7 nums x src),.list [],.inst 1 [.ref 2,.str []]]⟩).bind fun v st1=>uW prog (qk prog d) (mkD prog d) c_Parser.init.tail st1 [v]:=rfl
 rw [i0,e]
 rfl
theorem Xz {xs:List Int} (h:xs.length≤63) (h0:xs≠[]):NumsOk ((xs.take 40).map (· % 9973)):=by
 refine ⟨⟨?_,?_⟩,fun y hy=>?_⟩
 ·rw [vq0,vC0]
  have:xs.length≠0:=fun q=>h0 (vK0.mp q)
  exact o51 _ this
 ·rw [vq0,vC0]; exact far [_] [.le qa (.n 40)] (.le qa (.n 100)) rfl (yv0 _ _)
 ·refine x1a2 (wk0.mp hy) fun z _ uQ0=>?_; subst uQ0
  exact ⟨Int.emod_nonneg _ (by decide),by have:=kL0 z (show (0:Int)<9973 by decide); exact o52 _⟩
noncomputable def zQ0:List Int:=[0,0,0,1,0,0,0,0,0,0,0,0,0,1,2,6,0]
theorem KK:NumsOk zQ0:=⟨by decide,by decide⟩
theorem OT (xs:List Int) (h:xs.length≤63):∃ σ,qk prog 140 71 [.lst (xs.map V.int)] []=.ok (.bool true) σ:=by
 show ∃ σ,qk prog (139+1) 71 [.lst (xs.map V.int)] []=.ok (.bool true) σ
 rw [qz (k:=f_law) (ρ:=[some (.val (.lst (xs.map V.int))),none,none,none,none,none]) rfl rfl]
 change ∃ σ,Oq (exs prog (qk prog 139) (mkD prog 139) (.cons _ (.cons _ (.cons _ (.cons _ (.cons _ (.cons _ (.cons _ (.cons _ (.cons _ (.cons _ Mz)))))))))) _)=_
 have sl:∀ st:St,jO false (.lst (xs.map V.int)) .none (.int 40) st=.ok (.lst ((xs.take 40).map V.int)) st:=by
  intro st
  show GK false (xs.map V.int) .none (.int 40) st=_
  unfold GK
  have e1:JI (xs.map V.int) .none (.int 40)=some ((xs.take 40).map V.int):=by
   show some ((xs.map V.int).take 40)=_
   rw [wr0]
  rw [if_pos (by rw [vq0]; unfold qD; exact yd0 h),e1]
  rfl
 have cm:∀ ρ,Nz prog (qk prog 139) (mkD prog 139) (.bin .mod qc (.cst (.int 9973))) (.lst ((xs.take 40).map V.int)) qy 0 ⟨ρ,[]⟩ []=.ok (.lst (((xs.take 40).map (· % 9973)).map V.int)) ⟨ρ,[]⟩:=by
  intro ρ
  refine vG (by simp) (fun i v w h1 h2=>?_) (by rw [vq0,vC0]; exact far [_] [.le qa (.n 40)] (.lt qa qP) rfl (yv0 _ _))
  rw [vG0] at h1 h2
  rw [vG0] at h2
  refine x1a2 (kS0.mp h1) fun y hy uQ0=>?_; subst uQ0
  rw [hy] at h2
  cases h2
  exact ⟨[some (.val (.int y))],by exact wEv<|rfl⟩
 rw [qI (st':=⟨[some (.val (.lst (xs.map V.int))),some (.val (.lst (((xs.take 40).map (· % 9973)).map V.int))),none,none,none,none],[]⟩) (by
  exact wEx<|sK (sl ..)<|sK (cm ..)<|rfl)]
 have two:∃ nums,NumsOk nums∧ex prog (qk prog 139) (mkD prog 139) (.ifs (.cmp .eq (.len qi) qo) (.cons (.asg 1 (.lst false (.cons qo (.cons qo (.cons qo (.cons qu (.cons qo (.cons qo (.cons qo (.cons qo (.cons qo (.cons qo (.cons qo (.cons qo (.cons qo (.cons qu (.cons qH (.cons (.cst (.int 6)) (.cons qo .nil))))))))))))))))))) .nil) .nil) ⟨[some (.val (.lst (xs.map V.int))),some (.val (.lst (((xs.take 40).map (· % 9973)).map V.int))),none,none,none,none],[]⟩=.ok .next ⟨[some (.val (.lst (xs.map V.int))),some (.val (.lst (nums.map V.int))),none,none,none,none],[]⟩:=by
  by_cases h0:xs=[]
  ·subst h0
   refine (c1a2 zQ0 KK ?_)
   exact IM<|rfl
  ·have N:=Xz h h0
   refine (c1a2 _ N ?_)
   have l0:zb (.lst (((xs.take 40).map (· % 9973)).map V.int)) []=some ((((xs.take 40).map (· % 9973)).length:Nat):Int):=by
    show (if _ then some ((((((xs.take 40).map (· % 9973)).map V.int).length:Nat):Int)) else none)=_
    rw [if_pos (by rw [vq0]; have:=N.len; unfold qD; exact yd0 this.2),vq0]
   have q0:qF .eq (.int (((xs.take 40).map (· % 9973)).length:Int)) (.int 0)=some false:=by
    rw [UK]
    congr 1
    rw [beq_eq_false_iff_ne]
    have:=N.len
    exact o53 _ this.1
   exact wEx<|sO l0<|sF2 q0<|rfl
 refine x1a2 two fun nums N e2=>?_
 rw [qI e2]
 rw [qI (st':=⟨[some (.val (.lst (xs.map V.int))),some (.val (.lst (nums.map V.int))),some (.val (.ref 1)),none,none,none],th nums 0⟩) (by
  exact wEx<|rfl)]
 refine x2a3 (Me (d:=136) N) fun src x e4 G hx=>?_
 change qk prog 139 52 _ _=_ at e4
 have hL:=G.len
 rw [qI (st':=⟨[some (.val (.lst (xs.map V.int))),some (.val (.lst (nums.map V.int))),some (.val (.ref 1)),none,none,none],th2 nums x src⟩) (by exact wEx<|sC e4<|rfl)]
 have e5:=ZI (d:=137) (σ:=th2 nums x src) (c:=0) G (yq0 _)
 change qk prog 139 54 [.str src,.int 0] _=_ at e5
 have dl:=MZ G.ch 60 0 (yq0 _) (by exact hL)
 have c5:∀ ρ,Nz prog (qk prog 139) (mkD prog 139) (.new 2 (.cons (.idx qc qo) (.cons (.idx qc qu) (.cons (.idx qc qH) (.cons (.idx qc jm) (.cons (.idx qc qS) (.cons (.idx qc qT) .nil))))))) (.lst ((due src 0).map IT)) qy 0 ⟨ρ,th2 nums x src⟩ []=.ok (.lst ((due src 0).map zc)) ⟨ρ,th2 nums x src⟩:=by
  intro ρ
  refine vG (by simp) (fun i v w h1 h2=>?_) (by rw [vq0]; exact yf0 dl (yc0 rfl))
  rw [vG0] at h1 h2
  refine x1a2 (kS0.mp h1) fun t ht uQ0=>?_; subst uQ0
  rw [ht] at h2
  cases h2
  have mt:=fun a b c e f g=>uO (d:=138) (a:=a) (b:=b) (c:=c) (e:=e) (f:=f) (g:=g) (σ:=th2 nums x src)
  change ∀ a b c e f g,mkD prog 139 2 _ _=_ at mt
  refine ⟨[some (.val (IT t))],?_⟩
  exact wEv<|sC (mt ..)<|rfl
 rw [qI (st':=⟨[some (.val (.lst (xs.map V.int))),some (.val (.lst (nums.map V.int))),some (.val (.ref 1)),some (.val (.lst ((due src 0).map zc))),none,none],th2 nums x src⟩) (by
  exact wEx<|sC e5<|sK (c5 ..)<|rfl)]
 have d6:=OH (d:=138) (nums:=nums) (x:=x) (src:=src)
 have p6:=KT (d:=138) (nums:=nums) (x:=x) (src:=src) (vs:=(due src 0).map zc) (by rw [vq0]; exact yd0 dl)
 change mkD prog 139 1 _ _=_ at d6
 change mkD prog 139 4 _ _=_ at p6
 rw [qI (st':=⟨[some (.val (.lst (xs.map V.int))),some (.val (.lst (nums.map V.int))),some (.val (.ref 1)),some (.val (.lst ((due src 0).map zc))),some (.val (.ref 13)),none],th3 nums x src [] [] ((due src 0).map zc)⟩) (by exact wEx<|sC d6<|sC p6<|rfl)]
 have n6:=fun σ=>XG (d:=138) (σ:=σ)
 have n7:=fun σ=>XF (d:=138) (σ:=σ)
 change ∀ σ,mkD prog 139 6 _ _=_ at n6
 change ∀ σ,mkD prog 139 7 _ _=_ at n7
 rw [qI (st':=⟨[some (.val (.lst (xs.map V.int))),some (.val (.lst (nums.map V.int))),some (.val (.ref 1)),some (.val (.lst ((due src 0).map zc))),some (.val (.ref 13)),none],th3 nums x src [(.int 1,.obj 6 [])] [] ((due src 0).map zc)⟩) (by exact wEx<|sC (n6 ..)<|rfl)]
 rw [qI (st':=⟨[some (.val (.lst (xs.map V.int))),some (.val (.lst (nums.map V.int))),some (.val (.ref 1)),some (.val (.lst ((due src 0).map zc))),some (.val (.ref 13)),none],th3 nums x src [(.int 1,.obj 6 []),(.int 2,.obj 6 [])] [] ((due src 0).map zc)⟩) (by exact wEx<|sC (n6 ..)<|rfl)]
 rw [qI (st':=⟨[some (.val (.lst (xs.map V.int))),some (.val (.lst (nums.map V.int))),some (.val (.ref 1)),some (.val (.lst ((due src 0).map zc))),some (.val (.ref 13)),none],th3 nums x src [(.int 1,.obj 6 []),(.int 2,.obj 6 [])] [(.str [35,110,97,109,101],.obj 7 [])] ((due src 0).map zc)⟩) (by exact wEx<|sC (n7 ..)<|rfl)]
 rw [qI (st':=⟨[some (.val (.lst (xs.map V.int))),some (.val (.lst (nums.map V.int))),some (.val (.ref 1)),some (.val (.lst ((due src 0).map zc))),some (.val (.ref 13)),none],hp (.list []) (wD ⟨nums,x,0,0,[],0,src⟩) [] ⟨due src 0,0,[],0,[],[]⟩⟩) (by exact wEx<|rfl)]
 have LI0:LI 0 (.list []) [] ⟨nums,x,0,0,[],0,src⟩ ⟨due src 0,0,[],0,[],[]⟩ [] :=
  ⟨G,⟨rfl,yq0 _,by dsimp only; exact yd0 dl,by dsimp only [vy0]; exact far [_,_] [.k 2 (.le qa (.n 60)),.k 2 (.le qb qa)] (.le (.p (.n 0) (.m 2 qb)) qQ) rfl hL (yn0 _ _),yq0 _⟩,⟨fun s q=>(by exact zv q),yq0 _⟩,rfl,rfl,kA0 _,by dsimp only; exact kt0 _,yh0 _,.inl ⟨rfl,rfl⟩,.nil rfl,yq0 _,⟨N.len,N.ok⟩⟩
 refine x1a1 (OV (d:=48) (mk:=mkD prog 139) LI0 (by dsimp only; exact yd0 hx) (x0:=some (.val (.lst (xs.map V.int)))) (x1:=some (.val (.lst (nums.map V.int)))) (x3:=some (.val (.lst ((due src 0).map zc)))) (x4:=some (.val (.ref 13))) (x5:=none)) fun st e=>?_
 change exs prog (qk prog 139) _ _ _=_ at e
 exact ⟨st.σ,by rw [e]; rfl⟩
end
end Mine
open PySem PySem.W PySem.Calls PyProof.Rows
namespace Mine
noncomputable abbrev law0:OpenLaw:=PySem.Challenge.rw_xm0501_01
noncomputable abbrev prog0:Program:=law0.prog
noncomputable def onT (b:Bool) (r:Option SharedT):Option SharedT:=match b with
 | true=>r
 | false=>none
theorem wJ {b:Bool} {r:Option SharedT} {s:SharedT} (h:onT b r=some s):b=true∧r=some s:=by
 cases b with
 | true=>exact ⟨rfl,h⟩
 | false=>exact nsO h
noncomputable def ldK (T:BT) (n a:Nat) (c:Obj→Option SharedT):Option SharedT:=onT (vh0 a n) ((T.get a).bind fun o=>(alive o).bind c)
noncomputable def xg0 (n₀:Nat) (ann:Option Value) (a:uP0):Bool:=yS0 n₀ a||a==mainNs||a==cStatics||ann==some (.ref a)
noncomputable def jc0 (p:Program) (w:World) (n₀:Nat) (ann:Option Value) (s:SharedT) (t:Thread) (c:SharedT→Thread→Option SharedT):Option SharedT:=match through t with
 | true=>some s
 | false=>onT (stepOk n₀ ann t) ((Fast.tw10156331382660048174 (Fast.tw11892475500146522536 Fast.tw14364793385576792824) p w s t).bind fun r=>c r.1 r.2)
noncomputable def xh0 (p:Program) (w:World) (n₀:Nat) (ann:Option Value) (go:SharedT→Thread→Option SharedT):SharedT→Thread→Option SharedT
 | ⟨T,n,life,gens,drawn,toks,os⟩,⟨cur,code,pos,stack⟩=>match cur with
  | .load a _ k=>ldK T n a fun o=>go ⟨T,n,life,gens,drawn,toks,os⟩ ⟨k o,code,pos,stack⟩
  | .update a _ f k=>onT (xg0 n₀ ann a) (ldK T n a fun _=>go ⟨T.set a f,n,life,gens,drawn,toks,os⟩ ⟨k (),code,pos,stack⟩)
  | .alloc o k=>onT ((T.ins n o).get n).isSome (go ⟨T.ins n o,n+1,life,gens,drawn,toks,os⟩ ⟨k n,code,pos,stack⟩)
  | .fresh k=>go ⟨T,n,life,gens,drawn,toks+1,os⟩ ⟨k toks,code,pos,stack⟩
  | .at q k=>go ⟨T,n,life,gens,drawn,toks,os⟩ ⟨k (),code,q,stack⟩
  | .point _ k=>go ⟨T,n,life,gens,drawn,toks,os⟩ ⟨k (),code,pos,stack⟩
  | .ask k=>go ⟨T,n,life,gens,drawn,toks,os⟩ ⟨k ⟨p,w.params⟩,code,pos,stack⟩
  | c=>jc0 p w n₀ ann ⟨T,n,life,gens,drawn,toks,os⟩ ⟨c,code,pos,stack⟩ go
noncomputable def jg0 (p:Program) (w:World) (n₀:Nat) (ann:Option Value) (m:Nat):SharedT→Thread→Option SharedT:=Nat.rec (fun _ _=>none) (fun _ go=>xh0 p w n₀ ann go) m
theorem Ir {T:BT} {n a:Nat} {c:Obj→Option SharedT} {r:SharedT} (h:ldK T n a c=some r):∃ o o',vh0 a n=true∧T.get a=some o∧alive o=some o'∧c o'=some r:=by
 have g:=wJ h
 refine x1a2 (kU0.mp g.2) fun o h2 h=>?_
 exact x1a2 (kU0.mp h) fun o' h3 h=>⟨o,o',g.1,h2,h3,h⟩
theorem zT {p:Program} {w:World} {n₀:Nat} {ann:Option Value} {m:Nat} {s s':SharedT} {t t':Thread} {r:Shared} (ht:through t=false) (hk:stepOk n₀ ann t=true) (hs:stepT (denote treeTable) p w s t=some (s',t'))
  (h:topRun treeTable p w n₀ ann m s'.abs t'=some r):topRun treeTable p w n₀ ann (m+1) s.abs t=some r:=by
 unfold topRun
 rw [ht,hk,stepT_spec hs]
 exact h
theorem Kq {p:Program} {w:World} {n₀:Nat} {ann:Option Value} {m:Nat}:∀ {s s':SharedT} {t:Thread},jg0 p w n₀ ann m s t=some s'→topRun treeTable p w n₀ ann m s.abs t=some s'.abs:=by
 induction m with
 | zero=>exact fun h=>nsO h
 | succ m ih =>
  intro s s' t h
  have go:jc0 p w n₀ ann s t (jg0 p w n₀ ann m)=some s'→topRun treeTable p w n₀ ann (m+1) s.abs t=some s'.abs:=fun h=>by
   unfold jc0 at h
   cases ht:through t with
   | true=>rw [ht] at h; cases h; unfold topRun; rw [ht]
   | false =>
    rw [ht] at h
    have h:=wJ h
    rw [← Fast.te10156331382660048174,← Fast.te11892475500146522536,← Fast.te14364793385576792824] at h
    exact x1a2 (kU0.mp h.2) fun r hs h1=>zT ht h.1 hs (ih h1)
  obtain ⟨T,n,life,gens,drawn,toks,os⟩:=s
  obtain ⟨cur,code,pos,stack⟩:=t
  cases cur with
  | load a q k =>
   obtain ⟨o,o',h1,h2,h3,h⟩:=Ir h
   exact zT (uh0 _) rfl (by show (match vh0 a n with | true=>_ | false=>_)=_; rw [h1,h2]; dsimp only; rw [h3]) (ih h)
  | update a q f k =>
   have g:=wJ h
   obtain ⟨o,o',h1,h2,h3,h⟩:=Ir g.2
   exact zT (uh0 _) g.1 (by show (match vh0 a n with | true=>_ | false=>_)=_; rw [h1,h2]; dsimp only; rw [h3]) (ih h)
  | alloc o k =>
   have g:=wJ h
   exact zT (uh0 _) rfl (by show (match ((T.ins n o).get n).isSome with | true=>_ | false=>_)=_; rw [g.1]) (ih g.2)
  | fresh k=>exact zT (uh0 _) rfl rfl (ih (t:=⟨k toks,code,pos,stack⟩) (s:=⟨T,n,life,gens,drawn,toks+1,os⟩) h)
  | «at» q k=>exact zT (uh0 _) rfl rfl (ih (t:=⟨k (),code,q,stack⟩) (s:=⟨T,n,life,gens,drawn,toks,os⟩) h)
  | point q k=>exact zT (uh0 _) rfl rfl (ih (t:=⟨k (),code,pos,stack⟩) (s:=⟨T,n,life,gens,drawn,toks,os⟩) h)
  | ask k=>exact zT (uh0 _) rfl rfl (ih (t:=⟨k ⟨p,w.params⟩,code,pos,stack⟩) (s:=⟨T,n,life,gens,drawn,toks,os⟩) h)
  | _=>exact go h
noncomputable def ML:Nat→List Obj→Frag
 | _,[]=>[]
 | i,o::r=>match alive o with
  | some o=>(i,o)::ML (i+1) r
  | none=>ML (i+1) r
theorem uZ:∀ (l:List Obj) (i a:Nat) (o:Obj),(ML i l).lookup a=some o→i≤a∧(l[a-i]?).bind alive=some o
 | [],_,_,_,h=>by exact nsO h
 | x::r,i,a,o,h=>by
  have ih:=fun h=>uZ r (i+1) a o h
  have nx:(i+1≤a∧(r[a-(i+1)]?).bind alive=some o)→i≤a∧((x::r)[a-i]?).bind alive=some o:=fun ⟨q,e⟩=>⟨by exact ym0 q,by
   rw [show a-i=(a-(i+1))+1 by exact yk0 (far [_,_,_,_] [.le (.p qg qb) qa,.le qa (.p qj (.p qb qh))] (.le qg (.p qj qh)) rfl (yi0 (yg0 (far [_,_] [.le (.p qb qh) qa] (.le qb qa) rfl q))) (lsa _ _)) (far [_,_,_,_] [.le (.p qj (.p qb qh)) qa,.le qa (.p qg qb)] (.le (.p qj qh) qg) rfl (yi0 (yg0 (far [_,_] [.le (.p qb qh) qa] (.le (.p qb qh) qa) rfl q))) (lsa _ _)),vZ0]; exact e⟩
  unfold ML at h
  cases q:alive x with
  | none=>rw [q] at h; exact nx (ih h)
  | some y =>
   rw [q] at h
   dsimp only at h
   rw [vX0] at h
   cases e:a==i with
   | true =>
    rw [e] at h
    obtain rfl:=beq_iff_eq.mp e
    refine ⟨yh0 _,?_⟩
    rw [yt0]
    exact q.trans h
   | false=>rw [e] at h; exact nx (ih h)
noncomputable def uY (h:Heap):Frag:=ML 0 h.objs.toList
theorem MK (h:Heap):(uY h).In h:=fun a o e=>by
 have:=(uZ _ _ _ _ e).2
 rw [vk0,ux0] at this
 unfold Heap.get?
 cases q:h.objs[a]? with
 | none=>rw [q] at this; exact nsO this
 | some x =>
  rw [q] at this
  obtain ⟨c,d,dt,sl⟩:=x
  cases dt <;> exact this
noncomputable def Uc (l:List Obj):BT:=(l.zipIdx).foldl (fun t p=>t.ins p.2 p.1) .nil
noncomputable abbrev q0:Program:=view prog0 [111]
noncomputable def Ip:List Str:=prog0.boundNames.filter fun x=>!(x==Str.ofString "law")
theorem Ux:(defOf q0 law0.row.name).isSome=true:=by kernel_rfl
noncomputable def lawD:DefRec×List (Str×Expr):=(defOf q0 law0.row.name).get Ux
theorem XW:defOf q0 law0.row.name=some (lawD.1,lawD.2):=(Option.some_get Ux).symm
theorem XV:prog0.theDef law0.row.name=some (lawD.1.params,lawD.1.body,lawD.1.scope):=by kernel_rfl
theorem ZR:kwWritten? lawD.1.params.kwonlyargs lawD.1.params.kw_defaults=some lawD.2:=by kernel_rfl
theorem ZQ:(chainsOk q0&&opensWell prog0&&(frees law0.row.toRowW&&law0.row.within.isEmpty))=true:=by decide +kernel
theorem OW:prog0.bare:=⟨rfl,rfl,rfl,rfl,rfl,by decide +kernel⟩
theorem OU:law0.wellSaid=true:=by
 rw [Fast.te9446332074065402090]
 unfold Fast.tw9446332074065402090 Fast.tw17960256430627541270 Fast.tw2436336058641802641 Fast.tw12908688711261696721
 repeat' (with_reducible refine uf0.mpr ⟨?_,?_⟩)
 all_goals as_aux_lemma=>kernel_rfl
theorem BW:law0.row.toRowW.promised:=⟨[.list []],by decide +kernel,by decide +kernel⟩
theorem Xp:opening prog0=plainProg prog0.main.scope.names:=by kernel_rfl
theorem IY (s:Shared):fenceModules? prog0 s=some s:=by kernel_rfl
theorem NF (P:Params):absHeap (Uc (boot_heap P).objs.toList) 11 (boot_heap P).life=boot_heap P:=by kernel_rfl
theorem NG (P:Params):((boot_heap P).isNs uK0,(boot_heap P).objs.size,(boot_heap P).nsMap uK0 "__annotations__")=(true,11,some (.ref 6)):=by kernel_rfl
def YPx (chk:Frag→Bool) (h:Heap):Prop:=∃ K:Frag,K.In h∧chk K=true
noncomputable abbrev ZD:=importedModules prog0.main.body
noncomputable def OQ (chk:Frag→Bool) (P:Params) (sT:SharedT) :=
 (fun s:Shared=>(staticsOk ZD (boot_heap P) s.heap&&namesBound prog0 s.heap&&gensDone s&&laidKept (boot_heap P) s.heap,openSeen q0 Ip ZD (fun _=>true) true s,chk (uY s.heap))) sT.abs
noncomputable def qt0 (P:Params) (os:OsState):SharedT:=⟨Uc (boot_heap P).objs.toList,11,(boot_heap P).life,#[],boot_drawn,boot_toks,os⟩
def GP (chk:Frag→Bool):Prop:=∀ (w:World) (os:OsState),(jg0 prog0 w 11 (some (.ref 6)) 6900 (qt0 w.params os) (topStub prog0)).map (OQ chk w.params)=some (true,openGood q0 Ip,true)
theorem OS {p q:Program} {loose:List Str} {Xt:Shared→Bool} {α:Type} {Yf:Shared→α} {Ya:World→α} {N:Nat} {H₀:Params→Heap} {d₀:Drawn} {k₀ m₀:Nat} {ann:Option Value}
  (open_:∀ w:World,(fencedOpening treeTable p w N).map (fun s=>(s.heap,s.gens,s.drawn,s.toks))=some (H₀ w.params,uE0 [],d₀,k₀))
  (size:∀ P,((H₀ P).isNs uK0,(H₀ P).objs.size,(H₀ P).nsMap uK0 "__annotations__")=(true,m₀,ann))
  (run:∀ (w:World) (os:OsState),∃ s₁,topRun treeTable p w m₀ ann N ⟨H₀ w.params,uE0 [],d₀,k₀,os⟩ (topStub p)=some s₁ ∧
   (staticsOk (importedModules p.main.body) (H₀ w.params) s₁.heap&&namesBound p s₁.heap&&gensDone s₁&&laidKept (H₀ w.params) s₁.heap)=true ∧
   openSeen q loose (importedModules p.main.body) Xt true s₁=openGood q loose∧Yf s₁=Ya w):LeftO p q loose Xt Yf Ya N:=fun w=>by
 obtain ⟨⟨h,gs,d,k,os⟩,e,e'⟩:=kS0.mp (open_ w)
 cases e'
 obtain ⟨s₁,r,l1,l2,l3⟩:=run w os
 have z:=size w.params
 have z1:(H₀ w.params).isNs uK0=true:=congrArg (·.1) z
 have z2:(H₀ w.params).objs.size=m₀:=congrArg (·.2.1) z
 have z3:(H₀ w.params).nsMap uK0 "__annotations__" = ann:=congrArg (·.2.2) z
 unfold openEnds
 rw [e]
 show (topFrom treeTable p w N _).map _=_
 unfold topFrom
 dsimp only
 rw [z1,z2,z3,r]
 dsimp only [kZ0]
 rw [l1]
 exact congrArg some (Prod.ext l2 l3)
theorem XU {chk:Frag→Bool} (h:GP chk):LeftO prog0 q0 Ip (fun _=>true) (fun s=>chk (uY s.heap)) (fun _=>true) 6900 :=
 OS (boot_open Xp rfl IY) NG fun w os=>by
  obtain ⟨sT,e1,e2⟩:=kS0.mp (h w os)
  unfold OQ at e2
  have l:=Prod.mk.inj e2
  have l':=Prod.mk.inj l.2
  refine ⟨sT.abs,?_,l.1,l'⟩
  have r:=Kq e1
  rw [show (qt0 w.params os).abs=⟨boot_heap w.params,uE0 [],boot_drawn,boot_toks,os⟩ from congrArg (fun h=>Shared.mk h #[] boot_drawn boot_toks os) (NF w.params)] at r
  exact r
theorem Yg {chk:Frag→Bool} (h:GP chk) (hc:WalkO q0 Ip (fun _ _=>True) (fun _ h=>YPx chk h) law0.row.toRowW lawD.1 lawD.2 fun f vs=>PySem.call f vs):law0.Holds :=
 holds_law OU fun said=>holds_open (r:=law0.row) (Ya:=fun _=>true) (N:=6900) (XU h) (fun _ s e=>⟨uY s.heap,MK _,e⟩) (fun _ _ _ ⟨K,k,e⟩ q=>⟨K,k.keeps q,e⟩) (fun _ _=>trivial) (fun _ _ _ _ _=>trivial)
  XW XV ZR (fun _ _=>recFacts_nil rfl) rfl said ZQ OW BW hc
open PySem.Spec
noncomputable def anN (i:Nat):Str:=Str.ofString (attrNames.getD i "")
noncomputable def mnN (i:Nat):Str:=Str.ofString (methNames.getD i "")
noncomputable def fAddr:List Nat:=[123,152,231,245,266,273,280,287,294,301,308,329,343,364,371,392,399,406,413,420,427,441,455,469,476,490,497,525,532,539,546,583,595,602,609,616,623,630,637,644,658,670,677,684,733,740,747,761,773,780,787,794,801,808,815,820,827,834,841,846,851,858,865,872,877,884,889,896,903,910,917,922]
noncomputable def cAddr:List Nat:=[126,162,183,234,430,514,586,661,764]
noncomputable def T1:TT:=⟨fun c=>cAddr.getD c 0,fun c=>match clsTab[c]? with | some k=>k.fields.map anN | none=>[],fun _=>0,80,fun f=>fAddr.getD f 0,fun f=>(slotNames.getD f []).map Str.ofString⟩
theorem vk {s:List Nat} {ws:List (List Nat)}:∀ {l:List (List Nat×List (List Nat))},l.lookup s=some ws→(s,ws)∈l
 | [],e=>by exact nsO e
 | (a,b)::l,e=>by
  rw [vX0] at e
  split at e
  ·rename_i q
   cases e
   rw [beq_iff_eq] at q
   subst q
   exact vV0
  ·exact wg0 _ (vk e)
noncomputable def Ud (e:List Nat×List (List Nat)):Bool :=
 decide (e.1.length≤qD)&&decide (e.2.length≤qD)&&decide ((Builtin.Str.spaceWords (toS e.1) ((toS e.1).length+1)).length≤qD) &&
 (if (Builtin.Str.spaceWords (toS e.1) ((toS e.1).length+1)==[(0,(toS e.1).length)])=true then decide (e.2=[e.1]) else decide (PySem.wordsOf (toS e.1)=e.2.map toS))
theorem Kj:SplitOk prog:=by
 have h:tabSplit.all Ud=true:=by kernel_rfl
 refine ⟨fun s ws e=>?_⟩
 have hm:(s,ws)∈tabSplit:=vk e
 have:=vE0.mp h _ hm
 unfold Ud at this
 simp only [ug0,decide_eq_true_eq] at this
 obtain ⟨⟨⟨h1,h2⟩,h3⟩,h4⟩:=this
 refine ⟨h1,h2,h3,?_⟩
 split
 ·rename_i q
  rw [if_pos q] at h4
  exact of_decide_eq_true h4
 ·rename_i q
  rw [if_neg q] at h4
  exact of_decide_eq_true h4
noncomputable def zU0 (K:Frag):Bool:=(fnTab.take 40).zipIdx.all (fun x=>Dj K T1 anN mnN x.2 x.1)&&(clsTab.zipIdx.all (fun x=>kz K T1 anN mnN x.2 x.1)&&(methTab.all (fun x=>AZ K T1 mnN x.1 x.2.1 x.2.2)&&(AF K T1.stop 77&&nsIn K uK0 "law" == some (some (.ref 922)))))
noncomputable def zT0 (K:Frag):Bool:=((fnTab.drop 40).zipIdx 40).all (fun x=>Dj K T1 anN mnN x.2 x.1)
theorem NY {prog':Program} {w:World} {T:TT} {K:Frag} {s:Shared} {A:Around} {f:Nat} {k:Fn} {body:List Stmt} {qual:Str} {scope:Scope} {cdv:Value} {fb:St→R Mine.Flow} {vs:List V} {ps:List Value} {Q:Value→Shared→Prop} {E:Value→Shared→Prop} {st':St}
  (B:BOk K s.heap) (F:zn0 K T f k body qual scope cdv) (hA:A.frames=some []) (hh:A.handled=none) (hroom:A.depth<recursionLimit)
  (hbody:∀ C' L,COk C' (T.sl f)→C'.env=envOf qual scope L (T.fa f) cdv→C'.A=A.deeper C'.env→C'.envs=[C'.env]→xX prog' w T s.heap C' (T.sl f) (execs body C'.env) fb)
  (V:VsRel T [] (fun b=>s.heap.get? b=none) s.heap vs ps) (hl:vs.length=k.n) (hf:fb ⟨(vs.map fun v=>some (LV.val v))++wF0 (k.slots-k.n) none,[]⟩=.ok (.ret (.bool true)) st')
  (hq:∀ h' tk,(∀ b o,s.heap.get? b=some o→h'.get? b=some o)→Q (.bool true) {s with heap:=h',toks:=tk}) :
  wpAny (model prog' w) A (call (.ref (T.fa f)) ps) Q E s:=by
 obtain ⟨d,D⟩:=F
 have n1:=D.n1
 have n2:=D.n2
 generalize hρ:((vs.map fun v=>some (LV.val v))++wF0 (k.slots-k.n) none:List (Option LV))=ρ₀ at hf
 have hpl:ps.length=((T.sl f).take k.n).length:=by rw [← V.length,hl,vC0,n2]; exact (ys0 D.n3).symm
 have nt:((T.sl f).take k.n).Nodup:=(kl0 ..).nodup n1
 refine wpAny_call ?_
 refine codeAny_call_def (fd:=d.fn body qual scope cdv) (body:=body) (binds:=((T.sl f).take k.n).zip ps) hroom (B.X _ _ D.look) rfl B.nolimit (codeRec_of B.X D.code) rfl
  ((vH (fd:=d.fn body qual scope cdv) D.p1 D.p2 D.p3 D.p4 D.p5 (AL rfl) nt hpl)) D.s4 (fun y hy=>D.x1 _ (wf0 (wE0 hy).1)) (fun h₁ hns hk₁=>?_) D.s1 D.s2 D.s3
 have kk:∀ b o,s.heap.get? b=some o→h₁.get? b=some o:=hk₁
 have hns':h₁.Ns s.heap.objs.size (fun x=>(((T.sl f).take k.n).zip ps).lookup x):=by
  have e:(fun x=>(((T.sl f).take k.n).zip ps).reverse.lookup x)=fun x=>(((T.sl f).take k.n).zip ps).lookup x:=funext fun x=>vT nt hpl x
  rw [← e]; exact hns
 let env:=envOf qual scope s.heap.objs.size (T.fa f) cdv
 let C':Cx:=⟨A.deeper env,env,[env],fun _=>False⟩
 have CK:COk C' (T.sl f):={
  kind:=D.s3
  loc:=fun x hx=>D.x1 x hx
  nodup:=n1
  dbg:=D.x2
  gl:=rfl
  bl:=rfl
  fr:=by show (A.deeper _).frames=_; rw [show (A.deeper env).frames=A.frames.map (_::·) from rfl,hA]; rfl
  hd:=hh
  top:=⟨_,_,_,rfl,rfl,rfl⟩}
 have nL:s.heap.get? s.heap.objs.size=none:=jd _
 have hbd:∀ b,bad C' ⟨[],[],[]⟩ b→b=s.heap.objs.size:=by
  rintro b ((q | q | q | q) | q)
  ·exact zv q
  ·exact zv q
  ·exact q
  ·have q:b∈[env].filterMap (·.frame):=q
   simpa [env,envOf] using q
  ·cases q
 have M:Mono [] [] (fun b=>s.heap.get? b=none) (bad C' ⟨[],[],[]⟩) s.heap h₁:=⟨vw0,fun a o e _ _=>kk a o e,fun a o e _ q=>by rw [hbd a q,nL] at e; exact nsO e⟩
 have IV:Inv prog' w T s.heap C' ⟨[],[],[]⟩ [] h₁:={
  lφ:=rfl
  lμ:=rfl
  nodup:=kd0
  sep:=fun b q=>by rcases q with q | q <;> exact zv q
  fresh:=fun b q=>by rw [hbd b q]; exact nL
  stay:=kk
  frames:=by
   obtain ⟨o,es,ep,ho,hd,_⟩:=hns'
   exact ⟨by show scope.kind≠_; rw [D.s3]; decide,⟨_,o,rfl,nL,ho,fun vs q=>by rw [hd] at q; exact qO PySem.Data.ctorIdx q rfl⟩,trivial⟩
  objs:=fun i o e=>by simp at e
  hidden:=fun b q=>by cases q
  ownT:=fun b q=>by exact zv q}
 have len0:ρ₀.length=(T.sl f).length:=by
  rw [← hρ,vt0,vq0,wZ0,n2,hl]; exact vb0 D.n3
 have getv:∀ (i:Nat) (x:LV),ρ₀[i]?=some (some x)→∃ v,vs[i]?=some v∧x=.val v:=by
  intro i x hx
  rw [← hρ] at hx
  by_cases hi:i<vs.length
  ·rw [vD0 (by rw [vq0]; exact hi),vG0] at hx
   obtain ⟨v,hv,e⟩:=kS0.mp hx
   cases e
   exact ⟨v,hv,rfl⟩
  ·rw [vz0 (by rw [vq0]; exact yo0 hi),wT0] at hx
   split at hx <;> cases hx
 have LC:Loc T C' ⟨[],[],[]⟩ (T.sl f) ρ₀ (fun x=>(((T.sl f).take k.n).zip ps).lookup x) h₁:={
  ns:=hns'
  val:=fun i x v hx hv=>by
   obtain ⟨v',hv',e⟩:=getv i _ hv
   cases e
   obtain ⟨p,hp,W⟩:=V.get hv'
   refine ⟨p,zm nt ?_ hp,W.mono M⟩
   rw [wI0,if_pos (by rw [← hl]; exact (vv0.mp hv').1)]
   exact hx
  own:=fun i x ws hx hv=>by obtain ⟨v',_,e⟩:=getv i _ hv; exact qO LV.ctorIdx e rfl
  one:=fun i j ws us h1 h2=>by obtain ⟨v',_,e⟩:=getv i _ h1; exact qO LV.ctorIdx e rfl
  len:=len0}
 refine hbody C' s.heap.objs.size CK rfl rfl rfl _ _ {s with heap:=h₁,toks:=s.toks+(((T.sl f).take k.n).zip ps).length} ⟨ρ₀,[]⟩ IV LC _ _ (fun a st2 e m' g' h₂ tk p Po Rv=>?_) (fun st2 e m' g' h₂ tk x Po Fl=>?_) fun e=>?_
 ·rw [hf] at e
  cases e
  cases Rv with
  | ret Vr =>
   obtain rfl:=uu Vr
   refine hq h₂ tk fun b o e=>Po.step.keep b o (kk b o e) fun q=>?_
   have:=hbd b (.inl q)
   rw [this,nL] at e; exact nsO e
 ·rw [hf] at e; exact oeR e
 ·rw [hf] at e; exact obR e
theorem JT {T:TT} {φ:List uP0} {bd:uP0→Prop} {h:Heap}:∀ {vs:List Value} {xs:List Int},IntsAre vs xs→VsRel T φ bd h (xs.map V.int) vs
 | _,_,.nil=>.nil
 | _,_,.cons n t r=>.cons (.int n t) (JT r)
theorem xj0:GP zU0:=fun w os=>by
 unfold OQ
 rw [Fast.te4187177175401517315]
 kernel_rfl
theorem xi0:GP zT0:=fun w os=>by
 unfold OQ
 rw [Fast.te4187177175401517315]
 kernel_rfl
theorem Xk {a b:Frag→Bool} (ha:GP a) (hb:GP b):GP (fun K=>a K&&b K):=fun w os=>by
 obtain ⟨s,e,ea⟩:=kS0.mp (ha w os)
 obtain ⟨s',e',eb⟩:=kS0.mp (hb w os)
 rw [e] at e'
 cases e'
 rw [e]
 have ea:=Prod.mk.inj (Prod.mk.inj ea).2
 have eb:=Prod.mk.inj eb
 exact congrArg some (Prod.ext eb.1 (Prod.ext ea.1 (by show (_&&_)=true; rw [show a (uY s.abs.heap)=true from ea.2,show b (uY s.abs.heap)=true from (Prod.mk.inj eb.2).2]; rfl)))
theorem Qn {K:Frag} (h:(zU0 K&&zT0 K)=true):MU K T1 anN mnN fnTab clsTab methTab 77=true∧nsIn K uK0 "law" = some (some (.ref 922)):=by
 have A:=qA h
 have A2:=qv (qv (qv A))
 refine ⟨?_,be (qv A2)⟩
 have e:fnTab.zipIdx=(fnTab.take 40).zipIdx++(fnTab.drop 40).zipIdx 40:=rfl
 unfold MU
 rw [e,List.all_append,show (fnTab.take 40).zipIdx.all (fun x=>Dj K T1 anN mnN x.2 x.1)=true from qA A,show ((fnTab.drop 40).zipIdx 40).all (fun x=>Dj K T1 anN mnN x.2 x.1)=true from qv h,
  show clsTab.zipIdx.all (fun x=>kz K T1 anN mnN x.2 x.1)=true from qA (qv A),show methTab.all (fun x=>AZ K T1 mnN x.1 x.2.1 x.2.2)=true from qA (qv (qv A)),show AF K T1.stop 77=true from qA A2]
 rfl
theorem join:PySem.Challenge.rw_xm0501_01.Holds:=by
 refine Yg (Xk xj0 xi0) ?_
 intro w s₀ s₁ mg mb G Y fa o pm cd doc dV kV ho hdd hcd hD hmg hg args vals as hpre hlay hrd hwl hlo
 obtain ⟨K,KX,hchk⟩:=Y
 obtain ⟨hF,hlaw⟩:=Qn hchk
 clear ho hdd hcd hD
 refine Ground.open G ?_
 intro T B D TE TW
 clear G D TE TW B
 wrow_args hpre hlay hrd hwl hlo
 rename_i xs _ _ _ _ _ _ _ la vs _ hL _ _ _ hI _ hc _
 have hfa:fa=922:=by
  have e2:=mg_of KX T.g hlaw
  have e3:mg "law" = some (.ref fa):=hmg
  rw [e3] at e2
  cases e2; rfl
 subst hfa
 clear hmg
 obtain ⟨σ,hσ⟩:=OT xs (by exact kB0.mp (kD0.mp hc))
 have BO:BOk K s₁.heap:=⟨KX,⟨mg,T.g⟩,⟨mb,T.b,T.builtins⟩,T.nolimit,by obtain ⟨mm,⟨o,_,_,ho,_⟩,_⟩:=(T.seer (by kernel_rfl)).mods; exact ⟨o,ho⟩⟩
 have O:=qw0 (prog:=PySem.Challenge.rw_xm0501_01.row.prog) (w:=w) BO Kj hF 139
 obtain ⟨body,qual,scope,cdv,FO,hm⟩:=Aa (DB (qA hF) (i:=71) (a:=f_law) rfl)
 have hx:∃ st,exs prog (qk prog 139) (mkD prog 139) f_law.body ⟨[some (.val (.lst (xs.map V.int))),none,none,none,none,none],[]⟩=.ok (.ret (.bool true)) st:=by
  rw [qz (k:=f_law) (ρ:=[some (.val (.lst (xs.map V.int))),none,none,none,none,none]) rfl rfl] at hσ
  generalize exs prog (qk prog 139) (mkD prog 139) f_law.body ⟨[some (.val (.lst (xs.map V.int))),none,none,none,none,none],[]⟩=r at hσ ⊢
  cases r with
  | ok f st=>cases f with
   | ret v=>cases hσ; exact ⟨st,rfl⟩
   | next=>cases hσ
   | brk=>exact qO RC.ctorIdx hσ rfl
  | _=>exact qO RC.ctorIdx hσ rfl
 obtain ⟨st,hx⟩:=hx
 refine NY (T:=T1) (f:=71) (vs:=[.lst (xs.map V.int)]) (ps:=[.ref la]) BO FO rfl rfl (by decide +kernel) (fun C' L k' env' A' E'=>?_) (.cons (.lst hL (fun q=>?_) (JT hI)) .nil) rfl hx (fun h' tk kk=>?_)
 ·exact Oz O f_law.body scope (T1.sl 71) body C' ⟨by rw [env']; rfl,k',⟨k'.fr,k'.hd,by rw [A']; exact ⟨by show 1+claimMargin+1+3*139+10<recursionLimit; decide +kernel,by show 4+3+12*139+100<cLine; decide +kernel⟩⟩⟩ ⟨⟨[],by
   obtain ⟨envF,outer,L0,t1,t2,t3⟩:=k'.top
   exact ⟨L0,E',t3⟩⟩⟩ hm
 ·obtain ⟨o,ho,_⟩:=hL
  rw [ho] at q; exact snO q
 ·refine ⟨.inl ⟨.bool true,.bool true,[],rfl,fun _=>rfl,?_,?_,fun _=>⟨kd0,fun _ q=>by exact zv q⟩⟩,.of_keep kk,rfl,?_⟩
  ·exact .bool true
  ·kernel_rfl
  ·exact .of_eq hg
end Mine
open PySem PySem.W PyProof.Rows
theorem PySem.Challenge.cw_xm0501_01_holds : PySem.Challenge.rw_xm0501_01.Holds := by
  exact Mine.join
