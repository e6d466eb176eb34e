import PyProof.Rows.All
import Wide.All
import OpenK.AllK
import Wide.FinOn
import Lean
import PySem.Challenge.RW_rh0018_01
set_option Elab.async false
set_option linter.all false
set_option maxRecDepth 100000
set_option maxHeartbeats 0
set_option bootstrap.genMatcherCode false
set_option genSizeOf false
set_option genInjectivity false
namespace Mine.Internal
open PySem renaming Shared → UE, Around → UG, DictEntry → UH, SetTable → UI
abbrev Sv:=@PySem.wpAny_bind
abbrev Sw:=@PySem.wpAny_pure
abbrev Sx:=@congrArg
abbrev Sy:=@Nat.le_trans
abbrev Sz:=@if_neg
abbrev SD:=@Nat.le_of_eq
abbrev SE:=@Nat.le_refl
abbrev SF:=@of_decide_eq_true
abbrev SH:=@absurd
abbrev SI:=@if_pos
abbrev SJ:=@List.getElem?_eq_some_iff
abbrev SL:=@Bool.and_eq_true_iff
abbrev SM:=@decide_eq_true
abbrev SN:=@List.mem_cons
abbrev SO:=@List.mem_singleton
abbrev SP:=@List.length_append
abbrev SQ:=@Option.some.inj
abbrev SR:=@List.append_assoc
abbrev SU:=@List.length_map
abbrev SV:=@Nat.le_of_ble_eq_true
abbrev SW:=@PySem.Heap.get?_push_of_some
abbrev SY:=@List.mem_map
abbrev SZ:=@Nat.zero_le
abbrev S0:=@Nat.not_succ_le_zero
abbrev S6:=@PySem.wpAny_holding
abbrev S7:=@Nat.ne_of_lt
abbrev S8:=@List.getElem?_append_left
abbrev S9:=@List.mem_append
abbrev Ta:=@List.map_append
abbrev Tb:=@PySem.Heap.get?_push_size
abbrev Tc:=@Nat.lt_of_le_of_lt
abbrev Td:=@decide_eq_false
abbrev Te:=@List.mem_append_left
abbrev Tf:=@List.mem_of_getElem?
abbrev Tg:=@Bool.false_ne_true
abbrev Th:=@List.nodup_cons
abbrev Ti:=@List.append_nil
abbrev Tj:=@List.nodup_append
abbrev Tk:=@List.getElem?_set_ne
abbrev Tl:=@Classical.em
abbrev Tm:=@PySem.Heap.SameBut.update
abbrev Tp:=@Nat.add_le_add_left
abbrev Tq:=@List.mem_append_right
abbrev Tr:=@PySem.wpAny_ite_split
abbrev Ts:=@Array.getElem?_toList
abbrev Tt:=@PySem.Heap.lt_size
abbrev Tu:=@List.getElem?_eq_getElem
abbrev Tv:=@List.getElem?_map
abbrev Tw:=@PySem.Heap.get?_update_self
abbrev Tx:=@PySem.wpAny_mono
abbrev Ty:=@Nat.le_add_right
abbrev Tz:=@Nat.lt_of_lt_of_le
abbrev TA:=@PySem.wpAny_call_entry
abbrev TC:=@Nat.lt_succ_of_lt
abbrev TD:=@PySem.wpAny_rule
abbrev TF:=@List.map_congr_left
abbrev TG:=@List.map_map
abbrev TH:=@Nat.le_antisymm
abbrev TJ:=@List.getElem?_append_right
abbrev TK:=@List.mem_filter
abbrev TL:=@Array.getElem?_eq_getElem
abbrev TM:=@Nat.le_of_lt
abbrev TN:=@PySem.Heap.get?_none_of_le
abbrev TP:=@Int.ofNat_le
abbrev TQ:=@List.getElem?_set_self
abbrev TR:=@PySem.wpAny_newObj_type
abbrev TS:=@Nat.le_succ
abbrev TT:=@PySem.wpAny_setField
abbrev TU:=@Nat.lt_trans
abbrev TV:=@Nat.lt_succ_of_le
abbrev TX:=@Bool.or_eq_true_iff
abbrev TY:=@PySem.wpAny_setState_of
abbrev TZ:=@Nat.zero_add
abbrev T0:=@Nat.ne_of_gt
abbrev T1:=@Nat.succ_le_succ
abbrev T3:=@PySem.wpAny_dictEpoch
abbrev T4:=@PySem.wpAny_dictEntries
abbrev T5:=@List.mem_iff_getElem?
abbrev T6:=@List.not_mem_nil
abbrev T7:=@List.nodup_nil
abbrev T8:=@Nat.lt_succ_self
abbrev T9:=@Nat.add_le_add
abbrev Ua:=@Nat.lt_or_gt_of_ne
abbrev Ub:=@Nat.eq_of_beq_eq_true
abbrev Uc:=@List.forIn_cons
abbrev Ud:=@PySem.wpAny_seqItems
abbrev Ue:=@PySem.Heap.size_push
abbrev Uf:=@Array.length_toList
abbrev Ug:=@Nat.lt_add_right
abbrev Uh:=@Nat.min_le_left
abbrev Ui:=@Nat.lt_irrefl
abbrev Uj:=@Option.map_eq_some_iff
abbrev Uk:=@List.mem_map_of_mem
abbrev Ul:=@List.length_set
abbrev Um:=@Array.toList_push
abbrev Un:=@List.all_eq_true
abbrev Uo:=@Nat.not_lt_of_le
abbrev Uq:=@Int.natCast_nonneg
abbrev Ur:=@Nat.sub_add_cancel
abbrev Ut:=@List.filter_sublist
abbrev Uu:=@PySem.wpAny_notOrdered_dict
abbrev Uv:=@Array.getElem?_eq_none
abbrev Uw:=@List.length_range
abbrev Ux:=@Nat.add_sub_cancel_left
abbrev Uy:=@Array.getElem?_eq_some_iff
abbrev Uz:=@PySem.Heap.get?_update_other
abbrev UA:=@List.getElem?_concat_length
abbrev UB:=@List.getD_eq_getElem?_getD
abbrev UC:=@List.eq_nil_of_length_eq_zero
abbrev UD:=@List.drop_eq_getElem_cons
section
set_option genCtorIdx false in
inductive oF | k (n:Nat) | v (i:Nat) | s (x y:oF) | m (n:Nat) (x:oF)
namespace Li
open oF
noncomputable def ti:List Nat->Nat->Nat
 | [],_=>0
 | x::_,0=>x
 | _::r,i+1=>ti r i
noncomputable def d(c:List Nat):oF->Nat
 | k n=>n
 | v i=>ti c i
 | s x y=>d c x+d c y
 | m n x=>n*d c x
noncomputable def pl:List Nat->List Nat->List Nat
 | [],l=>l
 | l,[]=>l
 | x::r,y::t=>(x+y)::pl r t
noncomputable def un:Nat->List Nat
 | 0=>[1]
 | i+1=>0::un i
noncomputable def p:oF->Nat×List Nat
 | k n=>(n,[])
 | v i=>(0,un i)
 | s x y=>((p x).1+(p y).1,pl (p x).2 (p y).2)
 | m n x=>(n*(p x).1,(p x).2.map (n*·))
noncomputable def gH:List Nat->List Nat->Nat
 | x::r,y::t=>x*y+gH r t
 | _,_=>0
noncomputable def ge:List Nat->List Nat->Bool
 | [],l=>l.all (·==0)
 | _,[]=>true
 | x::r,y::t=>Nat.ble y x&&ge r t
theorem gG:∀ c,gH c []=0
 | []=>rfl
 | _::_=>rfl
theorem oa:∀(c a b:List Nat),gH c (pl a b)=gH c a+gH c b
 | [],a,b=>by cases a<;>cases b<;>rfl
 | x::c,[],b=>by rw[pl,gG,TZ]
 | x::c,a::r,[]=>by rw[pl,gG];rfl;exact fun h=>nomatch h
 | x::c,a::r,b::t=>by
  show x*(a+b)+gH c (pl r t)=x*a+gH c r+(x*b+gH c t);rw[oa c r t,Nat.mul_add,Nat.add_assoc,Nat.add_assoc,Nat.add_left_comm (x*b)]
theorem zD:∀(c:List Nat) (i:Nat),gH c (un i)=ti c i
 | [],i=>by cases i<;>rfl
 | x::c,0=>by show x*1+gH c []=x;rw[gG,Nat.mul_one];rfl
 | x::c,i+1=>by show x*0+gH c (un i)=_;rw[zD c i,Nat.mul_zero,TZ];rfl
theorem uC(n:Nat):∀(c l:List Nat),gH c (l.map (n*·))=n*gH c l
 | [],l=>by cases l<;>rfl
 | x::c,[]=>rfl
 | x::c,y::t=>by
  show x*(n*y)+gH c (t.map (n*·))=n*(x*y+gH c t);rw[uC n c t,Nat.mul_add,Nat.mul_left_comm]
theorem FU(c:List Nat):∀ e:oF,d c e=(p e).1+gH c (p e).2
 | .k n=>by show n=n+gH c [];rw[gG];rfl
 | .v i=>by show ti c i=0+gH c (un i);rw[zD,TZ]
 | .s x y=>by
  show d c x+d c y=(p x).1+(p y).1+gH c (pl (p x).2 (p y).2);rw[FU c x,FU c y,oa,Nat.add_assoc,Nat.add_assoc,Nat.add_left_comm (gH c (p x).2)]
 | .m n x=>by
  show n*d c x=n*(p x).1+gH c ((p x).2.map (n*·));rw[FU c x,uC,Nat.mul_add]
theorem qA:∀(c l:List Nat),l.all (·==0)=true->gH c l=0
 | [],l,_=>by cases l<;>rfl
 | x::c,[],_=>rfl
 | x::c,y::t,h=>by
  have h:=(Bool.and_eq_true _ _).mp (h:(y==0&&t.all (·==0))=true);show x*y+gH c t=0;rw[qA c t h.2,eq_of_beq h.1];rfl
theorem zE:∀(c a b:List Nat),ge a b=true->gH c b<=gH c a
 | c,[],b,h=>by rw[qA c b h];exact SZ _
 | c,a::r,[],_=>by rw[gG];exact SZ _
 | [],a::r,b::t,_=>SE _
 | x::c,a::r,b::t,h=>by
  have h:=(Bool.and_eq_true _ _).mp (h:(Nat.ble b a&&ge r t)=true);exact T9 (Nat.mul_le_mul_left _ (SV h.1)) (zE c r t h.2)
noncomputable abbrev Q:=Nat×oF×oF
noncomputable def ty(c:List Nat)(g:Prop):List Q->Prop
 | []=>g
 | (_,x,y)::r=>d c x<=d c y->ty c g r
noncomputable def oY:oF×oF->List Q->oF×oF
 | x,[]=>x
 | (x,z),(n,y,w)::r=>oY (s x (m n y),s z (m n w)) r
theorem go(c:List Nat){G:Prop}:∀(l:List Q) (x:oF×oF),(d c (oY x l).1<=d c (oY x l).2->G)->d c x.1<=d c x.2->ty c G l
 | [],_,h,e=>h e
 | (n,_,_)::r,_,h,e=>fun q=>go c r _ h (T9 e (Nat.mul_le_mul_left n q))
noncomputable def ok(x y:oF)(a:oF×oF):Bool:=Nat.ble ((p a.2).1+(p x).1) ((p a.1).1+(p y).1)&&ge (pl (p a.1).2 (p y).2) (pl (p a.2).2 (p x).2)
end Li
section
open Li oF
theorem lE(c:List Nat)(x y:oF)(l:List Q)(h:ok x y (oY (k 0,k 0) l)=true):ty c (d c x<=d c y) l:=by
 refine go c l (k 0,k 0) (fun e=>?_) (SE _);have h1:=(Bool.and_eq_true _ _).mp h;have a2:=zE c _ _ h1.2;rw[oa,oa] at a2;rw[FU c (oY _ _).1,FU c (oY _ _).2] at e;rw[FU c x,FU c y];have a1:=T9 e (T9 (SV h1.1) a2);generalize gH c (p x).2=X,gH c (p y).2=YY,gH c (p (oY (k 0,k 0) l).1).2=UU,gH c (p (oY (k 0,k 0) l).2).2=V at a1 ⊢;omega
namespace Li
noncomputable abbrev A:=v 0
noncomputable abbrev B:=v 1
noncomputable abbrev C:=v 2
noncomputable abbrev D:=v 3
noncomputable abbrev E:=v 4
noncomputable abbrev F:=v 5
noncomputable abbrev G:=v 6
end Li
theorem u0{a b c:Nat}(h0:a+(c+1)<b):a<b:=lE [a,b,c] (s A (k 1)) B [(1,s (s A (s C (k 1))) (k 1),B)] rfl h0
theorem u1{a b c:Nat}(h0:a+(b+1)<c):a+1+b<c:=lE [a,b,c] (s (s (s A (k 1)) B) (k 1)) C [(1,s (s A (s B (k 1))) (k 1),C)] rfl h0
theorem u2{a b c:Nat}(h0:a+3*b+10<c):a+3*b+8<c:=lE [a,b,c] (s (s (s A (m 3 B)) (k 8)) (k 1)) C [(1,s (s (s A (m 3 B)) (k 10)) (k 1),C)] rfl h0
theorem u3{a b c:Nat}(h0:a+20*b+100<c):a+20*b+90<c:=lE [a,b,c] (s (s (s A (m 20 B)) (k 90)) (k 1)) C [(1,s (s (s A (m 20 B)) (k 100)) (k 1),C)] rfl h0
theorem u4{a b c:Nat}(h0:a+3*b+10<c):a+1+3*b+8<c:=lE [a,b,c] (s (s (s (s A (k 1)) (m 3 B)) (k 8)) (k 1)) C [(1,s (s (s A (m 3 B)) (k 10)) (k 1),C)] rfl h0
theorem u5{a b c:Nat}(h0:a+20*b+100<c):a+1+20*b+90<c:=lE [a,b,c] (s (s (s (s A (k 1)) (m 20 B)) (k 90)) (k 1)) C [(1,s (s (s A (m 20 B)) (k 100)) (k 1),C)] rfl h0
theorem u6{a b c:Nat}(h0:a+3*(b+1)+8<c):a+1+3*b+10<c:=lE [a,b,c] (s (s (s (s A (k 1)) (m 3 B)) (k 10)) (k 1)) C [(1,s (s (s A (m 3 (s B (k 1)))) (k 8)) (k 1),C)] rfl h0
theorem u7{a b c:Nat}(h0:a+20*(b+1)+90<c):a+3+20*b+100<c:=lE [a,b,c] (s (s (s (s A (k 3)) (m 20 B)) (k 100)) (k 1)) C [(1,s (s (s A (m 20 (s B (k 1)))) (k 90)) (k 1),C)] rfl h0
theorem u8{a b:Nat}(h0:a+20<b):a+1+6<b:=lE [a,b] (s (s (s A (k 1)) (k 6)) (k 1)) B [(1,s (s A (k 20)) (k 1),B)] rfl h0
theorem u9{a b:Nat}:a+(b+1)=a+1+b:=TH (lE [a,b] (s A (s B (k 1))) (s (s A (k 1)) B) [] rfl) (lE [a,b] (s (s A (k 1)) B) (s A (s B (k 1))) [] rfl)
theorem Qe{a b:Nat}(h0:a+90<b):a+1+1+6<b:=lE [a,b] (s (s (s (s A (k 1)) (k 1)) (k 6)) (k 1)) B [(1,s (s A (k 90)) (k 1),B)] rfl h0
theorem OE{a b:Nat}(h0:a+12<b):a+1+6<b:=lE [a,b] (s (s (s A (k 1)) (k 6)) (k 1)) B [(1,s (s A (k 12)) (k 1),B)] rfl h0
theorem Qd{a b:Nat}(h0:a+(b+1)<=16):a+1<=16:=lE [a,b] (s A (k 1)) (k 16) [(1,s A (s B (k 1)),k 16)] rfl h0
theorem Qc{a b c:Nat}(h0:a<=c+1)(h1:c+(b+1)<=16):a+b<=16:=lE [a,b,c] (s A B) (k 16) [(1,A,s C (k 1)),(1,s C (s B (k 1)),k 16)] rfl h0 h1
theorem Qb{a b:Nat}(h0:a+90<b):a+1+12<b:=lE [a,b] (s (s (s A (k 1)) (k 12)) (k 1)) B [(1,s (s A (k 90)) (k 1),B)] rfl h0
theorem Qa{a:Nat}(h0:a<=8):0+a<=16:=lE [a] (s (k 0) A) (k 16) [(1,A,k 8)] rfl h0
theorem P9{a b c d:Nat}(h0:c<d)(h1:c=a/\d=b):a<b:=lE [a,b,c,d] (s A (k 1)) B [(1,s C (k 1),D),(1,A,C),(1,D,B)] rfl h0 (SD h1.1.symm) (SD h1.2)
theorem P8{a b c d:Nat}(h0:c≠d)(h1:¬d<c)(h2:c=a/\d=b):a<b:=(Ua h0).elim (fun q0=>lE [a,b,c,d] (s A (k 1)) B [(1,A,C),(1,D,B),(1,s C (k 1),D)] rfl (SD h2.1.symm) (SD h2.2) q0) fun q0=>lE [a,b,c,d] (s A (k 1)) B [(2,C,D),(1,A,C),(1,D,B),(1,s D (k 1),C)] rfl (Nat.le_of_not_lt h1) (SD h2.1.symm) (SD h2.2) q0
theorem P7{a:Nat}:7<=4*(a+1)+4:=lE [a] (k 7) (s (m 4 (s A (k 1))) (k 4)) [] rfl
theorem P6{a b:Nat}(h0:0=a/\1=b):a<b:=lE [a,b] (s A (k 1)) B [(1,A,k 0),(1,k 1,B)] rfl (SD h0.1.symm) (SD h0.2)
theorem OD{a b:Nat}(h0:b<=1)(h1:a=b):a<=1:=lE [a,b] A (k 1) [(1,B,k 1),(1,A,B)] rfl h0 (SD h1)
theorem P5{a:Nat}(h0:a<=1):a+(0+1)<=2:=lE [a] (s A (s (k 0) (k 1))) (k 2) [(1,A,k 1)] rfl h0
theorem P4{a:Nat}:¬a+2<=0:=fun e=>S0 0 (lE [a] (k 1) (k 0) [(1,s A (k 2),k 0)] rfl e)
theorem P3{a b:Nat}(h0:a+1+2<=b+1):a+2<=b:=lE [a,b] (s A (k 2)) B [(1,s (s A (k 1)) (k 2),s B (k 1))] rfl h0
theorem P2{a:Nat}(h0:a<=1):a+1<=7:=lE [a] (s A (k 1)) (k 7) [(1,A,k 1)] rfl h0
theorem P1{a:Nat}(h0:a<=1):a+1<=16777216:=lE [a] (s A (k 1)) (k 16777216) [(1,A,k 1)] rfl h0
theorem P0{a:Nat}(h0:a=7):7<=a:=lE [a] (k 7) A [(1,k 7,A)] rfl (SD h0.symm)
theorem OC{a:Nat}(h0:a<=1):a+1<=2:=lE [a] (s A (k 1)) (k 2) [(1,A,k 1)] rfl h0
theorem PZ{a b:Nat}(h0:a+90<b):a+1+1+1+10<b:=lE [a,b] (s (s (s (s (s A (k 1)) (k 1)) (k 1)) (k 10)) (k 1)) B [(1,s (s A (k 90)) (k 1),B)] rfl h0
theorem PY{a b:Nat}(h0:b<a):¬a<b+1:=fun e=>S0 0 (lE [b,a] (k 1) (k 0) [(1,s A (k 1),B),(1,s B (k 1),s A (k 1))] rfl h0 e)
theorem PX{a b:Nat}(h0:¬b<a):a<=b:=lE [a,b] A B [(1,A,B)] rfl (Nat.le_of_not_lt h0)
theorem PW{a:Nat}(h0:a<2):a<=2:=lE [a] A (k 2) [(1,s A (k 1),k 2)] rfl h0
theorem PV{a:Nat}(h0:a<=2):a<=16777216+1:=lE [a] A (s (k 16777216) (k 1)) [(1,A,k 2)] rfl h0
theorem PU{a b:Nat}(h0:a+20<b):a+1+1+12<b:=lE [a,b] (s (s (s (s A (k 1)) (k 1)) (k 12)) (k 1)) B [(1,s (s A (k 20)) (k 1),B)] rfl h0
theorem PT{a b:Nat}:a+1+b=a+(b+1):=TH (lE [a,b] (s (s A (k 1)) B) (s A (s B (k 1))) [] rfl) (lE [a,b] (s A (s B (k 1))) (s (s A (k 1)) B) [] rfl)
theorem PS{a:Nat}(h0:¬a=1):¬1=a:=(Ua h0).elim (fun q0=>fun e=>S0 0 (lE [a] (k 1) (k 0) [(1,s A (k 1),k 1),(1,k 1,A)] rfl q0 (SD e))) fun q0=>fun e=>S0 0 (lE [a] (k 1) (k 0) [(1,s (k 1) (k 1),A),(1,A,k 1)] rfl q0 (SD e.symm))
theorem PR{a:Nat}(h0:a<31):a+1<=64:=lE [a] (s A (k 1)) (k 64) [(1,s A (k 1),k 31)] rfl h0
theorem oQ{a b c d:Nat}(h:c<=6)(hu:a+12<d):a+1+min b c<d:=Tc (Tp (Sy (Nat.min_le_right b c) h) _) (Tc (SD (Nat.add_assoc a 1 6)) (Tc (Tp (by decide) a) hu))
theorem KT{a b c d:Nat}(h:b<=6)(hu:a+20<d):a+1+min b c<d:=Nat.min_comm b c▸oQ h (Tc (Tp (by decide) a) hu)
theorem o0{a:Nat}:a<=a+1:=lE [a] A (s A (k 1)) [] rfl
theorem o1{a:Nat}:a<=a+2:=lE [a] A (s A (k 2)) [] rfl
theorem o2{a:Nat}:a<=a+3:=lE [a] A (s A (k 3)) [] rfl
theorem o3{a:Nat}(h0:a<=50000):(a:Int)<=50000:=TP.mpr h0
theorem o4{a:Nat}:¬a<0:=fun e=>S0 0 (lE [a] (k 1) (k 0) [(1,s A (k 1),k 0)] rfl e)
theorem o5{a b c:Nat}(h0:c<b+1)(h1:a<=c)(h2:¬a=c):a<b:=(Ua h2).elim (fun q0=>lE [a,b,c] (s A (k 1)) B [(1,s C (k 1),s B (k 1)),(1,s A (k 1),C)] rfl h0 q0) fun q0=>lE [a,b,c] (s A (k 1)) B [(1,s C (k 1),s B (k 1)),(2,A,C),(1,s C (k 1),A)] rfl h0 h1 q0
theorem o6{a b:Nat}(h0:(a:Int)=(b:Int)):a=b:=Int.ofNat.inj h0
theorem o7{a b:Nat}(h0:a<b)(h1:b<=100):a<4000:=lE [a,b] (s A (k 1)) (k 4000) [(1,s A (k 1),B),(1,B,k 100)] rfl h0 h1
theorem o8{a b:Nat}:(a:Int)=(b:Int)↔a=b:=Int.ofNat_inj
theorem RH{a b:Nat}(h0:b<=20)(h1:a=b):a<=100:=lE [a,b] A (k 100) [(1,B,k 20),(1,A,B)] rfl h0 (SD h1)
theorem RG{a b c:Nat}:a+b+c=b+(a+c):=TH (lE [a,b,c] (s (s A B) C) (s B (s A C)) [] rfl) (lE [b,a,c] (s A (s B C)) (s (s B A) C) [] rfl)
theorem RE{a:Nat}:1+a=a+1:=TH (lE [a] (s (k 1) A) (s A (k 1)) [] rfl) (lE [a] (s A (k 1)) (s (k 1) A) [] rfl)
theorem RD{a b:Nat}(h0:b=1+a):a+1=b:=TH (lE [a,b] (s A (k 1)) B [(1,s (k 1) A,B)] rfl (SD h0.symm)) (lE [b,a] A (s B (k 1)) [(1,A,s (k 1) B)] rfl (SD h0))
theorem RC{a b c:Nat}(h0:c<b)(h1:c=b):a=b:=(S0 0 (lE [c,b] (k 1) (k 0) [(1,s A (k 1),B),(1,B,A)] rfl h0 (SD h1.symm))).elim
theorem MO{a b c:Nat}(h0:a=c)(h1:c<b):¬a=b:=fun e=>S0 0 (lE [a,c,b] (k 1) (k 0) [(1,A,B),(1,s B (k 1),C),(1,C,A)] rfl (SD h0) h1 (SD e.symm))
theorem RB{a b:Nat}(h0:¬b=a):a≠b:=(Ua h0).elim (fun q0=>fun e=>S0 0 (lE [b,a] (k 1) (k 0) [(1,s A (k 1),B),(1,B,A)] rfl q0 (SD e))) fun q0=>fun e=>S0 0 (lE [a,b] (k 1) (k 0) [(1,s A (k 1),B),(1,B,A)] rfl q0 (SD e.symm))
theorem Ph{a b c d:Nat}(h0:a<c)(h1:d=c)(h2:d<=b):a<=b:=lE [a,b,c,d] A B [(1,s A (k 1),C),(1,C,D),(1,D,B)] rfl h0 (SD h1.symm) h2
theorem Pg{a b c:Nat}(h0:b<c)(h1:c<=a):¬a=b:=fun e=>S0 0 (lE [b,c,a] (k 1) (k 0) [(1,s A (k 1),B),(1,B,C),(1,C,A)] rfl h0 h1 (SD e))
theorem RA{a b c d:Nat}(h0:b=a+c)(h1:b<=2*d)(h2:d<=20):a<=40:=lE [a,c,b,d] A (k 40) [(1,s A B,C),(1,C,m 2 D),(2,D,k 20)] rfl (SD h0.symm) h1 h2
theorem Rz{a b c d:Nat}(h0:b=a+c)(h1:b<=d)(h2:d<=20):a<=20:=lE [a,c,b,d] A (k 20) [(1,s A B,C),(1,C,D),(1,D,k 20)] rfl (SD h0.symm) h1 h2
theorem Ry{a b:Nat}(h0:b≠a):a≠b:=(Ua h0).elim (fun q0=>fun e=>S0 0 (lE [b,a] (k 1) (k 0) [(1,s A (k 1),B),(1,B,A)] rfl q0 (SD e))) fun q0=>fun e=>S0 0 (lE [a,b] (k 1) (k 0) [(1,s A (k 1),B),(1,B,A)] rfl q0 (SD e.symm))
theorem Rx{a:Nat}:a<=a+2+1:=lE [a] A (s (s A (k 2)) (k 1)) [] rfl
theorem Rw{a b:Nat}(h0:a<b)(h1:a=b):False:=S0 0 (lE [a,b] (k 1) (k 0) [(1,s A (k 1),B),(1,B,A)] rfl h0 (SD h1.symm))
theorem Rv{a b:Nat}(h0:b<a):a+2≠b:=fun e=>S0 0 (lE [b,a] (k 1) (k 0) [(1,s A (k 1),B),(1,s B (k 2),A)] rfl h0 (SD e))
theorem Ru{a b:Nat}(h0:a<b):a≠b+2:=fun e=>S0 0 (lE [a,b] (k 1) (k 0) [(1,s A (k 1),B),(1,s B (k 2),A)] rfl h0 (SD e.symm))
theorem Rt{a b:Nat}(h0:a=b+2)(h1:a<b):False:=S0 0 (lE [b,a] (k 1) (k 0) [(1,s A (k 2),B),(1,s B (k 1),A)] rfl (SD h0.symm) h1)
theorem Rr{a b c d e f g:Nat}(h0:e+1=g)(h1:d<=40)(h2:a+b+c+41*g<=43*f):a+b+(c+d)+41*e<=43*f:=lE [a,b,c,d,e,f,g] (s (s (s A B) (s C D)) (m 41 E)) (m 43 F) [(41,s E (k 1),G),(1,D,k 40),(1,s (s (s A B) C) (m 41 G),m 43 F)] rfl (SD h0) h1 h2
theorem Rq{a b c d e:Nat}(h0:b+1=e)(h1:a+e<=c+d):a+1+b<=c+d:=lE [a,b,c,d,e] (s (s A (k 1)) B) (s C D) [(1,s B (k 1),E),(1,s A E,s C D)] rfl (SD h0) h1
theorem Rp{a b c d:Nat}(h0:a+b<=c+d):a+1+b<=c+(d+1):=lE [a,b,c,d] (s (s A (k 1)) B) (s C (s D (k 1))) [(1,s A B,s C D)] rfl h0
theorem Ro{a b c d:Nat}(h0:a+b<=c+d)(h1:d<=200)(h2:c<=20):a<=220:=lE [a,b,c,d] A (k 220) [(1,s A B,s C D),(1,D,k 200),(1,C,k 20)] rfl h0 h1 h2
theorem Pf{a:Nat}(h0:a<=220):a+1<=100000:=lE [a] (s A (k 1)) (k 100000) [(1,A,k 220)] rfl h0
theorem Rn{a b:Nat}(h0:a<=20)(h1:b<=20):a+b<=100000:=lE [a,b] (s A B) (k 100000) [(1,A,k 20),(1,B,k 20)] rfl h0 h1
theorem Pe{a b:Nat}(h0:b<=220)(h1:a<=b):a+1<=100000:=lE [a,b] (s A (k 1)) (k 100000) [(1,B,k 220),(1,A,B)] rfl h0 h1
theorem Rm{a b c d e:Nat}(h0:b+c+a+41*d<=43*e)(h1:e<=20):a<=860:=lE [a,b,c,d,e] A (k 860) [(1,s (s (s B C) A) (m 41 D),m 43 E),(43,E,k 20)] rfl h0 h1
theorem Rl{a b:Nat}(h0:b<=40)(h1:a<=860):a+b<=100000:=lE [a,b] (s A B) (k 100000) [(1,B,k 40),(1,A,k 860)] rfl h0 h1
theorem Rj{a b:Nat}(h0:b<=40)(h1:a<=40):a+b<=100000:=lE [a,b] (s A B) (k 100000) [(1,B,k 40),(1,A,k 40)] rfl h0 h1
theorem Ri{a b c d e f:Nat}(h0:a+1=b)(h1:c+d+e+41*b<=43*f)(h2:f<=20):a<=100000:=lE [a,b,c,d,e,f] A (k 100000) [(1,s A (k 1),B),(1,s (s (s C D) E) (m 41 B),m 43 F),(43,F,k 20)] rfl (SD h0) h1 h2
theorem Rh{a:Nat}:17≠a+19:=fun e=>S0 0 (lE [a] (k 1) (k 0) [(1,s A (k 19),k 17)] rfl (SD e.symm))
theorem Rg{a b c d:Nat}(h0:c+1=d)(h1:b<=40):a+b+41*c<=a+41*d:=lE [a,b,c,d] (s (s A B) (m 41 C)) (s A (m 41 D)) [(41,s C (k 1),D),(1,B,k 40)] rfl (SD h0) h1
theorem Rf{a b c d e:Nat}(h0:a+b+c+41*d<=43*e)(h1:e<=20):a+1<=100000:=lE [a,b,c,d,e] (s A (k 1)) (k 100000) [(1,s (s (s A B) C) (m 41 D),m 43 E),(43,E,k 20)] rfl h0 h1
theorem Pd{a b c d e:Nat}(h0:a+e+b+41*c<=43*d):a+0+b+41*c<=43*d:=lE [a,b,c,d,e] (s (s (s A (k 0)) B) (m 41 C)) (m 43 D) [(1,s (s (s A E) B) (m 41 C),m 43 D)] rfl h0
theorem Re{a b:Nat}:¬a+41*b<0:=fun e=>S0 0 (lE [a,b] (k 1) (k 0) [(1,s (s A (m 41 B)) (k 1),k 0)] rfl e)
theorem Rd{a b c d:Nat}(h0:a+(b+1)+41*c<=43*d):a+1+b+41*c<=43*d:=lE [a,b,c,d] (s (s (s A (k 1)) B) (m 41 C)) (m 43 D) [(1,s (s A (s B (k 1))) (m 41 C),m 43 D)] rfl h0
theorem Rc{a b c d e f:Nat}(h0:d+41*e<c+1)(h1:a+41*b<=f+41*e)(h2:d=f+1):a+41*b<c:=lE [a,b,c,d,e,f] (s (s A (m 41 B)) (k 1)) C [(1,s (s D (m 41 E)) (k 1),s C (k 1)),(1,s A (m 41 B),s F (m 41 E)),(1,s F (k 1),D)] rfl h0 h1 (SD h2.symm)
theorem Rb{a b c d e:Nat}(h0:c+d+a+41*b<=43*e)(h1:e<=20):a+41*b<4000:=lE [a,b,c,d,e] (s (s A (m 41 B)) (k 1)) (k 4000) [(1,s (s (s C D) A) (m 41 B),m 43 E),(43,E,k 20)] rfl h0 h1
theorem Pc{a:Nat}(h0:1<=a/\a<=6):a≠9:=fun e=>S0 0 (lE [a] (k 1) (k 0) [(1,A,k 6),(1,k 9,A)] rfl h0.2 (SD e.symm))
theorem Ra{a b:Nat}:a<=a+b:=lE [a,b] A (s A B) [] rfl
theorem Q9{a b:Nat}:a+b-a=b:=Ux ..
theorem Lx{a b:Nat}(h0:a+(b+1)<=1000):a+1<=100000:=lE [a,b] (s A (k 1)) (k 100000) [(1,s A (s B (k 1)),k 1000)] rfl h0
theorem Q8{a b:Nat}(h0:a+(b+1)<=1000):a+1+b<=1000:=lE [a,b] (s (s A (k 1)) B) (k 1000) [(1,s A (s B (k 1)),k 1000)] rfl h0
theorem Q7{a b:Nat}(h0:a+(b+1)<=1000):a+b<=1000:=lE [a,b] (s A B) (k 1000) [(1,s A (s B (k 1)),k 1000)] rfl h0
theorem Q6{a b c d:Nat}:a+b+(c+d)=a+c+(b+d):=TH (lE [a,b,c,d] (s (s A B) (s C D)) (s (s A C) (s B D)) [] rfl) (lE [a,c,b,d] (s (s A B) (s C D)) (s (s A C) (s B D)) [] rfl)
theorem Q5{a b c d:Nat}(h0:c<=1)(h1:d<=b)(h2:a<=c+d):a<=b+1:=lE [a,b,c,d] A (s B (k 1)) [(1,C,k 1),(1,D,B),(1,A,s C D)] rfl h0 h1 h2
theorem Pb{a b:Nat}(h0:a>=b)(h1:a-b=0):a=b:=TH (Nat.le_of_sub_eq_zero h1) h0
theorem Q4{a:Nat}(h0:a+1<=20):a<=19:=lE [a] A (k 19) [(1,s A (k 1),k 20)] rfl h0
theorem Pa{a b:Nat}(h0:a>=b)(h1:a<b+1):a=b:=TH (lE [a,b] A B [(1,s A (k 1),s B (k 1))] rfl h1) (lE [b,a] A B [(1,A,B)] rfl h0)
theorem Q3{a b c:Nat}(h0:a<c)(h1:c=b):¬a=b:=fun e=>S0 0 (lE [a,c,b] (k 1) (k 0) [(1,s A (k 1),B),(1,B,C),(1,C,A)] rfl h0 (SD h1) (SD e.symm))
theorem Q2{a b c:Nat}(h0:a>=c)(h1:a-c=0)(h2:c=b):a=b:=(Pb h0 h1).trans h2
theorem O9{a b:Nat}(h0:a=b)(h1:a<b):False:=S0 0 (lE [b,a] (k 1) (k 0) [(1,A,B),(1,s B (k 1),A)] rfl (SD h0.symm) h1)
theorem Q1{a b c:Nat}(h0:a<b/\c=a):a<b+1:=lE [a,b] (s A (k 1)) (s B (k 1)) [(1,s A (k 1),B)] rfl h0.1
theorem Q0{a b:Nat}(h0:a<b+1)(h1:a>=b):a=b:=TH (lE [a,b] A B [(1,s A (k 1),s B (k 1))] rfl h0) (lE [b,a] A B [(1,A,B)] rfl h1)
theorem O8{a b c d:Nat}(h0:a<=b)(h1:c=d)(h2:d=b)(h3:c<a):False:=S0 0 (lE [a,b,d,c] (k 1) (k 0) [(1,A,B),(1,C,D),(1,B,C),(1,s D (k 1),A)] rfl h0 (SD h1.symm) (SD h2.symm) h3)
theorem Lw{a b c:Nat}(h0:a<=b)(h1:c=b)(h2:c<a):False:=S0 0 (lE [a,b,c] (k 1) (k 0) [(1,A,B),(1,B,C),(1,s C (k 1),A)] rfl h0 (SD h1.symm) h2)
theorem QZ{a b c:Nat}(h0:a≠b)(h1:c=a)(h2:c=b):False:=(Ua h0).elim (fun q0=>S0 0 (lE [c,a,b] (k 1) (k 0) [(1,A,B),(1,C,A),(1,s B (k 1),C)] rfl (SD h1) (SD h2.symm) q0)) fun q0=>S0 0 (lE [a,c,b] (k 1) (k 0) [(1,A,B),(1,B,C),(1,s C (k 1),A)] rfl (SD h1.symm) (SD h2) q0)
theorem QY{a b c d:Nat}(h0:c<b)(h1:d<c)(h2:a<=d):a≠b:=fun e=>S0 0 (lE [c,b,d,a] (k 1) (k 0) [(1,s A (k 1),B),(1,s C (k 1),A),(1,D,C),(1,B,D)] rfl h0 h1 h2 (SD e.symm))
theorem QX{a b:Nat}(h0:a=b):a<b+1:=lE [a,b] (s A (k 1)) (s B (k 1)) [(1,A,B)] rfl (SD h0)
theorem QW{a b c d e:Nat}(h0:c<=2*b)(h1:d<=e)(h2:e<=2)(h3:a<=c+d):a<=2*(b+1):=lE [a,b,c,d,e] A (m 2 (s B (k 1))) [(1,C,m 2 B),(1,D,E),(1,E,k 2),(1,A,s C D)] rfl h0 h1 h2 h3
theorem QV{a b c d:Nat}(h0:a+b+41*c<=43*d):a+1+b+41*(c+1)<=43*(d+1):=lE [a,b,c,d] (s (s (s A (k 1)) B) (m 41 (s C (k 1)))) (m 43 (s D (k 1))) [(1,s (s A B) (m 41 C),m 43 D)] rfl h0
theorem QU{a b c d:Nat}(h0:a+b<=c+d):a+(b+1)<=c+1+d:=lE [a,b,c,d] (s A (s B (k 1))) (s (s C (k 1)) D) [(1,s A B,s C D)] rfl h0
theorem O7{a:Nat}(h0:a<=100):a+1<=100000:=lE [a] (s A (k 1)) (k 100000) [(1,A,k 100)] rfl h0
theorem QT{a b c d e:Nat}(h0:b+1<=20)(h1:c+d+e+41*a<=43*b):a+1<=100000:=lE [a,b,c,d,e] (s A (k 1)) (k 100000) [(43,s B (k 1),k 20),(1,s (s (s C D) E) (m 41 A),m 43 B)] rfl h0 h1
theorem QS{a b:Nat}(h0:b+1<=20)(h1:a=b):a<=99:=lE [a,b] A (k 99) [(1,s B (k 1),k 20),(1,A,B)] rfl h0 (SD h1)
theorem QR{a:Nat}(h0:a+1<=20):a<=100:=lE [a] A (k 100) [(1,s A (k 1),k 20)] rfl h0
theorem QQ{a b c:Nat}(h0:a<c)(h1:b=c):a<b+1:=lE [a,b,c] (s A (k 1)) (s B (k 1)) [(1,s A (k 1),C),(1,C,B)] rfl h0 (SD h1.symm)
theorem QP{a b:Nat}:a+(b+2)=a+b+2:=TH (lE [a,b] (s A (s B (k 2))) (s (s A B) (k 2)) [] rfl) (lE [a,b] (s (s A B) (k 2)) (s A (s B (k 2))) [] rfl)
theorem QO{a b c:Nat}(h0:a<b):a<b+(c+2):=lE [a,b,c] (s A (k 1)) (s B (s C (k 2))) [(1,s A (k 1),B)] rfl h0
theorem QN{a b c d:Nat}(h0:a=b)(h1:a<c)(h2:b=c+d+1):False:=S0 0 (lE [b,a,c,d] (k 1) (k 0) [(1,A,B),(1,s B (k 1),C),(1,s (s C D) (k 1),A)] rfl (SD h0.symm) h1 (SD h2.symm))
theorem QM{a b c d:Nat}(h0:a=b+2)(h1:c<=b)(h2:d=a+1)(h3:d<c):False:=S0 0 (lE [b,a,c,d] (k 1) (k 0) [(1,s A (k 2),B),(1,C,A),(1,s B (k 1),D),(1,s D (k 1),C)] rfl (SD h0.symm) h1 (SD h2.symm) h3)
theorem QL{a b:Nat}(h0:a=b+2)(h1:a+1=b+1):False:=S0 0 (lE [b,a] (k 1) (k 0) [(1,s A (k 2),B),(1,s B (k 1),s A (k 1))] rfl (SD h0.symm) (SD h1))
theorem QK{a b:Nat}(h0:b<=2)(h1:a<=40):a+b<=1000:=lE [a,b] (s A B) (k 1000) [(1,B,k 2),(1,A,k 40)] rfl h0 h1
theorem O0{a:Nat}:a≠a+1:=fun e=>S0 0 (lE [a] (k 1) (k 0) [(1,s A (k 1),A)] rfl (SD e.symm))
theorem OZ{a b c:Nat}(h0:a<b)(h1:a=b+c+1):False:=S0 0 (lE [a,b,c] (k 1) (k 0) [(1,s A (k 1),B),(1,s (s B C) (k 1),A)] rfl h0 (SD h1.symm))
theorem QJ{a b c:Nat}(h0:b=c)(h1:a<=c):a<=b:=lE [a,b,c] A B [(1,C,B),(1,A,C)] rfl (SD h0.symm) h1
theorem QI{a b c:Nat}(h0:b=a+c):a<=b:=lE [a,b,c] A B [(1,s A C,B)] rfl (SD h0.symm)
theorem QH{a b c:Nat}(h0:b=a+c+1):a<=b:=lE [a,b,c] A B [(1,s (s A C) (k 1),B)] rfl (SD h0.symm)
theorem QG{a:Nat}(h0:1<=a/\a<=6):a=1\/a=2\/a=3\/a=4\/a=5\/a=6:=(Nat.eq_or_lt_of_le h0.1).elim (fun e=>.inl e.symm) fun h=>.inr ((Nat.eq_or_lt_of_le h).elim (fun e=>.inl e.symm) fun h=>.inr ((Nat.eq_or_lt_of_le h).elim (fun e=>.inl e.symm) fun h=>.inr ((Nat.eq_or_lt_of_le h).elim (fun e=>.inl e.symm) fun h=>.inr ((Nat.eq_or_lt_of_le h).elim (fun e=>.inl e.symm) fun h=>.inr (TH h0.2 h)))))
theorem OY{a b:Nat}(h0:2<=b)(h1:b<=a):1<=a:=lE [a,b] (k 1) A [(1,k 2,B),(1,B,A)] rfl h0 h1
theorem OX{a b:Nat}(h0:2<=b)(h1:b<=a):2<=a:=lE [a,b] (k 2) A [(1,k 2,B),(1,B,A)] rfl h0 h1
theorem Nr{a:Nat}(h0:(a:Int)=-1):False:=Int.noConfusion h0
theorem Nq{a b c d:Nat}(h0:c=b)(h1:d=a)(h2:c<=a)(h3:d<=b):a=b:=TH (lE [a,b,d] A B [(1,A,C),(1,C,B)] rfl (SD h1.symm) h3) (lE [b,a,c] A B [(1,A,C),(1,C,B)] rfl (SD h0.symm) h2)
theorem Np{a b c d e:Nat}(h0:c=d)(h1:e<d)(h2:b<=e)(h3:b=c):a=b:=(S0 0 (lE [d,c,e,b] (k 1) (k 0) [(1,A,B),(1,s C (k 1),A),(1,D,C),(1,B,D)] rfl (SD h0.symm) h1 h2 (SD h3.symm))).elim
theorem No{a b c d e:Nat}(h0:c=d)(h1:e<d)(h2:a<=e)(h3:a=c):a=b:=(S0 0 (lE [d,c,e,a] (k 1) (k 0) [(1,A,B),(1,s C (k 1),A),(1,D,C),(1,B,D)] rfl (SD h0.symm) h1 h2 (SD h3.symm))).elim
theorem Nn{a b c:Nat}(h0:c=3\/c=4)(h1:c=0):a<b:=(SH (h1▸h0) (by decide:¬(0=3\/0=4)))
theorem Nm{a b c:Nat}(h0:a<b/\c<b):a<b+1/\c<b+1:=⟨lE [a,b] (s A (k 1)) (s B (k 1)) [(1,s A (k 1),B)] rfl h0.1,lE [c,b] (s A (k 1)) (s B (k 1)) [(1,s A (k 1),B)] rfl h0.2⟩
theorem Nl{a:Nat}(h0:a=3\/a=4)(h1:a=5):False:=(by decide:¬(5=3\/5=4)) (h1▸h0)
theorem Nk{a b:Nat}(h0:a≠b)(h1:a<b+1):a<b:=(Ua h0).elim (fun q0=>lE [a,b] (s A (k 1)) B [(1,s A (k 1),B)] rfl q0) fun q0=>lE [a,b] (s A (k 1)) B [(2,s A (k 1),s B (k 1)),(1,s B (k 1),A)] rfl h1 q0
theorem IW(h0:5=3\/5=4):False:=(by decide:¬(5=3\/5=4)) h0
theorem Nj{a:Nat}(h0:a=3\/a=4)(h1:a=5\/a=6):False:=h0.elim (fun e=>(by decide:¬(3=5\/3=6)) (e▸h1)) fun e=>(by decide:¬(4=5\/4=6)) (e▸h1)
theorem Ni{a b:Nat}(h0:a=b):a<=b+1:=lE [a,b] A (s B (k 1)) [(1,A,B)] rfl (SD h0)
theorem IV{a:Nat}(h0:8<=a):9<=a+1:=lE [a] (k 9) (s A (k 1)) [(1,k 8,A)] rfl h0
theorem Nh{a b c d:Nat}(h0:c=b)(h1:d=c)(h2:a<=d+1):a<=b+1:=lE [a,b,c,d] A (s B (k 1)) [(1,C,B),(1,D,C),(1,A,s D (k 1))] rfl (SD h0) (SD h1) h2
theorem Ng{a:Nat}(h0:8<=a):3+1<=a:=lE [a] (s (k 3) (k 1)) A [(1,k 8,A)] rfl h0
theorem IU{a b:Nat}(h0:a+(b+1)<=20):a+1<=20:=lE [a,b] (s A (k 1)) (k 20) [(1,s A (s B (k 1)),k 20)] rfl h0
theorem Nc{a b:Nat}(h0:a+(b+1)<=200):a+1<=200:=lE [a,b] (s A (k 1)) (k 200) [(1,s A (s B (k 1)),k 200)] rfl h0
theorem Nb{a b:Nat}(h0:b<=1):a+b<=a+1:=lE [a,b] (s A B) (s A (k 1)) [(1,B,k 1)] rfl h0
theorem Na{a b c:Nat}(h0:c+(b+1)<=20)(h1:a<=c+1):a+b<=20:=lE [a,b,c] (s A B) (k 20) [(1,s C (s B (k 1)),k 20),(1,A,s C (k 1))] rfl h0 h1
theorem M9{a b c:Nat}(h0:c+(b+1)<=200)(h1:a<=c+1):a+b<=200:=lE [a,b,c] (s A B) (k 200) [(1,s C (s B (k 1)),k 200),(1,A,s C (k 1))] rfl h0 h1
theorem IT{a b c d:Nat}(h0:d<=b+1)(h1:a<=d+c):a<=b+(c+1):=lE [a,b,c,d] A (s B (s C (k 1))) [(1,D,s B (k 1)),(1,A,s D C)] rfl h0 h1
theorem IS{a b:Nat}(h0:a+(b+1)<=20):a+b<=20:=lE [a,b] (s A B) (k 20) [(1,s A (s B (k 1)),k 20)] rfl h0
theorem M8{a b:Nat}(h0:a+(b+1)<=200):a+b<=200:=lE [a,b] (s A B) (k 200) [(1,s A (s B (k 1)),k 200)] rfl h0
theorem M7{a b c:Nat}(h0:a<=b+c):a<=b+(c+1):=lE [a,b,c] A (s B (s C (k 1))) [(1,A,s B C)] rfl h0
theorem M5{a b c d:Nat}(h0:a<c)(h1:b<=d):a+b<c+d:=lE [a,b,c,d] (s (s A B) (k 1)) (s C D) [(1,s A (k 1),C),(1,B,D)] rfl h0 h1
theorem M4{a b c d:Nat}(h0:a<=c)(h1:b<d):a+b<c+d:=lE [a,b,c,d] (s (s A B) (k 1)) (s C D) [(1,A,C),(1,s B (k 1),D)] rfl h0 h1
theorem M3{a b c:Nat}(h0:b=c)(h1:a<c):a<b:=lE [a,b,c] (s A (k 1)) B [(1,C,B),(1,s A (k 1),C)] rfl (SD h0.symm) h1
theorem M2{a b c d e:Nat}(h0:b<=c)(h1:e<=d)(h2:a<=e):a+b<=c+1*d:=lE [a,b,c,d,e] (s A B) (s C (m 1 D)) [(1,B,C),(1,E,D),(1,A,E)] rfl h0 h1 h2
theorem IR{a b:Nat}:a+(b+1)=a+1+b:=TH (lE [a,b] (s A (s B (k 1))) (s (s A (k 1)) B) [] rfl) (lE [a,b] (s (s A (k 1)) B) (s A (s B (k 1))) [] rfl)
theorem IQ{a b:Nat}:a+b+1=a+(b+1):=TH (lE [a,b] (s (s A B) (k 1)) (s A (s B (k 1))) [] rfl) (lE [a,b] (s A (s B (k 1))) (s (s A B) (k 1)) [] rfl)
theorem EQ{a b:Nat}(h0:a<b+1)(h1:¬a=b):a<b:=(Ua h1).elim (fun q0=>lE [a,b] (s A (k 1)) B [(1,s A (k 1),B)] rfl q0) fun q0=>lE [a,b] (s A (k 1)) B [(2,s A (k 1),s B (k 1)),(1,s B (k 1),A)] rfl h0 q0
theorem M1{a:Nat}:a<a+1:=lE [a] (s A (k 1)) (s A (k 1)) [] rfl
theorem MZ{a b:Nat}(h0:¬a=b):a<b/\min a b=a/\max a b=b\/b<a/\min a b=b/\max a b=a:=(Ua h0).elim (fun h=>.inl ⟨h,Nat.min_eq_left (TM h),Nat.max_eq_right (TM h)⟩) fun h=>.inr ⟨h,Nat.min_eq_right (TM h),Nat.max_eq_left (TM h)⟩
theorem IP{a b c d:Nat}(h0:c<d/\a=c/\b=d\/d<c/\a=d/\b=c):a<b:=h0.elim (fun h=>h.2.1.symm▸h.2.2.symm▸h.1) fun h=>h.2.1.symm▸h.2.2.symm▸h.1
theorem MY{a b c d e f g:Nat}(h0:c<b)(h1:d<b)(h2:e<=c)(h3:f<=d)(h4:e<f/\g=e/\a=f\/f<e/\g=f/\a=e):a<b:=h4.elim (fun h=>h.2.2.symm▸Tc h3 h1) fun h=>h.2.2.symm▸Tc h2 h0
theorem MX{a b:Nat}(h0:a+(b+1)<=1000):a<=99999:=lE [a,b] A (k 99999) [(1,s A (s B (k 1)),k 1000)] rfl h0
theorem IO{a b c:Nat}(h0:c+(b+1)<=1000)(h1:a<=c+1):a+b<=1000:=lE [a,b,c] (s A B) (k 1000) [(1,s C (s B (k 1)),k 1000),(1,A,s C (k 1))] rfl h0 h1
theorem MW{a b:Nat}:a<b/\min b a=a/\max b a=b\/¬a<b/\min b a=b/\max b a=a:=(Nat.lt_or_ge a b).elim (fun h=>.inl ⟨h,Nat.min_eq_right (TM h),Nat.max_eq_left (TM h)⟩) fun h=>.inr ⟨Uo h,Nat.min_eq_left h,Nat.max_eq_right h⟩
theorem MV{a b:Nat}(h0:a=b):min a b=max a b:=h0▸(Nat.min_self a).trans (Nat.max_self a).symm
theorem MU{a b:Nat}(h0:¬a=b):min a b≠max a b:=fun e=>h0 (TH (Sy (Nat.le_max_left a b) (e▸Nat.min_le_right a b)) (Sy (Nat.le_max_right a b) (e▸Uh a b)))
theorem EP{a b:Nat}(h0:a<b):a≠b+1:=fun e=>S0 0 (lE [a,b] (k 1) (k 0) [(1,s A (k 1),B),(1,s B (k 1),A)] rfl h0 (SD e.symm))
theorem MT{a b c:Nat}(h0:c<=b)(h1:c=a+2):a<=b:=lE [a,b,c] A B [(1,C,B),(1,s A (k 2),C)] rfl h0 (SD h1.symm)
theorem MS{a:Nat}:¬a+2<0:=fun e=>S0 0 (lE [a] (k 1) (k 0) [(1,s (s A (k 2)) (k 1),k 0)] rfl e)
theorem MR{a b c:Nat}(h0:c+2<b+1)(h1:a<c):a+2<b:=lE [a,b,c] (s (s A (k 2)) (k 1)) B [(1,s (s C (k 2)) (k 1),s B (k 1)),(1,s A (k 1),C)] rfl h0 h1
theorem MQ{a b:Nat}(h0:b+2<a+1):a=a-1+1:=(Ur (lE [a,b] (k 1) A [(1,s (s B (k 2)) (k 1),s A (k 1))] rfl h0)).symm
theorem MP{a b:Nat}(h0:a<=b)(h1:b<=20*20):a+2<4000:=lE [a,b] (s (s A (k 2)) (k 1)) (k 4000) [(1,A,B),(1,B,m 20 (k 20))] rfl h0 h1
theorem MN{a:Nat}(h0:a<=20):a+1<=100000:=lE [a] (s A (k 1)) (k 100000) [(1,A,k 20)] rfl h0
theorem MM{a b c d:Nat}(h0:a<b/\d<b):a<b+c/\d<b+c:=⟨lE [a,b,c] (s A (k 1)) (s B C) [(1,s A (k 1),B)] rfl h0.1,lE [d,b,c] (s A (k 1)) (s B C) [(1,s A (k 1),B)] rfl h0.2⟩
theorem ML{a b:Nat}(h0:a+1<=20)(h1:b<=1):a+b<=20:=lE [a,b] (s A B) (k 20) [(1,s A (k 1),k 20),(1,B,k 1)] rfl h0 h1
theorem MK{a:Nat}(h0:0<a):(a:Int)≠0:=fun e=>T0 h0 (Int.ofNat.inj e)
theorem IN{a:Nat}(h0:0<a):0<(a:Int):=Int.ofNat_lt.mpr h0
theorem MJ{a b:Nat}(h0:a<b):(a:Int)<(b:Int):=Int.ofNat_lt.mpr h0
theorem MH{a b:Nat}(h0:¬a<b):¬(a:Int)<(b:Int):=fun h=>h0 (Int.ofNat_lt.mp h)
theorem MG{a:Nat}(h0:a+3<=1000):a<=1000:=lE [a] A (k 1000) [(1,s A (k 3),k 1000)] rfl h0
theorem IM{a b c:Nat}(h0:c<=b+3)(h1:a<=c):a<=b+3:=lE [a,b,c] A (s B (k 3)) [(1,C,s B (k 3)),(1,A,C)] rfl h0 h1
theorem IL{a:Nat}(h0:a<2):a=0\/a=1:=(Nat.eq_or_lt_of_le (Nat.le_of_lt_succ h0)).elim .inr fun h=>.inl (Nat.lt_one_iff.mp h)
theorem IK{a:Nat}(h0:a+3<=1000):a+1<=1000:=lE [a] (s A (k 1)) (k 1000) [(1,s A (k 3),k 1000)] rfl h0
theorem MF{a:Nat}:a+1+1<=a+3:=lE [a] (s (s A (k 1)) (k 1)) (s A (k 3)) [] rfl
theorem ME{a:Nat}(h0:a+3<=1000):a+1+1<=1000:=lE [a] (s (s A (k 1)) (k 1)) (k 1000) [(1,s A (k 3),k 1000)] rfl h0
theorem MD{a:Nat}:a+1+1+1<=a+3:=lE [a] (s (s (s A (k 1)) (k 1)) (k 1)) (s A (k 3)) [] rfl
theorem MC{a b:Nat}(h0:a+3*(b+1)<=1000):a+3<=1000:=lE [a,b] (s A (k 3)) (k 1000) [(1,s A (m 3 (s B (k 1))),k 1000)] rfl h0
theorem MB{a b:Nat}(h0:a+(b+1)<=100):a<=100:=lE [a,b] A (k 100) [(1,s A (s B (k 1)),k 100)] rfl h0
theorem MA{a b:Nat}(h0:a+3*(b+1)<=1000):a+3+3*b<=1000:=lE [a,b] (s (s A (k 3)) (m 3 B)) (k 1000) [(1,s A (m 3 (s B (k 1))),k 1000)] rfl h0
theorem Mz{a b c:Nat}(h0:c+(b+1)<=100)(h1:a<=c+1):a+b<=100:=lE [a,b,c] (s A B) (k 100) [(1,s C (s B (k 1)),k 100),(1,A,s C (k 1))] rfl h0 h1
theorem My{a b c:Nat}(h0:a<=b+3+3*c):a<=b+3*(c+1):=lE [a,b,c] A (s B (m 3 (s C (k 1)))) [(1,A,s (s B (k 3)) (m 3 C))] rfl h0
theorem Mx{a b:Nat}(h0:a<=900)(h1:b<4):a+1+3*(2+b)<=1000:=lE [a,b] (s (s A (k 1)) (m 3 (s (k 2) B))) (k 1000) [(1,A,k 900),(3,s B (k 1),k 4)] rfl h0 h1
theorem Mw{a:Nat}(h0:a<4):2+(2+a)<=100:=lE [a] (s (k 2) (s (k 2) A)) (k 100) [(1,s A (k 1),k 4)] rfl h0
theorem Mv{a b:Nat}(h0:b<4)(h1:a<=2+(2+b)):a<=7:=lE [a,b] A (k 7) [(1,s B (k 1),k 4),(1,A,s (k 2) (s (k 2) B))] rfl h0 h1
theorem Mu{a:Nat}:2+(a:Int)=↑(2+a):=rfl
theorem Mt{a:Nat}(h0:a<4):2+a<=50000:=lE [a] (s (k 2) A) (k 50000) [(1,s A (k 1),k 4)] rfl h0
theorem Ms{a b c:Nat}(h0:c<4)(h1:a<=b+1+3*(2+c)):a<=b+20:=lE [a,b,c] A (s B (k 20)) [(3,s C (k 1),k 4),(1,A,s (s B (k 1)) (m 3 (s (k 2) C)))] rfl h0 h1
theorem Mr{a b:Nat}(h0:b<=7)(h1:a+1<=b):a+1<=20:=lE [a,b] (s A (k 1)) (k 20) [(1,B,k 7),(1,s A (k 1),B)] rfl h0 h1
theorem Mq{a b c d:Nat}(h0:a<=c)(h1:b=c\/a+d<=b):a<=b:=h1.elim (fun e=>e.symm▸h0) fun h=>Sy (Ty a d) h
theorem Mp{a b:Nat}(h0:5<=b)(h1:b<=a):1<=a:=lE [a,b] (k 1) A [(1,k 5,B),(1,B,A)] rfl h0 h1
theorem Mo{a b:Nat}(h0:5<=b)(h1:b<=a):5<=a:=lE [a,b] (k 5) A [(1,k 5,B),(1,B,A)] rfl h0 h1
theorem Mm{a b c d e:Nat}(h0:b=c\/d<=b)(h1:c=a+1+e)(h2:d=c+2):a≠b:=fun q=>Ui a (have h:a<c:=h1▸Ty (a+1) e;h0.elim (fun r=>q.trans r▸h) fun r=>Tz h (Sy (h2▸Ty c 2) (q▸r)))
theorem Ml(h0:3=1\/3=2):False:=(by decide:¬(3=1\/3=2)) h0
theorem Mk(h0:3=4):False:=S0 0 (lE [] (k 1) (k 0) [(1,k 4,k 3)] rfl (SD h0.symm))
theorem Mj(h0:4=1\/4=2):False:=(by decide:¬(4=1\/4=2)) h0
theorem Mi(h0:4=3):False:=S0 0 (lE [] (k 1) (k 0) [(1,k 4,k 3)] rfl (SD h0))
theorem Mh{a b c:Nat}(h0:b<=c)(h1:a<=1):a+b<=c+1:=lE [a,b,c] (s A B) (s C (k 1)) [(1,B,C),(1,A,k 1)] rfl h0 h1
theorem Mg{a b:Nat}(h0:b<=20)(h1:a<=b):a<=100000:=lE [a,b] A (k 100000) [(1,B,k 20),(1,A,B)] rfl h0 h1
theorem Mf{a:Nat}(h0:a<=1000):a+1<=100000:=lE [a] (s A (k 1)) (k 100000) [(1,A,k 1000)] rfl h0
theorem Me{a b:Nat}(h0:a+(b+1)<=1000):a<=1000:=lE [a,b] A (k 1000) [(1,s A (s B (k 1)),k 1000)] rfl h0
theorem Md{a b c:Nat}(h0:a+(c+1)<=1000)(h1:b<=1):a+b+c<=1000:=lE [a,b,c] (s (s A B) C) (k 1000) [(1,s A (s C (k 1)),k 1000),(1,B,k 1)] rfl h0 h1
theorem IJ{a b:Nat}(h0:a>=b):a=b+(a-b):=(Nat.add_sub_cancel' h0).symm
theorem Mc{a b c:Nat}(h0:a<b):a<b+(c+1):=lE [a,b,c] (s A (k 1)) (s B (s C (k 1))) [(1,s A (k 1),B)] rfl h0
theorem Mb{a b c d:Nat}(h0:b=d)(h1:a+(d+c)<=1000):a+b+c<=1000:=lE [a,b,c,d] (s (s A B) C) (k 1000) [(1,B,D),(1,s A (s D C),k 1000)] rfl (SD h0) h1
theorem Ma{a b:Nat}:a+(b+1)=a+b+1:=TH (lE [a,b] (s A (s B (k 1))) (s (s A B) (k 1)) [] rfl) (lE [a,b] (s (s A B) (k 1)) (s A (s B (k 1))) [] rfl)
theorem L9{a b c d:Nat}(h0:c<=b)(h1:c=a+d+1):a<=b:=lE [a,b,c,d] A B [(1,C,B),(1,s (s A D) (k 1),C)] rfl h0 (SD h1.symm)
theorem L7{a b c d:Nat}(h0:a=b)(h1:c+(b+d)<=1000):a<=100000:=lE [a,b,c,d] A (k 100000) [(1,A,B),(1,s C (s B D),k 1000)] rfl (SD h0) h1
theorem L0{a b c:Nat}(h0:a<b):¬a=b+c:=fun e=>S0 0 (lE [a,b,c] (k 1) (k 0) [(1,s A (k 1),B),(1,s B C,A)] rfl h0 (SD e.symm))
theorem LZ{a b c d:Nat}(h0:b=c)(h1:a+(c+d)<=1000):a+b<=100000:=lE [a,b,c,d] (s A B) (k 100000) [(1,B,C),(1,s A (s C D),k 1000)] rfl (SD h0) h1
theorem LY{a:Nat}(h0:a<=900):1+a<=1000:=lE [a] (s (k 1) A) (k 1000) [(1,A,k 900)] rfl h0
theorem LW{a b:Nat}(h0:1<=b/\b<=50)(h1:b<=a):1<=a:=lE [a,b] (k 1) A [(1,k 1,B),(1,B,A)] rfl h0.1 h1
theorem LV{a b:Nat}(h0:a+b<=100):a+b<=100000:=lE [a,b] (s A B) (k 100000) [(1,s A B,k 100)] rfl h0
theorem LU{a:Nat}(h0:29<=a):a=a-3+3:=(Ur (Sy (by decide) h0)).symm
theorem LT{a:Nat}(h0:a<=0+20):a<=40:=lE [a] A (k 40) [(1,A,s (k 0) (k 20))] rfl h0
theorem II{a:Nat}(h0:a<=900):a+1<=1000:=lE [a] (s A (k 1)) (k 1000) [(1,A,k 900)] rfl h0
theorem IH{a:Nat}(h0:a<=900):a+1+1<=1000:=lE [a] (s (s A (k 1)) (k 1)) (k 1000) [(1,A,k 900)] rfl h0
theorem LS{a:Nat}(h0:a<=900):a+3<=1000:=lE [a] (s A (k 3)) (k 1000) [(1,A,k 900)] rfl h0
theorem LQ{a:Nat}(h0:a<=900):a+3+1<=1000:=lE [a] (s (s A (k 3)) (k 1)) (k 1000) [(1,A,k 900)] rfl h0
theorem LP{a b c d e:Nat}(h0:c=d+2)(h1:a<d)(h2:e<=b)(h3:e=c+10):a<=b:=lE [a,b,d,c,e] A B [(1,s C (k 2),D),(1,s A (k 1),C),(1,E,B),(1,s D (k 10),E)] rfl (SD h0.symm) h1 h2 (SD h3.symm)
theorem IG{a b:Nat}(h0:b<=7)(h1:a<=b):a<=7:=lE [a,b] A (k 7) [(1,B,k 7),(1,A,B)] rfl h0 h1
theorem LO{a:Nat}(h0:a<=7):a+1<=100000:=lE [a] (s A (k 1)) (k 100000) [(1,A,k 7)] rfl h0
theorem LN{a:Nat}(h0:a<=7):a+min 1 a<=100000:=Sy (T9 h0 (Uh 1 a)) (by decide)
theorem LM{a:Nat}(h0:a<=7):a+min 1 a<=8:=T9 h0 (Uh 1 a)
theorem LL{a:Nat}(h0:a=0):a<=1:=lE [a] A (k 1) [(1,A,k 0)] rfl (SD h0)
theorem IF{a:Nat}(h0:a<=7):a+1<=20:=lE [a] (s A (k 1)) (k 20) [(1,A,k 7)] rfl h0
theorem LK{a:Nat}(h0:a=0):a+1<=200:=lE [a] (s A (k 1)) (k 200) [(1,A,k 0)] rfl (SD h0)
theorem LJ{a b:Nat}(h0:a+(b+1)<=30):a+1<=30:=lE [a,b] (s A (k 1)) (k 30) [(1,s A (s B (k 1)),k 30)] rfl h0
theorem LI{a b c:Nat}(h0:a+(c+1)<=20)(h1:b<=1):a+b+c<=20:=lE [a,b,c] (s (s A B) C) (k 20) [(1,s A (s C (k 1)),k 20),(1,B,k 1)] rfl h0 h1
theorem LH{a b c:Nat}(h0:c+(b+1)<=30)(h1:a<=c+1):a+b<=30:=lE [a,b,c] (s A B) (k 30) [(1,s C (s B (k 1)),k 30),(1,A,s C (k 1))] rfl h0 h1
theorem LG{a b:Nat}(h0:a+(b+1)<=30):a+b<=30:=lE [a,b] (s A B) (k 30) [(1,s A (s B (k 1)),k 30)] rfl h0
theorem LF{a b:Nat}(h0:a+b<=199):a+b<=200:=lE [a,b] (s A B) (k 200) [(1,s A B,k 199)] rfl h0
theorem LE{a b c:Nat}(h0:b+c<=199)(h1:a<=b+c):a+1<=200:=lE [a,b,c] (s A (k 1)) (k 200) [(1,s B C,k 199),(1,A,s B C)] rfl h0 h1
theorem LD{a b c:Nat}(h0:a<c)(h1:c<=b):a≠b:=fun e=>S0 0 (lE [a,c,b] (k 1) (k 0) [(1,s A (k 1),B),(1,B,C),(1,C,A)] rfl h0 h1 (SD e.symm))
theorem LC{a b c:Nat}(h0:b+1<c)(h1:c<=a):a≠b/\a≠b+1:=⟨fun e=>S0 0 (lE [b,c,a] (k 1) (k 0) [(1,s (s A (k 1)) (k 1),B),(1,B,C),(1,C,A)] rfl h0 h1 (SD e)),fun e=>S0 0 (lE [b,c,a] (k 1) (k 0) [(1,s (s A (k 1)) (k 1),B),(1,B,C),(1,C,s A (k 1))] rfl h0 h1 (SD e))⟩
theorem LB{a b:Nat}(h0:a<=7)(h1:b<=1):a+b<=8:=lE [a,b] (s A B) (k 8) [(1,A,k 7),(1,B,k 1)] rfl h0 h1
theorem IE{a b:Nat}(h0:b<=8)(h1:a<=8):a+b<=20:=lE [a,b] (s A B) (k 20) [(1,B,k 8),(1,A,k 8)] rfl h0 h1
theorem Lz{a b:Nat}(h0:b<=8)(h1:a<=1):a+b<=30:=lE [a,b] (s A B) (k 30) [(1,B,k 8),(1,A,k 1)] rfl h0 h1
theorem Ly{a b:Nat}(h0:b<=8)(h1:a<=1):a+b<=199:=lE [a,b] (s A B) (k 199) [(1,B,k 8),(1,A,k 1)] rfl h0 h1
theorem Nf{a:Int}{b:Nat}(h0:¬(b:Int)<=a):a<(b:Int):=Int.not_le.mp h0
end
theorem rn{x y a b:Nat}:(if x=b then a else x)=(if y=b then a else y)↔x=y\/(x=a/\y=b)\/(x=b/\y=a):=by
 by_cases h:x=b<;>by_cases g:y=b
 ·rw[SI h,SI g];exact⟨fun _=>.inl (h.trans g.symm),fun _=>rfl⟩
 ·rw[SI h,Sz g];exact⟨fun e=>.inr (.inr ⟨h,e.symm⟩),fun e=>e.elim (fun e=>SH (e.symm.trans h) g) fun e=>e.elim (fun e=>SH e.2 g) fun e=>e.2.symm⟩
 ·rw[Sz h,SI g];exact⟨fun e=>.inr (.inl ⟨e,g⟩),fun e=>e.elim (fun e=>SH (e.trans g) h) fun e=>e.elim (fun e=>e.1) fun e=>SH e.1 h⟩
 ·rw[Sz h,Sz g];exact⟨.inl,fun e=>e.elim id fun e=>e.elim (fun e=>SH e.2 g) fun e=>SH e.1 h⟩
theorem bY{α:Type u}{a:α}{P:Prop}(h:none=some a):P:=nomatch h
noncomputable def lK{α:Type u}(n:α)(P:α->Prop):α:=@Classical.epsilon α ⟨n⟩ fun a=>¬P a
theorem bE{α:Type u}{n:α}(P:α->Prop)(h:P (lK n P))(a:α):P a:=Classical.byContradiction fun e=>@Classical.epsilon_spec α (fun a=>¬P a) ⟨a,e⟩ h
end
section
open PySem
noncomputable def aS:List String:=["","a","b","f","g","h","c","?x","?y","?","fg","alike","unlike","rule","like","r","order","together","turns","rests","nodes","most","pairs","cells","at","()[]{},:"]
noncomputable def bO:List String:=["nodes","numbers","weights","depths","above","lots","merged","bank","unions","edges","forest","known","waiting","backs","heap","name","left","right","needs","rules","options","walker","placer","history","rounds","rests","wakes",
 "append","extend","pop","index","get","setdefault","isspace","items",
 "size","take","require","op","kids","make","find","merge","members","classes","node","add","look_at","join","settle","nodes_of","seek","extended","found_in","found","put","class_of","holds","is_full","matches","apply","apply_all"]
set_option genInjectivity true in
inductive AV where
 | none
 | bool (b:Bool)
 | int (i:Int)
 | sym (k:Nat)
 | tup (vs:List AV)
 | ref (n:Nat)
 | frz (vs:List AV)
 | fset (vs:List AV)
 | view (r:Nat)
 | rng (n:Nat)
 | enm (v:AV)
 | zp (a b:AV)
mutual
noncomputable def AV.bq:AV->AV->Bool
 | .bool a,.bool b=>a==b
 | .int a,.int b=>decide (a=b)
 | .sym a,.sym b=>decide (a=b)
 | .tup a,.tup b=>AV.bqs a b
 | .ref a,.ref b=>decide (a=b)
 | .frz a,.frz b=>AV.bqs a b
 | .fset a,.fset b=>AV.bqs a b
 | .view a,.view b=>decide (a=b)
 | .rng a,.rng b=>decide (a=b)
 | .enm a,.enm b=>Nat.beq a.ctorIdx b.ctorIdx&&AV.bq a b
 | .zp a b,.zp a' b'=>(Nat.beq a.ctorIdx a'.ctorIdx&&AV.bq a a')&&(Nat.beq b.ctorIdx b'.ctorIdx&&AV.bq b b')
 | _,_=>true
noncomputable def AV.bqs:List AV->List AV->Bool
 | [],[]=>true
 | a::as,b::bs=>(Nat.beq a.ctorIdx b.ctorIdx&&AV.bq a b)&&AV.bqs as bs
 | _,_=>false
end
noncomputable def AV.beq(a b:AV):Bool:=Nat.beq a.ctorIdx b.ctorIdx&&AV.bq a b
theorem AV.bq_up{a b:AV}(k:b.ctorIdx=a.ctorIdx->AV.bq a b=true->a=b)(h:(Nat.beq a.ctorIdx b.ctorIdx&&AV.bq a b)=true):a=b:=
 have h:=SL.mp h
 k (Ub h.1).symm h.2
mutual
theorem AV.bq_eq:∀ a b:AV,b.ctorIdx=a.ctorIdx->AV.bq a b=true->a=b
 | .none,b,i,h=>@AV.none.elim (fun b=>AV.none=b) b i rfl
 | .bool a,b,i,h=>@AV.bool.elim (fun b=>AV.bq (.bool a) b=true->AV.bool a=b) b i (fun _ h=>Sx _ (eq_of_beq h)) h
 | .int a,b,i,h=>@AV.int.elim (fun b=>AV.bq (.int a) b=true->AV.int a=b) b i (fun _ h=>Sx _ (SF h)) h
 | .sym a,b,i,h=>@AV.sym.elim (fun b=>AV.bq (.sym a) b=true->AV.sym a=b) b i (fun _ h=>Sx _ (SF h)) h
 | .tup a,b,i,h=>@AV.tup.elim (fun b=>AV.bq (.tup a) b=true->AV.tup a=b) b i (fun _ h=>Sx _ (AV.bqs_eq a _ h)) h
 | .ref a,b,i,h=>@AV.ref.elim (fun b=>AV.bq (.ref a) b=true->AV.ref a=b) b i (fun _ h=>Sx _ (SF h)) h
 | .frz a,b,i,h=>@AV.frz.elim (fun b=>AV.bq (.frz a) b=true->AV.frz a=b) b i (fun _ h=>Sx _ (AV.bqs_eq a _ h)) h
 | .fset a,b,i,h=>@AV.fset.elim (fun b=>AV.bq (.fset a) b=true->AV.fset a=b) b i (fun _ h=>Sx _ (AV.bqs_eq a _ h)) h
 | .view a,b,i,h=>@AV.view.elim (fun b=>AV.bq (.view a) b=true->AV.view a=b) b i (fun _ h=>Sx _ (SF h)) h
 | .rng a,b,i,h=>@AV.rng.elim (fun b=>AV.bq (.rng a) b=true->AV.rng a=b) b i (fun _ h=>Sx _ (SF h)) h
 | .enm a,b,i,h=>@AV.enm.elim (fun b=>AV.bq (.enm a) b=true->AV.enm a=b) b i (fun _ h=>Sx _ (AV.bq_up (AV.bq_eq a _) h)) h
 | .zp a c,b,i,h=>@AV.zp.elim (fun b=>AV.bq (.zp a c) b=true->AV.zp a c=b) b i (fun _ _ h=>have h:=SL.mp h;congr (Sx _ (AV.bq_up (AV.bq_eq a _) h.1)) (AV.bq_up (AV.bq_eq c _) h.2)) h
theorem AV.bqs_eq:∀ a b:List AV,AV.bqs a b=true->a=b
 | [],[]=>fun _=>rfl
 | [],_::_=>fun h=>nomatch(show false=true from h)
 | _::_,[]=>fun h=>nomatch(show false=true from h)
 | a::as,b::bs=>fun h=>have h:=SL.mp h;congr (Sx _ (AV.bq_up (AV.bq_eq a b) h.1)) (AV.bqs_eq as bs h.2)
end
theorem AV.bq_dn{a:AV}(h:AV.bq a a=true):(Nat.beq a.ctorIdx a.ctorIdx&&AV.bq a a)=true:=SL.mpr ⟨Nat.beq_refl _,h⟩
mutual
theorem AV.bq_rfl:∀ a:AV,AV.bq a a=true
 | .none=>rfl
 | .bool a=>beq_self_eq_true a
 | .int a=>SM rfl
 | .sym a=>SM rfl
 | .tup a=>AV.bqs_rfl a
 | .ref a=>SM rfl
 | .frz a=>AV.bqs_rfl a
 | .fset a=>AV.bqs_rfl a
 | .view a=>SM rfl
 | .rng a=>SM rfl
 | .enm a=>AV.bq_dn (AV.bq_rfl a)
 | .zp a c=>SL.mpr ⟨AV.bq_dn (AV.bq_rfl a),AV.bq_dn (AV.bq_rfl c)⟩
theorem AV.bqs_rfl:∀ a:List AV,AV.bqs a a=true
 | []=>rfl
 | a::as=>SL.mpr ⟨AV.bq_dn (AV.bq_rfl a),AV.bqs_rfl as⟩
end
theorem AV.beq_iff(a b:AV):AV.beq a b=true↔a=b:=⟨AV.bq_up (AV.bq_eq a b),fun e=>e▸AV.bq_dn (AV.bq_rfl a)⟩
noncomputable instance:DecidableEq AV:=fun a b=>decidable_of_iff (AV.beq a b=true) (AV.beq_iff a b)
inductive AO where
 | list (vs:List AV)
 | dict (es:List (AV×AV))
 | inst (c:Nat) (fs:List (Nat×AV))
 | hid
noncomputable abbrev St:=List AO
noncomputable abbrev En:=Nat->Option AV
inductive aw where
 | one (i:Nat)
 | many (is:List Nat)
set_option genCtorIdx false in
inductive al where
 | none | bool (b:Bool) | int (i:Int) | sym (k:Nat)
noncomputable def al.av:al->AV
 | .none=>.none | .bool b=>.bool b | .int i=>.int i | .sym k=>.sym k
noncomputable def Kg:List String:=["is_op","is_variable","variables","parts","_law_dip","_law_nodes","_law_picked","_law_right","_law_same","_law_done","_law_homes","law"]
inductive cP where | add | sub | mul | mod
inductive aR where | eq | ne | lt | le | gt | ge | isIn | notIn | is
inductive Sl where | tail | first | rev | first30
inductive aN where | len | int | max | sum | dict | sorted | set | listOf | tupleOf | range | enum | zip
 deriving DecidableEq
set_option genCtorIdx false in
inductive X where
 | cst (c:al)
 | loc (i:Nat)
 | glob (k:Nat)
 | attr (e:X) (a:Nat)
 | sub (e i:X)
 | slc (e:X) (k:Sl)
 | neg (e:X)
 | bin (op:cP) (a b:X)
 | cmp (op:aR) (a b:X)
 | cmp2 (op op':aR) (a b c:X)
 | and (a b:X)
 | or (a b:X)
 | not (a:X)
 | ite (c a b:X)
 | tup (es:List X)
 | lst (es:List X)
 | dct (ks:List Nat) (vs:List X)
 | call (f:Nat) (es:List X)
 | new (c:Nat) (es:List X)
 | meth (e:X) (m:Nat) (es:List X)
 | blt (b:aN) (es:List X)
 | comp (e:X) (p:aw) (it:X) (c:List X)
 | comp2 (e:X) (p:aw) (it:X) (p':aw) (it':X)
set_option genCtorIdx false in
inductive S where
 | expr (e:X)
 | ret (e:X)
 | retNone
 | asg (p:aw) (e:X)
 | setAttr (o:X) (a:Nat) (e:X)
 | setSub (o i e:X)
 | ite (c:X) (a b:List S)
 | whl (c:X) (b:List S)
 | for_ (p:aw) (it:X) (b:List S)
 | raise
structure Cx where
 sc:List (Str×NameKind)
 sl:List (Str×Nat)
noncomputable def bd(tab:List String)(s:Str):Option Nat:=tab.findIdx? fun t=>Str.ofString t==s
structure oE where
 fns:List String
 clss:List String
 globs:List String
noncomputable def TB:oE:=⟨Kg,["Bank","Unions","Heap","Walker","Rule","Placer","Runner"],["_law_lefts","_law_rights","ORDERS"]⟩
noncomputable def ec:CmpOp->Option aR
 | .Eq=>some .eq | .NotEq=>some .ne | .Lt=>some .lt | .LtE=>some .le | .Gt=>some .gt | .GtE=>some .ge | .In=>some .isIn | .NotIn=>some .notIn | .Is=>some .is | _=>none
noncomputable def zY:Operator->Option cP
 | .Add=>some .add | .Sub=>some .sub | .Mult=>some .mul | .Mod=>some .mod | _=>none
noncomputable def mC:Option NameKind->Bool
 | some .local | some .cell | some .free=>true
 | _=>false
noncomputable def dy:Option NameKind->Bool
 | some .globalImplicit=>true
 | _=>false
noncomputable def A8{α:Type}(d:α)(n:Str->α)(t:List Expr->α)(c:Const->α)(u:UnaryOp->Expr->α)(s:Option Expr->Option Expr->Option Expr->α)(a:Expr->Str->α)(b:Expr->Expr->α)(l:α):Expr->α
 | .Name x _=>n x
 | .Tuple es _ _=>t es
 | .Constant k _ _=>c k
 | .UnaryOp o e _=>u o e
 | .Slice p q r _=>s p q r
 | .Attribute o m _=>a o m
 | .Subscript o i _=>b o i
 | .ListComp ..=>l
 | _=>d
theorem vn{α:Type}{d r:α}{n:Str->α}{t:List Expr->α}{c:Const->α}{u:UnaryOp->Expr->α}{s:Option Expr->Option Expr->Option Expr->α}{a:Expr->Str->α}{b:Expr->Expr->α}{l:α}{C:Expr->Prop}{e:Expr}(h:A8 d n t c u s a b l e=r)
  (hd:d=r->C e) (hn:∀ x p,n x=r->C (.Name x p)) (ht:∀ es k p,t es=r->C (.Tuple es k p)) (hc:∀ k x p,c k=r->C (.Constant k x p)) (hu:∀ o e p,u o e=r->C (.UnaryOp o e p)) (hs:∀ x y z p,s x y z=r->C (.Slice x y z p))
  (ha:∀ o m p,a o m=r->C (.Attribute o m p)) (hb:∀ o i p,b o i=r->C (.Subscript o i p)) (hl:l=r->C e):C e:=by
 cases e with
 | Name=>exact hn _ _ h
 | Tuple=>exact ht _ _ _ h
 | Constant=>exact hc _ _ _ h
 | UnaryOp=>exact hu _ _ _ h
 | Slice=>exact hs _ _ _ _ h
 | Attribute=>exact ha _ _ _ h
 | Subscript=>exact hb _ _ _ h
 | ListComp=>exact hl h
 | _=>exact hd h
noncomputable def ue(e:Expr):Option Str:=A8 none some (fun _=>none) (fun _=>none) (fun _ _=>none) (fun _ _ _=>none) (fun _ _=>none) (fun _ _=>none) none e
noncomputable def re(e:Expr):Option (List Expr):=A8 none (fun _=>none) some (fun _=>none) (fun _ _=>none) (fun _ _ _=>none) (fun _ _=>none) (fun _ _=>none) none e
noncomputable def j4(cx:Cx)(e:Expr):Option Nat:=(ue e).bind fun x=>bif mC (cx.sc.lookup x) then cx.sl.lookup x else none
noncomputable def nN(cx:Cx):List Expr->Option (List Nat)
 | []=>some []
 | e::r=>(j4 cx e).bind fun i=>(nN cx r).map (i::·)
noncomputable def bC(cx:Cx)(e:Expr):Option aw:=match j4 cx e with
 | some i=>some (.one i)
 | none=>(re e).bind fun es=>(nN cx es).map .many
noncomputable def aL(sc:List (Str×NameKind)):List Str:=(sc.filter fun x=>x.2==.local||x.2==.cell).map (·.1)
noncomputable def eo(cx:Cx)(sc:Scope):Bool:=decide (sc.kind=.function)&&decide ((sc.names.map (·.1)).Nodup)&&sc.names.all fun x=>decide (x.2=.local)||decide (x.2=.globalImplicit)||(decide (x.2=.free)&&decide (cx.sc.lookup x.1=some .cell))
noncomputable def yn(sc:Scope):Bool:=decide (sc.kind=.function)&&!sc.isGenerator&&!sc.isCoroutine&&decide ((sc.names.map (·.1)).Nodup)&&sc.names.all fun x=>decide (x.2=.local)||decide (x.2=.globalImplicit)||decide (x.2=.cell)
noncomputable def bn(n:Nat):List Str->List (Str×Nat)
 | []=>[]
 | x::r=>(x,n)::bn (n+1) r
noncomputable def Cx.inner(cx:Cx)(sc:Scope):Cx:=⟨sc.names,bn cx.sl.length (aL sc.names)++cx.sl⟩
noncomputable def cO{α:Type}(x y:Option α):Option α:=match x with | some a=>some a | none=>y
noncomputable def dc{α:Type}(c:Bool)(x:α):Option α:=bif c then some x else none
section
variable{α β:Type}{x y:Option α}{r:β}{a s:α}{c:Bool}{P:Prop}
theorem ae{f:α->Option β}(h:x.bind f=some r)(k:∀ a,x=some a->f a=some r->P):P:=by
 cases x with
 | none=>cases h
 | some a=>exact k a rfl h
theorem aH{f:α->β}(h:x.map f=some r)(k:∀ a,x=some a->f a=r->P):P:=by
 cases x with
 | none=>cases h
 | some a=>exact k a rfl (SQ h)
theorem bt(h:cO x y=some s)(k1:x=some s->P)(k2:y=some s->P):P:=by
 cases x with
 | none=>exact k2 h
 | some a=>exact k1 h
theorem cN(h:dc c a=some s)(k:c=true->a=s->P):P:=by
 cases c with
 | false=>cases h
 | true=>exact k rfl (SQ h)
theorem bi(h:(bif c then x else y)=some s)(k1:c=true->x=some s->P)(k2:c=false->y=some s->P):P:=by
 cases c with
 | false=>exact k2 rfl h
 | true=>exact k1 rfl h
end
noncomputable def dR{α β:Type}(vs:List α)(f:α->Option β):Option β:=match vs with
 | [v]=>f v
 | _=>none
noncomputable def qQ{α β:Type}(vs:List α)(f:α->α->Option β):Option β:=match vs with
 | [v,u]=>f v u
 | _=>none
theorem gS{α β:Type}{P:Prop}{vs:List α}{f:α->Option β}{r:β}(h:dR vs f=some r)(k:∀ v,vs=[v]->f v=some r->P):P:=by
 match vs,h with
 | [v],h=>exact k v rfl h
theorem kQ{α β:Type}{P:Prop}{vs:List α}{f:α->α->Option β}{r:β}(h:qQ vs f=some r)(k:∀ v u,vs=[v,u]->f v u=some r->P):P:=by
 match vs,h with
 | [v,u],h=>exact k v u rfl h
noncomputable def Od(e:Expr):Option Const:=A8 none (fun _=>none) (fun _=>none) some (fun _ _=>none) (fun _ _ _=>none) (fun _ _=>none) (fun _ _=>none) none e
noncomputable def uE(o:Option Expr):Option Const:=o.bind Od
noncomputable def Js:Const->Option Int
 | .int i=>some i
 | _=>none
noncomputable def Ed:Const->Option Str
 | .str s=>some s
 | _=>none
noncomputable def vQ(e:Option Expr):Option Int:=(uE e).bind Js
noncomputable def uI(op:UnaryOp)(e:Expr):Option Int:=match op with | .USub=>vQ (some e) | _=>none
noncomputable def ER(o:Option Expr):Option Int:=o.bind (A8 none (fun _=>none) (fun _=>none) (fun _=>none) uI (fun _ _ _=>none) (fun _ _=>none) (fun _ _=>none) none)
noncomputable def fY(l u st:Option Expr):Option Sl:=
 cO (dc (decide (vQ l=some 1)&&u.isNone&&st.isNone) .tail) (cO (dc (l.isNone&&decide (vQ u=some 1)&&st.isNone) .first) (cO (dc (l.isNone&&decide (vQ u=some 30)&&st.isNone) .first30) (dc (l.isNone&&u.isNone&&decide (ER st=some 1)) .rev)))
noncomputable def jw:List (Option Expr)->Option (List Nat)
 | []=>some []
 | o::r=>((uE o).bind Ed).bind fun s=>(bd aS s).bind fun k=>(jw r).map (k::·)
noncomputable def sZ:aN->Str
 | .len=>"len" | .int=>"int" | .max=>"max" | .sum=>"sum" | .dict=>"dict" | .sorted=>"sorted" | .set=>"set" | .listOf=>"list" | .tupleOf=>"tuple" | .range=>"range" | .enum=>"enumerate" | .zip=>"zip"
noncomputable def mO(x:Str):Option aN:=[aN.len,.int,.max,.sum,.dict,.sorted,.set,.listOf,.tupleOf,.range,.enum,.zip].find? fun b=>sZ b==x
noncomputable def yI(sc:List (Str×NameKind))(e:Expr):Bool:=((ue e).map fun x=>decide (sc.lookup x=some .local)).getD false
noncomputable def dt(sc:List (Str×NameKind))(e:Expr):Bool:=yI sc e||((re e).map (·.all (yI sc))).getD false
noncomputable def gX(T:oE)(x:Str)(es:List X):Option X:=match mO x with
 | some b=>some (.blt b es)
 | none=>match bd T.fns x with
  | some f=>some (.call f es)
  | none=>(bd T.clss x).map fun c=>.new c es
noncomputable def OF:Const->Option X
 | .none=>some (.cst .none)
 | .bool b=>some (.cst (.bool b))
 | .int i=>some (.cst (.int i))
 | .str s=>(bd aS s).map fun k=>.cst (.sym k)
 | _=>none
noncomputable def xu(T:oE)(cx:Cx)(x:Str):Option X:=bif x==("__debug__":Str) then none else bif mC (cx.sc.lookup x) then(cx.sl.lookup x).map .loc else bif dy (cx.sc.lookup x) then(bd T.globs x).map .glob else none
noncomputable def HK(e:Expr):Option Sl:=A8 none (fun _=>none) (fun _=>none) (fun _=>none) (fun _ _=>none) fY (fun _ _=>none) (fun _ _=>none) none e
noncomputable def KS(op:UnaryOp)(a:X):Option X:=match op with
 | .USub=>some (.neg a)
 | .Not=>some (.not a)
 | _=>none
noncomputable def HL(a:X)(ops:List CmpOp)(bs:List X):Option X:=
 cO (dR ops fun op=>dR bs fun b=>(ec op).map fun o=>.cmp o a b) (qQ ops fun op op'=>qQ bs fun b c=>(ec op).bind fun o=>(ec op').map fun o'=>.cmp2 o o' a b c)
noncomputable def DN(op:BoolOp)(bs:List X):Option X:=qQ bs fun a b=>some (match op with | .And=>.and a b | .Or=>.or a b)
mutual
noncomputable def tr(T:oE)(cx:Cx):Expr->Option X
 | .Constant c _ _=>OF c
 | .Name x _=>xu T cx x
 | .Attribute e n _=>(tr T cx e).bind fun a=>(bd bO n).bind fun k=>dc (decide (k<27)) (.attr a k)
 | .Subscript e i _=>(tr T cx e).bind fun a=>cO ((HK i).map (.slc a)) ((tr T cx i).map (.sub a))
 | .UnaryOp op e _=>(tr T cx e).bind (KS op)
 | .BinOp l op r _=>(tr T cx l).bind fun a=>(zY op).bind fun o=>(tr T cx r).map (.bin o a)
 | .Compare l ops rs _=>(tr T cx l).bind fun a=>(uU T cx rs).bind (HL a ops)
 | .BoolOp op es _=>(uU T cx es).bind (DN op)
 | .IfExp c a b _=>(tr T cx c).bind fun c=>(tr T cx a).bind fun a=>(tr T cx b).map (.ite c a)
 | .Tuple es _ _=>(uU T cx es).map .tup
 | .List es _=>(uU T cx es).map .lst
 | .Dict ks vs _=>(jw ks).bind fun ks=>(uU T cx vs).bind fun vs=>dc (decide (ks.length=vs.length)) (.dct ks vs)
 | .Call f es kws pos=>bif kws.isEmpty then match f with
   | .Name x _=>bif dy (cx.sc.lookup x) then(uU T cx es).bind (gX T x) else none
   | .Attribute o m ap=>bif decide (ap.endLine=pos.line)&&decide (es.length<30) then(tr T cx o).bind fun a=>(bd bO m).bind fun k=>(uU T cx es).map (.meth a k) else none
   | _=>none
  else none
 | .ListComp e gs sc _=>match gs with
   | [⟨t,it,cs,z⟩]=>bif decide (z=0)&&(eo cx sc&&dt sc.names t) then(tr T cx it).bind fun i=>(bC (cx.inner sc) t).bind fun p=>(uU T (cx.inner sc) cs).bind fun c=>(tr T (cx.inner sc) e).map fun a=>.comp a p i c else none
   | [⟨t,it,cs,z⟩,⟨t',it',cs',z'⟩]=>bif decide (z=0)&&decide (z'=0)&&cs.isEmpty&&cs'.isEmpty&&(eo cx sc&&dt sc.names t&&dt sc.names t') then(tr T cx it).bind fun i=>(bC (cx.inner sc) t).bind fun p=>(tr T (cx.inner sc) it').bind fun i'=>(bC (cx.inner sc) t').bind fun p'=>(tr T (cx.inner sc) e).map fun a=>.comp2 a p i p' i' else none
   | _=>none
 | _=>none
noncomputable def uU(T:oE)(cx:Cx):List Expr->Option (List X)
 | []=>some []
 | e::r=>(tr T cx e).bind fun a=>(uU T cx r).map (a::·)
end
noncomputable def dm(t e:Expr):Bool:=match t,e with
 | .Tuple ..,.Tuple vs _ _=>vs.all (foldedForSure 8)||!vs.all (constantsAlone 8)
 | _,_=>true
noncomputable def aw.nodup:aw->Bool
 | .one _=>true
 | .many is=>decide is.Nodup
noncomputable def ud(e:Expr):Bool:=A8 true (fun _=>true) (fun _=>true) (fun _=>true) (fun _ _=>true) (fun _ _ _=>true) (fun _ _=>true) (fun _ _=>true) false e
noncomputable def CW(T:oE)(cx:Cx)(t:Expr)(b:X):Option S:=A8 none (fun _=>none) (fun _=>none) (fun _=>none) (fun _ _=>none) (fun _ _ _=>none) (fun o n=>(tr T cx o).bind fun a=>(bd bO n).bind fun k=>dc (decide (k<27)) (.setAttr a k b)) (fun o i=>(tr T cx o).bind fun a=>(tr T cx i).map fun k=>.setSub a k b) none t
noncomputable def HM(T:oE)(cx:Cx)(e:Expr)(ts:List Expr):Option S:=dR ts fun t=>
 (tr T cx e).bind fun b=>cO (CW T cx t b) (bif dm t e then(bC cx t).bind fun p=>dc (aw.nodup p) (.asg p b) else none)
mutual
noncomputable def KU(T:oE)(cx:Cx):Stmt->Option S
 | .Expr e _=>bif ud e then(tr T cx e).map .expr else none
 | .Return v _=>match v with
  | some e=>(tr T cx e).map .ret
  | none=>some .retNone
 | .Assign ts e _=>HM T cx e ts
 | .If c a b _=>(tr T cx c).bind fun c=>(trSs T cx a).bind fun a=>(trSs T cx b).map (.ite c a)
 | .While c b z _=>bif z.isEmpty then(tr T cx c).bind fun c=>(trSs T cx b).map (.whl c) else none
 | .For t it b z _=>bif z.isEmpty then(bC cx t).bind fun p=>(tr T cx it).bind fun i=>(trSs T cx b).map (.for_ p i) else none
 | .Raise _ _ _=>some .raise
 | _=>none
noncomputable def trSs(T:oE)(cx:Cx):List Stmt->Option (List S)
 | []=>some []
 | s::r=>(KU T cx s).bind fun a=>(trSs T cx r).map (a::·)
end
noncomputable def iY(sc:Scope):Cx:=⟨sc.names,bn 0 (aL sc.names)⟩
noncomputable def ax:Nat:=100000
noncomputable def AV.purF(f:List AV->Bool):AV->Bool
 | .int _=>true
 | .sym _=>true
 | .tup vs=>f vs
 | _=>false
noncomputable def AV.purD:Nat->AV->Bool
 | 0=>AV.purF fun _=>false
 | d+1=>AV.purF fun vs=>vs.all (AV.purD d)
noncomputable def AV.pur(v:AV):Bool:=v.purD 6
noncomputable def AV.purs(vs:List AV):Bool:=vs.all AV.pur
noncomputable def AV.isIt:AV->Bool
 | .enm _=>true
 | .zp _ _=>true
 | _=>false
noncomputable def bw:AV->Option (List AV)
 | .tup vs=>some vs
 | _=>none
noncomputable def bF:AV->Option Nat
 | .ref r=>some r
 | _=>none
noncomputable def cH:AV->Option Int
 | .int i=>some i
 | _=>none
noncomputable def dZ:AV->Option Nat
 | .sym i=>some i
 | _=>none
noncomputable def iw:AV->Option Bool
 | .bool b=>some b
 | _=>none
noncomputable def n7:AV->Option (List AV)
 | .fset vs=>some vs
 | _=>none
noncomputable def Dm:AV->Option (List AV)
 | .frz vs=>some vs
 | _=>none
noncomputable def x9:AV->Option Nat
 | .rng n=>some n
 | _=>none
noncomputable def w8:AV->Option Nat
 | .view n=>some n
 | _=>none
noncomputable def nV:AV->Bool
 | .none=>true
 | _=>false
noncomputable def cr{α β:Type}(x:Option (α×St))(f:α->St->Option β):Option β:=match x with
 | some (a,Y)=>f a Y
 | none=>none
noncomputable def ret{α:Type}(x:Option α)(Y:St):Option (α×St):=x.map (·,Y)
section
variable{α β:Type}{v:AV}{P:Prop}
theorem aE{x:Option (α×St)}{f:α->St->Option β}{r:β}(h:cr x f=some r)(k:∀ a Y,x=some (a,Y)->f a Y=some r->P):P:=by
 cases x with
 | none=>cases h
 | some p=>exact k _ _ rfl h
theorem am{x:Option (α×St)}{f:α->St->Option β}{a:α}{Y:St}(h:x=some (a,Y)):cr x f=f a Y:=by rw[h];rfl
theorem jU{x:Option α}{a:α}{Y τ:St}{P:α->St->Prop}(h:ret x Y=some (a,τ))(k:∀ b,x=some b->P b Y):P a τ:=by
 cases x with
 | none=>cases h
 | some b=>cases h;exact k _ rfl
theorem fH{x:Option α}{a:α}{Y:St}(h:x=some a):ret x Y=some (a,Y):=by rw[h];rfl
theorem cW{a b:α}{Y τ:St}{P:α->St->Prop}(h:some (a,Y)=some (b,τ))(k:P a Y):P b τ:=by cases h;exact k
theorem nn{α:Type}{x:α}{P:Prop}(h:none=some x):P:=nomatch h
theorem aB{x:List AV}(h:bw v=some x):v=.tup x:=by cases v<;>first | (cases h;rfl) | exact nn h
theorem ba{x:Nat}(h:bF v=some x):v=.ref x:=by cases v<;>first | (cases h;rfl) | exact nn h
theorem bp{x:Int}(h:cH v=some x):v=.int x:=by cases v<;>first | (cases h;rfl) | exact nn h
theorem cw{x:Nat}(h:dZ v=some x):v=.sym x:=by cases v<;>first | (cases h;rfl) | exact nn h
theorem fk{x:Bool}(h:iw v=some x):v=.bool x:=by cases v<;>first | (cases h;rfl) | exact nn h
theorem mH{x:List AV}(h:n7 v=some x):v=.fset x:=by cases v<;>first | (cases h;rfl) | exact nn h
theorem ze{x:List AV}(h:Dm v=some x):v=.frz x:=by cases v<;>first | (cases h;rfl) | exact nn h
theorem pC{x:Nat}(h:x9 v=some x):v=.rng x:=by cases v<;>first | (cases h;rfl) | exact nn h
theorem uQ{x:Nat}(h:w8 v=some x):v=.view x:=by cases v<;>first | (cases h;rfl) | exact nn h
theorem fS(h:nV v=true):v=.none:=by cases v<;>first | rfl | exact nomatch(show false=true from h)
end
noncomputable def AV.isSym:AV->Bool
 | .sym _=>true
 | _=>false
noncomputable def f7(k:Nat):Option (List Nat):=bif Nat.ble 1 k&&Nat.ble k 6 then some [k] else none
noncomputable def eJ(k:Nat):Option Nat:=bif Nat.ble 1 k&&Nat.ble k 6 then some k else bif Nat.beq k 7||Nat.beq k 8 then some 9 else none
noncomputable def oX(k:Nat)(i:Int):Option Nat:=bif Nat.ble 1 k&&Nat.ble k 6&&decide (i=0) then some k else bif Nat.beq k 10&&decide (i=0) then some 3 else bif Nat.beq k 10&&decide (i=1) then some 4 else none
noncomputable def fZ(a b:Nat):Option Bool:=bif (Nat.beq a 7||Nat.beq a 8)&&(Nat.beq b 7||Nat.beq b 8) then some (Nat.blt a b) else none
noncomputable def xD(c s:Nat):Option Bool:=bif Nat.ble 1 c&&Nat.ble c 6&&Nat.beq s 25 then some false else none
noncomputable def eH(c:Nat):Option Bool:=bif Nat.ble 1 c&&Nat.ble c 6 then some false else none
noncomputable def ql:Nat->Option AV
 | 0=>some (.tup [.tup [.sym 3,.tup [.sym 7]],.tup [.sym 3,.tup [.sym 3,.tup [.sym 7]]],.tup [.sym 4,.tup [.sym 7],.tup [.sym 8]],.tup [.sym 4,.tup [.sym 7],.tup [.sym 7]]])
 | 1=>some (.tup [.tup [.sym 6],.tup [.sym 7],.tup [.sym 5,.tup [.sym 7]]])
 | 2=>some (.tup [.sym 17,.sym 18,.sym 19])
 | _=>none
noncomputable def ag(U:En)(i:Nat)(v:AV):En:=fun j=>if j=i then some v else U j
noncomputable def eG:En->List Nat->List AV->Option En
 | U,[],[]=>some U
 | U,i::is,v::vs=>eG (ag U i v) is vs
 | _,_,_=>none
noncomputable def AO.lst:AO->Option (List AV)
 | .list vs=>some vs
 | _=>none
noncomputable def AO.dct:AO->Option (List (AV×AV))
 | .dict es=>some es
 | _=>none
noncomputable def AO.ins:AO->Option (Nat×List (Nat×AV))
 | .inst c fs=>some (c,fs)
 | _=>none
noncomputable def AO.isHid:AO->Bool
 | .hid=>true
 | _=>false
noncomputable def ai(Y:St)(r:Nat):Option (List AV):=Y[r]?.bind AO.lst
noncomputable def aM(Y:St)(r:Nat):Option (List (AV×AV)):=Y[r]?.bind AO.dct
noncomputable def dP(Y:St)(r:Nat):Option (Nat×List (Nat×AV)):=Y[r]?.bind AO.ins
theorem vS{Y:St}{r:Nat}{x:List AV}(h:ai Y r=some x):Y[r]?=some (.list x):=ae h fun a h1 h2=>by cases a<;>first | (cases h2;exact h1) | exact nomatch(show none=some x from h2)
theorem wy{Y:St}{r:Nat}{x:List (AV×AV)}(h:aM Y r=some x):Y[r]?=some (.dict x):=ae h fun a h1 h2=>by cases a<;>first | (cases h2;exact h1) | exact nomatch(show none=some x from h2)
theorem wh{Y:St}{r:Nat}{x:Nat×List (Nat×AV)}(h:dP Y r=some x):Y[r]?=some (.inst x.1 x.2):=ae h fun a h1 h2=>by cases a<;>first | (cases h2;exact h1) | exact nomatch(show none=some x from h2)
noncomputable def bU(p:aw)(v:AV)(U:En)(Y:St):Option En:=match p with
 | .one i=>some (ag U i v)
 | .many is=>(cO (bw v) ((bF v).bind (ai Y))).bind (eG U is)
noncomputable def az(es:List (AV×AV))(k:AV):Option AV:=(es.find? fun e=>decide (e.1=k)).map (·.2)
noncomputable def aT{κ:Type}[DecidableEq κ](es:List (κ×AV))(k:κ)(v:AV):List (κ×AV):=if es.any (fun e=>decide (e.1=k)) then es.map (fun e=>if e.1=k then(e.1,v) else e) else es++[(k,v)]
noncomputable def eS(es:List (AV×AV))(k:AV):List (AV×AV):=es.filter fun e=>!decide (e.1=k)
noncomputable def wm(Y:St)(v:AV)(a:Nat):Option AV:=(bF v).bind fun r=>(dP Y r).bind fun q=>q.2.lookup a
noncomputable def A7(Y:St)(o:AV)(a:Nat)(v:AV):Option St:=(bF o).bind fun r=>(dP Y r).bind fun q=>dc (decide ((aT q.2 a v).length<=100)) (Y.set r (.inst q.1 (aT q.2 a v)))
noncomputable def Bv(vs:List AV)(i:Int):Option AV:=bif decide (0<=i) then vs[i.toNat]? else none
noncomputable def oZ(Y:St)(v i:AV):Option AV:=
 cO ((bw v).bind fun vs=>(cH i).bind (Bv vs)) (cO ((dZ v).bind fun s=>(cH i).bind fun k=>(oX s k).map .sym)
  ((bF v).bind fun r=>cO ((ai Y r).bind fun vs=>(cH i).bind (Bv vs)) ((aM Y r).bind fun es=>bif i.pur then az es i else none)))
noncomputable def xX(Y:St)(o i v:AV):Option St:=(bF o).bind fun r=>
 cO ((ai Y r).bind fun vs=>(cH i).bind fun k=>dc (decide (0<=k)&&decide (k.toNat<vs.length)) (Y.set r (.list (vs.set k.toNat v))))
  ((aM Y r).bind fun es=>dc (i.pur&&decide ((aT es i v).length<=ax)) (Y.set r (.dict (aT es i v))))
noncomputable def wN(Y:St)(vs:List AV):AV×St:=(.ref Y.length,Y++[.list vs])
noncomputable def nj(Y:St)(v:AV)(k:Sl):Option (AV×St):=match k with
 | .tail=>(bw v).bind fun vs=>bif vs.isEmpty then none else some (.tup vs.tail,Y)
 | .first=>cO ((bw v).bind fun vs=>vs.head?.map fun u=>(.tup [u],Y)) (cO ((dZ v).bind fun s=>(eJ s).map fun k=>(.sym k,Y)) ((bF v).bind fun r=>(ai Y r).map fun vs=>wN Y (vs.take 1)))
 | .rev=>(bF v).bind fun r=>(ai Y r).map fun vs=>wN Y vs.reverse
 | .first30=>(Dm v).map fun vs=>wN Y (vs.take 30)
noncomputable def yV(a b:AV)(f:Int->Int->Option (AV×St)):Option (AV×St):=(cH a).bind fun i=>(cH b).bind (f i)
noncomputable def i0(op:cP)(Y:St)(a b:AV):Option (AV×St):=match op with
 | .add=>cO (yV a b fun i j=>some (.int (i+j),Y)) (cO ((bw a).bind fun x=>(bw b).bind fun y=>dc (!x.isEmpty&&decide ((x++y).length<=ax)) (.tup (x++y),Y))
   ((bF a).bind fun r=>(bF b).bind fun r'=>(ai Y r).bind fun x=>(ai Y r').bind fun y=>dc (decide ((x++y).length<=ax)) (wN Y (x++y))))
 | .sub=>yV a b fun i j=>some (.int (i-j),Y)
 | .mul=>cO (yV a b fun i j=>dc (decide (i.natAbs<2^31)&&decide (j.natAbs<2^31)) (.int (i*j),Y)) ((bF a).bind fun r=>(cH b).bind fun j=>(ai Y r).bind fun x=>dR x fun y=>dc (decide (j=1)) (wN Y [y]))
 | .mod=>yV a b fun i j=>dc (decide (0<j)) (.int (i%j),Y)
noncomputable def N6(Y:St)(a b:AV):Option Bool:=
 cO ((iw a).bind fun x=>(iw b).map fun y=>x==y) (cO (dc (a.pur&&b.pur) (decide (a=b)))
  ((bF a).bind fun r=>(bF b).bind fun r'=>(ai Y r).bind fun x=>(ai Y r').bind fun y=>dc (AV.purs x&&AV.purs y) (decide (x=y))))
noncomputable def NS(Y:St)(a b:AV):Option Bool:=
 cO ((bF b).bind fun r=>cO ((aM Y r).bind fun es=>dc a.pur (az es a).isSome) ((ai Y r).bind fun vs=>dc (a.pur&&AV.purs vs) (decide (a∈vs))))
  (cO ((bw b).bind fun vs=>dc (a.pur&&AV.purs vs) (decide (a∈vs))) ((dZ b).bind fun s=>(dZ a).bind fun c=>xD c s))
noncomputable def zL(a b:AV)(f:Int->Int->Bool):Option Bool:=(cH a).bind fun i=>(cH b).map (f i)
noncomputable def bh(op:aR)(Y:St)(a b:AV):Option Bool:=match op with
 | .eq=>N6 Y a b
 | .ne=>(N6 Y a b).map (!·)
 | .lt=>zL a b fun i j=>decide (i<j)
 | .le=>zL a b fun i j=>decide (i<=j)
 | .gt=>zL a b fun i j=>decide (i > j)
 | .ge=>zL a b fun i j=>decide (i>=j)
 | .isIn=>NS Y a b
 | .notIn=>(NS Y a b).map (!·)
 | .is=>bif nV b then cO (dc (nV a) true) (dc (bw a).isSome false) else none
noncomputable def ng(v:AV):Option Nat:=(bw v).bind fun vs=>vs.head?.bind dZ
noncomputable def BJ(a b:AV):Option Bool:=
 cO ((cH a).bind fun i=>(cH b).map fun j=>decide (i<j)) (cO ((dZ a).bind fun i=>(dZ b).bind (fZ i)) ((ng a).bind fun i=>(ng b).bind fun j=>bif Nat.beq i j then none else fZ i j))
noncomputable def bZ:List AV->Option (List AV)
 | []=>some []
 | [a]=>some [a]
 | [a,b]=>(BJ b a).map fun t=>bif t then[b,a] else[a,b]
 | _=>none
noncomputable def b7(a b:AV):Bool:=((cH a).isSome&&(cH b).isSome)||((dZ a).isSome&&(dZ b).isSome)||((bw a).isSome&&(bw b).isSome)
noncomputable def ln:List AV->Option (List AV)
 | []=>some []
 | [a]=>dc a.pur [a]
 | [a,b]=>dc (a.pur&&b.pur&&b7 a b) (bif decide (a=b) then[a] else[a,b])
 | _=>none
structure wQ where
 items:List AV
 gd:List (Nat×Option (List AV))
noncomputable def Dn:AV->Option AV
 | .enm v=>some v
 | _=>none
noncomputable def Hh:AV->Option (AV×AV)
 | .zp a b=>some (a,b)
 | _=>none
noncomputable def lB(vs:List AV):List AV:=vs.zipIdx.map fun x=>.tup [.int (x.2:Nat),x.1]
noncomputable def cV(Y:St)(v:AV):Option wQ:=
 cO ((bw v).map fun vs=>⟨vs,[]⟩) (cO ((bF v).bind fun r=>(ai Y r).map fun vs=>⟨vs,[(r,some vs)]⟩) (cO ((dZ v).bind fun k=>(f7 k).map fun cs=>⟨cs.map .sym,[]⟩)
  (cO ((x9 v).map fun n=>⟨(List.range n).map fun(i:Nat)=>.int i,[]⟩) (cO ((Dn v).bind fun u=>cO ((bw u).map fun vs=>⟨lB vs,[]⟩) ((bF u).bind fun r=>(ai Y r).map fun vs=>⟨lB vs,[(r,some vs)]⟩))
   ((Hh v).bind fun p=>(bw p.1).bind fun a=>(bw p.2).bind fun b=>a.head?.bind fun k=>(bF k).map fun k=>⟨(a.tail.zip b).map fun x=>.tup [x.1,x.2],[(k,none)]⟩)))))
noncomputable def Iu(Y:St)(g:Nat×Option (List AV)):Bool:=match g.2 with
 | some us=>decide (ai Y g.1=some us)
 | none=>(Y[g.1]?.map AO.isHid).getD false
noncomputable def ic(Y:St)(gd:List (Nat×Option (List AV))):Bool:=gd.all (Iu Y)
noncomputable def dn(p:aw)(v:AV):Bool:=match p with | .one _=>!v.isIt | .many _=>true
noncomputable abbrev Rs:=Option (AV×St)
noncomputable def nv(r:Rs):Rs:=cr r fun v Y=>bif v.isIt then none else some (v,Y)
noncomputable def jK(r:Rs):Option (Bool×St):=cr r fun v Y=>ret (iw v) Y
structure Calls where
 fn:Nat->List AV->St->Rs
noncomputable def BA:List (List (Nat×Nat)):=[[(1000,12),(35,13),(36,14),(37,15),(38,16),(39,17)],[(1000,18),(40,19),(35,20),(41,21),(42,22),(43,23),(44,24)],
 [(1000,25),(35,26),(45,27),(46,28),(47,29),(41,30),(42,31),(48,32),(49,33),(44,34),(43,35),(50,36),(51,37)],[(1000,38),(52,39),(53,40),(54,41)],[(1000,42)],[(1000,43),(55,44),(56,45),(57,46)],[(1000,47),(58,48),(59,49),(60,50),(61,51)]]
noncomputable def dp(c m:Nat):Option Nat:=BA[c]?.bind (·.lookup m)
noncomputable def IX(C:Calls)(c:Nat)(vs:List AV)(Y:St):Rs:=(dp c 1000).bind fun f=>cr (C.fn f (.ref Y.length::vs) (Y++[.inst c []])) fun u Y'=>dc (nV u) (.ref Y.length,Y')
noncomputable def kf(r m:Nat)(vs:List AV)(Y:St):Rs:=(ai Y r).bind fun xs=>
 bif Nat.beq m 27 then dR vs fun v=>dc (decide (xs.length+1<=ax)) (.none,Y.set r (.list (xs++[v])))
 else bif Nat.beq m 28 then dR vs fun v=>(bF v).bind fun r'=>(ai Y r').bind fun ys=>dc (decide (r≠r')&&decide ((xs++ys).length<=ax)) (.none,Y.set r (.list (xs++ys)))
 else bif Nat.beq m 30 then dR vs fun v=>bif v.pur&&AV.purs xs then(xs.findIdx? fun x=>decide (x=v)).map fun i=>(.int (i:Nat),Y) else none
 else bif Nat.beq m 29&&vs.isEmpty then xs.getLast?.map fun x=>(x,Y.set r (.list xs.dropLast)) else none
noncomputable def kw(r m:Nat)(vs:List AV)(Y:St):Rs:=(aM Y r).bind fun es=>
 bif Nat.beq m 31 then qQ vs fun k d=>dc k.pur ((az es k).getD d,Y)
 else bif Nat.beq m 32 then qQ vs fun k d=>bif k.pur then cO ((az es k).map fun v=>(v,Y)) (dc (decide (es.length+1<=ax)&&(az es k).isNone) (d,Y.set r (.dict (es++[(k,d)])))) else none
 else bif Nat.beq m 29 then dR vs fun k=>bif k.pur then(az es k).map fun v=>(v,Y.set r (.dict (eS es k))) else none
 else dc (Nat.beq m 34&&vs.isEmpty) (.view r,Y)
set_option genCtorIdx false in
inductive oH | fn (f:Nat) | list | dict | sym
noncomputable def fj(Y:St)(v:AV)(m:Nat):Option oH:=
 cO ((bF v).bind fun r=>cO ((dP Y r).bind fun q=>bif (q.2.lookup m).isNone then(dp q.1 m).map .fn else none) (cO ((ai Y r).map fun _=>.list) ((aM Y r).map fun _=>.dict))) ((dZ v).map fun _=>.sym)
noncomputable def ky(C:Calls)(k:oH)(v:AV)(m:Nat)(vs:List AV)(Y:St):Rs:=match k with
 | .fn f=>C.fn f (v::vs) Y
 | .list=>(bF v).bind fun r=>kf r m vs Y
 | .dict=>(bF v).bind fun r=>kw r m vs Y
 | .sym=>(dZ v).bind fun s=>bif Nat.beq m 33&&vs.isEmpty then ret ((eH s).map .bool) Y else none
noncomputable def cB:List AV->Option (List Int)
 | []=>some []
 | v::r=>(cH v).bind fun i=>(cB r).map (i::·)
noncomputable def yh(v:AV):Option (AV×AV):=(bw v).bind fun l=>qQ l fun a b=>dc a.pur (a,b)
noncomputable def fb:List AV->Option (List (AV×AV))
 | []=>some []
 | v::r=>(yh v).bind fun p=>(fb r).map (p::·)
noncomputable def cS(Y:St)(v:AV):Option (List AV):=(bF v).bind (ai Y)
noncomputable def sorted(Y:St)(xs:List AV):Rs:=(bZ xs).map fun ys=>wN Y ys
noncomputable def cn(b:aN)(vs:List AV)(Y:St):Rs:=match b with
 | .len=>dR vs fun v=>(cO (bw v) (cO (n7 v) (cS Y v))).map fun xs=>(.int xs.length,Y)
 | .int=>dR vs fun v=>(iw v).map fun b=>(.int (bif b then 1 else 0),Y)
 | .max=>dR vs fun v=>(cS Y v).bind fun xs=>(cB xs).bind fun is=>is.head?.map fun i=>(.int (is.tail.foldl max i),Y)
 | .sum=>dR vs fun v=>(cS Y v).bind fun xs=>(cB xs).map fun is=>(.int is.sum,Y)
 | .dict=>dR vs fun v=>cO ((bF v).bind fun r=>(aM Y r).bind fun es=>dc (decide (es.length<=8)&&es.all (fun e=>e.1.isSym)) (.ref Y.length,Y++[.dict es]))
   ((bw v).bind fun xs=>(fb xs).bind fun ps=>dc (decide (ps.length<=8)) (.ref Y.length,Y++[.dict (ps.foldl (fun es p=>aT es p.1 p.2) [])]))
 | .sorted=>dR vs fun v=>cO ((cS Y v).bind (sorted Y)) (cO ((n7 v).bind (sorted Y)) (cO ((bF v).bind fun r=>(aM Y r).bind fun es=>sorted Y (es.map (·.1)))
   ((w8 v).bind fun r=>(aM Y r).bind fun es=>bif es.all (fun e=>e.1.isSym) then sorted Y (es.map fun e=>.tup [e.1,e.2]) else none)))
 | .set=>dR vs fun v=>(cS Y v).bind fun xs=>(ln xs).map fun ys=>(.fset ys,Y)
 | .listOf=>dR vs fun v=>cO ((bw v).map (wN Y)) (cO ((cS Y v).map (wN Y)) ((x9 v).map fun n=>wN Y ((List.range n).map fun(i:Nat)=>.int i)))
 | .tupleOf=>dR vs fun v=>(cO (bw v) (cS Y v)).map fun xs=>(.tup xs,Y)
 | .range=>dR vs fun v=>(cH v).bind fun i=>dc (decide (0<=i)&&decide (i<=50000)) (.rng i.toNat,Y)
 | .enum=>dR vs fun v=>(cO (bw v) (cS Y v)).map fun _=>(.enm v,Y)
 | .zip=>qQ vs fun v u=>(bw v).bind fun a=>(bw u).map fun b=>(.zp (.tup (.ref Y.length::a)) (.tup b),Y++[.hid])
noncomputable def Dp(t:Bool)(k:St->Option (List AV×St))(e:Option (List AV×St))(Y:St):Option (List AV×St):=bif t then cr e fun xs Y2=>cr (k Y2) fun ys Y3=>some (xs++ys,Y3) else k Y
noncomputable def bx(gd:List (Nat×Option (List AV)))(p:aw)(U:En)(conds:En->St->Option (Bool×St))(elt:En->St->Option (List AV×St)):List AV->St->Option (List AV×St)
 | [],Y=>dc (ic Y gd) ([],Y)
 | v::vs,Y=>bif ic Y gd then(bU p v U Y).bind fun U'=>cr (conds U' Y) fun t Y1=>Dp t (bx gd p U conds elt vs) (elt U' Y1) Y1 else none
noncomputable def one(r:Rs):Option (List AV×St):=cr (nv r) fun v Y=>some ([v],Y)
mutual
noncomputable def ar(C:Calls):X->En->St->Rs
 | .cst c,_,Y=>some (c.av,Y)
 | .loc i,U,Y=>ret (U i) Y
 | .glob k,_,Y=>ret (ql k) Y
 | .attr e a,U,Y=>cr (nv (ar C e U Y)) fun v Y1=>ret (wm Y1 v a) Y1
 | .sub e i,U,Y=>cr (nv (ar C e U Y)) fun v Y1=>cr (nv (ar C i U Y1)) fun k Y2=>ret (oZ Y2 v k) Y2
 | .slc e k,U,Y=>cr (nv (ar C e U Y)) fun v Y1=>nj Y1 v k
 | .neg e,U,Y=>cr (ar C e U Y) fun v Y1=>ret ((cH v).map fun i=>.int (-i)) Y1
 | .bin op a b,U,Y=>cr (nv (ar C a U Y)) fun v Y1=>cr (nv (ar C b U Y1)) fun u Y2=>i0 op Y2 v u
 | .cmp op a b,U,Y=>cr (nv (ar C a U Y)) fun v Y1=>cr (nv (ar C b U Y1)) fun u Y2=>ret ((bh op Y2 v u).map .bool) Y2
 | .cmp2 op op' a b c,U,Y=>cr (nv (ar C a U Y)) fun v Y1=>cr (nv (ar C b U Y1)) fun u Y2=>(bh op Y2 v u).bind fun t=>
   bif t then cr (nv (ar C c U Y2)) fun w Y3=>ret ((bh op' Y3 u w).map .bool) Y3 else some (.bool false,Y2)
 | .and a b,U,Y=>cr (jK (ar C a U Y)) fun t Y1=>bif t then cr (jK (ar C b U Y1)) fun t Y2=>some (.bool t,Y2) else some (.bool false,Y1)
 | .or a b,U,Y=>cr (jK (ar C a U Y)) fun t Y1=>bif t then some (.bool true,Y1) else cr (jK (ar C b U Y1)) fun t Y2=>some (.bool t,Y2)
 | .not a,U,Y=>cr (jK (ar C a U Y)) fun t Y1=>some (.bool (!t),Y1)
 | .ite c a b,U,Y=>cr (jK (ar C c U Y)) fun t Y1=>bif t then nv (ar C a U Y1) else nv (ar C b U Y1)
 | .tup es,U,Y=>cr (cT C es U Y) fun vs Y1=>dc (decide (vs.length<=50)) (.tup vs,Y1)
 | .lst es,U,Y=>cr (cT C es U Y) fun vs Y1=>dc (decide (vs.length<=50)) (wN Y1 vs)
 | .dct ks es,U,Y=>cr (cT C es U Y) fun vs Y1=>dc (decide ks.Nodup&&decide (ks.length=vs.length)&&decide (vs.length<=10)) (.ref Y1.length,Y1++[.dict ((ks.map .sym).zip vs)])
 | .call f es,U,Y=>cr (cT C es U Y) (C.fn f)
 | .new c es,U,Y=>cr (cT C es U Y) (IX C c)
 | .meth e m es,U,Y=>cr (nv (ar C e U Y)) fun v Y1=>(fj Y1 v m).bind fun k=>cr (cT C es U Y1) (ky C k v m)
 | .blt b es,U,Y=>cr (cT C es U Y) (cn b)
 | .comp e p it cs,U,Y=>cr (ar C it U Y) fun v Y1=>bif dn p v then(cV Y1 v).bind fun s=>cr (bx s.gd p U (Cp C cs) (fun U' Y'=>one (ar C e U' Y')) s.items Y1) fun vs Y2=>dc (decide (vs.length<=ax)) (wN Y2 vs) else none
 | .comp2 e p it p' it',U,Y=>cr (ar C it U Y) fun v Y1=>bif dn p v then(cV Y1 v).bind fun s=>cr (bx s.gd p U (fun _ Y'=>some (true,Y')) (fun U' Y'=>cr (ar C it' U' Y') fun u Y3=>
   bif dn p' u then(cV Y3 u).bind fun s'=>bx s'.gd p' U' (fun _ Y'=>some (true,Y')) (fun U'' Y'=>one (ar C e U'' Y')) s'.items Y3 else none) s.items Y1) fun vs Y2=>dc (decide (vs.length<=ax)) (wN Y2 vs) else none
noncomputable def cT(C:Calls):List X->En->St->Option (List AV×St)
 | [],_,Y=>some ([],Y)
 | e::r,U,Y=>cr (nv (ar C e U Y)) fun v Y1=>cr (cT C r U Y1) fun vs Y2=>some (v::vs,Y2)
noncomputable def Cp(C:Calls):List X->En->St->Option (Bool×St)
 | [],_,Y=>some (true,Y)
 | e::r,U,Y=>cr (jK (ar C e U Y)) fun t Y1=>bif t then Cp C r U Y1 else some (false,Y1)
end
noncomputable abbrev Fl:=Option AV
noncomputable abbrev RS:=Option (Fl×En×St)
noncomputable def vm(x:RS)(f:En->St->RS):RS:=x.bind fun q=>match q.1 with
 | none=>f q.2.1 q.2.2
 | some _=>x
theorem Ew{x:RS}{f:En->St->RS}{r:Fl×En×St}{P:Prop}(h:vm x f=some r)(k1:∀ U1 Y1,x=some (none,U1,Y1)->f U1 Y1=some r->P)(k2:∀ v U1 Y1,r=(some v,U1,Y1)->x=some (some v,U1,Y1)->P):P:=
 ae h fun q=>match q with
  | (none,U1,Y1)=>k1 U1 Y1
  | (some v,U1,Y1)=>fun e h=>k2 v U1 Y1 (SQ (h.symm.trans e)) e
noncomputable def dL(t:En->St->Option (Bool×St))(b:En->St->RS):Nat->En->St->RS
 | 0,_,_=>none
 | n+1,U,Y=>cr (t U Y) fun c Y1=>bif c then vm (b U Y1) (dL t b n) else some (none,U,Y1)
noncomputable def dQ(gd:List (Nat×Option (List AV)))(p:aw)(b:En->St->RS):List AV->En->St->RS
 | [],U,Y=>dc (ic Y gd) (none,U,Y)
 | v::vs,U,Y=>bif ic Y gd then(bU p v U Y).bind fun U'=>vm (b U' Y) (dQ gd p b vs) else none
noncomputable def bA:Nat:=4000
mutual
noncomputable def dS(C:Calls):S->En->St->RS
 | .expr e,U,Y=>cr (nv (ar C e U Y)) fun _ Y1=>some (none,U,Y1)
 | .ret e,U,Y=>cr (nv (ar C e U Y)) fun v Y1=>some (some v,U,Y1)
 | .retNone,U,Y=>some (some .none,U,Y)
 | .asg p e,U,Y=>cr (nv (ar C e U Y)) fun v Y1=>(bU p v U Y1).map fun U'=>(none,U',Y1)
 | .setAttr o a e,U,Y=>cr (nv (ar C e U Y)) fun v Y1=>cr (nv (ar C o U Y1)) fun u Y2=>(A7 Y2 u a v).map fun Y3=>(none,U,Y3)
 | .setSub o i e,U,Y=>cr (nv (ar C e U Y)) fun v Y1=>cr (nv (ar C o U Y1)) fun u Y2=>cr (nv (ar C i U Y2)) fun k Y3=>(xX Y3 u k v).map fun Y4=>(none,U,Y4)
 | .ite c a b,U,Y=>cr (jK (ar C c U Y)) fun t Y1=>bif t then bm C a U Y1 else bm C b U Y1
 | .whl c b,U,Y=>dL (fun U Y=>jK (ar C c U Y)) (bm C b) bA U Y
 | .for_ p it b,U,Y=>cr (ar C it U Y) fun v Y1=>bif dn p v then(cV Y1 v).bind fun s=>dQ s.gd p (bm C b) s.items U Y1 else none
 | .raise,_,_=>none
noncomputable def bm(C:Calls):List S->En->St->RS
 | [],U,Y=>some (none,U,Y)
 | s::r,U,Y=>vm (dS C s U Y) (bm C r)
end
noncomputable abbrev Ou:=List (Nat×List S)
noncomputable def ay(P:Ou):Nat->Nat->List AV->St->Rs
 | 0,_,_,_=>none
 | n+1,f,vs,Y=>P[f]?.bind fun q=>bif decide (vs.length=q.1) then(bm ⟨ay P n⟩ q.2 (fun i=>vs[i]?) Y).map fun r=>(r.1.getD .none,r.2.2) else none
noncomputable def CK:Nat×List S:=(1,[S.ret (X.and (X.cmp aR.ne (X.loc 0) (X.cst (al.sym 0))) (X.cmp aR.eq (X.comp (X.loc 2) (aw.one 2) (X.loc 0) [X.or (X.meth (X.loc 2) 33 []) (X.cmp aR.isIn (X.loc 2) (X.cst (al.sym 25)))]) (X.lst [])))])
noncomputable def lN:Nat×List S:=(1,[S.ret (X.and (X.cmp aR.eq (X.blt aN.len [X.loc 0]) (X.cst (al.int 1))) (X.cmp aR.eq (X.slc (X.sub (X.loc 0) (X.cst (al.int 0))) Sl.first) (X.cst (al.sym 9))))])
noncomputable def qF:Nat×List S:=(1,[S.ret (X.blt aN.sorted [X.blt aN.set [X.comp (X.sub (X.loc 3) (X.cst (al.int 0))) (aw.many [2,3]) (X.call 3 [X.loc 0]) [X.call 1 [X.loc 3]]]])])
noncomputable def CJ:Nat×List S:=(1,[S.asg (aw.one 1) (X.lst [X.tup [X.tup [],X.loc 0]]),S.for_ (aw.many [2,3]) (X.blt aN.enum [X.slc (X.loc 0) Sl.tail]) [S.expr (X.meth (X.loc 1) 28 [X.comp (X.tup [X.bin cP.add (X.tup [X.loc 2]) (X.loc 5),X.loc 6]) (aw.many [5,6]) (X.call 3 [X.loc 3]) []])],S.ret (X.loc 1)])
noncomputable def tf:Nat×List S:=(2,[S.asg (aw.one 2) (X.sub (X.loc 0) (X.cst (al.sym 24))),S.setSub (X.loc 0) (X.cst (al.sym 24)) (X.bin cP.add (X.loc 2) (X.cst (al.int 1))),S.ite (X.cmp aR.lt (X.loc 2) (X.blt aN.len [X.sub (X.loc 0) (X.cst (al.sym 23))])) [S.ret (X.bin cP.mod (X.sub (X.sub (X.loc 0) (X.cst (al.sym 23))) (X.loc 2)) (X.loc 1))] [],S.ret (X.bin cP.mod (X.bin cP.mod (X.bin cP.add (X.bin cP.add (X.bin cP.mul (X.bin cP.mul (X.cst (al.int 4)) (X.loc 2)) (X.loc 2)) (X.bin cP.mul (X.cst (al.int 3)) (X.loc 2))) (X.cst (al.int 5))) (X.cst (al.int 73))) (X.loc 1))])
noncomputable def ow:Nat×List S:=(1,[S.asg (aw.one 1) (X.lst [X.tup [X.cst (al.sym 1)],X.tup [X.cst (al.sym 2)]]),S.for_ (aw.one 2) (X.blt aN.range [X.bin cP.add (X.cst (al.int 2)) (X.call 4 [X.loc 0,X.cst (al.int 4)])]) [S.asg (aw.one 3) (X.bin cP.add (X.cst (al.int 1)) (X.call 4 [X.loc 0,X.cst (al.int 2)])),S.asg (aw.one 4) (X.bin cP.add (X.tup [X.sub (X.cst (al.sym 10)) (X.bin cP.sub (X.loc 3) (X.cst (al.int 1)))]) (X.blt aN.tupleOf [X.comp (X.call 4 [X.loc 0,X.blt aN.len [X.loc 1]]) (aw.one 6) (X.blt aN.range [X.loc 3]) []])),S.ite (X.cmp aR.notIn (X.loc 4) (X.loc 1)) [S.expr (X.meth (X.loc 1) 27 [X.loc 4])] []],S.ret (X.loc 1)])
noncomputable def lO:Nat×List S:=(2,[S.asg (aw.one 2) (X.lst []),S.for_ (aw.many [3,4]) (X.blt aN.enum [X.loc 0]) [S.ite (X.and (X.cmp2 aR.eq aR.eq (X.sub (X.loc 4) (X.cst (al.int 0))) (X.sub (X.loc 1) (X.cst (al.int 0))) (X.cst (al.sym 4))) (X.or (X.cmp aR.ne (X.sub (X.loc 1) (X.cst (al.int 1))) (X.sub (X.loc 1) (X.cst (al.int 2)))) (X.cmp aR.eq (X.sub (X.loc 4) (X.cst (al.int 1))) (X.sub (X.loc 4) (X.cst (al.int 2)))))) [S.expr (X.meth (X.loc 2) 27 [X.tup [X.loc 3,X.blt aN.tupleOf [X.blt aN.sorted [X.blt aN.set [X.lst [X.tup [X.sub (X.sub (X.loc 1) (X.cst (al.int 1))) (X.cst (al.int 0)),X.sub (X.loc 4) (X.cst (al.int 1))],X.tup [X.sub (X.sub (X.loc 1) (X.cst (al.int 2))) (X.cst (al.int 0)),X.sub (X.loc 4) (X.cst (al.int 2))]]]]]]])] [],S.ite (X.cmp2 aR.eq aR.eq (X.sub (X.loc 4) (X.cst (al.int 0))) (X.sub (X.loc 1) (X.cst (al.int 0))) (X.cst (al.sym 3))) [S.asg (aw.one 5) (X.sub (X.loc 0) (X.sub (X.loc 4) (X.cst (al.int 1)))),S.ite (X.cmp aR.eq (X.sub (X.sub (X.loc 1) (X.cst (al.int 1))) (X.cst (al.int 0))) (X.cst (al.sym 7))) [S.expr (X.meth (X.loc 2) 27 [X.tup [X.loc 3,X.tup [X.tup [X.cst (al.sym 7),X.sub (X.loc 4) (X.cst (al.int 1))]]]])] [S.ite (X.cmp aR.eq (X.sub (X.loc 5) (X.cst (al.int 0))) (X.cst (al.sym 3))) [S.expr (X.meth (X.loc 2) 27 [X.tup [X.loc 3,X.tup [X.tup [X.cst (al.sym 7),X.sub (X.loc 5) (X.cst (al.int 1))]]]])] []]] []],S.ret (X.loc 2)])
noncomputable def ou:Nat×List S:=(3,[S.asg (aw.one 3) (X.ite (X.cmp aR.eq (X.loc 1) (X.tup [X.cst (al.sym 6)])) (X.tup [X.cst (al.sym 6)]) (X.tup [X.cst (al.sym 5),X.loc 2])),S.ite (X.cmp aR.eq (X.loc 1) (X.tup [X.cst (al.sym 7)])) [S.ret (X.loc 2)] [],S.ite (X.cmp aR.notIn (X.loc 3) (X.sub (X.loc 0) (X.cst (al.sym 20)))) [S.expr (X.meth (X.sub (X.loc 0) (X.cst (al.sym 20))) 27 [X.loc 3])] [],S.ret (X.meth (X.sub (X.loc 0) (X.cst (al.sym 20))) 30 [X.loc 3])])
noncomputable def qG:Nat×List S:=(4,[S.asg (aw.one 4) (X.ite (X.loc 3) (X.call 10 [X.loc 0]) (X.blt aN.listOf [X.blt aN.range [X.blt aN.len [X.sub (X.loc 0) (X.cst (al.sym 20))]]])),S.for_ (aw.many [5,6]) (X.sub (X.loc 0) (X.cst (al.sym 22))) [S.asg (aw.one 4) (X.comp (X.ite (X.cmp aR.eq (X.loc 8) (X.sub (X.loc 4) (X.loc 6))) (X.sub (X.loc 4) (X.loc 5)) (X.loc 8)) (aw.one 8) (X.loc 4) [])],S.ret (X.cmp aR.eq (X.sub (X.loc 4) (X.loc 1)) (X.sub (X.loc 4) (X.loc 2)))])
noncomputable def qH:Nat×List S:=(3,[S.asg (aw.many [3,4]) (X.loc 2),S.asg (aw.many [5,6]) (X.tup [X.sub (X.blt aN.dict [X.loc 4]) (X.cst (al.sym 7)),X.cmp aR.ne (X.attr (X.loc 1) 18) (X.tup [])]),S.ite (X.and (X.loc 6) (X.cmp aR.ne (X.call 8 [X.loc 0,X.loc 5,X.cst (al.int 0),X.cst (al.bool true)]) (X.cmp aR.eq (X.sub (X.sub (X.attr (X.loc 1) 18) (X.cst (al.int 0))) (X.cst (al.int 0))) (X.cst (al.sym 11))))) [S.ret (X.cst (al.bool false))] [],S.asg (aw.one 7) (X.call 7 [X.loc 0,X.attr (X.loc 1) 17,X.loc 5]),S.ite (X.call 8 [X.loc 0,X.loc 3,X.loc 7,X.loc 6]) [S.ret (X.cst (al.bool false))] [],S.expr (X.meth (X.sub (X.loc 0) (X.cst (al.sym 22))) 27 [X.tup [X.loc 3,X.loc 7]]),S.ret (X.cst (al.bool true))])
noncomputable def ox:Nat×List S:=(1,[S.asg (aw.many [1,2,3]) (X.tup [X.sub (X.loc 0) (X.cst (al.sym 20)),X.blt aN.listOf [X.blt aN.range [X.blt aN.len [X.sub (X.loc 0) (X.cst (al.sym 20))]]],X.cst (al.bool true)]),S.whl (X.loc 3) [S.asg (aw.many [4,3,5]) (X.tup [X.dct [] [],X.cst (al.bool false),X.blt aN.listOf [X.sub (X.loc 0) (X.cst (al.sym 22))]]),S.for_ (aw.many [6,7]) (X.blt aN.enum [X.loc 1]) [S.expr (X.meth (X.loc 5) 27 [X.tup [X.meth (X.loc 4) 32 [X.bin cP.add (X.slc (X.loc 7) Sl.first) (X.blt aN.tupleOf [X.comp (X.sub (X.loc 2) (X.loc 13)) (aw.one 13) (X.slc (X.loc 7) Sl.tail) []]),X.loc 6],X.loc 6]])],S.for_ (aw.many [8,9]) (X.loc 5) [S.asg (aw.many [10,11]) (X.blt aN.sorted [X.lst [X.sub (X.loc 2) (X.loc 8),X.sub (X.loc 2) (X.loc 9)]]),S.ite (X.cmp aR.ne (X.loc 10) (X.loc 11)) [S.asg (aw.many [2,3]) (X.tup [X.comp (X.ite (X.cmp aR.eq (X.loc 13) (X.loc 11)) (X.loc 10) (X.loc 13)) (aw.one 13) (X.loc 2) [],X.cst (al.bool true)])] []]],S.ret (X.loc 2)])
noncomputable def eE:Nat×List S:=(1,[S.asg (aw.many [1,2]) (X.tup [X.dct [23,24] [X.blt aN.listOf [X.slc (X.loc 0) Sl.first30],X.cst (al.int 0)],X.new 2 []]),S.asg (aw.one 3) (X.dct [20,22] [X.call 5 [X.loc 1],X.lst []]),S.for_ (aw.one 4) (X.sub (X.loc 3) (X.cst (al.sym 20))) [S.expr (X.meth (X.loc 2) 46 [X.sub (X.loc 4) (X.cst (al.int 0)),X.slc (X.loc 4) Sl.tail])],S.asg (aw.many [5,6]) (X.tup [X.sub (X.glob 0) (X.call 4 [X.loc 1,X.cst (al.int 4)]),X.sub (X.glob 1) (X.call 4 [X.loc 1,X.cst (al.int 3)])]),S.asg (aw.one 7) (X.ite (X.cmp aR.ne (X.sub (X.loc 6) (X.cst (al.int 0))) (X.cst (al.sym 6))) (X.call 4 [X.loc 1,X.cst (al.int 4)]) (X.cst (al.int 0))),S.asg (aw.one 8) (X.ite (X.cmp aR.gt (X.loc 7) (X.cst (al.int 1))) (X.tup [X.tup [X.ite (X.cmp aR.eq (X.loc 7) (X.cst (al.int 2))) (X.cst (al.sym 11)) (X.cst (al.sym 12)),X.tup [X.cst (al.sym 7)],X.tup [X.cst (al.sym 1)]]]) (X.tup [])),S.asg (aw.one 9) (X.bin cP.sub (X.bin cP.add (X.meth (X.loc 2) 35 []) (X.ite (X.cmp aR.eq (X.call 4 [X.loc 1,X.cst (al.int 3)]) (X.cst (al.int 2))) (X.call 4 [X.loc 1,X.cst (al.int 4)]) (X.cst (al.int 40)))) (X.cst (al.int 1))),S.asg (aw.one 10) (X.new 4 [X.cst (al.sym 15),X.loc 5,X.loc 6,X.loc 8]),S.asg (aw.one 11) (X.new 6 [X.loc 2,X.lst [X.loc 10],X.dct [20] [X.loc 9]]),S.asg (aw.one 12) (X.call 6 [X.sub (X.loc 3) (X.cst (al.sym 20)),X.loc 5]),S.ite (X.cmp aR.ne (X.meth (X.loc 11) 59 [X.cst (al.int 0)]) (X.loc 12)) [S.ret (X.cst (al.bool false))] [],S.ite (X.cmp aR.eq (X.call 4 [X.loc 1,X.cst (al.int 2)]) (X.cst (al.int 1))) [S.asg (aw.one 12) (X.slc (X.loc 12) Sl.rev)] [],S.ite (X.and (X.cmp aR.ne (X.loc 12) (X.lst [])) (X.cmp aR.eq (X.call 4 [X.loc 1,X.cst (al.int 2)]) (X.cst (al.int 0)))) [S.asg (aw.one 12) (X.bin cP.add (X.loc 12) (X.slc (X.loc 12) Sl.first))] [],S.ite (X.and (X.cmp aR.ne (X.loc 12) (X.lst [])) (X.cmp aR.ne (X.meth (X.loc 11) 60 [X.loc 10,X.sub (X.sub (X.loc 12) (X.cst (al.int 0))) (X.cst (al.int 1))]) (X.call 9 [X.loc 3,X.loc 10,X.sub (X.loc 12) (X.cst (al.int 0))]))) [S.ret (X.cst (al.bool false))] [],S.asg (aw.one 13) (X.cst (al.int 0)),S.for_ (aw.one 14) (X.loc 12) [S.ite (X.cmp aR.le (X.blt aN.len [X.sub (X.loc 3) (X.cst (al.sym 20))]) (X.loc 9)) [S.asg (aw.one 13) (X.bin cP.add (X.loc 13) (X.blt aN.int [X.call 9 [X.loc 3,X.loc 10,X.loc 14]]))] []],S.ite (X.or (X.cmp aR.ne (X.meth (X.loc 11) 61 [X.cst (al.int 0),X.loc 12]) (X.loc 13)) (X.cmp aR.ne (X.attr (X.loc 11) 23) (X.lst [X.tup [X.cst (al.int 0),X.cst (al.sym 15),X.blt aN.len [X.loc 12],X.loc 13]]))) [S.ret (X.cst (al.bool false))] [],S.expr (X.meth (X.loc 2) 49 []),S.ret (X.and (X.cmp aR.eq (X.meth (X.loc 2) 35 []) (X.blt aN.len [X.sub (X.loc 3) (X.cst (al.sym 20))])) (X.cmp aR.eq (X.comp (X.meth (X.loc 2) 41 [X.loc 16]) (aw.one 16) (X.blt aN.range [X.meth (X.loc 2) 35 []]) []) (X.call 10 [X.loc 3])))])
noncomputable def i8:Nat×List S:=(1,[S.setAttr (X.loc 0) 0 (X.lst []),S.setAttr (X.loc 0) 1 (X.dct [] []),S.setAttr (X.loc 0) 2 (X.lst []),S.setAttr (X.loc 0) 3 (X.lst [])])
noncomputable def qO:Nat×List S:=(1,[S.ret (X.blt aN.len [X.attr (X.loc 0) 0])])
noncomputable def qN:Nat×List S:=(3,[S.asg (aw.one 3) (X.bin cP.add (X.tup [X.loc 1]) (X.blt aN.tupleOf [X.loc 2])),S.ite (X.cmp aR.isIn (X.loc 3) (X.attr (X.loc 0) 1)) [S.ret (X.sub (X.attr (X.loc 0) 1) (X.loc 3))] [],S.expr (X.meth (X.loc 0) 37 [X.loc 1]),S.for_ (aw.one 4) (X.slc (X.loc 3) Sl.tail) [S.ite (X.not (X.cmp2 aR.le aR.lt (X.cst (al.int 0)) (X.loc 4) (X.blt aN.len [X.attr (X.loc 0) 0]))) [S.raise] []],S.setSub (X.attr (X.loc 0) 1) (X.loc 3) (X.blt aN.len [X.attr (X.loc 0) 0]),S.expr (X.meth (X.attr (X.loc 0) 0) 27 [X.loc 3]),S.expr (X.meth (X.attr (X.loc 0) 2) 27 [X.bin cP.add (X.cst (al.int 1)) (X.blt aN.sum [X.comp (X.sub (X.attr (X.loc 0) 2) (X.loc 6)) (aw.one 6) (X.slc (X.loc 3) Sl.tail) []])]),S.expr (X.meth (X.attr (X.loc 0) 3) 27 [X.bin cP.add (X.cst (al.int 1)) (X.blt aN.max [X.bin cP.add (X.comp (X.sub (X.attr (X.loc 0) 3) (X.loc 6)) (aw.one 6) (X.slc (X.loc 3) Sl.tail) []) (X.lst [X.cst (al.int 0)])])]),S.ret (X.bin cP.sub (X.blt aN.len [X.attr (X.loc 0) 0]) (X.cst (al.int 1)))])
noncomputable def kO:Nat×List S:=(2,[S.ite (X.or (X.not (X.call 0 [X.loc 1])) (X.cmp aR.eq (X.sub (X.loc 1) (X.cst (al.int 0))) (X.cst (al.sym 9)))) [S.raise] []])
noncomputable def wE:Nat×List S:=(2,[S.ret (X.sub (X.sub (X.attr (X.loc 0) 0) (X.loc 1)) (X.cst (al.int 0)))])
noncomputable def qP:Nat×List S:=(2,[S.ret (X.slc (X.sub (X.attr (X.loc 0) 0) (X.loc 1)) Sl.tail)])
noncomputable def gN:Nat×List S:=(1,[S.setAttr (X.loc 0) 4 (X.lst []),S.setAttr (X.loc 0) 5 (X.lst []),S.setAttr (X.loc 0) 6 (X.lst [])])
noncomputable def lQ:Nat×List S:=(1,[S.expr (X.meth (X.attr (X.loc 0) 4) 27 [X.blt aN.len [X.attr (X.loc 0) 4]]),S.expr (X.meth (X.attr (X.loc 0) 5) 27 [X.lst [X.blt aN.len [X.attr (X.loc 0) 5]]]),S.ret (X.bin cP.sub (X.blt aN.len [X.attr (X.loc 0) 4]) (X.cst (al.int 1)))])
noncomputable def lP:Nat×List S:=(1,[S.ret (X.blt aN.len [X.attr (X.loc 0) 4])])
noncomputable def lR:Nat×List S:=(2,[S.whl (X.cmp aR.ne (X.sub (X.attr (X.loc 0) 4) (X.loc 1)) (X.loc 1)) [S.asg (aw.one 1) (X.sub (X.attr (X.loc 0) 4) (X.loc 1))],S.ret (X.loc 1)])
noncomputable def kI:Nat×List S:=(3,[S.asg (aw.many [3,4]) (X.blt aN.sorted [X.lst [X.meth (X.loc 0) 41 [X.loc 1],X.meth (X.loc 0) 41 [X.loc 2]]]),S.ite (X.cmp aR.eq (X.loc 3) (X.loc 4)) [S.ret (X.cst (al.none))] [],S.setSub (X.attr (X.loc 0) 4) (X.loc 4) (X.loc 3),S.expr (X.meth (X.sub (X.attr (X.loc 0) 5) (X.loc 3)) 28 [X.sub (X.attr (X.loc 0) 5) (X.loc 4)]),S.expr (X.meth (X.attr (X.loc 0) 6) 27 [X.tup [X.loc 3,X.loc 4]]),S.ret (X.tup [X.loc 3,X.loc 4])])
noncomputable def iA:Nat×List S:=(2,[S.ret (X.blt aN.sorted [X.sub (X.attr (X.loc 0) 5) (X.meth (X.loc 0) 41 [X.loc 1])])])
noncomputable def iB:Nat×List S:=(1,[S.ret (X.comp (X.loc 2) (aw.one 2) (X.blt aN.range [X.blt aN.len [X.attr (X.loc 0) 4]]) [X.cmp aR.eq (X.sub (X.attr (X.loc 0) 4) (X.loc 2)) (X.loc 2)])])
noncomputable def i7:Nat×List S:=(1,[S.setAttr (X.loc 0) 7 (X.new 0 []),S.setAttr (X.loc 0) 8 (X.new 1 []),S.setAttr (X.loc 0) 9 (X.lst []),S.setAttr (X.loc 0) 10 (X.lst []),S.setAttr (X.loc 0) 11 (X.dct [] []),S.setAttr (X.loc 0) 4 (X.dct [] []),S.setAttr (X.loc 0) 12 (X.lst []),S.setAttr (X.loc 0) 13 (X.cst (al.int 0))])
noncomputable def qI:Nat×List S:=(1,[S.ret (X.meth (X.attr (X.loc 0) 7) 35 [])])
noncomputable def qK:Nat×List S:=(2,[S.ret (X.bin cP.add (X.tup [X.meth (X.attr (X.loc 0) 7) 38 [X.loc 1]]) (X.blt aN.tupleOf [X.comp (X.meth (X.loc 0) 41 [X.loc 3]) (aw.one 3) (X.meth (X.attr (X.loc 0) 7) 39 [X.loc 1]) []]))])
noncomputable def tg:Nat×List S:=(3,[S.asg (aw.one 3) (X.meth (X.attr (X.loc 0) 7) 36 [X.loc 1,X.loc 2]),S.ite (X.cmp aR.lt (X.loc 3) (X.meth (X.attr (X.loc 0) 8) 35 [])) [S.ret (X.loc 3)] [],S.expr (X.meth (X.attr (X.loc 0) 8) 40 []),S.setSub (X.attr (X.loc 0) 4) (X.loc 3) (X.lst []),S.for_ (aw.one 4) (X.blt aN.sorted [X.blt aN.set [X.comp (X.meth (X.loc 0) 41 [X.loc 6]) (aw.one 6) (X.loc 2) []]]) [S.expr (X.meth (X.sub (X.attr (X.loc 0) 4) (X.loc 4)) 27 [X.loc 3])],S.expr (X.meth (X.loc 0) 47 [X.loc 3]),S.ret (X.loc 3)])
noncomputable def kM:Nat×List S:=(2,[S.asg (aw.one 2) (X.meth (X.attr (X.loc 0) 11) 32 [X.meth (X.loc 0) 45 [X.loc 1],X.loc 1]),S.ite (X.cmp aR.ne (X.meth (X.loc 0) 41 [X.loc 2]) (X.meth (X.loc 0) 41 [X.loc 1])) [S.expr (X.meth (X.loc 0) 48 [X.loc 2,X.loc 1,X.tup [X.cst (al.sym 14)]])] []])
noncomputable def qM:Nat×List S:=(2,[S.ret (X.meth (X.attr (X.loc 0) 8) 41 [X.loc 1])])
noncomputable def oz:Nat×List S:=(4,[S.ret (X.meth (X.loc 0) 48 [X.loc 1,X.loc 2,X.loc 3])])
noncomputable def qL:Nat×List S:=(4,[S.expr (X.meth (X.attr (X.loc 0) 9) 27 [X.tup [X.loc 1,X.loc 2,X.loc 3]]),S.asg (aw.one 4) (X.meth (X.attr (X.loc 0) 8) 42 [X.loc 1,X.loc 2]),S.ite (X.cmp aR.is (X.loc 4) (X.cst (al.none))) [S.ret (X.cst (al.bool false))] [],S.asg (aw.many [5,6]) (X.loc 4),S.expr (X.meth (X.attr (X.loc 0) 10) 27 [X.bin cP.sub (X.blt aN.len [X.attr (X.loc 0) 9]) (X.cst (al.int 1))]),S.expr (X.meth (X.attr (X.loc 0) 12) 28 [X.sub (X.attr (X.loc 0) 4) (X.loc 6)]),S.setSub (X.attr (X.loc 0) 4) (X.loc 5) (X.bin cP.add (X.sub (X.attr (X.loc 0) 4) (X.loc 5)) (X.meth (X.attr (X.loc 0) 4) 29 [X.loc 6])),S.ret (X.cst (al.bool true))])
noncomputable def lS:Nat×List S:=(1,[S.whl (X.cmp aR.gt (X.blt aN.len [X.attr (X.loc 0) 12]) (X.cst (al.int 0))) [S.expr (X.meth (X.loc 0) 47 [X.meth (X.attr (X.loc 0) 12) 29 []])]])
noncomputable def kN:Nat×List S:=(1,[S.ret (X.meth (X.attr (X.loc 0) 8) 44 [])])
noncomputable def kL:Nat×List S:=(2,[S.ret (X.meth (X.attr (X.loc 0) 8) 43 [X.loc 1])])
noncomputable def i6:Nat×List S:=(2,[S.ret (X.blt aN.sorted [X.blt aN.set [X.comp (X.meth (X.loc 0) 45 [X.loc 3]) (aw.one 3) (X.meth (X.loc 0) 43 [X.loc 1]) []]])])
noncomputable def qJ:Nat×List S:=(3,[S.asg (aw.one 3) (X.meth (X.attr (X.loc 0) 11) 31 [X.bin cP.add (X.tup [X.loc 1]) (X.blt aN.tupleOf [X.comp (X.meth (X.loc 0) 41 [X.loc 5]) (aw.one 5) (X.loc 2) []]),X.neg (X.cst (al.int 1))]),S.ret (X.ite (X.cmp aR.lt (X.loc 3) (X.cst (al.int 0))) (X.neg (X.cst (al.int 1))) (X.meth (X.loc 0) 41 [X.loc 3]))])
noncomputable def gM:Nat×List S:=(2,[S.setAttr (X.loc 0) 14 (X.loc 1)])
noncomputable def gK:Nat×List S:=(4,[S.asg (aw.one 4) (X.sub (X.loc 3) (X.cst (al.int 0))),S.ite (X.call 1 [X.loc 3]) [S.asg (aw.one 5) (X.blt aN.dict [X.loc 1]),S.setSub (X.loc 5) (X.loc 4) (X.loc 2),S.ret (X.ite (X.cmp aR.eq (X.meth (X.loc 1) 31 [X.loc 4,X.loc 2]) (X.loc 2)) (X.lst [X.loc 5]) (X.lst []))] [],S.asg (aw.one 6) (X.lst []),S.for_ (aw.one 7) (X.meth (X.attr (X.loc 0) 14) 50 [X.loc 2]) [S.ite (X.and (X.cmp aR.eq (X.sub (X.loc 7) (X.cst (al.int 0))) (X.loc 4)) (X.cmp aR.eq (X.blt aN.len [X.loc 7]) (X.blt aN.len [X.loc 3]))) [S.asg (aw.one 8) (X.lst [X.loc 1]),S.for_ (aw.many [9,10]) (X.blt aN.zip [X.slc (X.loc 7) Sl.tail,X.slc (X.loc 3) Sl.tail]) [S.asg (aw.one 8) (X.comp2 (X.loc 13) (aw.one 12) (X.loc 8) (aw.one 13) (X.meth (X.loc 0) 52 [X.loc 12,X.loc 9,X.loc 10]))],S.expr (X.meth (X.loc 6) 28 [X.loc 8])] []],S.ret (X.loc 6)])
noncomputable def gJ:Nat×List S:=(3,[S.asg (aw.one 3) (X.dct [] []),S.for_ (aw.one 4) (X.meth (X.loc 0) 52 [X.dct [] [],X.meth (X.attr (X.loc 0) 14) 41 [X.loc 1],X.loc 2]) [S.setSub (X.loc 3) (X.blt aN.tupleOf [X.blt aN.sorted [X.meth (X.loc 4) 34 []]]) (X.cst (al.bool true))],S.ret (X.blt aN.sorted [X.loc 3])])
noncomputable def kH:Nat×List S:=(2,[S.ret (X.comp2 (X.tup [X.loc 3,X.loc 4]) (aw.one 3) (X.meth (X.attr (X.loc 0) 14) 44 []) (aw.one 4) (X.meth (X.loc 0) 53 [X.loc 3,X.loc 1]))])
noncomputable def i5:Nat×List S:=(5,[S.ite (X.call 1 [X.loc 2]) [S.raise] [],S.asg (aw.one 5) (X.call 2 [X.loc 2]),S.asg (aw.one 6) (X.bin cP.add (X.lst [X.tup [X.cst (al.sym 11),X.loc 3,X.loc 3]]) (X.blt aN.listOf [X.loc 4])),S.for_ (aw.many [7,8,9]) (X.loc 6) [S.ite (X.cmp aR.notIn (X.loc 7) (X.tup [X.cst (al.sym 11),X.cst (al.sym 12)])) [S.raise] [],S.asg (aw.one 10) (X.comp (X.loc 12) (aw.one 12) (X.bin cP.add (X.call 2 [X.loc 8]) (X.call 2 [X.loc 9])) [X.cmp aR.notIn (X.loc 12) (X.loc 5)]),S.ite (X.cmp aR.ne (X.loc 10) (X.lst [])) [S.raise] []],S.setAttr (X.loc 0) 15 (X.loc 1),S.setAttr (X.loc 0) 16 (X.loc 2),S.setAttr (X.loc 0) 17 (X.loc 3),S.setAttr (X.loc 0) 18 (X.blt aN.tupleOf [X.loc 4])])
noncomputable def gR:Nat×List S:=(2,[S.setAttr (X.loc 0) 14 (X.loc 1)])
noncomputable def oy:Nat×List S:=(3,[S.ite (X.call 1 [X.loc 1]) [S.ret (X.sub (X.loc 2) (X.sub (X.loc 1) (X.cst (al.int 0))))] [],S.ret (X.meth (X.attr (X.loc 0) 14) 46 [X.sub (X.loc 1) (X.cst (al.int 0)),X.comp (X.meth (X.loc 0) 55 [X.loc 4,X.loc 2]) (aw.one 4) (X.slc (X.loc 1) Sl.tail) []])])
noncomputable def gQ:Nat×List S:=(3,[S.ite (X.call 1 [X.loc 1]) [S.ret (X.meth (X.attr (X.loc 0) 14) 41 [X.sub (X.loc 2) (X.sub (X.loc 1) (X.cst (al.int 0)))])] [],S.asg (aw.one 3) (X.comp (X.meth (X.loc 0) 56 [X.loc 5,X.loc 2]) (aw.one 5) (X.slc (X.loc 1) Sl.tail) []),S.ret (X.ite (X.cmp aR.isIn (X.neg (X.cst (al.int 1))) (X.loc 3)) (X.neg (X.cst (al.int 1))) (X.meth (X.attr (X.loc 0) 14) 51 [X.sub (X.loc 1) (X.cst (al.int 0)),X.loc 3]))])
noncomputable def kK:Nat×List S:=(3,[S.asg (aw.many [3,4,5]) (X.loc 1),S.asg (aw.one 6) (X.meth (X.loc 0) 56 [X.loc 4,X.loc 2]),S.ret (X.cmp aR.eq (X.and (X.cmp aR.ne (X.loc 6) (X.neg (X.cst (al.int 1)))) (X.cmp aR.eq (X.loc 6) (X.meth (X.loc 0) 56 [X.loc 5,X.loc 2]))) (X.cmp aR.eq (X.loc 3) (X.cst (al.sym 11))))])
noncomputable def gP:Nat×List S:=(4,[S.ite (X.cmp aR.notIn (X.meth (X.loc 3) 31 [X.cst (al.sym 16),X.cst (al.sym 17)]) (X.glob 2)) [S.raise] [],S.asg (aw.one 4) (X.comp (X.attr (X.loc 6) 15) (aw.one 6) (X.loc 2) []),S.ite (X.cmp aR.lt (X.blt aN.len [X.blt aN.set [X.loc 4]]) (X.blt aN.len [X.loc 4])) [S.raise] [],S.setAttr (X.loc 0) 14 (X.loc 1),S.setAttr (X.loc 0) 19 (X.blt aN.listOf [X.loc 2]),S.setAttr (X.loc 0) 20 (X.loc 3),S.setAttr (X.loc 0) 21 (X.new 3 [X.loc 1]),S.setAttr (X.loc 0) 22 (X.new 5 [X.loc 1]),S.setAttr (X.loc 0) 23 (X.lst []),S.setAttr (X.loc 0) 24 (X.cst (al.int 0)),S.setAttr (X.loc 0) 25 (X.bin cP.mul (X.lst [X.cst (al.int 0)]) (X.blt aN.len [X.attr (X.loc 0) 19])),S.setAttr (X.loc 0) 26 (X.bin cP.mul (X.lst [X.cst (al.int 0)]) (X.blt aN.len [X.attr (X.loc 0) 19]))])
noncomputable def iD:Nat×List S:=(1,[S.ret (X.cmp aR.gt (X.meth (X.attr (X.loc 0) 14) 35 []) (X.meth (X.attr (X.loc 0) 20) 31 [X.cst (al.sym 20),X.cst (al.int 10000)]))])
noncomputable def iC:Nat×List S:=(2,[S.ite (X.cmp aR.gt (X.sub (X.attr (X.loc 0) 26) (X.loc 1)) (X.attr (X.loc 0) 24)) [S.ret (X.cst (al.none))] [],S.asg (aw.one 2) (X.meth (X.attr (X.loc 0) 21) 54 [X.attr (X.sub (X.attr (X.loc 0) 19) (X.loc 1)) 16]),S.ite (X.and (X.cmp aR.eq (X.meth (X.attr (X.loc 0) 20) 31 [X.cst (al.sym 16),X.cst (al.sym 17)]) (X.cst (al.sym 19))) (X.cmp aR.gt (X.blt aN.len [X.loc 2]) (X.meth (X.attr (X.loc 0) 20) 31 [X.cst (al.sym 21),X.cst (al.int 100)]))) [S.setSub (X.attr (X.loc 0) 25) (X.loc 1) (X.blt aN.max [X.cst (al.int 1),X.bin cP.mul (X.cst (al.int 2)) (X.sub (X.attr (X.loc 0) 25) (X.loc 1))]),S.setSub (X.attr (X.loc 0) 26) (X.loc 1) (X.bin cP.add (X.bin cP.add (X.attr (X.loc 0) 24) (X.cst (al.int 1))) (X.sub (X.attr (X.loc 0) 25) (X.loc 1))),S.expr (X.meth (X.attr (X.loc 0) 23) 27 [X.tup [X.attr (X.loc 0) 24,X.attr (X.sub (X.attr (X.loc 0) 19) (X.loc 1)) 15,X.blt aN.len [X.loc 2],X.cst (al.int 0)]]),S.ret (X.cst (al.none))] [],S.ret (X.loc 2)])
noncomputable def kJ:Nat×List S:=(3,[S.asg (aw.one 3) (X.blt aN.dict [X.loc 2]),S.ite (X.cmp aR.ne (X.attr (X.loc 1) 18) (X.tup [])) [S.expr (X.meth (X.attr (X.loc 0) 14) 49 [])] [],S.ite (X.cmp aR.ne (X.comp (X.loc 7) (aw.one 7) (X.attr (X.loc 1) 18) [X.not (X.meth (X.attr (X.loc 0) 22) 57 [X.loc 7,X.loc 3])]) (X.lst [])) [S.ret (X.cst (al.bool false))] [],S.asg (aw.many [4,5]) (X.tup [X.meth (X.attr (X.loc 0) 22) 55 [X.attr (X.loc 1) 16,X.loc 3],X.meth (X.attr (X.loc 0) 22) 55 [X.attr (X.loc 1) 17,X.loc 3]]),S.ret (X.meth (X.attr (X.loc 0) 14) 42 [X.loc 4,X.loc 5,X.tup [X.cst (al.sym 13),X.attr (X.loc 1) 15,X.blt aN.tupleOf [X.loc 2]]])])
noncomputable def fV:Nat×List S:=(3,[S.asg (aw.one 3) (X.cst (al.int 0)),S.for_ (aw.many [4,5]) (X.loc 2) [S.ite (X.and (X.not (X.meth (X.loc 0) 58 [])) (X.meth (X.loc 0) 60 [X.sub (X.attr (X.loc 0) 19) (X.loc 1),X.loc 5])) [S.asg (aw.one 3) (X.bin cP.add (X.loc 3) (X.cst (al.int 1)))] []],S.expr (X.meth (X.attr (X.loc 0) 23) 27 [X.tup [X.attr (X.loc 0) 24,X.attr (X.sub (X.attr (X.loc 0) 19) (X.loc 1)) 15,X.blt aN.len [X.loc 2],X.loc 3]]),S.ret (X.loc 3)])
noncomputable def aj:Ou:=[CK,lN,qF,CJ,tf,ow,lO,ou,qG,qH,ox,eE,i8,qO,qN,kO,wE,qP,gN,lQ,lP,lR,kI,iA,iB,i7,qI,qK,tg,kM,qM,oz,qL,lS,kN,kL,i6,qJ,gM,gK,gJ,kH,i5,gR,oy,gQ,kK,gP,iD,iC,kJ,fV]
end
section
open PySem PySem.W PyProof.Rows
noncomputable def qo:List (Nat×List String):=[(79,["text"]),(86,["t"]),(91,["t"]),(96,["t"]),(600,["pail","many"]),(605,["pail"]),(612,["nodes","left"]),(619,["world","right","x"]),(624,["world","a","b","is_asked"]),(631,["world","rule","match"]),(636,["world"]),(641,["script"]),(110,["self"]),(117,["self"]),(122,["self","op","kids"]),(129,["self","op"]),(155,["self","n"]),(162,["self","n"]),(378,["self"]),(385,["self"]),(392,["self"]),(399,["self","a"]),(406,["self","a","b"]),(413,["self","a"]),(418,["self"]),(460,["self"]),(467,["self"]),(472,["self","n"]),(477,["self","op","numbers"]),(489,["self","n"]),(496,["self","n"]),(510,["self","a","b","reason"]),(517,["self","a","b","reason"]),(524,["self"]),(538,["self"]),(545,["self","c"]),(550,["self","c"]),(562,["self","op","classes"]),(216,["self","heap"]),(221,["self","table","c","pattern"]),(228,["self","c","pattern"]),(233,["self","pattern"]),(253,["self","name","left","right","needs"]),(281,["self","heap"]),(286,["self","pattern","table"]),(291,["self","pattern","table"]),(298,["self","need","table"]),(317,["self","heap","rules","options"]),(324,["self"]),(331,["self","k"]),(336,["self","rule","subst"]),(343,["self","k","found"])]
noncomputable def bv(i:Nat):Addr:=(qo.getD i (0,[])).1
noncomputable def aZ(i:Nat):Addr:=([198,442,572,236,263,301,360]:List Addr).getD i 0
noncomputable def au(k:Nat):Str:=Str.ofString (aS.getD k "")
noncomputable def dU(k:Nat):Str:=Str.ofString (bO.getD k "")
noncomputable def iZ:aN->Value
 | .len=>.builtin "len" | .int=>.type "int" | .max=>.builtin "max" | .sum=>.builtin "sum" | .dict=>.type "dict" | .sorted=>.builtin "sorted" | .set=>.type "set" | .listOf=>.type "list"
 | .tupleOf=>.type "tuple" | .range=>.type "range" | .enum=>.type "enumerate" | .zip=>.type "zip"
noncomputable section
noncomputable def JN:Option Obj->FuncData
 | some ⟨_,_,.func fd,_⟩=>fd
 | _=>default
noncomputable abbrev iX(K:Frag)(a:Addr):FuncData:=JN (K.lookup a)
noncomputable def ix:FuncBody->List Stmt
 | .stmts b=>b
 | _=>[]
noncomputable def nU:FuncBody->Bool
 | .stmts _=>true
 | _=>false
noncomputable def sH:Option Obj->Bool
 | some ⟨_,_,.func _,_⟩=>true
 | _=>false
noncomputable def JK(K:Frag)(r:Nat×List String)(fd:FuncData):Bool:=nU fd.body&&decide (fd.globals=mainGlobals)&&decide (fd.closure=[])&&decide (fd.builtins=builtinsNs)&&codeIn K fd.code fd.qualname&&yn fd.scope &&
 decide (fd.params.args.map (·.arg)=(aL fd.scope.names).take r.2.length)&&decide (fd.params.args.map (·.arg)=r.2.map Str.ofString)&&keepIn K (.ref r.1)&&sH (K.lookup r.1)
noncomputable def NR(K:Frag)(a:Addr):Bool:=decide (typeIn K (.ref a)=some (.type "function"))
noncomputable def sv(K:Frag)(C:Addr)(n:Str):Option Nat->Bool
 | some f=>decide (findIn K (.ref C) n=some (some (.ref (bv f))))&&NR K (bv f)
 | none=>true
noncomputable def Dq(K:Frag)(c:Nat)(C:Addr):Bool:=makesIn K C&&(dp c 1000).isSome&&sv K C "__init__" (dp c 1000)&&decide (findIn K (.ref C) "__getattribute__"=some (some (.builtin "object.__getattribute__"))) &&
 decide (findIn K (.ref C) "__getattr__"=some none)&&decide (findIn K (.ref C) "__setattr__"=some (some (.builtin "object.__setattr__")))&&plainOver K C&&hasDictIn K C&&keepIn K (.ref C) &&
 ((List.range bO.length).all fun m=>sv K C (dU m) (dp c m))&&(List.range 27).all fun a=>((findIn K (.ref C) (dU a)).any (noGet K))&&decide (takerIn K C (dU a)=some none)
noncomputable def xB(k:Nat):Value->Bool
 | .str x _=>decide (x=au k)
 | _=>false
noncomputable def CZ:Data->Option (Array Value×Nat)
 | .seq ws n=>some (ws,n)
 | _=>none
noncomputable def z9:Value->Option Addr
 | .ref a=>some a
 | _=>none
noncomputable def xr(K:Frag)(v:Value):Option (Array Value×Nat):=(z9 v).bind fun a=>(K.lookup a).bind fun o=>bif decide (o.cls=.type "tuple")&&(o.dict.isNone&&o.slots.isEmpty) then CZ o.data else none
mutual
noncomputable def tI(K:Frag):AV->Value->Bool
 | .sym k,w=>decide (k<aS.length)&&xB k w
 | .tup vs,w=>decide (vs.length<=ax)&&(xr K w).any fun r=>jG K vs r.1.toList
 | _,_=>false
noncomputable def jG(K:Frag):List AV->List Value->Bool
 | [],ws=>ws.isEmpty
 | v::vs,ws=>match ws with
  | []=>false
  | w::ws=>tI K v w&&jG K vs ws
end
noncomputable def Da(K:Frag)(x:Str):Value:=((nsIn K mainGlobals x).getD none).getD .none
noncomputable def yw(K:Frag)(x:String)(v:Value):Bool:=decide (nsIn K mainGlobals (Str.ofString x)=some (some v))
noncomputable def Kb(K:Frag):Bool:=(qo.all fun r=>JK K r (iX K r.1))&&((List.range 7).all fun c=>Dq K c (aZ c)) &&
 ((List.range 12).all fun i=>yw K (TB.fns.getD i "") (.ref (bv i)))&&((List.range 7).all fun i=>yw K (TB.clss.getD i "") (.ref (aZ i))) &&
 ((List.range 3).all fun i=>(ql i).any fun av=>yw K (TB.globs.getD i "") (Da K (Str.ofString (TB.globs.getD i "")))&&tI K av (Da K (Str.ofString (TB.globs.getD i "")))) &&
 ([aN.len,.int,.max,.sum,.dict,.sorted,.set,.listOf,.tupleOf,.range,.enum,.zip].all fun b=>decide (nsIn K mainGlobals (sZ b)=some none)&&decide (bootBuiltins (sZ b)=some (iZ b))&&!decide (sZ b=("__name__":Str)))&&yw K "law" (.ref 641)
noncomputable def iQ(K:Frag):=(Kb K,qo.map fun r=>(r.2.length,trSs TB (iY (iX K r.1).scope) (ix (iX K r.1).body)),fun g:Nat->Value=>qo.map fun r=>bindArgs (iX K r.1) ⟨(List.range r.2.length).map g,[]⟩)
noncomputable def iq:Bool×List (Nat×Option (List S))×((Nat->Value)->List (Sem (List (Str×Value)))):=(true,aj.map fun b=>(b.1,some b.2),fun g=>qo.map fun r=>pure ((r.2.map Str.ofString).zip ((List.range r.2.length).map g)))
def qT(w:World)(H:Heap)(K:Frag):Prop:=K.In H->iQ K=iq->H.NoLimit->(∃ o,H.get? sysModules=some o)->∀{mg mb:Str->Option Value},H.Ns mainGlobals mg->H.Ns builtinsNs mb->(∀ x:Str,x≠"__name__"->mb x=bootBuiltins x)->
 ∀{s:UE} {script:Addr} {ws:List Value} {is:List Int} {R:Result->UE->Prop},s.heap=H->H.IsList script ws.toArray->IntsAre ws is->is.length<=63->(∃ Y',ay aj 30 11 [.frz (is.map .int)] []=some (.bool true,Y'))->
 (∀ h' t' d',(∀ b o,H.get? b=some o->h'.get? b=some o)->R (.ok (.ret (.bool true))) { s with heap:=h',toks:=t',drawn:=d' })->codeAny (model PySem.Challenge.rw_rh0018_01.row.prog w) callerA (.call (.ref 641) ⟨[.ref script],[]⟩) R s
noncomputable def KM:World×Heap×Frag:=@Classical.epsilon _ ⟨⟨⟨fun _ _=>0,{ strHash:=fun _=>0,shareClass:=fun _=>0,mergeTok:=fun t=>t,idOf:=fun _=>0,idOfShared:=fun _ _=>0,followText:=fun _=>false,idOfImm:=fun _=>0 }⟩,{},[]⟩⟩ fun x=>¬qT x.1 x.2.1 x.2.2
@[irreducible] noncomputable def w0:World:=KM.1
@[irreducible] noncomputable def H0:Heap:=KM.2.1
@[irreducible] noncomputable def K0:Frag:=KM.2.2
end
theorem du{α β:Type}[BEq α][LawfulBEq α]{x:α}{p:α×β}{l:List (α×β)}(e:x=p.1):(p::l).lookup x=some p.2:=by
 rw[show List.lookup x (p::l)=_ from List.lookup_cons,beq_iff_eq.mpr e]
theorem fO{α β:Type}[BEq α][LawfulBEq α]{x:α}{p:α×β}{l:List (α×β)}(e:x≠p.1):(p::l).lookup x=l.lookup x:=by
 rw[show List.lookup x (p::l)=_ from List.lookup_cons,beq_eq_false_iff_ne.mpr e]
theorem aD{α β:Type}[BEq α][LawfulBEq α]{l:List (α×β)}{x:α}{c:β}:l.lookup x=some c->(x,c)∈l:=by
 induction l with
 | nil=>exact fun h=>bY h
 | cons p l ih=>exact fun h=>(Tl (x=p.1)).elim (fun e=>SN.mpr (.inl (Prod.ext e (SQ ((du e).symm.trans h)).symm))) fun e=>.tail _ (ih ((fO e).symm.trans h))
theorem BQ(h:qT w0 H0 K0)(w:World)(H:Heap)(K:Frag):qT w H K:=Classical.not_not.mp fun n=>by
 unfold w0 H0 K0 at h;exact(Classical.epsilon_spec (p:=fun x:World×Heap×Frag=>¬qT x.1 x.2.1 x.2.2) ⟨(w,H,K),n⟩) h
abbrev RR:=PySem.Challenge.rw_rh0018_01
noncomputable def pg:Program:=RR.row.prog
noncomputable def qv:Program:=PySem.W.view pg [0,2,3,4,6,7,8,9,10,12,14,15,16,17,19,21,23,24,25,26,27,28,29,30,31,32]
noncomputable def x6(ok:Thread->Bool)(st:SharedT->Thread->Option (SharedT×Thread)):Nat->SharedT->Thread->Option SharedT
 | 0,_,_=>none
 | n+1,s,t=>match through t with
  | true=>some s
  | false=>match ok t with
   | false=>none
   | true=>match st s t with
    | some (s',t')=>x6 ok st n s' t'
    | none=>none
theorem tT{tb:String->Option Builtin}{p:Program}{w:World}{n₀:Nat}{ann:Option Value}:∀{n:Nat} {s s':SharedT} {t:Thread},x6 (stepOk n₀ ann) (stepT (denote tb) p w) n s t=some s'->topRun tb p w n₀ ann n s.abs t=some s'.abs
 | 0,_,_,_,h=>by cases h
 | n+1,s,s',t,h=>by
  unfold x6 at h;unfold topRun
  cases he:through t with
  | true=>rw[he] at h;cases h;rfl
  | false=>
   rw[he] at h
   cases hk:stepOk n₀ ann t with
   | false=>rw[hk] at h;cases h
   | true=>
    rw[hk] at h
    cases hs:stepT (denote tb) p w s t with
    | none=>rw[hs] at h;cases h
    | some r=>obtain⟨s₂,t₂⟩:=r;rw[hs] at h;rw[stepT_spec hs];exact tT h
noncomputable def J0(P:Params):BT:=((boot_heap P).objs.toList.foldl (fun(x:BT×Nat) o=>(x.1.ins x.2 o,x.2+1)) (BT.nil,0)).1
noncomputable def zS(w:World)(os:OsState):SharedT:=⟨J0 w.params,(boot_heap w.params).objs.size,(boot_heap w.params).life,#[],boot_drawn,boot_toks,os⟩
theorem zR(w:World)(os:OsState):(zS w os).abs=⟨boot_heap w.params,#[],boot_drawn,boot_toks,os⟩:=by kernel_rfl
noncomputable def JL(w:World)(os:OsState):Option SharedT:=
 x6 (stepOk (boot_heap w.params).objs.size ((boot_heap w.params).nsMap mainGlobals "__annotations__")) (stepT (denote treeTable) pg w) 5000 (zS w os) (topStub pg)
open PySem.W.Fast in
noncomputable def wo(w:World)(os:OsState):Option SharedT:=
 x6 (tw6613529449190102663 (boot_heap w.params).objs.size ((boot_heap w.params).nsMap mainGlobals "__annotations__")) (tw10156331382660048174 (tw11892475500146522536 tw14364793385576792824) pg w) 5000 (zS w os) (topStub pg)
theorem Ci:wo=JL:=by
 unfold wo JL;rw[PySem.W.Fast.te6613529449190102663,PySem.W.Fast.te10156331382660048174,PySem.W.Fast.te11892475500146522536,PySem.W.Fast.te14364793385576792824]
noncomputable def Xt(s:UE):Bool:=xlAt qv [] s&&recOk (RowW.records RR.row.toRowW) s
noncomputable def tR(w:World)(s₁:UE):=(staticsOk (importedModules pg.main.body) (boot_heap w.params) s₁.heap&&namesBound pg s₁.heap&&gensDone s₁&&laidKept (boot_heap w.params) s₁.heap,openSeen qv [] (importedModules pg.main.body) Xt true s₁)
theorem Ir:∀ w:World,(fencedOpening treeTable pg w 5000).map (fun s=>(s.heap,s.gens,s.drawn,s.toks))=some (boot_heap w.params,Array.mk [],boot_drawn,boot_toks):=boot_open (by kernel_rfl) rfl fun s=>by kernel_rfl
noncomputable def Dh(h:Heap):Frag:=((List.range 642).filter fun a=>Nat.testBit 0x339db9dbb73b7fffe7f6e76e76eddbb76eddbb76e739dbb401fdbb76e76eddbb76ed007f6eddb9dbb7200fedce76803fb72027f3b73b401fdbb76e76eddbb73b76e76ed019cedc9c09c09fb76c276800c a).filterMap fun a=>(h.get? a).map fun o=>(a,o)
theorem xZ(w:World)(os:OsState):(wo w os).map (fun s=>tR w s.abs)=some (true,openGood qv []):=by kernel_rfl
theorem rH(w:World)(os:OsState):(wo w os).map (fun s=>iQ (Dh s.abs.heap))=some iq:=by kernel_rfl
noncomputable def y9:Option UE->Heap
 | some s=>s.heap
 | none=>default
theorem BP{β:Type}{E:Option UE}{s:UE}{f:UE->β}{g:β}(e:E=some s)(h:f s=g):E.map (fun s=>(f s,s.heap))=some (g,y9 E):=by
 subst e;rw[Option.map_some,h];rfl
theorem Gv{tb:String->Option Builtin}{p:Program}{w:World}{N:Nat}{H:Heap}{d:Drawn}{k:Nat}{Good:UE->Prop}(o:(fencedOpening tb p w N).map (fun s=>(s.heap,s.gens,s.drawn,s.toks))=some (H,Array.mk [],d,k))(z:H.isNs mainGlobals=true)
  (r:∀ os,∃ s₁:UE,topRun tb p w H.objs.size (H.nsMap mainGlobals "__annotations__") N ⟨H,#[],d,k,os⟩ (topStub p)=some s₁/\(staticsOk (importedModules p.main.body) H s₁.heap&&namesBound p s₁.heap&&gensDone s₁&&laidKept H s₁.heap)=true/\Good s₁):∃ s₁,openEnds tb p w N=some s₁/\Good s₁:=by
 obtain⟨⟨h,gs,d',k',os⟩,e,e'⟩:=Uj.mp o;simp only[Prod.mk.injEq] at e';obtain⟨rfl,rfl,rfl,rfl⟩:=e';obtain⟨s₁,r1,r2,r3⟩:=r os;refine⟨s₁,?_,r3⟩;unfold openEnds;rw[e,Option.bind_some];unfold topFrom;dsimp only;rw[z];show(topRun tb p w _ _ N _ (topStub p)).bind _=_;rw[r1,Option.bind_some,r2]
theorem Cw(w:World):(boot_heap w.params).isNs mainGlobals=true:=by kernel_rfl
theorem AZ{α β:Type}{x:Option α}{f:α->β}{b:β}(h:x.map f=some b):∃ a,x=some a/\f a=b:=Uj.mp h
theorem BC{α β:Type}{x:Option α}{a:α}{f:α->β}{b:β}(h:x=some a)(g:x.map f=some b):f a=b:=by subst h;exact SQ g
theorem EB(w:World)(os:OsState):∃ s:SharedT,wo w os=some s/\tR w s.abs=(true,openGood qv [])/\iQ (Dh s.abs.heap)=iq:=(AZ (xZ w os)).imp fun s h=>⟨h.1,h.2,BC (f:=fun s:SharedT=>iQ (Dh s.abs.heap)) h.1 (rH w os)⟩
theorem DO{w:World}{os:OsState}{s:SharedT}(a:wo w os=some s):topRun treeTable pg w (boot_heap w.params).objs.size ((boot_heap w.params).nsMap mainGlobals "__annotations__") 5000 ⟨boot_heap w.params,#[],boot_drawn,boot_toks,os⟩ (topStub pg)=some s.abs:=by
 rw[Ci] at a;rw[<- zR w os];exact tT a
theorem zi(w:World):∃ s₁,openEnds treeTable pg w 5000=some s₁/\(openSeen qv [] (importedModules pg.main.body) Xt true s₁=openGood qv []/\iQ (Dh s₁.heap)=iq):=
 Gv (Ir w) (Cw w) fun os=>(EB w os).elim fun s h=>⟨s.abs,DO h.1,Sx Prod.fst h.2.1,Sx Prod.snd h.2.1,h.2.2⟩
noncomputable def Ya(w:World):Heap:=y9 (openEnds treeTable pg w 5000)
theorem qc:LeftO pg qv [] Xt Shared.heap Ya 5000:=fun w=>let⟨_,e,h,_⟩:=zi w;BP (f:=fun s=>openSeen qv [] (importedModules pg.main.body) Xt true s) e h
theorem oL(w:World):iQ (Dh (Ya w))=iq:=(zi w).elim fun s h=>by
 unfold Ya;rw[h.1];exact h.2.2
theorem Fi(h:Heap):(Dh h).In h:=fun a o e=>by
 have m:=aD e;obtain⟨b,_,hb⟩:=List.mem_filterMap.mp m;obtain⟨o',h1,h2⟩:=Uj.mp hb
 cases h2
 exact h1
theorem Ln:RR.wellSaid=true:=by kernel_rfl
def YP(w:World)(h:Heap):Prop:=∀ b o,(Ya w).get? b=some o->h.get? b=some o
noncomputable def Fa:DefRec×List (Str×PySem.Expr):=(defOf qv RR.row.name).get (by kernel_rfl)
theorem KW(walk:WalkO qv [] (XL qv []) YP RR.row.toRowW Fa.1 Fa.2 fun f vs=>PySem.call f vs):RR.Holds:=
 holds_law Ln fun _=>W.holds_open (r:=RR.row) (q:=qv) (loose:=[]) (Xt:=Xt) (XP:=XL qv []) (Yf:=Shared.heap) (Ya:=Ya) (YP:=YP) (N:=5000) qc
  (fun w s e b o h=>by rw[e];exact h) (fun w h h' y k b o e=>k b o (y b o e)) (fun s e=>xl_of s (SL.mp e).1) XL.keeps (by kernel_rfl) (by kernel_rfl) (by kernel_rfl)
  (fun s e=>recFacts_of (SL.mp e).2) (by kernel_rfl) (by assumption) (by kernel_rfl) ⟨rfl,rfl,rfl,rfl,rfl,by kernel_rfl⟩ (by w_witness2) walk
noncomputable abbrev G0:=List (Addr×Addr)
noncomputable def c8(ι:G0):List Addr:=ι.map (·.2)
noncomputable abbrev bV(ws:Array Value)(n:Nat):Obj:={ cls:=.type "tuple",data:=.seq ws n }
noncomputable abbrev gu(ws:Array Value)(n:Nat):Obj:={ cls:=.type "list",data:=.seq ws n }
noncomputable abbrev bS(es:Array UH)(n:Nat):Obj:={ cls:=.type "dict",data:=.dict es n }
noncomputable abbrev HZ(es:Array (Int×Value))(n:Nat)(t:UI):Obj:={ cls:=.type "set",data:=.set es n t }
noncomputable abbrev Hy(a:Addr):Obj:={ cls:=.type "dict_items",data:=.fields #[.ref a] }
noncomputable abbrev Lo(n:Nat)(t u y:Tok):Obj:={ cls:=.type "range",dict:=none,data:=.fields #[.int 0 t,.int n u,.int 1 y],slots:=#[] }
noncomputable abbrev M0:=model PySem.Challenge.rw_rh0018_01.row.prog w0
structure Hp where
 ι:G0
 κ:List Addr
 h:Heap
noncomputable def Hp.F(x:Hp):List Addr:=c8 x.ι++x.κ
structure fE(x:Hp)(a:Addr)(o:Obj):Prop where
 h:x.h.get? a=some o
 out:a∉x.F
noncomputable def kA:Bool:=w0.params.followText "set-order"
def Ki(es:Array (Int×Value))(t:UI)(ws:List Value):Prop:=t.fits es.size=true/\es.toList.map (·.2)=ws/\(t.led=true\/kA=true)/\es.size<=2/\∀ x y,t.place=#[x,y]->x<y
mutual
noncomputable def ao(x:Hp):AV->Value->Prop
 | .none,v=>v=.none
 | .bool b,v=>v=.bool b
 | .int i,v=>∃ t,v=.int i t
 | .sym k,v=>k<aS.length/\∃ t,v=.str (au k) t
 | .ref n,v=>∃ p,x.ι[n]?=some p/\v=.ref p.1
 | .tup vs,v=>vs.length<=ax/\∃ a ws n,v=.ref a/\fE x a (bV ws n)/\bP x vs ws.toList
 | .frz vs,v=>vs.length<=ax/\∃ a ws n o,v=.ref a/\(H0.get? a=some o/\o.cls=.type "list"/\o.data=.seq ws n)/\fE x a o/\bP x vs ws.toList
 | .fset vs,v=>∃ a ws us es n t,v=.ref a/\(Ki es t ws/\us.Perm ws)/\fE x a (HZ es n t)/\bP x vs us
 | .view r,v=>∃ a p,v=.ref a/\x.ι[r]?=some p/\fE x a (Hy p.1)
 | .rng n,v=>n<=50000/\∃ a t u y,v=.ref a/\fE x a (Lo n t u y)
 | .enm _,_=>False
 | .zp _ _,_=>False
noncomputable def bP(x:Hp):List AV->List Value->Prop
 | [],ws=>ws=[]
 | v::vs,ws=>∃ w r,ws=w::r/\ao x v w/\bP x vs r
end
mutual
noncomputable def bK:AV->Int
 | .int i=>hashInt i
 | .sym k=>hashStr w0 (au k)
 | .tup vs=>reduceHash (Builtin.Tuple.tupleHashOf (fU vs))
 | _=>0
noncomputable def fU:List AV->List Int
 | []=>[]
 | v::vs=>bK v::fU vs
end
structure DE(x:Hp)(e:AV×AV)(d:UH):Prop where
 pur:e.1.pur=true
 hash:d.hash=bK e.1
 key:ao x e.1 d.key
 val:ao x e.2 d.val
structure FE(x:Hp)(e:Nat×AV)(d:UH):Prop where
 lt:e.1<bO.length
 key:∃ t,d.key=.str (dU e.1) t
 val:ao x e.2 d.val
noncomputable def ah{α β:Type}(R:α->β->Prop):List α->List β->Prop
 | [],ds=>ds=[]
 | e::es,ds=>∃ d r,ds=d::r/\R e d/\ah R es r
structure Ov(x:Hp)(a:Addr)(vs:List AV):Prop where
 len:vs.length<=ax
 ex:∃ ws n,x.h.get? a=some (gu ws n)/\ah (ao x) vs ws.toList
structure Ow(x:Hp)(a:Addr)(es:List (AV×AV)):Prop where
 len:es.length<=ax
 nodup:(es.map (·.1)).Nodup
 ex:∃ ds n,x.h.get? a=some (bS ds n)/\ah (DE x) es ds.toList
structure GV(x:Hp)(p:Addr×Addr)(c:Nat)(fs:List (Nat×AV)):Prop where
 lt:c<7
 len:fs.length<=100
 nodup:(fs.map (·.1)).Nodup
 obj:fE x p.1 (instObj (aZ c) p.2)
 ex:∃ ds n,x.h.get? p.2=some (bS ds n)/\ah (FE x) fs ds.toList
noncomputable def ed(x:Hp)(p:Addr×Addr):AO->Prop
 | .list vs=>p.1=p.2/\Ov x p.2 vs
 | .dict es=>p.1=p.2/\Ow x p.2 es
 | .hid=>p.1=p.2/\∃ a b,x.h.get? p.2=some (bV #[a,b] 0)
 | .inst c fs=>GV x p c fs
structure Wk(x y:Hp):Prop where
 get:∀{n:Nat} {p:Addr×Addr},x.ι[n]?=some p->y.ι[n]?=some p
 imm:∀{a:Addr} {o:Obj},fE x a o->fE y a o
theorem Wk.refl(x:Hp):Wk x x:=⟨fun h=>h,fun h=>h⟩
theorem Wk.trans{x y z:Hp}(a:Wk x y)(b:Wk y z):Wk x z:=⟨fun h=>b.get (a.get h),fun h=>b.imm (a.imm h)⟩
section
variable{x y:Hp}
mutual
theorem ao.wk(k:Wk x y):∀{v:AV} {w:Value},ao x v w->ao y v w
 | .none,_,e=>e
 | .bool _,_,e=>e
 | .int _,_,e=>e
 | .sym _,_,e=>e
 | .ref _,_,e=>e.imp fun _ h=>⟨k.get h.1,h.2⟩
 | .tup _,_,e=>⟨e.1,e.2.imp fun _ h=>h.imp fun _ h=>h.imp fun _ h=>⟨h.1,k.imm h.2.1,bP.wk k h.2.2⟩⟩
 | .frz _,_,e=>⟨e.1,e.2.imp fun _ h=>h.imp fun _ h=>h.imp fun _ h=>h.imp fun _ h=>⟨h.1,h.2.1,k.imm h.2.2.1,bP.wk k h.2.2.2⟩⟩
 | .fset _,_,e=>e.imp fun _ h=>h.imp fun _ h=>h.imp fun _ h=>h.imp fun _ h=>h.imp fun _ h=>h.imp fun _ h=>⟨h.1,h.2.1,k.imm h.2.2.1,bP.wk k h.2.2.2⟩
 | .view _,_,e=>e.imp fun _ h=>h.imp fun _ h=>⟨h.1,k.get h.2.1,k.imm h.2.2⟩
 | .rng _,_,e=>⟨e.1,e.2.imp fun _ h=>h.imp fun _ h=>h.imp fun _ h=>h.imp fun _ h=>⟨h.1,k.imm h.2⟩⟩
 | .enm _,_,e=>e
 | .zp _ _,_,e=>e
theorem bP.wk(k:Wk x y):∀{vs:List AV} {ws:List Value},bP x vs ws->bP y vs ws
 | [],_,e=>e
 | _::_,_,e=>e.imp fun _ h=>h.imp fun _ h=>⟨h.1,ao.wk k h.2.1,bP.wk k h.2.2⟩
end
section
variable{α β:Type}{R:α->β->Prop}
theorem ah.nil:ah R [] []:=rfl
theorem ah.cons{a:α}{b:β}{es:List α}{ds:List β}(h:R a b)(t:ah R es ds):ah R (a::es) (b::ds):=⟨b,ds,rfl,h,t⟩
theorem ah.nilE{ds:List β}{P:List β->Prop}(h:ah R [] ds)(k:P []):P ds:=(show ds=[] from h)▸k
theorem ah.consE{a:α}{es:List α}{ds:List β}{P:List β->Prop}(h:ah R (a::es) ds)(k:∀ b r,R a b->ah R es r->P (b::r)):P ds:=h.elim fun b h=>h.elim fun r h=>h.1▸k b r h.2.1 h.2.2
theorem ah.ind{P:List α->List β->Prop}(h0:P [] [])(h1:∀{a b es ds},R a b->ah R es ds->P es ds->P (a::es) (b::ds)){es:List α}:∀{ds:List β},ah R es ds->P es ds:=by
 induction es with
 | nil=>exact fun h=>h.nilE (P:=P []) h0
 | cons a es ih=>exact fun h=>h.consE (P:=P (a::es)) fun _ _ h t=>h1 h t (ih t)
variable{es es':List α}{ds ds':List β}
theorem ah.mono{S:α->β->Prop}(k:∀{a b},R a b->S a b)(h:ah R es ds):ah S es ds:=h.ind (P:=ah S) .nil fun h _ t=>.cons (k h) t
theorem ah.length(h:ah R es ds):es.length=ds.length:=by
 have:=ah.ind (R:=R) (P:=fun es ds=>es.length=ds.length) rfl (fun _ _ t=>Sx (·+1) t) h;exact this
theorem ah.append(h:ah R es ds)(g:ah R es' ds'):ah R (es++es') (ds++ds'):=h.ind (P:=fun es ds=>ah R (es++es') (ds++ds')) g fun h _ t=>.cons h t
theorem ah.snoc{a:α}{b:β}(h:ah R es ds)(g:R a b):ah R (es++[a]) (ds++[b]):=h.append (.cons g .nil)
theorem ah.reverse(h:ah R es ds):ah R es.reverse ds.reverse:=h.ind (P:=fun es ds=>ah R es.reverse ds.reverse) .nil fun h _ t=>by rw[List.reverse_cons,List.reverse_cons];exact t.snoc h
theorem ah.at{i:Nat}:ah R es ds->(es[i]?=none/\ds[i]?=none)\/∃ a b,es[i]?=some a/\ds[i]?=some b/\R a b:=
 fun h=>ah.ind (P:=fun es ds=>∀ i:Nat,(es[i]?=none/\ds[i]?=none)\/∃ a b,es[i]?=some a/\ds[i]?=some b/\R a b) (fun _=>.inl ⟨rfl,rfl⟩) (fun h _ t i=>i.casesOn (.inr ⟨_,_,rfl,rfl,h⟩) t) h i
theorem ah.get{i:Nat}{a:α}(h:ah R es ds)(e:es[i]?=some a){P:Prop}(k:∀ b,ds[i]?=some b->R a b->P):P:=
 h.at.elim (fun q=>nomatch e.symm.trans q.1) fun q=>q.elim fun _ q=>q.elim fun b q=>k b q.2.1 (SQ (e.symm.trans q.1)▸q.2.2)
theorem ah.get'{i:Nat}{b:β}(h:ah R es ds)(e:ds[i]?=some b){P:Prop}(k:∀ a,es[i]?=some a->R a b->P):P:=
 h.at.elim (fun q=>nomatch e.symm.trans q.2) fun q=>q.elim fun a q=>q.elim fun _ q=>k a q.1 (SQ (e.symm.trans q.2.1)▸q.2.2)
theorem ah.drop(k:Nat):∀{es:List α} {ds:List β},ah R es ds->ah R (es.drop k) (ds.drop k):=by
 induction k with
 | zero=>exact fun h=>h
 | succ k ih=>
  refine @fun es ds h=>?_
  cases es with
  | nil=>exact h.nilE (P:=fun ds=>ah R [] (ds.drop _)) rfl
  | cons a es=>exact h.consE (P:=fun ds=>ah R (es.drop k) (ds.drop (k+1))) fun _ _ _ t=>ih t
theorem ah.take(k:Nat):∀{es:List α} {ds:List β},ah R es ds->ah R (es.take k) (ds.take k):=by
 induction k with
 | zero=>exact fun _=>(rfl:ah R [] [])
 | succ k ih=>
  refine @fun es ds h=>?_
  cases es with
  | nil=>exact h.nilE (P:=fun ds=>ah R [] (ds.take _)) rfl
  | cons a es=>exact h.consE (P:=fun ds=>ah R (a::es.take k) (ds.take (k+1))) fun _ _ h t=>.cons h (ih t)
theorem ah.set(i:Nat){a:α}{b:β}(h:ah R es ds)(g:R a b):ah R (es.set i a) (ds.set i b):=
 ah.ind (P:=fun es ds=>∀ i,ah R (es.set i a) (ds.set i b)) (fun _=>.nil) (fun h t s i=>i.casesOn (.cons g t) fun i=>.cons h (s i)) h i
theorem ah.eraseIdx(i:Nat)(h:ah R es ds):ah R (es.eraseIdx i) (ds.eraseIdx i):=
 ah.ind (P:=fun es ds=>∀ i,ah R (es.eraseIdx i) (ds.eraseIdx i)) (fun _=>.nil) (fun h t s i=>i.casesOn t fun i=>.cons h (s i)) h i
theorem ah.modify{f:α->α}{g:β->β}(i:Nat)(h:ah R es ds)(k:∀ a b,es[i]?=some a->R a b->R (f a) (g b)):ah R (es.modify i f) (ds.modify i g):=
 ah.ind (P:=fun es ds=>∀ i,(∀ a b,es[i]?=some a->R a b->R (f a) (g b))->ah R (es.modify i f) (ds.modify i g)) (fun i _=>by cases i<;>exact .nil)
  (fun h t s i=>i.casesOn (fun k=>.cons (k _ _ rfl h) t) fun i k=>.cons h (s i k)) h i k
end
theorem bP.both:∀{vs:List AV} {ws:List Value},bP x vs ws->ah (ao x) vs ws
 | [],_,e=>e
 | _::_,_,e=>e.imp fun _ h=>h.imp fun _ h=>⟨h.1,h.2.1,bP.both h.2.2⟩
theorem ah.vrels{vs:List AV}{ws:List Value}(h:ah (ao x) vs ws):bP x vs ws:=h.ind (P:=bP x) rfl fun h _ t=>⟨_,_,rfl,h,t⟩
theorem DE.wk(k:Wk x y){e:AV×AV}{d:UH}(h:DE x e d):DE y e d:=⟨h.pur,h.hash,h.key.wk k,h.val.wk k⟩
theorem FE.wk(k:Wk x y){e:Nat×AV}{d:UH}(h:FE x e d):FE y e d:=⟨h.lt,h.key,h.val.wk k⟩
theorem ed.wk(k:Wk x y){p:Addr×Addr}(hp:y.h.get? p.2=x.h.get? p.2):∀{o:AO},ed x p o->ed y p o
 | .list _,e=>⟨e.1,e.2.len,e.2.ex.imp fun _ h=>h.imp fun _ h=>⟨hp.trans h.1,h.2.mono (·.wk k)⟩⟩
 | .dict _,e=>⟨e.1,e.2.len,e.2.nodup,e.2.ex.imp fun _ h=>h.imp fun _ h=>⟨hp.trans h.1,h.2.mono (DE.wk k)⟩⟩
 | .hid,e=>⟨e.1,e.2.imp fun _ h=>h.imp fun _ h=>hp.trans h⟩
 | .inst _ _,e=>⟨e.lt,e.len,e.nodup,k.imm e.obj,e.ex.imp fun _ h=>h.imp fun _ h=>⟨hp.trans h.1,h.2.mono (FE.wk k)⟩⟩
theorem ed.alive{p:Addr×Addr}:∀{o:AO},ed x p o->∃ o',x.h.get? p.2=some o'
 | .list _,e=>e.2.ex.elim fun _ h=>h.elim fun _ h=>⟨_,h.1⟩
 | .dict _,e=>e.2.ex.elim fun _ h=>h.elim fun _ h=>⟨_,h.1⟩
 | .hid,e=>e.2.elim fun _ h=>h.elim fun _ h=>⟨_,h⟩
 | .inst _ _,e=>e.ex.elim fun _ h=>h.elim fun _ h=>⟨_,h.1⟩
theorem dH(ι e:G0):c8 (ι++e)=c8 ι++c8 e:=Ta
end
structure tD(f k:Nat)(b:List S):Prop where
 ex:∃(nm qual:Str) (params:Arguments) (body:List Stmt) (scope:Scope) (dV kV doc pm cdv ct:Value) (an:Option Addr) (fo:Obj),
  H0.get? (bv f)=some fo/\fo.data=.func (fnX nm qual params body scope [] dV kV doc pm an cdv ct)/\H0.CodeRec cdv qual/\yn scope=true/\
  params.args.map (·.arg)=(aL scope.names).take k/\params.args.length=k/\
  (∀(s:UE) (vs:List Value),vs.length=k->BindsTo s (fnX nm qual params body scope [] dV kV doc pm an cdv ct) ⟨vs,[]⟩ ((params.args.map (·.arg)).zip vs))/\
  trSs TB (iY scope) body=some b
 keep:keepIn K0 (.ref (bv f))=true
structure uM(c:Nat):Prop where
 makes:makesIn K0 (aZ c)=true
 init:∃ f,dp c 1000=some f/\findIn K0 (.ref (aZ c)) "__init__"=some (some (.ref (bv f)))/\typeIn K0 (.ref (bv f))=some (.type "function")
 ga:findIn K0 (.ref (aZ c)) "__getattribute__"=some (some (.builtin "object.__getattribute__"))
 gx:findIn K0 (.ref (aZ c)) "__getattr__"=some none
 sa:findIn K0 (.ref (aZ c)) "__setattr__"=some (some (.builtin "object.__setattr__"))
 plain:plainOver K0 (aZ c)=true
 hasDict:hasDictIn K0 (aZ c)=true
 keep:keepIn K0 (.ref (aZ c))=true
 meth:∀ m f,dp c m=some f->m<bO.length->findIn K0 (.ref (aZ c)) (dU m)=some (some (.ref (bv f)))/\typeIn K0 (.ref (bv f))=some (.type "function")
 attr:∀ a,a<27->∃ r,findIn K0 (.ref (aZ c)) (dU a)=some r/\noGet K0 r=true
 taker:∀ a,a<27->takerIn K0 (aZ c) (dU a)=some none
structure PF:Prop where
 kin:K0.In H0
 nolimit:H0.NoLimit
 sysm:∃ o,H0.get? sysModules=some o
 ns:∃ mg mb,H0.Ns mainGlobals mg/\H0.Ns builtinsNs mb/\
  (∀ i x,TB.fns[i]?=some x->mg (Str.ofString x)=some (.ref (bv i)))/\(∀ i x,TB.clss[i]?=some x->mg (Str.ofString x)=some (.ref (aZ i)))/\
  (∀ i x,TB.globs[i]?=some x->∃ v av,mg (Str.ofString x)=some v/\ql i=some av/\ao ⟨[],[],H0⟩ av v)/\
  (∀ b,mg (sZ b)=none/\mb (sZ b)=some (iZ b))
 fns:∀ f k b,aj[f]?=some (k,b)->tD f k b
 clss:∀ c,c<7->uM c
structure iG(x:Hp)(Y:St):Prop where
 pf:PF
 len:x.ι.length=Y.length
 nodup:x.F.Nodup
 alive:∀ a,a∈x.F->H0.get? a=none/\∃ o,x.h.get? a=some o
 keep:∀ a o,H0.get? a=some o->x.h.get? a=some o
 objs:∀(i:Nat) (p:Addr×Addr) (o:AO),x.ι[i]?=some p->Y[i]?=some o->ed x p o
structure Pt(Y:St) where
 ι:G0
 κ:List Addr
 s:UE
 r:iG ⟨ι,κ,s.heap⟩ Y
noncomputable abbrev Pt.x{Y:St}(p:Pt Y):Hp:=⟨p.ι,p.κ,p.s.heap⟩
structure Nx(X:List Addr){Y Y':St}(p:Pt Y)(q:Pt Y'):Prop where
 wk:Wk p.x q.x
 prv:∀ a,a∈p.κ->a∈X\/(a∈q.κ/\q.s.heap.get? a=p.s.heap.get? a)
 gens:q.s.gens=p.s.gens
 os:q.s.os=p.s.os
def V{Y:St}(v:AV)(p:Pt Y)(w:Value):Prop:=ao p.x v w
def VL{Y:St}(vs:List AV)(p:Pt Y)(ws:List Value):Prop:=ah (ao p.x) vs ws
section
variable{Y Y' Y'':St}{p:Pt Y}{q:Pt Y'}{r:Pt Y''}{X YY:List Addr}
theorem Nx.refl(p:Pt Y):Nx X p p:=⟨.refl _,fun _ h=>.inr ⟨h,rfl⟩,rfl,rfl⟩
theorem Nx.trans(a:Nx X p q)(b:Nx X q r):Nx X p r:=
 ⟨a.wk.trans b.wk,fun c h=>(a.prv c h).elim .inl fun g=>(b.prv c g.1).imp id fun g'=>⟨g'.1,g'.2.trans g.2⟩,b.gens.trans a.gens,b.os.trans a.os⟩
theorem Nx.more(a:Nx X p q)(h:∀ c,c∈X->c∈p.κ->c∈YY):Nx YY p q:=⟨a.wk,fun c hc=>(a.prv c hc).imp (fun g=>h c g hc) id,a.gens,a.os⟩
theorem Nx.weak(a:Nx [] p q):Nx X p q:=a.more fun _ h=>nomatch h
theorem V.nx{v:AV}{w:Value}(h:V v p w)(n:Nx X p q):V v q w:=ao.wk n.wk h
theorem VL.nx{v:List AV}{w:List Value}(h:VL v p w)(n:Nx X p q):VL v q w:=ah.mono (ao.wk n.wk) h
theorem Nx.kept(n:Nx [] p q){a:Addr}(h:a∈p.κ):a∈q.κ/\q.s.heap.get? a=p.s.heap.get? a:=(n.prv a h).elim (fun h=>nomatch h) id
theorem Hp.mem_of{x:Hp}{i:Nat}{pr:Addr×Addr}(h:x.ι[i]?=some pr):pr.2∈x.F:=Te _ (Uk (Tf h))
theorem Hp.mem_κ{x:Hp}{a:Addr}(h:a∈x.κ):a∈x.F:=Tq _ h
theorem iG.none_not{x:Hp}(r:iG x Y){a:Addr}(h:x.h.get? a=none):a∉x.F:=fun hm=>(r.alive a hm).2.elim fun _ e=>nomatch e.symm.trans h
theorem iG.base_not{x:Hp}(r:iG x Y){a:Addr}{o:Obj}(h:H0.get? a=some o):a∉x.F:=fun hm=>nomatch(r.alive a hm).1.symm.trans h
theorem iG.none_base{x:Hp}(r:iG x Y){a:Addr}(h:x.h.get? a=none):H0.get? a=none:=match e:H0.get? a with
 | none=>rfl
 | some o=>nomatch(r.keep a o e).symm.trans h
theorem iG.base{x:Hp}(r:iG x Y){a:Addr}{o:Obj}(h:H0.get? a=some o):fE x a o:=⟨r.keep a o h,r.base_not h⟩
theorem iG.at{x:Hp}(r:iG x Y){i:Nat}{o:AO}(h:Y[i]?=some o){P:Prop}(k:∀ pr,x.ι[i]?=some pr->ed x pr o->P):P:=
 have hi:i<x.ι.length:=r.len▸(SJ.mp h).1
 k _ (Tu hi) (r.objs i _ o (Tu hi) h)
theorem Pt.lst(p:Pt Y){i:Nat}{vs:List AV}(h:ai Y i=some vs){P:Prop}(k:∀ a ws n,p.ι[i]?=some (a,a)->vs.length<=ax->p.s.heap.get? a=some (gu ws n)->VL vs p ws.toList->P):P:=
 p.r.at (vS h) fun⟨a,b⟩ h1 h2=>by obtain⟨e,l,ws,n,g,r⟩:=h2;cases e;exact k a ws n h1 l g r
theorem Pt.dct(p:Pt Y){i:Nat}{es:List (AV×AV)}(h:aM Y i=some es){P:Prop}(k:∀ a ds n,p.ι[i]?=some (a,a)->es.length<=ax->(es.map (·.1)).Nodup->p.s.heap.get? a=some (bS ds n)->ah (DE p.x) es ds.toList->P):P:=
 p.r.at (wy h) fun⟨a,b⟩ h1 h2=>by obtain⟨e,l,nd,ds,n,g,r⟩:=h2;cases e;exact k a ds n h1 l nd g r
theorem Pt.ins(p:Pt Y){i:Nat}{c:Nat×List (Nat×AV)}(h:dP Y i=some c){P:Prop}(k:∀ pr,p.ι[i]?=some pr->GV p.x pr c.1 c.2->P):P:=p.r.at (wh h) k
theorem Wk.same{x:Hp}{h':Heap}(hk:∀ a o,x.h.get? a=some o->a∉x.F->h'.get? a=some o):Wk x ⟨x.ι,x.κ,h'⟩:=⟨id,fun i=>⟨hk _ _ i.h i.out,i.out⟩⟩
theorem iG.put{x:Hp}{Y':St}{h':Heap}{a:Addr}(r:iG x Y)(ha:a∈x.F)(hs:Heap.SameBut a x.h h')(hl:∃ o,h'.get? a=some o)(hY:Y'.length=Y.length)
  (ho:∀(i:Nat) (p:Addr×Addr) (o:AO),x.ι[i]?=some p->Y'[i]?=some o->(p.2=a->ed ⟨x.ι,x.κ,h'⟩ p o)/\(p.2≠a->Y[i]?=some o)):iG ⟨x.ι,x.κ,h'⟩ Y':=
 have wk:Wk x ⟨x.ι,x.κ,h'⟩:=.same fun b o e hb=>(hs.2 b fun q=>hb (q▸ha)).trans e
 ⟨r.pf,r.len.trans hY.symm,r.nodup,fun b hb=>⟨(r.alive b hb).1,(Tl (b=a)).elim (fun e=>e▸hl) fun e=>(r.alive b hb).2.imp fun _ g=>(hs.2 b e).trans g⟩,
  fun b o e=>(wk.imm (r.base e)).h,fun i p o h1 h2=>(Tl (p.2=a)).elim (ho i p o h1 h2).1 fun e=>(r.objs i p o h1 ((ho i p o h1 h2).2 e)).wk wk (hs.2 _ e)⟩
theorem iG.idx{x:Hp}(r:iG x Y){i j:Nat}{p q:Addr×Addr}(h1:x.ι[i]?=some p)(h2:x.ι[j]?=some q)(e:p.2=q.2):i=j:=
 have e1:(c8 x.ι)[i]?=some p.2:=by rw[c8,Tv,h1];rfl
 have e2:(c8 x.ι)[j]?=some q.2:=by rw[c8,Tv,h2];rfl
 (List.getElem?_inj (SJ.mp e1).1 (Tj.mp r.nodup).1).mp (e1.trans (e▸e2.symm))
theorem iG.set{x:Hp}{h':Heap}{i:Nat}{pr:Addr×Addr}{o:AO}(r:iG x Y)(hp:x.ι[i]?=some pr)(hs:Heap.SameBut pr.2 x.h h')(ho:ed ⟨x.ι,x.κ,h'⟩ pr o):iG ⟨x.ι,x.κ,h'⟩ (Y.set i o):=
 r.put (Hp.mem_of hp) hs ho.alive Ul fun j q o' h1 h2=>by
  by_cases hij:i=j
  ·subst hij
   cases hp.symm.trans h1
   rw[TQ (r.len▸(SJ.mp hp).1)] at h2
   cases h2
   exact⟨fun _=>ho,fun e=>SH rfl e⟩
  ·rw[Tk hij] at h2;exact⟨fun e=>SH (r.idx hp h1 e.symm) hij,fun _=>h2⟩
variable{Q:UE->Prop}{h':Heap}{t:Nat}{d:Drawn}
theorem iG.apart{x:Hp}(r:iG x Y){i:Nat}{pr:Addr×Addr}{a:Addr}(hp:x.ι[i]?=some pr)(ha:a∈x.κ):a≠pr.2:=fun e=>(Tj.mp r.nodup).2.2 _ (Uk (Tf hp)) _ ha e.symm
theorem Pt.setH(p:Pt Y){i:Nat}{pr:Addr×Addr}{o:AO}(hp:p.ι[i]?=some pr)(hs:Heap.SameBut pr.2 p.s.heap h')(ho:Wk p.x ⟨p.ι,p.κ,h'⟩->ed ⟨p.ι,p.κ,h'⟩ pr o)(k:∀ q:Pt (Y.set i o),Nx [] p q->q.s.heap=h'->Q q.s) :
  Q ⟨h',p.s.gens,d,t,p.s.os⟩:=
 have wk:Wk p.x ⟨p.ι,p.κ,h'⟩:=.same fun b o e hb=>(hs.2 b fun q=>hb (q▸Hp.mem_of (x:=p.x) hp)).trans e
 k ⟨p.ι,p.κ,⟨h',p.s.gens,d,t,p.s.os⟩,p.r.set hp hs (ho wk)⟩ ⟨wk,fun _ h=>.inr ⟨h,hs.2 _ (p.r.apart hp h)⟩,rfl,rfl⟩ rfl
theorem Pt.set(p:Pt Y){i:Nat}{pr:Addr×Addr}{o:AO}(hp:p.ι[i]?=some pr)(hs:Heap.SameBut pr.2 p.s.heap h')(ho:Wk p.x ⟨p.ι,p.κ,h'⟩->ed ⟨p.ι,p.κ,h'⟩ pr o)(k:∀ q:Pt (Y.set i o),Nx [] p q->Q q.s) :
  Q ⟨h',p.s.gens,d,t,p.s.os⟩:=p.setH hp hs ho fun q n _=>k q n
theorem Pt.setL(p:Pt Y){i:Nat}{a:Addr}{vs:List AV}{ws:Array Value}{n:Nat}(hp:p.ι[i]?=some (a,a))(hs:Heap.SameBut a p.s.heap h')(ho:h'.get? a=some (gu ws n))(hl:vs.length<=ax)(hv:VL vs p ws.toList)
  (k:∀ q:Pt (Y.set i (.list vs)),Nx [] p q->Q q.s):Q ⟨h',p.s.gens,d,t,p.s.os⟩:=p.set (o:=.list vs) hp hs (fun wk=>⟨rfl,hl,ws,n,ho,hv.mono (ao.wk wk)⟩) k
theorem Pt.setD(p:Pt Y){i:Nat}{a:Addr}{es:List (AV×AV)}{ds:Array UH}{n:Nat}(hp:p.ι[i]?=some (a,a))(hs:Heap.SameBut a p.s.heap h')(ho:h'.get? a=some (bS ds n))(hl:es.length<=ax)(nd:(es.map (·.1)).Nodup)(hv:ah (DE p.x) es ds.toList)
  (k:∀ q:Pt (Y.set i (.dict es)),Nx [] p q->Q q.s):Q ⟨h',p.s.gens,d,t,p.s.os⟩:=p.set (o:=.dict es) hp hs (fun wk=>⟨rfl,hl,nd,ds,n,ho,hv.mono (DE.wk wk)⟩) k
theorem Pt.setDH(p:Pt Y){i:Nat}{a:Addr}{es:List (AV×AV)}{ds:Array UH}{n:Nat}(hp:p.ι[i]?=some (a,a))(hs:Heap.SameBut a p.s.heap h')(ho:h'.get? a=some (bS ds n))(hl:es.length<=ax)(nd:(es.map (·.1)).Nodup)(hv:ah (DE p.x) es ds.toList)
  (k:∀ q:Pt (Y.set i (.dict es)),Nx [] p q->(∀ b,b≠a->q.s.heap.get? b=p.s.heap.get? b)->Q q.s):Q ⟨h',p.s.gens,d,t,p.s.os⟩:=p.setH (o:=.dict es) hp hs (fun wk=>⟨rfl,hl,nd,ds,n,ho,hv.mono (DE.wk wk)⟩) fun q n e=>k q n (e▸hs.2)
theorem Pt.put(p:Pt Y){a:Addr}{o:Obj}(ha:a∈p.κ)(hs:Heap.SameBut a p.s.heap h')(ho:h'.get? a=some o)(k:∀ q:Pt Y,Nx [a] p q->a∈q.κ->q.s.heap.get? a=some o->Q q.s):Q ⟨h',p.s.gens,d,t,p.s.os⟩:=
 have wk:Wk p.x ⟨p.ι,p.κ,h'⟩:=.same fun b o e hb=>(hs.2 b fun q=>hb (q▸Hp.mem_κ (x:=p.x) ha)).trans e
 k ⟨p.ι,p.κ,⟨h',p.s.gens,d,t,p.s.os⟩,p.r.put (Hp.mem_κ (x:=p.x) ha) hs ⟨o,ho⟩ rfl fun _ _ _ h1 h2=>⟨fun e=>SH e.symm (p.r.apart h1 ha),fun _=>h2⟩⟩
  ⟨wk,fun b h=>(Tl (b=a)).elim (fun e=>.inl (e▸.head _)) fun e=>.inr ⟨h,hs.2 b e⟩,rfl,rfl⟩ ha ho
theorem mP{ι e:G0}{os:List AO}{i:Nat}{pr:Addr×Addr}{o:AO}{P:Prop}(hl:ι.length=Y.length)(h1:(ι++e)[i]?=some pr)(h2:(Y++os)[i]?=some o)(k1:ι[i]?=some pr->Y[i]?=some o->P)(k2:∀ j:Nat,e[j]?=some pr->os[j]?=some o->P):P:=by
 by_cases hi:i<ι.length
 ·rw[S8 hi] at h1;rw[S8 (hl▸hi)] at h2;exact k1 h1 h2
 ·have hi:=Nat.le_of_not_lt hi;rw[TJ hi] at h1;rw[TJ (hl▸hi),<- hl] at h2;exact k2 _ h1 h2
theorem rS{α β:Type}{a pr:α}{b o:β}{P:α->β->Prop}(k:P a b):∀(j:Nat),[a][j]?=some pr->[b][j]?=some o->P pr o
 | 0,h1,h2=>SQ h1▸SQ h2▸k
 | _+1,h1,_=>nomatch h1
theorem iG.grow{x y:Hp}{os:List AO}(r:iG x Y){e:G0}{L:List Addr}(hι:y.ι=x.ι++e)(hκ:y.κ=L++x.κ)(hk:∀ a o,x.h.get? a=some o->y.h.get? a=some o)(hn:∀ a,a∈c8 e++L->x.h.get? a=none/\∃ o,y.h.get? a=some o)
  (nd:(c8 e++L).Nodup) (hl:e.length=os.length) (ho:Wk x y->∀(i:Nat) (p:Addr×Addr) (o:AO),e[i]?=some p->os[i]?=some o->ed y p o):Wk x y/\iG y (Y++os):=by
 obtain⟨ι,κ,h⟩:=x;obtain⟨ι',κ',h'⟩:=y;dsimp only at hι hκ hk hn;subst hι hκ;have mem:∀ a,a∈(Hp.mk (ι++e) (L++κ) h').F->a∈(Hp.mk ι κ h).F\/a∈c8 e++L:=fun a ha=>by
  simp only[Hp.F,dH,List.mem_append] at ha ⊢
  rcases ha with(a | a) | a | a
  ·exact .inl (.inl a)
  ·exact .inr (.inl a)
  ·exact .inr (.inr a)
  ·exact .inl (.inr a)
 have wk:Wk ⟨ι,κ,h⟩ ⟨ι++e,L++κ,h'⟩:=⟨fun{n p} g=>(S8 (SJ.mp g).1).trans g,fun i=>⟨hk _ _ i.h,fun hm=>(mem _ hm).elim i.out fun hm=>nomatch(hn _ hm).1.symm.trans i.h⟩⟩
 refine⟨wk,r.pf,by rw[SP,SP,hl,r.len],?_,fun a ha=>(mem a ha).elim (fun g=>(r.alive a g).imp id fun q=>q.imp fun o q=>hk a o q) fun g=>⟨r.none_base (hn a g).1,(hn a g).2⟩,fun a o q=>hk a o (r.keep a o q),fun i p o h1 h2=>?_⟩
 ·have ap:∀ a,a∈(Hp.mk ι κ h).F->∀ b,b∈c8 e++L->a≠b:=fun a ha b hb q=>r.none_not (hn b hb).1 (q▸ha);have big:((c8 ι++κ)++(c8 e++L)).Nodup:=Tj.mpr ⟨r.nodup,nd,ap⟩;refine(List.Perm.nodup_iff ?_).mp big;rw[Hp.F,dH,SR,SR];refine List.Perm.append_left _ ?_;rw[<- SR (c8 e) L κ];exact List.perm_append_comm
 ·exact mP r.len h1 h2 (fun h1 h2=>let g:=r.objs i p o h1 h2;g.wk wk (g.alive.elim fun o' q=>(hk _ _ q).trans q.symm)) fun j=>ho wk j p o
theorem th{ι:G0}{pr:Addr×Addr}(hl:ι.length=Y.length):(ι++[pr])[Y.length]?=some pr:=hl▸UA
theorem Pt.newOH(p:Pt Y){pr:Addr×Addr}{o:AO}(hn:p.s.heap.get? pr.2=none)(hk:∀ a o,p.s.heap.get? a=some o->h'.get? a=some o)(ho:Wk p.x ⟨p.ι++[pr],p.κ,h'⟩->ed ⟨p.ι++[pr],p.κ,h'⟩ pr o)
  (k:∀ q:Pt (Y++[o]),Nx [] p q->q.ι[Y.length]?=some pr->q.s.heap=h'->Q q.s) (hw:∃ o,h'.get? pr.2=some o):Q ⟨h',p.s.gens,d,t,p.s.os⟩:=
 have g:=p.r.grow (y:=⟨p.ι++[pr],p.κ,h'⟩) (os:=[o]) (e:=[pr]) (L:=[]) rfl rfl hk (fun a ha=>SO.mp ha▸⟨hn,hw⟩) (Th.mpr ⟨nofun,.nil⟩) rfl
  fun wk i _ _=>rS (P:=ed ⟨p.ι++[pr],p.κ,h'⟩) (ho wk) i
 k ⟨p.ι++[pr],p.κ,⟨h',p.s.gens,d,t,p.s.os⟩,g.2⟩ ⟨g.1,fun _ h=>.inr ⟨h,(p.r.alive _ (Hp.mem_κ (x:=p.x) h)).2.elim fun _ e=>(hk _ _ e).trans e.symm⟩,rfl,rfl⟩
  (th p.r.len) rfl
theorem Pt.newO(p:Pt Y){pr:Addr×Addr}{o:AO}(hn:p.s.heap.get? pr.2=none)(hk:∀ a o,p.s.heap.get? a=some o->h'.get? a=some o)(ho:Wk p.x ⟨p.ι++[pr],p.κ,h'⟩->ed ⟨p.ι++[pr],p.κ,h'⟩ pr o)
  (k:∀ q:Pt (Y++[o]),Nx [] p q->V (.ref Y.length) q (.ref pr.1)->Q q.s) (hw:∃ o,h'.get? pr.2=some o):Q ⟨h',p.s.gens,d,t,p.s.os⟩:=p.newOH hn hk ho (fun q n g _=>k q n ⟨pr,g,rfl⟩) hw
theorem Pt.newL(p:Pt Y){a:Addr}{vs:List AV}{ws:Array Value}{n:Nat}(hn:p.s.heap.get? a=none)(hk:∀ a o,p.s.heap.get? a=some o->h'.get? a=some o)(ho:h'.get? a=some (gu ws n))(hl:vs.length<=ax)(hv:VL vs p ws.toList)
  (k:∀ q:Pt (Y++[.list vs]),Nx [] p q->V (.ref Y.length) q (.ref a)->Q q.s):Q ⟨h',p.s.gens,d,t,p.s.os⟩:=
 p.newO (pr:=(a,a)) (o:=.list vs) hn hk (fun wk=>⟨rfl,hl,ws,n,ho,hv.mono (ao.wk wk)⟩) k ⟨_,ho⟩
theorem Pt.newD(p:Pt Y){a:Addr}{es:List (AV×AV)}{ds:Array UH}{n:Nat}(hn:p.s.heap.get? a=none)(hk:∀ a o,p.s.heap.get? a=some o->h'.get? a=some o)(ho:h'.get? a=some (bS ds n))(hl:es.length<=ax)(nd:(es.map (·.1)).Nodup)
  (hv:ah (DE p.x) es ds.toList) (k:∀ q:Pt (Y++[.dict es]),Nx [] p q->V (.ref Y.length) q (.ref a)->Q q.s):Q ⟨h',p.s.gens,d,t,p.s.os⟩:=
 p.newO (pr:=(a,a)) (o:=.dict es) hn hk (fun wk=>⟨rfl,hl,nd,ds,n,ho,hv.mono (DE.wk wk)⟩) k ⟨_,ho⟩
theorem Pt.grow(p:Pt Y)(L:List Addr)(hk:∀ a o,p.s.heap.get? a=some o->h'.get? a=some o)(hn:∀ a,a∈L->p.s.heap.get? a=none/\∃ o,h'.get? a=some o)(nd:L.Nodup)
  (k:∀ q:Pt Y,Nx [] p q->q.s.heap=h'->(∀ a,a∈L->a∈q.κ/\a∉p.κ)->(∀ a o,p.s.heap.get? a=none->a∉L->h'.get? a=some o->fE q.x a o)->Q q.s):Q ⟨h',p.s.gens,d,t,p.s.os⟩:=
 have g:=p.r.grow (y:=⟨p.ι,L++p.κ,h'⟩) (os:=[]) (e:=[]) (L:=L) (Ti _).symm rfl hk hn nd rfl fun _ _ _ _ h=>nomatch h
 k ⟨p.ι,L++p.κ,⟨h',p.s.gens,d,t,p.s.os⟩,by have:=g.2;rwa [Ti] at this⟩ ⟨g.1,fun _ h=>.inr ⟨Tq _ h,(p.r.alive _ (Hp.mem_κ (x:=p.x) h)).2.elim fun _ e=>(hk _ _ e).trans e.symm⟩,rfl,rfl⟩ rfl
  (fun a ha=>⟨Te _ ha,fun hm=>p.r.none_not (hn a ha).1 (Hp.mem_κ (x:=p.x) hm)⟩)
  fun a o h1 h2 h3=>⟨h3,fun hm=>(S9.mp hm).elim (fun hm=>p.r.none_not h1 (Te _ hm)) fun hm=>(S9.mp hm).elim h2 fun hm=>p.r.none_not h1 (Hp.mem_κ (x:=p.x) hm)⟩
theorem Nx.sub(n:Nx X p q)(hX:∀ a,a∈X->a∈p.κ->a∈q.κ){a:Addr}(h:a∈p.κ):a∈q.κ:=(n.prv a h).elim (fun g=>hX a g h) And.left
theorem Pt.adopt(p:Pt Y)(q:Pt Y')(n:Nx X p q){L:List Addr}(hL:∀ a,a∈L->a∈q.κ)(nd:L.Nodup)(hp:∀ a,a∈p.κ->a∈L){a:Addr}{o:AO}(ha:a∈q.κ)(hn:a∉L)(ho:Wk q.x ⟨q.ι++[(a,a)],L,q.s.heap⟩->ed ⟨q.ι++[(a,a)],L,q.s.heap⟩ (a,a) o)
  (k:∀ r:Pt (Y'++[o]),Nx X p r->Wk q.x r.x->r.ι[Y'.length]?=some (a,a)->r.κ=L->r.s=q.s->Q r.s):Q q.s:=
 have fe:(Hp.mk (q.ι++[(a,a)]) L q.s.heap).F=c8 q.ι++(a::L):=by rw[Hp.F,dH,SR];rfl
 have sub:∀ b,b∈(Hp.mk (q.ι++[(a,a)]) L q.s.heap).F->b∈q.x.F:=fun b h=>(S9.mp (fe▸h)).elim (Te _) fun h=>Tq _ ((SN.mp h).elim (fun e=>e▸ha) (hL b));have wk:Wk q.x ⟨q.ι++[(a,a)],L,q.s.heap⟩:=⟨fun{n p} g=>(S8 (SJ.mp g).1).trans g,fun i=>⟨i.h,fun h=>i.out (sub _ h)⟩⟩;have len:(q.ι++[(a,a)]).length=(Y'++[o]).length:=by rw[SP,SP,show q.ι.length=Y'.length from q.r.len];rfl
 k ⟨q.ι++[(a,a)],L,q.s,q.r.pf,len,
   fe▸Tj.mpr ⟨(Tj.mp q.r.nodup).1,Th.mpr ⟨hn,nd⟩,fun b h c h'=>(Tj.mp q.r.nodup).2.2 b h c ((SN.mp h').elim (fun e=>e▸ha) (hL c))⟩,
   fun b h=>q.r.alive b (sub b h),q.r.keep,fun i pr o' h1 h2=>mP q.r.len h1 h2 (fun h1 h2=>(q.r.objs i pr o' h1 h2).wk wk rfl) (rS (P:=ed ⟨q.ι++[(a,a)],L,q.s.heap⟩) (b:=o) (ho wk))⟩
  ⟨n.wk.trans wk,fun b h=>(n.prv b h).imp id fun g=>⟨hp b h,g.2⟩,n.gens,n.os⟩ wk (th q.r.len) rfl rfl
theorem Pt.moves(p:Pt Y){it:Addr}(hit:it∈p.κ)(hk:Heap.ExtBut it p.s.heap h')(k:∀ q:Pt Y,Nx [it] p q->Q q.s):Q ⟨h',p.s.gens,d,t,p.s.os⟩:=
 have nf:it∉c8 p.ι:=fun h=>(Tj.mp p.r.nodup).2.2 it h it hit rfl;have sub:∀ b,b∈(Hp.mk p.ι (p.κ.filter fun b=>decide (b≠it)) h').F->b∈p.x.F/\b≠it:=fun b hb=>(S9.mp hb).elim (fun h=>⟨Te _ h,fun e=>nf (e▸h)⟩) fun h=>⟨Tq _ (TK.mp h).1,SF (TK.mp h).2⟩;have wk:Wk p.x ⟨p.ι,p.κ.filter fun b=>decide (b≠it),h'⟩:=⟨_root_.id,fun{a o} i=>⟨hk a o (fun e=>i.out (e▸Hp.mem_κ (x:=p.x) hit)) i.h,fun h=>i.out (sub _ h).1⟩⟩
 k ⟨p.ι,p.κ.filter fun b=>decide (b≠it),⟨h',p.s.gens,d,t,p.s.os⟩,p.r.pf,p.r.len,p.r.nodup.sublist (List.Sublist.append_left Ut _),fun b hb=>(p.r.alive b (sub b hb).1).imp _root_.id fun g=>g.imp fun o e=>hk b o (sub b hb).2 e,
   fun a o e=>(wk.imm (p.r.base e)).h,fun i pr o h1 h2=>(p.r.objs i pr o h1 h2).wk wk ((p.r.objs i pr o h1 h2).alive.elim fun o' e=>(hk _ _ (fun q=>nf (q▸Uk (Tf h1))) e).trans e.symm)⟩
  ⟨wk,fun b hb=>(Tl (b=it)).elim (fun e=>.inl (e▸.head _)) fun e=>.inr ⟨TK.mpr ⟨hb,SM e⟩,(p.r.alive b (Hp.mem_κ (x:=p.x) hb)).2.elim fun o g=>(hk b o e g).trans g.symm⟩,rfl,rfl⟩
theorem Pt.push(p:Pt Y){o:Obj}(k:∀ q:Pt Y,Nx [] p q->q.s.heap=p.s.heap.push o->fE q.x p.s.heap.objs.size o->Q q.s)(ho:o.isFreed=false:=by rfl):Q ⟨p.s.heap.push o,p.s.gens,d,t,p.s.os⟩:=
 p.grow [] (fun _ _ e=>SW o e) (fun _ h=>nomatch h) .nil fun q n e _ f=>k q n e (f _ _ (TN (SE _)) nofun (Tb _ ho))
end
theorem kB{x:Str}{b:aN}(h:mO x=some b):x=sZ b:=by
 unfold mO at h;have h':=List.find?_some h;exact(eq_of_beq h').symm
theorem ch{tab:List String}{s:Str}{i:Nat}(h:bd tab s=some i):∃ x,tab[i]?=some x/\Str.ofString x=s/\i<tab.length:=
 (List.findIdx?_eq_some_iff_getElem.mp h).elim fun hi h1=>⟨tab[i],Tu hi,eq_of_beq h1.1,hi⟩
theorem uu{tab:List String}{i:Nat}{x:String}(h:tab[i]?=some x):tab.getD i ""=x:=by rw[UB,h];rfl
theorem dE{s:Str}{i:Nat}(h:bd aS s=some i):i<aS.length/\s=au i:=(ch h).elim fun _ h=>⟨h.2.2,(Sx Str.ofString (uu h.1)).trans h.2.1 |>.symm⟩
theorem er{s:Str}{i:Nat}(h:bd bO s=some i):i<bO.length/\s=dU i:=(ch h).elim fun _ h=>⟨h.2.2,(Sx Str.ofString (uu h.1)).trans h.2.1 |>.symm⟩
structure cg(A:UG)(n:Nat):Prop where
 depth:A.depth+3*n+10<recursionLimit
 units:A.units+20*n+100<cLine
 handled:A.handled=none
structure FS(env:Env)(cx:Cx):Prop where
 kind:env.scope.kind=.function
 glob:env.globals=mainGlobals
 blt:env.builtins=builtinsNs
 sc:∀ x,(cx.sc.lookup x=some .local->env.kindOf x=some .local)/\(cx.sc.lookup x=some .cell->env.kindOf x=some .cell)/\(cx.sc.lookup x=some .free->env.kindOf x=some .cell)/\
  (cx.sc.lookup x=some .globalImplicit->env.kindOf x=some .globalImplicit)
 inj:∀ x y i,cx.sl.lookup x=some i->cx.sl.lookup y=some i->x=y
 apart:∀ x y c,env.cells.lookup x=some c->env.cells.lookup y=some c->x=y
 slots:∀ x i,cx.sl.lookup x=some i->i<cx.sl.length
structure FR(x:Hp)(env:Env)(cx:Cx)(U:En):Prop where
 st:FS env cx
 ownL:env.locals∈x.κ
 ownC:∀ y c,env.cells.lookup y=some c->c∈x.κ
 ns:∃ m,x.h.Ns env.locals m/\∀ y i v,cx.sc.lookup y=some .local->cx.sl.lookup y=some i->U i=some v->∃ v',m y=some v'/\ao x v v'
 cells:∀ y i,cx.sc.lookup y=some .cell\/cx.sc.lookup y=some .free->cx.sl.lookup y=some i->∃ c cv,env.cells.lookup y=some c/\x.h.IsCell c cv/\∀ v,U i=some v->∃ v',cv=some v'/\ao x v v'
 top:∀ i,cx.sl.length<=i->U i=none
structure kW(A:UG)(n:Nat):Prop where
 depth:A.depth+3*n+8<recursionLimit
 units:A.units+20*n+90<cLine
 handled:A.handled=none
structure fm(n:Nat)(C:Calls):Prop where
 keep:∀{f:Nat} {vs:List AV} {Y Y':St} {v:AV},C.fn f vs Y=some (v,Y')->keepIn K0 (.ref (bv f))=true
 go:∀{f:Nat} {vs:List AV} {Y Y':St} {v:AV},C.fn f vs Y=some (v,Y')->∀{A:UG} {p:Pt Y} {ws:List Value} {R:Result->UE->Prop},kW A n->VL vs p ws->
  (∀(q:Pt Y') w,Nx [] p q->V v q w->R (.ok (.ret w)) q.s)->codeAny M0 A (.call (.ref (bv f)) ⟨ws,[]⟩) R p.s
structure Cc where
 n:Nat
 C:Calls
 cx:Cx
 ok:fm n C
structure Fm(c:Cc)(U:En){Y:St}(p:Pt Y) where
 A:UG
 env:Env
 R:cg A c.n
 F:FR p.x env c.cx U
section
variable{Y Y' Y'':St}{p:Pt Y}{q:Pt Y'}{Z:List Addr}{c:Cc}{U:En}
theorem FR.nx{env:Env}{cx:Cx}(f:FR p.x env cx U)(n:Nx Z p q)(hL:env.locals∉Z)(hC:∀ y c,env.cells.lookup y=some c->c∉Z):FR q.x env cx U:=
 have k:∀{a:Addr},a∈p.κ->a∉Z->a∈q.κ/\q.s.heap.get? a=p.s.heap.get? a:=fun h h'=>(n.prv _ h).elim (fun g=>SH g h') id;have hL':=k f.ownL hL
 ⟨f.st,hL'.1,fun y c h=>(k (f.ownC y c h) (hC y c h)).1,f.ns.imp fun m h=>⟨h.1.imp fun o h=>h.imp fun _ h=>h.imp fun _ h=>⟨hL'.2.trans h.1,h.2⟩,fun y i v h1 h2 h3=>(h.2 y i v h1 h2 h3).imp fun _ h=>⟨h.1,h.2.wk n.wk⟩⟩,
  fun y i h1 h2=>(f.cells y i h1 h2).imp fun c h=>h.imp fun cv h=>⟨h.1,h.2.1.imp fun o g=>⟨(k (f.ownC y c h.1) (hC y c h.1)).2.trans g.1,g.2⟩,fun v e=>(h.2.2 v e).imp fun _ g=>⟨g.1,g.2.wk n.wk⟩⟩,f.top⟩
noncomputable def Fm.nx(f:Fm c U p)(n:Nx [] p q):Fm c U q:=⟨f.A,f.env,f.R,f.F.nx n nofun fun _ _ _=>nofun⟩
structure Ev{α:Type}(k:Pt Y'->α->Prop)(A:UG)(p:Pt Y)(m:Sem α):Prop where
 go:∀{E:Value->UE->Prop} {Q:α->UE->Prop},(∀ q a,Nx [] p q->k q a->Q a q.s)->wpAny M0 A m Q E p.s
abbrev aQ(A:UG)(p:Pt Y)(m:Sem Value)(v:AV)(Y':St):Prop:=Ev (Y':=Y') (V v) A p m
variable{α β:Type}{A:UG}
theorem Ev.pure{k:Pt Y->α->Prop}{a:α}(h:k p a):Ev k A p (Pure.pure a):=⟨fun g=>Sw (g p a (.refl p) h)⟩
theorem Ev.bind{k:Pt Y'->α->Prop}{k':Pt Y''->β->Prop}{m:Sem α}{f:α->Sem β}(h:Ev k A p m)(g:∀ q a,Nx [] p q->k q a->Ev k' A q (f a)):Ev k' A p (m >>= f):=
 ⟨fun w=>Sv (h.go fun q a n r=>(g q a n r).go fun q' b n' r'=>w q' b (n.trans n') r')⟩
theorem Ev.mono{k k':Pt Y'->α->Prop}{m:Sem α}(h:Ev k A p m)(g:∀ q a,Nx [] p q->k q a->k' q a):Ev k' A p m:=⟨fun w=>h.go fun q a n r=>w q a n (g q a n r)⟩
theorem Ev.after{k:Pt Y''->α->Prop}{m:Sem α}(n:Nx [] p q)(h:Ev k A q m){E:Value->UE->Prop}{Q:α->UE->Prop}(w:∀ r a,Nx [] p r->k r a->Q a r.s):wpAny M0 A m Q E q.s:=h.go fun r a n' g=>w r a (n.trans n') g
noncomputable def Pt.tok(p:Pt Y)(t:Nat):Pt Y:=⟨p.ι,p.κ,{ p.s with toks:=t },p.r⟩
theorem Nx.tok{t:Nat}:Nx Z p (p.tok t):=⟨.refl _,fun _ h=>.inr ⟨h,rfl⟩,rfl,rfl⟩
structure Sr(p:Pt Y)(κ:List Addr)(I J l:Addr)(vs:List AV)(ws:Array Value)(n:Nat):Prop where
 own:(I∈p.κ/\I∉κ)/\(J∈p.κ/\J∉κ)/\I≠J
 at_:IsEnum p.s.heap I J 0 .none/\p.s.heap.IsTupleIter J l 0
 src:vs.length<=ax/\fE p.x l (bV ws n)/\VL vs p ws.toList
structure Ss(p:Pt Y)(κ:List Addr)(I J:Addr)(a:Addr)(r:Nat):Prop where
 own:(I∈p.κ/\I∉κ)/\(J∈p.κ/\J∉κ)/\I≠J
 at_:IsEnum p.s.heap I J 0 .none/\p.s.heap.IsListIter J a 0
 src:p.ι[r]?=some (a,a)
structure Sm(p:Pt Y)(κ:List Addr)(z TI TO i1 i2 l1 l2:Addr)(k:Nat)(xs ys:List AV)(ws us:Array Value)(n m:Nat):Prop where
 own:(∀ a,a∈[z,TI,i1,i2]->a∈p.κ/\a∉κ)/\[z,TI,TO,i1,i2].Nodup
 to:p.ι[k]?=some (TO,TO)
 at_:IsZip p.s.heap z TI TO .none/\IsPair p.s.heap TI (.ref i1) (.ref i2)/\IsPair p.s.heap TO .none .none/\p.s.heap.IsTupleIter i1 l1 0/\p.s.heap.IsTupleIter i2 l2 0
 src1:xs.length<=ax/\fE p.x l1 (bV ws n)/\VL xs p ws.toList
 src2:ys.length<=ax/\fE p.x l2 (bV us m)/\VL ys p us.toList
noncomputable def Hf(κ:List Addr)(p:Pt Y)(w:Value):AV->Prop
 | .enm (.tup xs)=>∃ I J l ws n,w=.ref I/\Sr p κ I J l xs ws n
 | .enm (.ref r)=>∃ I J a,w=.ref I/\Ss p κ I J a r
 | .zp (.tup (.ref k::xs)) (.tup ys)=>∃ z TI TO i1 i2 l1 l2 ws us n m,w=.ref z/\Sm p κ z TI TO i1 i2 l1 l2 k xs ys ws us n m
 | _=>False
structure E(κ:List Addr)(v:AV)(p:Pt Y)(w:Value):Prop where
 val:v.isIt=false->V v p w
 it:v.isIt=true->∃ κ',(∀ a,a∈κ->a∈κ')/\Hf κ' p w v
theorem ao.notIt{x:Hp}:∀{v:AV} {w:Value},ao x v w->v.isIt=false
 | .enm _,_,r=>r.elim
 | .zp _ _,_,r=>r.elim
 | .none,_,_ | .bool _,_,_ | .int _,_,_ | .sym _,_,_ | .ref _,_,_ | .tup _,_,_ | .frz _,_,_ | .fset _,_,_ | .view _,_,_ | .rng _,_,_=>rfl
theorem V.toE{v:AV}{w:Value}{κ:List Addr}(h:V v p w):E κ v p w:=⟨fun _=>h,fun e=>nomatch e.symm.trans h.notIt⟩
structure SX(c:Cc)(e:Expr)(x:X):Prop where
 ev:∀{U:En} {Y Y':St} {p:Pt Y} (f:Fm c U p) {v:AV},ar c.C x U Y=some (v,Y')->Ev (Y':=Y') (E p.κ v) f.A p (eval e f.env)
 base:∀(attr:Str) (env:Env) (whole:Sem Value),attributeBase e attr env whole=whole
 star:∀(es:List Expr) (env:Env),starEach (e::es) env=(false,eval e env)::starEach es env
structure GQ(c:Cc)(es:List Expr)(xs:List X):Prop where
 ev:∀{U:En} {Y Y':St} {p:Pt Y} (f:Fm c U p) {vs:List AV},cT c.C xs U Y=some (vs,Y')->∀ pos,Ev (Y':=Y') (VL vs) f.A p (spliced (backTo pos (starEach es f.env)))
theorem fz{α:Type}{P:α->St->Prop}{c:Bool}{a b:α}{τ υ:St}(h:dc c (a,τ)=some (b,υ))(k:c=true->P a τ):P b υ:=cN h fun h e=>(Prod.mk.inj e).1▸(Prod.mk.inj e).2▸k h
theorem dr{α β:Type}{P:α->St->Prop}{x:Option β}{f:β->α×St}{b:α}{υ:St}(h:x.map f=some (b,υ))(k:∀ a,x=some a->P (f a).1 (f a).2):P b υ:=aH h fun a h e=>(e▸k a h:P (b,υ).1 (b,υ).2)
theorem Kw{r:Rs}{v:AV}{τ:St}(h:nv r=some (v,τ)):r=some (v,τ)/\v.isIt=false:=
 aE h fun u τ' h1 h2=>bi h2 (fun _ h=>nomatch h) fun hu h=>by cases h;exact⟨h1,hu⟩
theorem SX.v{e:Expr}{x:X}(sx:SX c e x)(f:Fm c U p){v:AV}(h:nv (ar c.C x U Y)=some (v,Y')):aQ f.A p (eval e f.env) v Y':=(sx.ev f (Kw h).1).mono fun _ _ _ r=>r.val (Kw h).2
theorem SX.of{e:Expr}{x:X}(h:∀{U:En} {Y Y':St} {p:Pt Y} (f:Fm c U p) {v:AV},ar c.C x U Y=some (v,Y')->aQ f.A p (eval e f.env) v Y')
  (base:∀(attr:Str) (env:Env) (whole:Sem Value),attributeBase e attr env whole=whole:=by intros;rfl) (star:∀(es:List Expr) (env:Env),starEach (e::es) env=(false,eval e env)::starEach es env:=by intros;rfl):SX c e x:=⟨fun f _ hd=>(h f hd).mono fun _ _ _ r=>r.toE,base,star⟩
theorem xG{x:Str}{pos:Pos}{i:Nat}(hd:(x==("__debug__":Str))=false)(ho:mC (c.cx.sc.lookup x)=true)(hi:c.cx.sl.lookup x=some i):SX c (.Name x pos) (.loc i):=.of fun{U Y Y' p} f v h=>jU h fun v hv=>by
 obtain⟨sl,sc,sf,_⟩:=f.F.st.sc x;refine⟨fun{Er Q} g=>wpAny_Name ?_ hd⟩;have cell:c.cx.sc.lookup x=some .cell\/c.cx.sc.lookup x=some .free->f.env.kindOf x=some .cell->wpAny M0 f.A (loadName f.env x) Q Er p.s:=fun hk hc=>(f.F.cells x i hk hi).elim fun _ h=>h.elim fun _ h=>(h.2.2 v hv).elim fun v' e=>
  wpAny_loadName_cell f.F.st.kind hc h.1 (e.1▸h.2.1) (g p v' (.refl p) e.2)
 cases hk:c.cx.sc.lookup x with
 | none=>rw[hk] at ho;cases ho
 | some k=>exact match k,hk with
  | .local,hk=>f.F.ns.elim fun _ h=>(h.2 x i v hk hi hv).elim fun v' e=>wpAny_loadName_local f.F.st.kind (sl hk) h.1 e.1 (g p v' (.refl p) e.2)
  | .cell,hk=>cell (.inl hk) (sc hk)
  | .free,hk=>cell (.inr hk) (sf hk)
  | .globalImplicit,hk | .globalExplicit,hk=>by rw[hk] at ho;cases ho
theorem Pt.kin(p:Pt Y):K0.In p.s.heap:=p.r.pf.kin.keeps p.r.keep
theorem kj{x:Str}{f:Fm c U p}(hg:dy (c.cx.sc.lookup x)=true):f.env.kindOf x=some .globalImplicit:=(f.F.st.sc x).2.2.2 <| by
 cases hk:c.cx.sc.lookup x with
 | none=>rw[hk] at hg;cases hg
 | some k=>cases k<;>first | rfl | (rw[hk] at hg;cases hg)
theorem ul{env:Env}{x:Str}(h1:env.scope.kind=.function)(h2:env.kindOf x=some .globalImplicit):loadName env x=loadGlobal env x:=by
 unfold loadName Env.blockKind;rw[h1,h2];rfl
theorem mx{x:Str}{w:Value}{Q E:Value->UE->Prop}{mg:Str->Option Value}(f:Fm c U p)(hg:dy (c.cx.sc.lookup x)=true)(hm:H0.Ns mainGlobals mg)(hv:mg x=some w)(h:Q w p.s):wpAny M0 A (loadName f.env x) Q E p.s:=
 ul f.F.st.kind (kj hg)▸Calls.loadGlobal_global (f.F.st.glob▸hm.keeps p.r.keep) hv h
theorem yJ{x:Str}{w:Value}{Q E:Value->UE->Prop}{mg mb:Str->Option Value}(f:Fm c U p)(hg:dy (c.cx.sc.lookup x)=true)(hm:H0.Ns mainGlobals mg)(hv:mg x=none)(hb:H0.Ns builtinsNs mb)(hu:mb x=some w)(h:Q w p.s):wpAny M0 A (loadName f.env x) Q E p.s:=
 ul f.F.st.kind (kj hg)▸Calls.loadGlobal_builtin (f.F.st.glob▸hm.keeps p.r.keep) hv (f.F.st.blt▸hb.keeps p.r.keep) hu h
theorem Pt.base(p:Pt Y):Wk ⟨[],[],H0⟩ p.x:=⟨nofun,fun i=>p.r.base i.h⟩
theorem AI{x:Str}{pos:Pos}{i:Nat}(hd:(x==("__debug__":Str))=false)(hg:dy (c.cx.sc.lookup x)=true)(hi:bd TB.globs x=some i):SX c (.Name x pos) (.glob i):=.of fun{U Y Y' p} f v h=>
 jU h fun v hv=>⟨fun g=>wpAny_Name ((ch hi).elim fun _ hx=>p.r.pf.ns.elim fun _ h=>h.elim fun _ h=>(h.2.2.2.2.1 i _ hx.1).elim fun w e=>e.elim fun _ e=>
  mx f hg h.1 (hx.2.1▸e.1) (g p w (.refl p) (SQ (e.2.1.symm.trans hv)▸e.2.2.wk p.base))) hd⟩
theorem f8{k:Const}{n:Nat}{pos:Pos}{x:al}(h:∀{Y:St} (p:Pt Y) (A:UG) (env:Env),aQ A p (eval (.Constant k n pos) env) x.av Y):SX c (.Constant k n pos) (.cst x):=.of fun{U Y Y' p} f v hd=>
 cW hd (h p f.A f.env)
theorem AG{k:Nat}{pos:Pos}:SX c (.Constant .none k pos) (.cst .none):=f8 fun _ _ _=>.pure rfl
theorem AL{b:Bool}{k:Nat}{pos:Pos}:SX c (.Constant (.bool b) k pos) (.cst (.bool b)):=f8 fun _ _ _=>.pure rfl
theorem DZ{i:Int}{k:Nat}{pos:Pos}:SX c (.Constant (.int i) k pos) (.cst (.int i)):=f8 (x:=.int i) fun p _ _=>⟨fun g=>wpAny_Constant_int (g (p.tok _) _ .tok ⟨_,rfl⟩)⟩
theorem DS{y:Str}{i:Nat}{k:Nat}{pos:Pos}(hi:bd aS y=some i):SX c (.Constant (.str y) k pos) (.cst (.sym i)):=f8 (x:=.sym i) fun p _ _=>⟨fun g=>Calls.Constant_str (g (p.tok _) _ .tok ⟨(dE hi).1,_,Sx (Value.str · _) (dE hi).2⟩)⟩
theorem AF:GQ c [] []:=⟨fun{U Y Y' p} f vs h pos=>cW (P:=fun v Y'=>Ev (Y':=Y') (VL v) f.A p (spliced (backTo pos (starEach [] f.env)))) h (.pure .nil)⟩
theorem xF{e:Expr}{x:X}{es:List Expr}{xs:List X}(sx:SX c e x)(sxs:GQ c es xs):GQ c (e::es) (x::xs):=⟨fun{U Y Y' p} f vs h pos=>
 aE h fun v Y1 h1 h=>aE h fun us Y2 h2 h=>cW (P:=fun v Y'=>Ev (Y':=Y') (VL v) f.A p (spliced (backTo pos (starEach (e::es) f.env)))) h <| by
  rw[sx.star];exact(sx.v f h1).bind fun q w n r=>.bind (k:=fun q' a=>q'=q/\a=[w]) (.pure ⟨rfl,rfl⟩) fun q' a _ e=>by
   obtain⟨rfl,rfl⟩:=e;exact⟨fun g=>Sv (S6 ((sxs.ev (f.nx n) h2 pos).go fun q2 ws n2 r2=>Sw (g q2 _ n2 (.cons (r.nx n2) r2))))⟩⟩
end
mutual
noncomputable def gY:AV->PyData
 | .int i=>.int i
 | .sym k=>.str (au k)
 | .bool b=>.bool b
 | .tup vs=>.tuple (cu vs)
 | _=>.none
noncomputable def cu:List AV->List PyData
 | []=>[]
 | v::vs=>gY v::cu vs
end
theorem dY:∀ k,k<aS.length->PyData.strOk (au k)=true/\∀ j,j<aS.length->au j=au k->j=k:=by decide +kernel
theorem Bw:∀ k,k<bO.length->∀ j,j<bO.length->dU j=dU k->j=k:=by decide +kernel
theorem C5{v:AV}{C:Prop}(p:v.purD 0=true)(h1:∀ i,v=.int i->C)(h2:∀ k,v=.sym k->C):C:=by
 cases v<;>first | exact h1 _ rfl | exact h2 _ rfl | exact SH p Tg
theorem C4{d:Nat}{v:AV}{C:Prop}(p:v.purD (d+1)=true)(h1:∀ i,v=.int i->C)(h2:∀ k,v=.sym k->C)(h3:∀ vs,v=.tup vs->vs.all (AV.purD d)=true->C):C:=by
 cases v<;>first | exact h1 _ rfl | exact h2 _ rfl | exact h3 _ rfl p | exact SH p Tg
section
variable{x:Hp}{P:Nat->AV->Value->Prop}{Ps:Nat->List AV->List Value->Prop}
theorem gm{d:Nat}(h:∀{v w},v.purD d=true->ao x v w->P d v w)(h0:∀{d},Ps d [] [])(hc:∀{d v w vs ws},P d v w->Ps d vs ws->Ps d (v::vs) (w::ws)){vs:List AV}:∀{ws:List Value},vs.all (AV.purD d)=true->bP x vs ws->Ps d vs ws:=by
 induction vs with
 | nil=>exact fun _ r=>(show _=[] from r)▸h0
 | cons v vs ih=>exact fun p r=>r.elim fun w g=>g.elim fun ws g=>g.1▸hc (h (SL.mp p).1 g.2.1) (ih (SL.mp p).2 g.2.2)
theorem bH(hi:∀{d i t},P d (.int i) (.int i t))(hs:∀{d k t},k<aS.length->P d (.sym k) (.str (au k) t))
  (ht:∀{d vs a ws n},fE x a (bV ws n)->Ps d vs ws.toList->P (d+1) (.tup vs) (.ref a)) (h0:∀{d},Ps d [] []) (hc:∀{d v w vs ws},P d v w->Ps d vs ws->Ps d (v::vs) (w::ws)) :
  ∀{d:Nat} {v:AV} {w:Value},v.purD d=true->ao x v w->P d v w:=fun{d}=>by
 have I:∀{d i w},ao x (.int i) w->P d (.int i) w:=fun r=>r.elim fun _ e=>e▸hi;have S:∀{d k w},ao x (.sym k) w->P d (.sym k) w:=fun r=>r.2.elim fun _ e=>e▸hs r.1
 induction d with
 | zero=>exact fun{v w} p=>C5 (C:=ao x v w->P 0 v w) p (fun i e=>e▸I) fun k e=>e▸S
 | succ d ih=>exact fun{v w} p=>C4 (C:=ao x v w->P (d+1) v w) p (fun i e=>e▸I) (fun k e=>e▸S) fun vs e p=>e▸fun r=>r.2.elim fun a h=>h.elim fun ws h=>h.elim fun n h=>h.1▸ht h.2.1 (gm ih h0 hc p h.2.2)
end
section
variable{x:Hp}
structure Ot(x:Hp)(d:Nat)(v:AV)(w:Value):Prop where
 rd:∃ as,Reads x.h w (gY v) as
 lay:(gY v).canLay0=true
 dep:(gY v).depth<=d
structure GR(x:Hp)(d:Nat)(vs:List AV)(ws:List Value):Prop where
 rd:∃ as,ReadsAll x.h ws (cu vs) as
 lay:PyData.canLayAll0 (cu vs)=true
 dep:PyData.depthAll (cu vs)<=d
theorem bo{d:Nat}{v:AV}{w:Value}:v.purD d=true->ao x v w->Ot x d v w:=
 bH (P:=Ot x) (Ps:=GR x) ⟨⟨[],.int _ _⟩,rfl,SZ _⟩ (fun h=>⟨⟨[],.str _ _⟩,(dY _ h).1,SZ _⟩) (fun i r=>⟨r.rd.imp fun _ g=>.tuple i.h rfl rfl g,r.lay,T1 r.dep⟩) ⟨⟨[],.nil⟩,rfl,SZ _⟩
  fun r t=>⟨r.rd.elim fun _ g=>t.rd.elim fun _ g'=>⟨_,.cons g g'⟩,SL.mpr ⟨r.lay,t.lay⟩,Nat.max_le.mpr ⟨r.dep,t.dep⟩⟩
def Kk(x:Hp)(v:AV):Prop:=∀{e:Nat} {u:AV} {w:Value},u.purD e=true->ao x u w->PyData.eqv (gY v) (gY u)=decide (v=u)
def wJ(x:Hp)(vs:List AV):Prop:=∀{e:Nat} {us:List AV} {ws:List Value},us.all (AV.purD e)=true->bP x us ws->PyData.eqvAll (cu vs) (cu us)=decide (vs=us)
theorem d6{p:Prop}[Decidable p](h:¬p):false=decide p:=(Td h).symm
theorem qt:wJ x []
 | _,[],_,_,_=>rfl
 | _,_::_,_,_,_=>d6 nofun
theorem mK{v:AV}{vs:List AV}(h:Kk x v)(t:wJ x vs):wJ x (v::vs)
 | _,[],_,_,_=>d6 nofun
 | _,u::us,_,p,r=>r.elim fun _ g=>g.elim fun _ g=>by
  show(PyData.eqv (gY v) (gY u)&&PyData.eqvAll (cu vs) (cu us))=_;rw[h (SL.mp p).1 g.2.1,t (SL.mp p).2 g.2.2,<- Bool.decide_and];exact decide_eq_decide.mpr ⟨fun q=>q.1▸q.2▸rfl,fun q=>List.cons.inj q⟩
theorem sR{v:AV}{C:AV->Prop}(hi:∀ i,C (.int i))(hs:∀ k,k<aS.length->C (.sym k))(ht:∀ e us ws,us.all (AV.purD e)=true->bP x us ws->C (.tup us)):∀{e:Nat} {u:AV} {w:Value},u.purD e=true->ao x u w->C u
 | 0,u,w,p,r=>C5 p (fun i e=>e▸hi i) fun k e=>by subst e;exact hs k r.1
 | e+1,u,w,p,r=>C4 p (fun i e=>e▸hi i) (fun k e=>by subst e;exact hs k r.1) fun us e p=>by subst e;exact r.2.elim fun _ h=>h.elim fun ws h=>h.elim fun _ h=>ht _ us _ p h.2.2
theorem eQ{d:Nat}{v:AV}{w:Value}:v.purD d=true->ao x v w->Kk x v:=
 bH (P:=fun _ v _=>Kk x v) (Ps:=fun _ vs _=>wJ x vs)
  (fun{_ i _}=>sR (v:=.int i) (C:=fun u=>PyData.eqv (.int i) (gY u)=decide (.int i=u)) (fun _=>decide_eq_decide.mpr ⟨Sx _,AV.int.inj⟩) (fun _ _=>d6 nofun) fun _ _ _ _ _=>d6 nofun)
  (fun{_ k _} hk=>sR (v:=.sym k) (C:=fun u=>PyData.eqv (.str (au k)) (gY u)=decide (.sym k=u)) (fun _=>d6 nofun) (fun j hj=>by
   show(au k==au j)=_
   by_cases e:k=j
   ·subst e;rw[beq_self_eq_true];exact(SM rfl).symm
   ·rw[beq_eq_false_iff_ne.mpr fun q=>e ((dY j hj).2 k hk q)];exact d6 fun q=>e (AV.sym.inj q)) fun _ _ _ _ _=>d6 nofun)
  (fun{_ vs _ _ _} _ r=>sR (v:=.tup vs) (C:=fun u=>PyData.eqv (.tuple (cu vs)) (gY u)=decide (.tup vs=u)) (fun _=>d6 nofun) (fun _ _=>d6 nofun) fun e us ws p g=>(r p g).trans (decide_eq_decide.mpr ⟨Sx _,AV.tup.inj⟩))
  qt mK
theorem ao.inj{a b:AV}{v:Value}{d e:Nat}(pa:a.purD d=true)(pb:b.purD e=true)(ra:ao x a v)(rb:ao x b v):a=b:=
 (bo pa ra).rd.elim fun _ xa=>(bo pb rb).rd.elim fun _ xb=>SF ((eQ pa ra pb rb).symm.trans (SeqAt.Reads.unique _ _ _ _ _ (bo pa ra).lay xa xb▸SeqAt.eqv_refl _ (bo pa ra).lay))
end
section
variable{Y:St}{p:Pt Y}{A:UG}{E:Value->UE->Prop}{s:UE}
theorem sS{a b:AV}{v u:Value}{Q:Bool->UE->Prop}(hu:A.units+6<cLine)(pa:a.pur=true)(pb:b.pur=true)(ra:ao p.x a v)(rb:ao p.x b u)(h:Q (decide (a=b)) p.s):wpAny M0 A (eqBool v u) Q E p.s:=
 (bo pa ra).rd.elim fun _ xa=>(bo pb rb).rd.elim fun _ xb=>SeqAt.eqBoolOverData _ _ _ _ _ _ _ _ _ _ _ _ xa xb (bo pa ra).lay (bo pb rb).lay (Tc (Tp (Sy (Uh _ _) (bo pa ra).dep) _) hu) (eQ pa ra pb rb▸h)
theorem FM{a b:AV}{v u:Value}{Q:Value->UE->Prop}(hu:A.units+6<cLine)(pa:a.pur=true)(pb:b.pur=true)(ra:ao p.x a v)(rb:ao p.x b u)(h:Q (.bool (decide (a=b))) p.s):wpAny M0 A (compareOp .Eq v u) Q E p.s:=
 (bo pa ra).rd.elim fun _ xa=>(bo pb rb).rd.elim fun _ xb=>SeqAt.compareEq_reads xa xb (bo pa ra).lay (bo pb rb).lay (Tc (Tp (Sy (Uh _ _) (bo pa ra).dep) _) hu) (eQ pa ra pb rb▸h)
theorem ES{a b:AV}{v u:Value}{Q:Value->UE->Prop}(hu:A.units+6<cLine)(pa:a.pur=true)(pb:b.pur=true)(ra:ao p.x a v)(rb:ao p.x b u)(h:Q (.bool (!decide (a=b))) p.s):wpAny M0 A (compareOp .NotEq v u) Q E p.s:=
 (bo pa ra).rd.elim fun _ xa=>(bo pb rb).rd.elim fun _ xb=>SeqAt.compareNe_reads xa xb (bo pa ra).lay (bo pb rb).lay (Tc (Tp (Sy (Uh _ _) (bo pa ra).dep) _) hu) (eQ pa ra pb rb▸h)
def Al(x:Hp)(d:Nat)(v:AV)(w:Value):Prop:=∀{A:UG} {s:UE} {Q:Int->UE->Prop} {E:Value->UE->Prop},s.heap=x.h->A.units+d<cLine->(∀ t,Q (bK v) { s with toks:=t })->wpAny M0 A (pyHash w) Q E s
def Ak(x:Hp)(d:Nat)(vs:List AV)(ws:List Value):Prop:=∀{A:UG} {s:UE} {Q:Array Int->UE->Prop} {E:Value->UE->Prop} (b₀:Array Int),s.heap=x.h->A.units+d<cLine->(∀(t:Nat) (b:Array Int),b.toList=b₀.toList++fU vs->Q b { s with toks:=t })->
 wpAny M0 A (forIn ws b₀ fun x r=>do let h <- pyHash x;pure (ForInStep.yield (r.push h))) Q E s
theorem zb{x:Hp}{d:Nat}{vs:List AV}{a:Addr}{ws:Array Value}{n:Nat}(i:fE x a (bV ws n))(r:Ak x d vs ws.toList):Al x (d+1) (.tup vs) (.ref a):=fun{A s Q E} hs hu h=>by
 have ho:s.heap.get? a=some (bV ws n):=hs▸i.h;have hT:s.TypeIs (.ref a) "tuple":=⟨_,ho,rfl⟩;show wpAny _ A (pyHashByItsType (.ref a)) Q E s;unfold pyHashByItsType;refine Sv (wpAny_cRoomFor (u0 hu) ?_);refine Sv (wpAny_specialOf hT F.slot_tuple_hash.lookup ?_);show wpAny _ _ (if(some (Value.builtin "tuple.__hash__")==some Value.none)=true then _ else _) Q E s
 rw[Sz (by rw[beq_builtin_none];exact Tg)]
 refine Sv (wpAny_specialOf hT F.slot_tuple_hash.lookup ?_);show wpAny _ _ (callSpecialIfBoundUnlessNone? (.ref a) "__hash__" _ >>= _) Q E s;refine Sv (wpAny_callSpecialIfBoundUnlessNone?_slot hT F.slot_tuple_hash (TA F.slot_tuple_hash hT F.entry_tuple_hash ?_ (F.args_tuple_hash_1 _)));refine Sv (m:=Builtin.Tuple.tupleItemsOf (.ref a)) (wpAny_tupleItemsOf ho rfl (Sv ?_));rw[<- Array.forIn_toList];refine r (A:=A.in1) #[] hs (by show A.units+1+d<cLine;exact u1 hu) fun t b hb=>?_
 show wpAny _ _ (retInt (Builtin.Tuple.tupleHashOf b.toList)) _ _ _;rw[hb,show(#[]:Array Int).toList++fU vs=fU vs from rfl];refine wpAny_ret_mkInt ?_;have h':∀ t,Q (reduceHash (Builtin.Tuple.tupleHashOf (fU vs))) { s with toks:=t }:=h;clear h hb r
 revert h'
 generalize Builtin.Tuple.tupleHashOf (fU vs)=m;intro h;show wpAny _ _ (if(decide (-(2:Int)^63<=m)&&decide (m<2^63))=true then _ else _) Q E _
 unfold reduceHash at h
 cases hr:decide (-(2:Int)^63<=m)&&decide (m<2^63) with
 | true=>rw[hr] at h;exact Sw (h _)
 | false=>rw[hr] at h;exact Sv (TD (Sw (h _)))
theorem eA{x:Hp}{d:Nat}{v:AV}{w:Value}:v.purD d=true->ao x v w->Al x d v w:=
 bH (P:=Al x) (Ps:=Ak x) (fun _ _ h=>wpAny_pyHash_int (h _)) (fun _=>fun _ _ h=>wpAny_pyHash_str (h _)) zb
  (fun b hs hu h=>by rw[List.forIn_nil];exact Sw (h _ b (Ti _).symm))
  fun{d v w vs ws} r t {A s Q E} b hs hu h=>by
   rw[Uc];refine Sv (Sv (r hs hu fun t'=>Sw ?_));exact t (s:={ s with toks:=t' }) (b.push (bK v)) hs hu fun t'' b' hb=>h t'' b' (by rw[hb,Um,SR];rfl)
def GT(x:Hp)(d:Nat)(w:Value):Prop:=∀{k:Nat} {A:UG} {s:UE} {Q:Bool->UE->Prop} {E:Value->UE->Prop},s.heap=x.h->d<=k->Q true s->wpAny M0 A (eqIsQuiet k w) Q E s
def Dy(x:Hp)(d:Nat)(ws:List Value):Prop:=∀{k:Nat} {A:UG} {s:UE} {Q:Option Bool×Unit->UE->Prop} {E:Value->UE->Prop},s.heap=x.h->d<=k->Q (none,()) s->
 wpAny M0 A (forIn ws (none,()) fun y (_:Option Bool×Unit)=>do
   let x <- eqIsQuiet k y
   if(!x)=true then pure (ForInStep.done (some false,())) else pure (ForInStep.yield (none,()))) Q E s
theorem vu{x:Hp}{d:Nat}{a:Addr}{ws:Array Value}{n:Nat}(i:fE x a (bV ws n))(r:Dy x d ws.toList):GT x (d+1) (.ref a)
 | 0,_,_,_,_,_,hk,_=>SH hk (S0 _)
 | k+1,A,s,Q,E,hs,hk,h=>by
  have ho:s.heap.get? a=some (bV ws n):=hs▸i.h;have hT:s.TypeIs (.ref a) "tuple":=⟨_,ho,rfl⟩;unfold eqIsQuiet;refine Sv (wpAny_specialOf hT F.slot_tuple_eq.lookup ?_);refine Sv (m:=isInstance (.ref a) (.type "tuple")) (wpAny_isInstance hT isSubtype_tuple_tuple ?_);rw[Bool.not_true,Sz Tg];refine Sv (Ud ho rfl (Sv ?_));show wpAny _ _ (forIn ws _ _) _ _ s;rw[<- Array.forIn_toList];exact r hs (Nat.le_of_succ_le_succ hk) (Sw h)
theorem gl{x:Hp}{d:Nat}{v:AV}{w:Value}:v.purD d=true->ao x v w->GT x d w:=
 bH (P:=fun d _ w=>GT x d w) (Ps:=fun d _ ws=>Dy x d ws) (fun{_ _ _} {k} {A s Q E} _ _ h=>by rw[eqIsQuiet_byValue k rfl];exact Sw h) (fun{_ _ _} _ {k} {A s Q E} _ _ h=>by rw[eqIsQuiet_byValue k rfl];exact Sw h) vu
  (fun{_} {k} {A s Q E} _ _ h=>by rw[List.forIn_nil];exact Sw h)
  fun{_ _ _ _ _} r t {k} {A s Q E} hs hk h=>by
   rw[Uc];refine Sv (Sv (r hs hk ?_));rw[Bool.not_true,Sz Tg];exact Sw (t hs hk h)
end
structure FK(A:UG)(s:UE)(da:Addr)(ds:Array UH)(ep:Nat)(key:Value)(hh:Int)(P:Nat->Bool):Prop where
 obj:s.heap.get? da=some (bS ds ep)
 same:∀(i:Nat) (d:UH),ds[i]?=some d->∀{Q:Bool->UE->Prop} {E:Value->UE->Prop},Q (P i) s->wpAny M0 A (eqBool d.key key) Q E s
 hash:∀(i:Nat) (d:UH),ds[i]?=some d->P i=true->d.hash=hh
 inj:∀ i j,P i=true->P j=true->i=j
 lt:∀ i,P i=true->i<ds.size
 quiet:∀{k:Nat} {Q:Bool->UE->Prop} {E:Value->UE->Prop},6<=k->Q true s->wpAny M0 A (eqIsQuiet k key) Q E s
 quiets:∀(i:Nat) (d:UH),ds[i]?=some d->∀{k:Nat} {Q:Bool->UE->Prop} {E:Value->UE->Prop},6<=k->Q true s->wpAny M0 A (eqIsQuiet k d.key) Q E s
 refs:∀(i:Nat) (d:UH),ds[i]?=some d->d.key=key->d.hash=hh
 strk:∀(i:Nat) (d:UH) (x:Str) (t:Tok),ds[i]?=some d->key=.str x t->d.key.isStr x=P i
 kind:(∃ i t,key=.int i t)\/(∃ x t,key=.str x t)\/∃ a,key=.ref a
section
variable{A:UG}{s:UE}{da:Addr}{ds:Array UH}{ep:Nat}{key:Value}{hh:Int}{P:Nat->Bool}{Q:Option Nat->UE->Prop}{E:Value->UE->Prop}
noncomputable abbrev iU(ds:Array UH)(hh:Int):List Nat:=placesWithHash ds.size (fun i=>ds[i]?.map (·.hash)) hh
theorem gq{i:Nat}:i∈iU ds hh↔∃ d,ds[i]?=some d/\d.hash=hh:=by
 unfold iU placesWithHash;rw[TK]
 constructor
 ·intro h;have h:(ds[i]?.map (·.hash)==some hh)=true:=h.2
  cases hd:ds[i]? with
  | none=>rw[hd] at h;exact nomatch h
  | some d=>rw[hd] at h;exact⟨d,rfl,SQ (eq_of_beq h)⟩
 ·intro h;obtain⟨d,h1,h2⟩:=h;refine⟨List.mem_range.mpr (Uy.mp h1).1,?_⟩;show(ds[i]?.map (·.hash)==some hh)=true;rw[h1,<- h2];exact beq_self_eq_true _
theorem FK.mem(K:FK A s da ds ep key hh P){i:Nat}(h:P i=true):i∈iU ds hh:=gq.mpr ⟨_,TL (K.lt i h),K.hash i _ (TL (K.lt i h)) h⟩
theorem jB{α:Type}{n:Nat}{x y:α}:(if(n != n)=true then x else y)=y:=Sz (by rw[bne_self_eq_false];exact Tg)
theorem zc{α:Type}{d:UH}{x y:α}(h:d.hash=hh):(if(d.hash==hh)=true then x else y)=x:=SI (h▸beq_self_eq_true _)
theorem uP(K:FK A s da ds ep key hh P)(hs:∀ i,P i=true->Q (some i) s)(hn:(∀ i,P i=false)->Q none s):wpAny M0 A (dictWalkPlain da key hh ds (iU ds hh)) Q E s:=by
 refine Sv (wpAny_forIn_list _ (fun rest b s'=>s'=s/\b=(none,())/\(∀ i,i∈rest->i∈iU ds hh)/\∀ i,P i=true->i∈rest) _ ?_ ?_ _ _ ⟨rfl,rfl,fun _ h=>h,fun _ h=>K.mem h⟩)
 ·intro x rest b s' hI;obtain⟨rfl,rfl,hm,hP⟩:=hI;obtain⟨d,h1,h2⟩:=gq.mp (hm x (.head _));rw[h1];dsimp only;rw[zc h2];refine Sv (T3 K.obj rfl (Sv (K.same x d h1 (Sv (T3 K.obj rfl ?_)))));rw[jB]
  cases hx:P x with
  | true=>exact Sv (TD (Sw (Sw (hs x hx))))
  | false=>exact Sv (TD (Sw ⟨rfl,rfl,fun i hi=>hm i (.tail _ hi),fun i hi=>(SN.mp (hP i hi)).resolve_left fun e=>nomatch(e▸hi).symm.trans hx⟩))
 ·intro b s' hI;obtain⟨rfl,rfl,_,hP⟩:=hI;exact Sw (hn fun i=>Bool.eq_false_iff.mpr fun h=>nomatch hP i h)
def FA(A:UG)(s:UE)(da:Addr)(ds:Array UH)(ep:Nat)(key:Value)(hh:Int)(P:Nat->Bool)(Q:Option Nat->UE->Prop)(E:Value->UE->Prop)(n:List Value):Prop:=∀(K:FK A s da ds ep key hh P) (hs:∀ i,P i=true->Q (some i) s) (hn:(∀ i,P i=false)->Q none s),wpAny M0 A (show Sem (Option Nat) from do
  let mut hit:Option Nat:=none
  for i in iU ds hh do
   if let some e:=ds[i]? then
    if e.hash==hh then
     let before <- dictEpoch da (keyPart key)
     let same <- eqBool e.key key
     if(<- dictEpoch da (keyPart key)) != before then unsupported "dict.changed-during-lookup"
     if same then
      if hit.isSome then unsupported "dict.find:order-among-keys-of-one-hash"
      rule "dict.find.hit"
      if n.length<2 then return some i
      hit:=some i
     else
      rule "dict.find.same-hash-other-key"
      if false&&!(0<=hh&&hh<32) then unsupported "dict.find:asked-again-or-not-hangs-on-the-table"
  return hit) Q E s
def JA(a:UG×UE×Addr×Array UH×Nat×Value×Int×(Nat->Bool)×(Option Nat->UE->Prop)×(Value->UE->Prop)×List Value):Prop:=FA a.1 a.2.1 a.2.2.1 a.2.2.2.1 a.2.2.2.2.1 a.2.2.2.2.2.1 a.2.2.2.2.2.2.1 a.2.2.2.2.2.2.2.1 a.2.2.2.2.2.2.2.2.1 a.2.2.2.2.2.2.2.2.2.1 a.2.2.2.2.2.2.2.2.2.2
noncomputable def ko:=lK ({},{},default) JA
noncomputable def R7:=ko.1
noncomputable def G9:=ko.2.1
noncomputable def NW:=ko.2.2.1
noncomputable def Fz:=ko.2.2.2.1
noncomputable def NV:=ko.2.2.2.2.1
noncomputable def Jz:=ko.2.2.2.2.2.1
noncomputable def Fy:=ko.2.2.2.2.2.2.1
noncomputable def Kz:=ko.2.2.2.2.2.2.2.1
noncomputable def R5:=ko.2.2.2.2.2.2.2.2.1
noncomputable def R6:=ko.2.2.2.2.2.2.2.2.2.1
noncomputable def R4:=ko.2.2.2.2.2.2.2.2.2.2
theorem NX:FA R7 G9 NW Fz NV Jz Fy Kz R5 R6 R4:=fun K hs hn=>by
 refine Sv (wpAny_forIn_list _ (fun rest b s'=>s'=G9/\b.1=none/\(∀ i,i∈rest->i∈iU Fz Fy)/\rest.Nodup/\(∀ i,Kz i=true->b.2=none->i∈rest)/\∀ i,b.2=some i->Kz i=true/\i∉rest) _ ?_ ?_ _ _
  ⟨rfl,rfl,fun _ h=>h,List.Pairwise.filter _ List.nodup_range,fun _ h _=>K.mem h,fun _ h=>nomatch h⟩)
 ·intro x rest b s' hI;obtain⟨rfl,hb,hm,nd,hP,hH⟩:=hI;obtain⟨b,hit⟩:=b
  cases hb
  obtain⟨d,h1,h2⟩:=gq.mp (hm x (.head _));rw[h1];dsimp only;rw[zc h2];refine Sv (T3 K.obj rfl (Sv (K.same x d h1 (Sv (T3 K.obj rfl ?_)))));rw[jB];have hm':∀ i,i∈rest->i∈iU Fz Fy:=fun i hi=>hm i (.tail _ hi);have nd':=Th.mp nd
  cases hx:Kz x with
  | true=>
   cases hit with
   | some j=>exact SH (.head _) ((K.inj x j hx (hH j rfl).1)▸(hH j rfl).2)
   | none=>
    refine Sv (TD ?_);refine Tr (fun _=>Sw (Sw (hs x hx))) fun _=>Sw ⟨rfl,rfl,hm',nd'.2,fun _ _ h=>(nomatch h),fun i h=>?_⟩
    cases h
    exact⟨hx,nd'.1⟩
  | false=>exact Sv (TD (Sw ⟨rfl,rfl,hm',nd'.2,fun i hi h=>(SN.mp (hP i hi h)).resolve_left (fun e=>nomatch(e▸hi).symm.trans hx),fun i h=>⟨(hH i h).1,fun g=>(hH i h).2 (.tail _ g)⟩⟩))
 ·intro b s' hI;obtain⟨rfl,hb,_,_,hP,hH⟩:=hI;obtain⟨b,hit⟩:=b
  cases hb
  cases hit with
  | none=>exact Sw (hn fun i=>Bool.eq_false_iff.mpr fun h=>nomatch hP i h rfl)
  | some j=>exact Sw (hs j (hH j rfl).1)
theorem B5(n:List Value):FA A s da ds ep key hh P Q E n:=bE JA NX (A,s,da,ds,ep,key,hh,P,Q,E,n)
theorem BB(K:FK A s da ds ep key hh P){Q:Bool->UE->Prop}(h:Q false s):wpAny M0 A (tableMayTell key ((iU ds hh).filterMap fun i=>ds[i]?.map (·.key))) Q E s:=by
 unfold tableMayTell;refine Tr (fun _=>Sw h) fun _=>Sv (K.quiet (by decide) ?_)
 rw[Bool.not_true,Sz Tg];refine Sv (wpAny_forIn_list _ (fun rest r s'=>s'=s/\r=(none,())/\∀ v,v∈rest->∃(i:Nat) (d:UH),ds[i]?=some d/\d.key=v) _ ?_ ?_ _ _ ⟨rfl,rfl,fun v hv=>?_⟩)
 ·intro x rest r s' hI;obtain⟨rfl,rfl,hr⟩:=hI;obtain⟨i,d,h1,rfl⟩:=hr x (.head _);refine Sv (K.quiets i d h1 (by decide) ?_)
  rw[Bool.not_true,Sz Tg];exact Sw ⟨rfl,rfl,fun v hv=>hr v (.tail _ hv)⟩
 ·intro r s' hI;obtain⟨rfl,rfl,_⟩:=hI;exact Sw h
 ·obtain⟨i,hi,h⟩:=List.mem_filterMap.mp hv;obtain⟨d,h1,_⟩:=gq.mp hi;rw[h1] at h;exact⟨i,d,h1,SQ h⟩
theorem ot(K:FK A s da ds ep key hh P){x:Str}{t:Tok}(hk:key=.str x t)(hs:∀ i,P i=true->Q (some i) s)(hn:(∀ i,P i=false)->Q none s):wpAny M0 A (foundByValue da key ds x) Q E s:=by
 unfold foundByValue
 cases hf:ds.findIdx? (fun e=>e.key.isStr x) with
 | none=>exact Sw (hn fun i=>Bool.eq_false_iff.mpr fun h=>by
   have g:=TL (K.lt i h);have:=Array.findIdx?_eq_none_iff.mp hf _ (Array.mem_of_getElem? g);rw[K.strk i _ x t g hk,h] at this;exact nomatch this)
 | some i=>
  obtain⟨hi,h1,_⟩:=Array.findIdx?_eq_some_iff_getElem.mp hf;have g:=TL hi;rw[K.strk i _ x t g hk] at h1;dsimp only;rw[g];refine Sv (T3 K.obj rfl (Sv (K.same i _ g (Sv (T3 K.obj rfl ?_)))));rw[jB,h1];exact Sv (TD (Sw (hs i h1)))
theorem fG(K:FK A s da ds ep key hh P)(c:Bool)(hs:∀ i,P i=true->Q (some i) s)(hn:(∀ i,P i=false)->Q none s):wpAny M0 A (show Sem (Option Nat) from do
 let stored:=(iU ds hh).filterMap fun i=>ds[i]?.map (·.key)
 let tells <- if c then pure false else tableMayTell key stored
 if tells&&stored.length>=2 then unsupported "dict.find:order-among-keys-of-one-hash"
 let mut hit:Option Nat:=none
 for i in iU ds hh do
  if let some e:=ds[i]? then
   if e.hash==hh then
    let before <- dictEpoch da (keyPart key)
    let same <- eqBool e.key key
    if(<- dictEpoch da (keyPart key)) != before then unsupported "dict.changed-during-lookup"
    if same then
     if hit.isSome then unsupported "dict.find:order-among-keys-of-one-hash"
     rule "dict.find.hit"
     if stored.length<2 then return some i
     hit:=some i
    else
     rule "dict.find.same-hash-other-key"
     if tells&&!(0<=hh&&hh<32) then unsupported "dict.find:asked-again-or-not-hangs-on-the-table"
 return hit) Q E s:=by
 refine Tr (fun _=>Sv (Sw ?_)) (fun _=>Sv (BB K ?_))<;>exact B5 _ K hs hn
def FJ(A:UG)(s:UE)(da:Addr)(ds:Array UH)(ep:Nat)(hh:Int)(P:Nat->Bool)(Q:Option Nat->UE->Prop)(E:Value->UE->Prop):Prop:=∀{key:Value} (K:FK A s da ds ep key hh P) (hs:∀ i,P i=true->Q (some i) s) (hn:(∀ i,P i=false)->Q none s),wpAny M0 A (dictFind da key hh) Q E s
def JI(a:UG×UE×Addr×Array UH×Nat×Int×(Nat->Bool)×(Option Nat->UE->Prop)×(Value->UE->Prop)):Prop:=FJ a.1 a.2.1 a.2.2.1 a.2.2.2.1 a.2.2.2.2.1 a.2.2.2.2.2.1 a.2.2.2.2.2.2.1 a.2.2.2.2.2.2.2.1 a.2.2.2.2.2.2.2.2
noncomputable def n8:=lK ({},{},default) JI
noncomputable def Pz:=n8.1
noncomputable def Pw:=n8.2.1
noncomputable def JH:=n8.2.2.1
noncomputable def Ce:=n8.2.2.2.1
noncomputable def N4:=n8.2.2.2.2.1
noncomputable def Cd:=n8.2.2.2.2.2.1
noncomputable def R8:=n8.2.2.2.2.2.2.1
noncomputable def Px:=n8.2.2.2.2.2.2.2.1
noncomputable def Py:=n8.2.2.2.2.2.2.2.2
theorem N5:FJ Pz Pw JH Ce N4 Cd R8 Px Py:=fun{key} K hs hn=>by
 unfold dictFind;refine S6 (Sv (T4 K.obj rfl ?_));have old:wpAny M0 Pz (dictWalkPlain JH key Cd Ce (iU Ce Cd)) Px Py Pw:=uP K hs hn;have hany:¬(Ce.any fun e=>e.key==key&&e.hash != Cd)=true:=by
  rw[<- Array.any_toList,List.any_eq_true];intro⟨e,hin,hc⟩;obtain⟨i,hi⟩:=T5.mp hin;have hc:=SL.mp hc;exact(bne_iff_ne.mp hc.2) (K.refs i e (by rw[<- Ts];exact hi) (eq_of_beq hc.1))
 rcases K.kind with⟨i,t,rfl⟩ | ⟨x,t,rfl⟩ | ⟨a,rfl⟩
 ·exact Tr (fun _=>old) fun _=>fG K _ hs hn
 ·exact Tr (fun _=>ot K rfl hs hn) fun _=>Tr (fun _=>old) fun _=>fG K _ hs hn
 ·refine Tr (fun _=>old) fun _=>?_;dsimp only;rw[Sz hany];exact fG K _ hs hn
theorem Cf :FJ A s da ds ep hh P Q E:=bE JI N5 (A,s,da,ds,ep,hh,P,Q,E)
end
def At{κ:Type}(es:List (κ×AV))(k:κ)(i:Nat):Prop:=es[i]?.map (·.1)=some k
noncomputable instance {κ:Type} [DecidableEq κ] (es:List (κ×AV)) (k:κ) (i:Nat):Decidable (At es k i):=inferInstanceAs (Decidable (_=_))
section
variable{κ:Type}{k:κ}{v:AV}{e:κ×AV}{es:List (κ×AV)}{i:Nat}
theorem At.mem{es:List (κ×AV)}{i:Nat}(h:At es k i):k∈es.map (·.1):=(aH (show es[i]?.map (·.1)=some k from h) fun _ h e=>e▸Uk (Tf h))
theorem j0(h:k∉es.map (·.1)):∀ x,x∈es->x.1≠k:=fun x hx e=>h (e▸Uk hx)
theorem mB(h:∀ i,¬At es k i):k∉es.map (·.1):=fun hm=>by
 obtain⟨i,hi⟩:=T5.mp hm;exact h i (by unfold At;rw[<- Tv];exact hi)
theorem fh{k:AV}{es:List (AV×AV)}(h:k∉es.map (·.1)):az es k=none:=by
 unfold az;rw[List.find?_eq_none.mpr fun x hx q=>j0 h x hx (SF q)];rfl
theorem jv(nd:((e::es).map (·.1)).Nodup):e.1∉es.map (·.1)/\(es.map (·.1)).Nodup:=Th.mp nd
theorem oe{es:List (AV×AV)}:∀{i:Nat} {e:AV×AV},(es.map (·.1)).Nodup->es[i]?=some e->az es e.1=some e.2:=by
 induction es with
 | nil=>exact fun _ h=>bY h
 | cons x es ih=>
  refine @fun i e nd h=>?_;have nd:=jv nd;show((x::es).find? _).map _=_
  cases i with
  | zero=>
   cases h
   rw[List.find?_cons_of_pos (p:=fun y:AV×AV=>decide (y.1=x.1)) (SM rfl)];rfl
  | succ i=>
   rw[List.find?_cons_of_neg (p:=fun y:AV×AV=>decide (y.1=e.1)) fun q=>nd.1 (SF q▸Uk (Tf h))];exact ih nd.2 h
theorem yB(f:κ×AV->κ×AV)(h:∀ x,x∈es->f x=x):es.map f=es:=(TF h).trans (List.map_id _)
variable[DecidableEq κ]
theorem EG{es:List (κ×AV)}:∀{i:Nat},(es.map (·.1)).Nodup->At es k i->es.map (fun e=>if e.1=k then(e.1,v) else e)=es.modify i fun e=>(e.1,v):=by
 induction es with
 | nil=>exact fun _ h=>bY h
 | cons x es ih=>
  refine @fun i nd h=>?_;have nd:=jv nd
  cases i with
  | zero=>
   have hx:x.1=k:=SQ h;rw[List.map_cons,SI hx,yB _ fun y hy=>Sz (j0 (hx▸nd.1) y hy)];rfl
  | succ i=>rw[List.map_cons,Sz fun q:x.1=k=>nd.1 (q▸At.mem h),ih nd.2 h];rfl
theorem gF(nd:(es.map (·.1)).Nodup)(h:At es k i):aT es k v=es.modify i fun e=>(e.1,v):=by
 unfold aT;obtain⟨x,hx,e⟩:=SY.mp (At.mem h);rw[SI (List.any_eq_true.mpr ⟨x,hx,SM e⟩)];exact EG nd h
theorem cM(h:k∉es.map (·.1)):aT es k v=es++[(k,v)]:=by
 unfold aT;refine Sz fun q=>?_;obtain⟨x,hx,e⟩:=List.any_eq_true.mp q;exact j0 h x hx (SF e)
theorem Co{k:AV}{es:List (AV×AV)}:∀{i:Nat},(es.map (·.1)).Nodup->At es k i->eS es k=es.eraseIdx i:=by
 induction es with
 | nil=>exact fun _ h=>bY h
 | cons x es ih=>
  refine @fun i nd h=>?_;have nd:=jv nd;show(x::es).filter _=_
  cases i with
  | zero=>
   have hx:x.1=k:=SQ h;rw[List.filter_cons_of_neg (by rw[SM hx];decide)]
   exact List.filter_eq_self.mpr fun y hy=>by rw[Td (j0 (hx▸nd.1) y hy)];rfl
  | succ i=>
   rw[List.filter_cons_of_pos (by rw[Td fun q:x.1=k=>nd.1 (q▸At.mem h)];rfl)]
   exact Sx _ (ih nd.2 h)
omit [DecidableEq κ] in
theorem pY{es:List (κ×AV)}:∀{i:Nat},(es.modify i fun e=>(e.1,v)).map (·.1)=es.map (·.1):=by
 induction es with
 | nil=>exact @fun i=>by cases i<;>rfl
 | cons x es ih=>
  refine @fun i=>?_
  cases i with
  | zero=>rfl
  | succ i=>exact Sx (x.1::·) ih
omit [DecidableEq κ] in
theorem mc(nd:(es.map (·.1)).Nodup)(h:k∉es.map (·.1)):((es++[(k,v)]).map (·.1)).Nodup:=by
 rw[Ta];exact Tj.mpr ⟨nd,Th.mpr ⟨nofun,.nil⟩,fun a ha b hb e=>h (by rw[show k=b from(SO.mp hb).symm,<- e];exact ha)⟩
omit [DecidableEq κ] in
theorem On(nd:(es.map (·.1)).Nodup){P:Prop}(h0:k∉es.map (·.1)->P)(h1:∀ i,At es k i->P):P:=(Tl (∃ i,At es k i)).elim (fun h=>h.elim h1) fun h=>h0 (mB fun i g=>h ⟨i,g⟩)
theorem eB(nd:(es.map (·.1)).Nodup):((aT es k v).map (·.1)).Nodup:=On (k:=k) nd (fun h=>cM (v:=v) h▸mc nd h) fun i h=>by rw[gF nd h,pY];exact nd
end
section
variable{Y:St}{A:UG}{es:List (AV×AV)}{ds:Array UH}{ep:Nat}{k v:AV}{key w:Value}{a:Addr}{r:Nat}{E:Value->UE->Prop}
theorem aW{n:Nat}(h:n<=ax):n<=sizeLine:=Sy h (by rw[sizeLine_eq];decide)
theorem eX{p:Pt Y}(hd:ah (DE p.x) es ds.toList):ds.size=es.length:=hd.length.symm
theorem FK.of(p:Pt Y)(hu:A.units+6<cLine)(ho:p.s.heap.get? a=some (bS ds ep))(hd:ah (DE p.x) es ds.toList)(nd:(es.map (·.1)).Nodup)(hk:k.pur=true)(rk:V k p key):FK A p.s a ds ep key (bK k) fun i=>decide (At es k i):=by
 have ti:∀(i:Nat) (d:UH) {C:Prop},ds[i]?=some d->(∀ e,es[i]?=some e->DE p.x e d->C)->C:=fun i d _ h=>hd.get' (Ts▸h);have pe:∀{i:Nat} {e:AV×AV},es[i]?=some e->(e.1=k↔At es k i):=fun h=>by unfold At;rw[h];exact⟨Sx some,SQ⟩
 refine⟨ho,fun i d h {Q E} hq=>ti i d h fun e h1 h2=>sS hu h2.pur hk h2.key rk ((decide_eq_decide.mpr (pe h1)).symm▸hq),fun i d h hp=>ti i d h fun e h1 h2=>h2.hash.trans (Sx _ ((pe h1).mpr (SF hp))),
  fun i j hi hj=>?_,fun i hi=>?_,fun h6 hq=>gl hk rk rfl h6 hq,fun i d h {k Q E} h6 hq=>ti i d h fun e h1 h2=>gl h2.pur h2.key rfl h6 hq,fun i d h hq=>ti i d h fun e h1 h2=>h2.hash.trans (Sx _ (ao.inj h2.pur hk (hq▸h2.key) rk)),
  fun i d x t h hq=>ti i d h fun e h1 h2=>?_,?_⟩
 ·have hi:=SF hi;have hj:=SF hj;unfold At at hi hj;rw[<- Tv] at hi hj;exact(List.getElem?_inj (SJ.mp hi).1 nd).mp (hi.trans hj.symm)
 ·have hi:=SF hi;unfold At at hi;rw[<- Tv] at hi;have:=(SJ.mp hi).1;rwa [SU,hd.length] at this
 ·rw[<- decide_eq_decide.mpr (pe h1)];refine bH (x:=p.x) (P:=fun _ v w=>w=.str x t->d.key.isStr x=decide (e.1=v)) (Ps:=fun _ _ _=>True) (fun h=>nomatch h) (fun{_ j _} hj q=>?_) (fun _ _ h=>nomatch h) trivial (fun _ _=>trivial) hk rk hq
  cases q
  exact bH (x:=p.x) (P:=fun _ v w=>w.isStr (au j)=decide (v=.sym j)) (Ps:=fun _ _ _=>True) (d6 nofun) (fun{_ i _} hi=>by
   show(au i==au j)=_
   by_cases q:i=j
   ·subst q;rw[beq_self_eq_true];exact(SM rfl).symm
   ·rw[beq_eq_false_iff_ne.mpr fun g=>q ((dY j hj).2 i hi g)];exact d6 fun g=>q (AV.sym.inj g)) (fun _ _=>d6 nofun) trivial (fun _ _=>trivial) h2.pur h2.key
 ·exact bH (x:=p.x) (P:=fun _ _ key=>(∃ i t,key=.int i t)\/(∃ x t,key=.str x t)\/∃ a,key=.ref a) (Ps:=fun _ _ _=>True) (.inl ⟨_,_,rfl⟩) (fun _=>.inr (.inl ⟨_,_,rfl⟩)) (fun _ _=>.inr (.inr ⟨_,rfl⟩)) trivial (fun _ _=>trivial) hk rk
theorem gA(p:Pt Y){Q:Option Nat->UE->Prop}(hu:A.units+6<cLine)(ho:p.s.heap.get? a=some (bS ds ep))(hd:ah (DE p.x) es ds.toList)(nd:(es.map (·.1)).Nodup)(hk:k.pur=true)(rk:V k p key)
  (hn:k∉es.map (·.1)->Q none p.s) (hs:∀(i:Nat) e d,es[i]?=some e->e.1=k->ds[i]?=some d->DE p.x e d->Q (some i) p.s):wpAny M0 A (dictFind a key (bK k)) Q E p.s:=
 Cf (FK.of p hu ho hd nd hk rk) (fun i hi=>by
  have hi:=SF hi;unfold At at hi
  cases he:es[i]? with
  | none=>rw[he] at hi;exact nomatch hi
  | some e=>rw[he] at hi;exact hd.get he fun d h1 h2=>hs i e d he (SQ hi) (Ts▸h1) h2)
  fun h=>hn (mB fun i g=>nomatch(SM g).symm.trans (h i))
theorem gz(p:Pt Y){Q:Int->UE->Prop}(hu:A.units+6<cLine)(hk:k.pur=true)(rk:V k p key)(h:∀ t,Q (bK k) (p.tok t).s):wpAny M0 A (pyHash key) Q E p.s:=eA hk rk rfl hu h
theorem sQ(p:Pt Y)(hu:A.units+6<cLine)(ho:p.s.heap.get? a=some (bS ds ep))(hd:ah (DE p.x) es ds.toList)(nd:(es.map (·.1)).Nodup)(hk:k.pur=true)(rk:V k p key) :
  Ev (Y':=Y) (fun q o=>(az es k=none/\o=none)\/∃ v w,az es k=some v/\o=some w/\V v q w) A p (dictGet a key):=⟨fun g=>S6 (Sv (gz p hu hk rk fun t=>Sv (gA (p.tok t) hu ho hd nd hk rk
   (fun h=>Sw (g (p.tok t) _ .tok (.inl ⟨fh h,rfl⟩))) fun i e d h1 h2 h3 h4=>Sv (T4 (s:=(p.tok t).s) ho rfl (Sw (g (p.tok t) _ .tok (.inr ⟨e.2,d.val,h2▸oe nd h1,Sx _ h3,h4.val⟩)))))))⟩
theorem uz(p:Pt Y)(hp:p.ι[r]?=some (a,a))(hu:A.units+6<cLine)(ho:p.s.heap.get? a=some (bS ds ep))(hd:ah (DE p.x) es ds.toList)(nd:(es.map (·.1)).Nodup)(hk:k.pur=true)(rk:V k p key)(rv:V v p w)(hz:es.length<=ax)
  (hl:(aT es k v).length<=ax):Ev (Y':=Y.set r (.dict (aT es k v))) (fun q (_:Unit)=>∀ b,b≠a->q.s.heap.get? b=p.s.heap.get? b) A p (dictSetHashed a key (bK k) w):=⟨fun g=>S6 (Sv (gA p hu ho hd nd hk rk
   (fun h=>Sv (TD (wpAny_updateDictKeys ho rfl (Pt.setDH p (h':=p.s.heap.update a (Obj.mapDictKeys (·.push ⟨bK k,key,w⟩))) hp (Tm ..) (Tw _ ho rfl) hl (eB nd)
     (by rw[cM h,Um];exact hd.snoc ⟨hk,rfl,rk,rv⟩) fun q n=>g q () n) (eX hd▸aW hz) (by simp))))
   fun i e d h1 h2 h3 h4=>Sv (TD (Sv (wpAny_updateDict ho rfl (wpAny_point (Pt.setDH p (h':=p.s.heap.update a (Obj.mapDict (·.modify i fun e=>{ e with val:=w }))) hp (Tm ..) (Tw _ ho rfl) hl (eB nd)
     (by rw[gF nd (show At es k i by unfold At;rw[h1,<- h2];rfl),Array.toList_modify];exact hd.modify i fun _ _ _ r=>⟨r.pur,r.hash,r.key,rv⟩) fun q n=>g q () n)) (by simp))))))⟩
theorem sP(p:Pt Y)(hp:p.ι[r]?=some (a,a))(hu:A.units+6<cLine)(ho:p.s.heap.get? a=some (bS ds ep))(hd:ah (DE p.x) es ds.toList)(nd:(es.map (·.1)).Nodup)(hk:k.pur=true)(rk:V k p key)(rv:V v p w)(hz:es.length<=ax)
  (hl:(aT es k v).length<=ax):Ev (Y':=Y.set r (.dict (aT es k v))) (fun _ (_:Unit)=>True) A p (dictSet a key w):=⟨fun g=>S6 (Sv (gz p hu hk rk fun t=>(uz (p.tok t) hp hu ho hd nd hk rk rv hz hl).go fun q _ n _=>g q () (Nx.trans .tok n) trivial))⟩
theorem k9(p:Pt Y){Q:Value->UE->Prop}(hp:p.ι[r]?=some (a,a))(hu:A.units+6<cLine)(ho:p.s.heap.get? a=some (bS ds ep))(hd:ah (DE p.x) es ds.toList)(nd:(es.map (·.1)).Nodup)(hk:k.pur=true)(rk:V k p key)(rv:V v p w)(hz:es.length<=ax)
  (hs:∀ u t w',az es k=some u->V u (p.tok t) w'->Q w' (p.tok t).s) (hn:az es k=none->es.length+1<=ax/\∀ q:Pt (Y.set r (.dict (es++[(k,v)]))),Nx [] p q->Q w q.s):wpAny M0 A (dictSetDefault a key w) Q E p.s:=
 S6 (Sv (gz p hu hk rk fun t=>Sv (gA (p.tok t) hu ho hd nd hk rk
  (fun h=>Sv (TD (Sv (wpAny_updateDictKeys (s:=(p.tok t).s) ho rfl (Sw (Pt.setD p (h':=p.s.heap.update a (Obj.mapDictKeys (·.push ⟨bK k,key,w⟩))) hp (Tm ..) (Tw _ ho rfl)
     (by rw[SP];exact(hn (fh h)).1) (mc nd h) (by rw[Um];exact hd.snoc ⟨hk,rfl,rk,rv⟩) (hn (fh h)).2)) (eX hd▸aW hz) (by simp)))))
  fun i e d h1 h2 h3 h4=>Sv (T4 (s:=(p.tok t).s) ho rfl (by rw[h3];exact Sv (TD (Sw (hs e.2 t d.val (h2▸oe nd h1) h4.val))))))))
theorem cg.six{n:Nat}(R:cg A n):A.units+90<cLine:=Tc (T9 (Ty _ _) (by decide)) R.units
end
section
variable{c:Cc}{A:UG}{env:Env}{U:En}{Y Y':St}{p:Pt Y}{E:Value->UE->Prop}
theorem oS{x:Str}{es:List X}{a:X}(h:gX TB x es=some a):x≠("super":Str):=fun e=>by
 subst e;unfold gX at h;rw[show mO ("super":Str)=none by decide +kernel,show bd TB.fns ("super":Str)=none by decide +kernel,show bd TB.clss ("super":Str)=none by decide +kernel] at h
 cases h
theorem gD(value:Expr)(attr:Str)(pos:Pos):eval (.Attribute value attr pos) env=(do
  let o <- attributeBase value attr env (eval value env)
  standAt pos.atName
  let r <- holding [o] (getAttr o attr true)
  letTemporaryGo value o r
  pure r):=rfl
theorem FE.isStr{x:Hp}{e:Nat×AV}{d:UH}(h:FE x e d){a:Nat}(ha:a<bO.length):d.key.isStr (dU a)=(a==e.1):=h.key.elim fun t hk=>by
 rw[hk];show(dU e.1==dU a)=_
 by_cases q:a=e.1
 ·rw[q,beq_self_eq_true,beq_self_eq_true]
 ·rw[beq_eq_false_iff_ne.mpr q,beq_eq_false_iff_ne.mpr fun g=>q (Bw _ h.lt a ha g.symm)]
theorem iP{x:Hp}{a:Nat}(ha:a<bO.length):∀{fs:List (Nat×AV)} {ds:List UH},ah (FE x) fs ds->
  (fs.lookup a=none/\ds.find? (·.key.isStr (dU a))=none/\ds.any (·.refKey)=false)\/∃ v d,fs.lookup a=some v/\ds.find? (·.key.isStr (dU a))=some d/\ao x v d.val:=
 ah.ind (P:=fun(fs:List (Nat×AV)) (ds:List UH)=>(fs.lookup a=none/\ds.find? (·.key.isStr (dU a))=none/\ds.any (·.refKey)=false)\/∃ v d,fs.lookup a=some v/\ds.find? (·.key.isStr (dU a))=some d/\ao x v d.val) (.inl ⟨rfl,rfl,rfl⟩)
  fun{e d fs ds} h _ ih=>by
   rw[List.lookup_cons,List.find?_cons,h.isStr ha]
   cases a==e.1 with
   | true=>exact .inr ⟨_,_,rfl,rfl,h.val⟩
   | false=>exact ih.imp (fun g=>⟨g.1,g.2.1,by rw[List.any_cons,g.2.2,show d.refKey=false from h.key.elim fun t q=>by unfold DictEntry.refKey;rw[q]];rfl⟩) id
theorem mw{a:Nat}{ds:Array UH}{n:Nat}:lookIn (dU a) (bS ds n)=(match ds.toList.find? (·.key.isStr (dU a)) with | some e=>some (some e.val) | none=>if ds.toList.any (·.refKey) then none else some none):=rfl
theorem zj{x:Hp}{a:Nat}{fs:List (Nat×AV)}{ds:Array UH}{n:Nat}{v:AV}(ha:a<bO.length)(h:ah (FE x) fs ds.toList)(hv:fs.lookup a=some v):∃ w,lookIn (dU a) (bS ds n)=some (some w)/\ao x v w:=
 (iP ha h).elim (fun g=>nomatch g.1.symm.trans hv) fun g=>g.elim fun u g=>g.elim fun d g=>⟨d.val,by rw[mw,g.2.1],SQ (g.1.symm.trans hv)▸g.2.2⟩
theorem sO{x:Hp}{a:Nat}{fs:List (Nat×AV)}{ds:Array UH}{n:Nat}(ha:a<bO.length)(h:ah (FE x) fs ds.toList)(hv:fs.lookup a=none):lookIn (dU a) (bS ds n)=some none:=
 (iP ha h).elim (fun g=>by rw[mw,g.2.1,g.2.2];rfl) fun g=>g.elim fun u g=>g.elim fun d g=>nomatch g.1.symm.trans hv
theorem ao.handed{x:Hp}:∀{v:AV} {w:Value},ao x v w->handedIn w=true
 | .none,_,r | .bool _,_,r=>(show _=_ from r)▸rfl
 | .int _,_,r=>r.elim fun _ r=>r▸rfl
 | .sym _,_,r=>r.2.elim fun _ r=>r▸rfl
 | .ref _,_,r=>r.elim fun _ r=>r.2▸rfl
 | .tup _,_,r=>r.2.elim fun _ r=>r.elim fun _ r=>r.elim fun _ r=>r.1▸rfl
 | .frz _,_,r=>r.2.elim fun _ r=>r.elim fun _ r=>r.elim fun _ r=>r.elim fun _ r=>r.1▸rfl
 | .fset _,_,r=>r.elim fun _ r=>r.elim fun _ r=>r.elim fun _ r=>r.elim fun _ r=>r.elim fun _ r=>r.elim fun _ r=>r.1▸rfl
 | .view _,_,r=>r.elim fun _ r=>r.elim fun _ r=>r.1▸rfl
 | .rng _,_,r=>r.2.elim fun _ r=>r.elim fun _ r=>r.elim fun _ r=>r.elim fun _ r=>r.1▸rfl
 | .enm _,_,r=>r.elim
 | .zp _ _,_,r=>r.elim
theorem V.int{i:Int}{w:Value}(r:V (.int i) p w){P:Value->Prop}(k:∀ t,P (.int i t)):P w:=r.elim fun t e=>e▸k t
theorem V.symE{i:Nat}{w:Value}(r:V (.sym i) p w){P:Value->Prop}(k:∀ t,i<aS.length->P (.str (au i) t)):P w:=r.2.elim fun t e=>e▸k t r.1
theorem V.refE{i:Nat}{w:Value}(r:V (.ref i) p w){P:Value->Prop}(k:∀ pr,p.ι[i]?=some pr->P (.ref pr.1)):P w:=r.elim fun pr h=>h.2▸k pr h.1
theorem V.tupE{vs:List AV}{w:Value}(r:V (.tup vs) p w){P:Value->Prop}(k:∀ a ws n,vs.length<=ax->fE p.x a (bV ws n)->VL vs p ws.toList->P (.ref a)):P w:=
 r.2.elim fun a h=>h.elim fun ws h=>h.elim fun n h=>h.1▸k a ws n r.1 h.2.1 h.2.2.both
theorem V.lstE{i:Nat}{w:Value}{vs:List AV}(r:V (.ref i) p w)(h:ai Y i=some vs){P:Value->Prop}(k:∀ a ws n,p.ι[i]?=some (a,a)->vs.length<=ax->p.s.heap.get? a=some (gu ws n)->VL vs p ws.toList->P (.ref a)):P w:=
 r.refE fun pr h1=>p.lst h fun a ws n h2=>by cases h1.symm.trans h2;exact k a ws n h2
theorem V.dctE{i:Nat}{w:Value}{es:List (AV×AV)}(r:V (.ref i) p w)(h:aM Y i=some es){P:Value->Prop}(k:∀ a ds n,p.ι[i]?=some (a,a)->es.length<=ax->(es.map (·.1)).Nodup->p.s.heap.get? a=some (bS ds n)->ah (DE p.x) es ds.toList->P (.ref a)):P w:=
 r.refE fun pr h1=>p.dct h fun a ds n h2=>by cases h1.symm.trans h2;exact k a ds n h2
theorem V.insE{i:Nat}{w:Value}{q:Nat×List (Nat×AV)}(r:V (.ref i) p w)(h:dP Y i=some q){P:Value->Prop}(k:∀ pr,p.ι[i]?=some pr->GV p.x pr q.1 q.2->P (.ref pr.1)):P w:=
 r.refE fun pr h1=>p.ins h fun pr' h2=>by cases h1.symm.trans h2;exact k pr h2
theorem lu{v:AV}{α:Type}{f:Nat->Option α}{b:α}{P:Prop}{w:Value}(r:V v p w)(h:(bF v).bind f=some b)(k:∀ i,V (.ref i) p w->f i=some b->P):P:=ae h fun i h1 h2=>k i (ba h1▸r) h2
theorem jy{s:UE}{x dx c:Addr}{o:Obj}(hx:s.heap.get? x=some (instObj c dx))(hd:s.heap.get? dx=some o):InstAt s.heap x (instObj c dx) c (some o):=⟨hx,rfl,rfl,hd⟩
theorem lH{v u:AV}{w:Value}{a:Nat}{expr:Bool}(r:V u p w)(ha:a<27)(h:wm Y u a=some v):aQ A p (getAttr w (dU a) expr) v Y:=
 lu r h fun i r h=>ae h fun q hi hv=>V.insE (P:=fun w=>aQ A p (getAttr w (dU a) expr) v Y) r hi fun pr _ o=>o.ex.elim fun ds h=>h.elim fun n h=>
  have F:=p.r.pf.clss q.1 o.lt
  (zj (n:=n) (Tz ha (by decide)) h.2 hv).elim fun w e=>(F.attr a ha).elim fun r0 g=>
   ⟨fun k=>get_value p.kin (jy o.obj.h h.1) F.ga (findObj_own F.hasDict g.1 g.2 e.1) e.2.handed (k (p.tok _) w .tok e.2)⟩
theorem AM{e:Expr}{nm:Str}{pos:Pos}{x:X}{a:Nat}(sx:SX c e x)(hn:bd bO nm=some a)(ha:a<27):SX c (.Attribute e nm pos) (.attr x a):=.of fun{U Y Y' p} f v h=>
 aE h fun u Y1 h1 h=>jU h fun v hv=>⟨fun k=>by
  rw[gD,sx.base,(er hn).2];exact Sv (((sx.v f h1).go fun q w n r=>Sv (wpAny_standAt (Sv (S6 ((lH r ha hv).go fun q2 w2 n2 r2=>Sv (wpAny_letTemporaryGo (Sw (k q2 w2 (n.trans n2) r2)))))))))⟩
end
section
variable{c:Cc}{A:UG}{env:Env}{U:En}{Y Y':St}{p:Pt Y}{Er:Value->UE->Prop}
theorem um{n:Nat}(h:n<=ax):(n:Int)<2^63:=Int.lt_of_le_of_lt (TP.mpr h) (by decide)
theorem VL.size{vs:List AV}{ws:Array Value}(h:VL vs p ws.toList):ws.size=vs.length:=(ah.length h).symm
theorem yv{vs:List AV}{k:Int}{v:AV}(h:Bv vs k=some v){P:Prop}(c:0<=k->vs[k.toNat]?=some v->k<vs.length->P):P:=
 bi h (fun h1 h2=>have h0:=SF h1;c h0 h2 ((Int.toNat_lt h0).mp (SJ.mp h2).1)) fun _ h=>nomatch h
theorem xE{k:Nat}{i:Int}{j:Nat}(h:oX k i=some j):j<aS.length/\(decide (i< -(2^63:Int))||decide (i>=2^63))=false/\(seqIndex? i (au k).length).bind ((au k).cps[·]?)=some ((au j).cps.getD 0 0)/\(⟨#[(au j).cps.getD 0 0]⟩:Str)=au j:=by
 have one:∀ k,k<=6->1<=k->k<aS.length/\(seqIndex? 0 (au k).length).bind ((au k).cps[·]?)=some ((au k).cps.getD 0 0)/\(⟨#[(au k).cps.getD 0 0]⟩:Str)=au k:=by decide +kernel
 refine bi h (fun h1 h2=>?_) fun _ h=>bi h (fun h1 h2=>?_) fun _ h=>bi h (fun h1 h2=>?_) fun _ h=>nomatch h
 ·have h1:=SL.mp h1;have h3:=SL.mp h1.1
  cases SF h1.2
  cases h2
  have:=one k (SV h3.2) (SV h3.1);exact⟨this.1,rfl,this.2.1,this.2.2⟩
 ·have h1:=SL.mp h1
  cases SF h1.2
  cases Ub h1.1
  cases h2
  decide +kernel
 ·have h1:=SL.mp h1
  cases SF h1.2
  cases Ub h1.1
  cases h2
  decide +kernel
structure Gt(A:UG){Y:St}(p:Pt Y)(u:AV)(Y':St)(w key:Value):Prop where
 ty:∃ T id,p.s.TypeIs w T/\typeLookup (.type T) "__getitem__"=pure (some (.builtin id))
 ev:aQ A p (getItem w key) u Y'
theorem cA{h:Heap}{a:Addr}{ws:Array Value}{m:Nat}(e:h.get? a=some (gu ws m)):h.IsList a ws:=⟨_,e,rfl,m,rfl⟩
theorem AP{vs:List AV}{i:Int}{u:AV}{w k:Value}(rv:V (.tup vs) p w)(rk:V (.int i) p k)(h:Bv vs i=some u):Gt A p u Y w k:=
 yv h fun h0 h1 h2=>rv.tupE (P:=fun w=>Gt A p u Y w k) fun a ws n hl im r=>rk.int (P:=fun k=>Gt A p u Y (.ref a) k) fun t=>ah.get r h1 fun o h3 h4=>
  ⟨⟨_,_,⟨_,im.h,rfl⟩,slot_tuple_getitem.lookup⟩,⟨fun g=>PySem.P.getItem_tuple im.h (Int.le_trans (by decide) h0) (Int.lt_trans h2 (um hl)) (seqIndex_of h0 (by rw[r.size];exact h2)) (Ts▸h3) (g p o (.refl p) h4)⟩⟩
theorem AR{r:Nat}{vs:List AV}{i:Int}{u:AV}{w k:Value}(rv:V (.ref r) p w)(hr:ai Y r=some vs)(rk:V (.int i) p k)(h:Bv vs i=some u):Gt A p u Y w k:=
 yv h fun h0 h1 h2=>rv.lstE hr (P:=fun w=>Gt A p u Y w k) fun a ws n _ hl ho r=>rk.int (P:=fun k=>Gt A p u Y (.ref a) k) fun t=>ah.get r h1 fun o h3 h4=>
  ⟨⟨_,_,⟨_,ho,rfl⟩,slot_list_getitem.lookup⟩,⟨fun g=>wpAny_getItem_list (cA ho) h0 (Int.lt_trans h2 (um hl)) (Ts▸h3) (g p o (.refl p) h4)⟩⟩
theorem AQ{y j:Nat}{i:Int}{w k:Value}(rv:V (.sym y) p w)(rk:V (.int i) p k)(h:oX y i=some j):Gt A p (.sym j) Y w k:=
 rv.symE (P:=fun w=>Gt A p (.sym j) Y w k) fun t _=>rk.int (P:=fun k=>Gt A p (.sym j) Y _ k) fun t'=>have g:=xE h
  ⟨⟨"str",_,rfl,PySem.F.slot_str_getitem.lookup⟩,⟨fun k=>PySem.P.getItem_str g.2.1 g.2.2.1 (k (p.tok _) _ .tok ⟨g.1,_,Sx (Value.str · _) g.2.2.2⟩)⟩⟩
theorem AS{r:Nat}{es:List (AV×AV)}{i u:AV}{w k:Value}(hu:A.units+7<cLine)(rv:V (.ref r) p w)(hr:aM Y r=some es)(rk:V i p k)(hi:i.pur=true)(h:az es i=some u):Gt A p u Y w k:=
 rv.dctE hr (P:=fun w=>Gt A p u Y w k) fun a ds n _ hl nd ho r=>have hT:p.s.TypeIs (.ref a) "dict":=⟨_,ho,rfl⟩
  ⟨⟨_,_,hT,slot_dict_getitem.lookup⟩,⟨fun{E Q} g=>getItem_slot hT (by decide) slot_dict_getitem (TA slot_dict_getitem hT entry_dict_getitem (by
   show wpAny _ _ (dictGet a k >>= _) _ _ p.s;exact Sv ((sQ (A:=A.in1) p hu ho r nd hi rk).go fun q o n e=>e.elim (fun e=>nomatch e.1.symm.trans h) fun e=>e.elim fun v e=>e.elim fun w e=>by
    cases e.1.symm.trans h
    rw[e.2.1];exact Sw ⟨w,rfl,g q w n e.2.2⟩)) (args_dict_getitem _ _))⟩⟩
theorem uZ{v i u:AV}{w k:Value}(hu:A.units+7<cLine)(rv:V v p w)(rk:V i p k)(h:oZ Y v i=some u):Gt A p u Y w k:=
 bt h (fun h=>ae h fun vs h1 h=>ae h fun j h2 h=>AP (aB h1▸rv) (bp h2▸rk) h) fun h=>bt h
  (fun h=>ae h fun y h1 h=>ae h fun j h2 h=>aH h fun z h e=>e▸AQ (cw h1▸rv) (bp h2▸rk) h)
  fun h=>lu rv h fun r rv h=>bt h (fun h=>ae h fun vs h1 h=>ae h fun j h2 h=>AR rv h1 (bp h2▸rk) h) fun h=>ae h fun es h1 h=>bi h (fun hi h=>AS hu rv h1 rk hi h) fun _ h=>nomatch h
theorem tL{value slice:Expr}{u:AV}{w k:Value}{ops:List Value}{E Q:Value->UE->Prop}(g:Gt A p u Y' w k)(hs:subscripted slice false w k=operate ops (getItem w k))(h:∀(q:Pt Y') w,Nx [] p q->V u q w->Q w q.s):wpAny M0 A (subscriptTail value slice w k) Q E p.s:=
 g.ty.elim fun T e=>e.elim fun id e=>tail_any e.1 e.2 (g.ev.go h) hs
theorem DR{e i:Expr}{pos:Pos}{x y:X}(hs:∀ o k,subscripted i false o k=operate [o,k] (getItem o k))(sx:SX c e x)(sy:SX c i y):SX c (.Subscript e i pos) (.sub x y):=.of fun{U Y Y' p} f v h=>
 aE h fun u Y1 h1 h=>aE h fun k Y2 h2 h=>jU h fun v hv=>
  ⟨fun g=>Subscript_ ((sx.v f h1).go fun q1 w1 n1 r1=>(sy.v (f.nx n1) h2).go fun q2 w2 n2 r2=>tL (uZ (Tc (Tp (by decide) _) f.R.six) (r1.nx n2) r2 hv) (hs w1 w2) fun q3 w3 n3 r3=>g q3 w3 (n1.trans (n2.trans n3)) r3)⟩
theorem Pt.pushT{vs:List AV}{ws:List Value}{Q:Value->UE->Prop}{t:Nat}{d:Drawn}(hl:vs.length<=ax)(r:VL vs p ws)(k:∀(q:Pt Y) w,Nx [] p q->V (.tup vs) q w->Q w q.s):Q (.ref p.s.heap.objs.size) ⟨p.s.heap.push (bV ws.toArray 0),p.s.gens,d,t,p.s.os⟩:=
 p.push fun q n e i=>k q _ n ⟨hl,_,_,_,rfl,i,(r.nx n).vrels⟩
theorem Pt.pushL{vs:List AV}{ws:List Value}{Q:Value->UE->Prop}{t:Nat}{d:Drawn}(hl:vs.length<=ax)(r:VL vs p ws)(k:∀(q:Pt (Y++[.list vs])) w,Nx [] p q->V (.ref Y.length) q w->Q w q.s):Q (.ref p.s.heap.objs.size) ⟨p.s.heap.push (gu ws.toArray 0),p.s.gens,d,t,p.s.os⟩:=
 p.newL (TN (SE _)) (fun _ _ e=>SW _ e) (Tb _ rfl) hl r fun q n v=>k q _ n v
theorem VL.fits{vs:List AV}{ws:List Value}(r:VL vs p ws)(hl:vs.length<=ax):ws.toArray.size<=sizeLine:=aW (by rw[List.size_toArray,<- ah.length r];exact hl)
theorem j7{vs:List AV}{ws:List Value}(r:VL vs p ws)(hl:vs.length<=ax):aQ A p (newTuple ws) (.tup vs) Y:=⟨fun g=>TR (Pt.pushT hl r g) (r.fits hl)⟩
theorem lC{vs:List AV}{ws:List Value}(r:VL vs p ws)(hl:vs.length<=ax):aQ A p (newList ws) (.ref Y.length) (Y++[.list vs]):=⟨fun g=>TR (Pt.pushL hl r g) (r.fits hl)⟩
theorem yM{n k:Nat}(h:decide (n<=k)=true)(hk:k<=ax):n<=ax:=Sy (SF h) hk
theorem DQ{es:List Expr}{k:Nat}{pos:Pos}{xs:List X}(sx:GQ c es xs):SX c (.Tuple es k pos) (.tup xs):=.of fun{U Y Y' p} f v h=>aE h fun vs Y1 h1 h=>fz h fun hl=>
 ⟨fun g=>Tuple_ ((sx.ev f h1 pos).go fun q ws n r=>(j7 r (yM hl (by decide))).after n g)⟩
theorem DX{es:List Expr}{pos:Pos}{xs:List X}(sx:GQ c es xs):SX c (.List es pos) (.lst xs):=.of fun{U Y Y' p} f v h=>aE h fun vs Y1 h1 h=>fz (a:=.ref Y1.length) h fun hl=>
 ⟨fun g=>List_ ((sx.ev f h1 pos).go fun q ws n r=>(lC r (yM hl (by decide))).after n g)⟩
end
section
variable{c:Cc}{A:UG}{env:Env}{U:En}{Y Y':St}{p:Pt Y}{Er:Value->UE->Prop}{s:UE}
theorem tx(m:Nat)(hm:1<=m):Builtin.Slice.sliceAdjust none (some (1:Int)) 1 (m:Int)=(0,1):=by
 unfold Builtin.Slice.sliceAdjust;have h1:¬((1:Int)<0):=by decide
 simp only[h1,if_false];exact Sx _ (Int.min_eq_left (TP.mpr hm))
theorem fy{t sl:Addr}{items:Array Value}{m:Nat}{u:Tok}{Q:Value->UE->Prop}(ht:s.heap.get? t=some (bV items m))(hs:s.heap.IsSliceOf sl .none (.int 1 u) .none)(h1:1<=items.size)
  (hw:items.size=1->Q (.ref t) s) (h:items.size≠1->Q (.ref s.heap.objs.size) { s with heap:=s.heap.push (bV (items.toList.take 1).toArray 0) }):wpAny M0 A (getItem (.ref t) (.ref sl)) Q Er s:=by
 have hT:s.TypeIs (.ref t) "tuple":=⟨_,ht,rfl⟩;obtain⟨os,hos,hcs,hds⟩:=id hs;have hTs:s.TypeIs (.ref sl) "slice":=⟨os,hos,hcs⟩;refine getItem_slot hT (by decide) slot_tuple_getitem (TA slot_tuple_getitem hT entry_tuple_getitem ?_ (args_tuple_getitem _ _))
 refine Sv (m:=Builtin.Tuple.tupleItemsOf (.ref t)) (wpAny_tupleItemsOf ht rfl ?_);refine Sv (wpAny_typeOf hTs ?_);rw[SI (by decide)]
 refine Sv ?_;unfold Builtin.Slice.sliceApplied Builtin.Slice.sliceFields;refine Sv (Sv (wpAny_field hos hds (x:=.none) rfl (Sv (wpAny_field hos hds (x:=.int 1 u) rfl (Sv (wpAny_field hos hds (x:=.none) rfl (Sw ?_)))))));refine Sv (slicePart_none ?_);show wpAny _ _ (if((1:Int)==0)=true then _ else _) _ _ s
 rw[Sz (by decide)]
 refine Sv (slicePart_none (Sv (slicePart_int (Sv (Sw ?_)))));show wpAny _ _ (match Builtin.Slice.sliceAdjust none (some (1:Int)) 1 (items.size:Int) with | (lo,hi)=>pure (lo,(1:Int),Builtin.Slice.slicePlaces lo hi 1)) _ _ s
 rw[tx _ h1];refine Sw ?_;rw[show Builtin.Slice.slicePlaces 0 1 1=1 by decide]
 show wpAny _ _ (if((0:Int)==0&&(1:Int)==1&&1==items.size)=true then _ else _) _ _ s
 by_cases hone:items.size=1
 ·rw[SI (by rw[hone];decide)]
  refine Sv ?_;unfold Builtin.Tuple.tupleIsExact;refine Sv (wpAny_typeOf hT (Sw ?_));rw[SI (by decide)]
  exact Sv (TD (Sv (Sw (Sw ⟨_,rfl,hw hone⟩))))
 ·rw[Sz (by simp;exact PS hone)]
  have e:((List.range 1).filterMap fun(k:Nat)=>items[((0:Int)+(k:Int)*1).toNat]?).toArray=(items.toList.take 1).toArray:=by
   obtain⟨l⟩:=items
   cases l with
   | nil=>exact SH h1 (by decide)
   | cons a l=>rfl
  rw[e];exact Sv (m:=Builtin.Tuple.tupleExact _) (TR (Sw ⟨_,rfl,h hone⟩) (show(items.toList.take 1).toArray.size<=sizeLine by rw[sizeLine_eq,List.size_toArray,List.length_take];exact Sy (Uh _ _) (by decide)))
noncomputable abbrev jR(d:Array Value):Obj:={ cls:=.type "slice",data:=.fields d }
theorem wb{α:Type}{e:Option α}(h:e.isNone=true):e=none:=by cases e;rfl;cases h
theorem kx{e:Option Expr}{c:Const}(h:uE e=some c):∃ a b,e=some (.Constant c a b):=ae h fun e h g=>h▸vn (C:=fun e=>∃ a b,some e=some (.Constant c a b)) g bY (fun _ _=>bY) (fun _ _ _=>bY) (fun y a b h=>⟨a,b,SQ h▸rfl⟩) (fun _ _ _=>bY) (fun _ _ _ _=>bY) (fun _ _ _=>bY) (fun _ _ _=>bY) bY
theorem wg{c:Const}{i:Int}(h:Js c=some i):c=.int i:=by
 cases c<;>first | (cases h;rfl) | exact nomatch(show none=some i from h)
theorem vc{c:Const}{i:Str}(h:Ed c=some i):c=.str i:=by
 cases c<;>first | (cases h;rfl) | exact nomatch(show none=some i from h)
theorem my{e:Option Expr}{i:Int}(h:vQ e=some i):∃ a b,e=some (.Constant (.int i) a b):=ae h fun c h1 h2=>wg h2▸kx h1
theorem vN{e:Option Expr}{i:Int}(h:ER e=some i):∃ a b d,e=some (.UnaryOp .USub (.Constant (.int i) a b) d):=ae h fun e h g=>h▸vn (C:=fun e=>∃ a b d,some e=some (.UnaryOp .USub (.Constant (.int i) a b) d)) g bY (fun _ _=>bY) (fun _ _ _=>bY) (fun _ _ _=>bY) (fun op f d h=>by
  cases op with
  | USub=>exact(my (e:=some f) h).imp fun a g=>g.imp fun b g=>⟨d,(SQ g:f=_)▸rfl⟩
  | _=>exact bY h) (fun _ _ _ _=>bY) (fun _ _ _=>bY) (fun _ _ _=>bY) bY
def wI(e:Option Expr)(v:Tok->Value):Prop:=∀{s:UE} {A:UG} {env:Env} {Q E:Value->UE->Prop},(∀ t u,Q (v u) { s with toks:=t })->wpAny M0 A (valueOrNone (evalOpt e env)) Q E s
theorem cj{e:Option Expr}(h:e.isNone=true):wI e fun _=>.none:=fun{s A env Q E} g=>wb h▸Sw (g s.toks 0)
theorem jX{e:Option Expr}{i:Int}(h:vQ e=some i):wI e fun u=>.int i u:=fun{s A env Q E} g=>(my h).elim fun a h=>h.elim fun b h=>h▸(wpAny_Constant_int (g _ _):wpAny M0 A (eval (.Constant (.int i) a b) env) Q E s)
theorem yg{e:Option Expr}{i:Int}(h:ER e=some i):wI e fun u=>.int (-i) u:=fun{s A env Q E} g=>(vN h).elim fun a h=>h.elim fun b h=>h.elim fun d h=>
 h▸(wpAny_UnaryOp (wpAny_Constant_int (PySem.P.neg_int (s:={ s with toks:=s.toks+1 }) (g _ _))):wpAny M0 A (eval (.UnaryOp .USub (.Constant (.int i) a b) d) env) Q E s)
noncomputable def dN(k:Sl)(tl tu ts:Tok):Array Value:=match k with | .tail=>#[.int 1 tl,.none,.none] | .first=>#[.none,.int 1 tu,.none] | .first30=>#[.none,.int 30 tu,.none] | .rev=>#[.none,.none,.int (-1) ts]
theorem eg{l u st:Option Expr}{ps:Pos}{a b d:Tok->Value}(h1:wI l a)(h2:wI u b)(h3:wI st d):∀{Q E:Value->UE->Prop},(∀ t x y z,Q (.ref s.heap.objs.size) { s with heap:=s.heap.push (jR #[a x,b y,d z]),toks:=t })->wpAny M0 A (eval (.Slice l u st ps) env) Q E s:=fun{Q E} g=>by
 show wpAny M0 A (valueOrNone (evalOpt l env) >>= fun l'=>holding [l'] (valueOrNone (evalOpt u env)) >>= fun u'=>holding [l',u'] (valueOrNone (evalOpt st env)) >>= fun s'=>newFields "slice" [l',u',s']) Q E s;exact Sv (h1 fun t1 x=>Sv (S6 (h2 fun t2 y=>Sv (S6 (h3 fun t3 z=>TR (g t3 x y z))))))
theorem eD{a b c:Bool}(h:(a&&b&&c)=true):a=true/\b=true/\c=true:=(SL.mp h).elim fun h g=>(SL.mp h).elim fun h h'=>⟨h,h',g⟩
theorem rE{l u st:Option Expr}{ps:Pos}{k:Sl}{Q E:Value->UE->Prop}(hk:fY l u st=some k)(h:∀ t tl tu ts,Q (.ref s.heap.objs.size) { s with heap:=s.heap.push (jR (dN k tl tu ts)),toks:=t }):wpAny M0 A (eval (.Slice l u st ps) env) Q E s:=
 bt hk (fun h1=>cN h1 fun c e=>by subst e;exact eg (jX (SF (eD c).1)) (cj (eD c).2.1) (cj (eD c).2.2) fun t x y z=>h t x y z) fun h2=>
 bt h2 (fun h1=>cN h1 fun c e=>by subst e;exact eg (cj (eD c).1) (jX (SF (eD c).2.1)) (cj (eD c).2.2) fun t x y z=>h t x y z) fun h3=>
 bt h3 (fun h1=>cN h1 fun c e=>by subst e;exact eg (cj (eD c).1) (jX (SF (eD c).2.1)) (cj (eD c).2.2) fun t x y z=>h t x y z) fun h4=>
 cN h4 fun c e=>by subst e;exact eg (cj (eD c).1) (cj (eD c).2.1) (yg (SF (eD c).2.2)) fun t x y z=>h t x y z
def jN(k j:Nat):Prop:=j<aS.length/\∀(t:Tok) (u:Tok),(sliceMade (au k) t none (some (1,u)) none=.val (.str (au k) t)/\j=k)\/sliceMade (au k) t none (some (1,u)) none=.str (au j)
theorem fA(x:Str)(t u:Tok):sliceMade x t none (some (1,u)) none=if((1:Int)==1&&(Builtin.Str.strSliceIndices none (some 1) 1 x.length).length==x.length)=true then .val (.str x t) else .str ⟨((Builtin.Str.strSliceIndices none (some 1) 1 x.length).filterMap (x.cps[·]?)).toArray⟩:=rfl
theorem eI{k j:Nat}(h:eJ k=some j):jN k j:=by
 have one:∀ k,k<=6->1<=k->k<aS.length/\((1:Int)==1&&(Builtin.Str.strSliceIndices none (some 1) 1 (au k).length).length==(au k).length)=true:=by decide +kernel
 have two:∀ k,k<=8->7<=k->((1:Int)==1&&(Builtin.Str.strSliceIndices none (some 1) 1 (au k).length).length==(au k).length)=false/\(⟨((Builtin.Str.strSliceIndices none (some 1) 1 (au k).length).filterMap ((au k).cps[·]?)).toArray⟩:Str)=au 9:=by decide +kernel
 have three:∀ k,7<=k->k<=8->jN k 9:=fun k h1 h2=>⟨by decide,fun t u=>.inr (by rw[fA,(two k h2 h1).1,Sz Tg,(two k h2 h1).2])⟩
 refine bi h (fun h1 h2=>?_) fun _ h=>bi h (fun h1 h2=>?_) fun _ h=>nomatch h
 ·have h1:=SL.mp h1;have:=one k (SV h1.2) (SV h1.1);exact SQ h2▸⟨this.1,fun t u=>.inl ⟨by rw[fA,SI this.2],rfl⟩⟩
 ·exact SQ h2▸(TX.mp h1).elim (fun h=>Ub h▸three 7 (by decide) (by decide)) fun h=>Ub h▸three 8 (by decide) (by decide)
theorem f9{l u:Option Expr}{st:Option Expr}{ps:Pos}{o i:Value}:∃ ops,subscripted (.Slice l u st ps) false o i=operate ops (getItem o i):=by
 cases st<;>exact⟨_,rfl⟩
variable{sl:Addr}{tl tu ts:Tok}{w:Value}
theorem VL.tail{v:AV}{vs:List AV}{ws:List Value}(h:VL (v::vs) p ws):VL vs p (ws.drop 1):=ah.drop 1 h
theorem xT{v:AV}{vs:List AV}(rv:V (.tup (v::vs)) p w)(hs:p.s.heap.get? sl=some (jR (dN .tail tl tu ts))):Gt A p (.tup vs) Y w (.ref sl):=
 rv.tupE (P:=fun w=>Gt A p (.tup vs) Y w (.ref sl)) fun a ws n hl im r=>⟨⟨_,_,⟨_,im.h,rfl⟩,slot_tuple_getitem.lookup⟩,
  ⟨fun g=>getItem_tuple_from (a:=1) ⟨_,im.h,rfl,_,rfl⟩ ⟨_,hs,rfl,rfl⟩ (SE _) (by rw[r.size];exact T1 (SZ _)) (Pt.pushT (Sy (TS _) hl) r.tail g) (r.size▸aW hl)⟩⟩
theorem vh{v:AV}{vs:List AV}(rv:V (.tup (v::vs)) p w)(hs:p.s.heap.get? sl=some (jR (dN .first tl tu ts))):Gt A p (.tup [v]) Y w (.ref sl):=
 rv.tupE (P:=fun w=>Gt A p (.tup [v]) Y w (.ref sl)) fun a ws n hl im r=>⟨⟨_,_,⟨_,im.h,rfl⟩,slot_tuple_getitem.lookup⟩,
  ⟨fun g=>fy im.h ⟨_,hs,rfl,rfl⟩ (by rw[r.size];exact T1 (SZ _)) (fun h1=>g p _ (.refl p) ⟨(by show 1<=ax;decide),a,ws,n,rfl,im,by
    have:vs=[]:=List.length_eq_zero_iff.mp (Nat.succ.inj (r.size.symm.trans h1));exact(this▸r).vrels⟩) fun _=>Pt.pushT (by show 1<=ax;decide) (ah.take 1 r) g⟩⟩
theorem A2{y j:Nat}(rv:V (.sym y) p w)(h:eJ y=some j)(hs:p.s.heap.get? sl=some (jR (dN .first tl tu ts))):Gt A p (.sym j) Y w (.ref sl):=
 have small:∀ j,j<aS.length->(au j).length<=100:=by decide +kernel
 rv.symE (P:=fun w=>Gt A p (.sym j) Y w (.ref sl)) fun t hy=>⟨⟨"str",_,rfl,PySem.F.slot_str_getitem.lookup⟩,⟨fun g=>wpAny_getItem_str_slice (l:=none) (u:=some (1,tu)) (st:=none) ⟨_,hs,rfl,rfl⟩ rfl <| ((eI h).2 t tu).elim
  (fun e=>by rw[e.1];exact g p _ (.refl p) (by rw[e.2];exact⟨hy,t,rfl⟩)) fun e=>by rw[e];exact⟨aW (Sy (small j (eI h).1) (by decide)),g (p.tok _) _ .tok ⟨(eI h).1,_,rfl⟩⟩⟩⟩
theorem jQ{r:Nat}{vs:List AV}(rv:V (.ref r) p w)(hr:ai Y r=some vs)(hs:p.s.heap.get? sl=some (jR (dN .first tl tu ts))):Gt A p (.ref Y.length) (Y++[.list (vs.take 1)]) w (.ref sl):=
 rv.lstE hr (P:=fun w=>Gt A p (.ref Y.length) (Y++[.list (vs.take 1)]) w (.ref sl)) fun a ws n _ hl ho r=>⟨⟨_,_,⟨_,ho,rfl⟩,slot_list_getitem.lookup⟩,
  ⟨fun g=>wpAny_getItem_list_slice (lo:=none) (hi:=some 1) (st:=none) (cA ho) ⟨_,hs,rfl,rfl⟩ .none (.int _ _) .none (by decide) (by
   rw[show(some (1:Int))=some ((1:Nat):Int) from rfl,slicePick_upto'];exact Pt.pushL (Sy (List.length_take_le _ _) (by decide)) (ah.take 1 r) g) (r.size▸aW hl)⟩⟩
theorem A3{r:Nat}{vs:List AV}(rv:V (.ref r) p w)(hr:ai Y r=some vs)(hs:p.s.heap.get? sl=some (jR (dN .rev tl tu ts))):Gt A p (.ref Y.length) (Y++[.list vs.reverse]) w (.ref sl):=
 rv.lstE hr (P:=fun w=>Gt A p (.ref Y.length) (Y++[.list vs.reverse]) w (.ref sl)) fun a ws n _ hl ho r=>⟨⟨_,_,⟨_,ho,rfl⟩,slot_list_getitem.lookup⟩,
  ⟨fun g=>wpAny_getItem_list_slice (lo:=none) (hi:=none) (st:=some (-1)) (cA ho) ⟨_,hs,rfl,rfl⟩ .none .none (.int _ _) (by decide) (by
   rw[krv_pick];exact Pt.pushL (by rw[List.length_reverse];exact hl) (ah.reverse r) g) (r.size▸aW hl)⟩⟩
theorem py{vs:List AV}(rv:V (.frz vs) p w)(hs:p.s.heap.get? sl=some (jR (dN .first30 tl tu ts))):Gt A p (.ref Y.length) (Y++[.list (vs.take 30)]) w (.ref sl):=
 rv.2.elim fun a h=>h.elim fun ws h=>h.elim fun n h=>h.elim fun o h=>h.1▸have hli:p.s.heap.IsList a ws:=⟨o,h.2.2.1.h,h.2.1.2.1,n,h.2.1.2.2⟩
  have r:VL vs p ws.toList:=h.2.2.2.both
  ⟨⟨_,_,Heap.IsList.typeIs hli,slot_list_getitem.lookup⟩,⟨fun g=>wpAny_getItem_list_slice (lo:=none) (hi:=some 30) (st:=none) hli ⟨_,hs,rfl,rfl⟩ .none (.int _ _) .none (by decide) (by
   rw[show(some (30:Int))=some ((30:Nat):Int) from rfl,slicePick_upto'];exact Pt.pushL (Sy (List.length_take_le _ _) (by decide)) (ah.take 30 r) g) (r.size▸aW rv.1)⟩⟩
theorem AD{vs:List AV}(h2:vs.isEmpty=false)(rv:V (.tup vs) p w)(hs:p.s.heap.get? sl=some (jR (dN .tail tl tu ts))):Gt A p (.tup vs.tail) Y w (.ref sl):=by
 cases vs with
 | nil=>exact nomatch h2
 | cons v vs=>exact xT rv hs
theorem xv{vs:List AV}{u:AV}(h2:vs.head?=some u)(rv:V (.tup vs) p w)(hs:p.s.heap.get? sl=some (jR (dN .first tl tu ts))):Gt A p (.tup [u]) Y w (.ref sl):=by
 cases vs with
 | nil=>exact nomatch h2
 | cons v vs=>exact SQ h2▸vh rv hs
theorem vg{v u:AV}(rv:V v p w):∀{k:Sl},p.s.heap.get? sl=some (jR (dN k tl tu ts))->nj Y v k=some (u,Y')->Gt A p u Y' w (.ref sl)
 | .tail,hs,h=>ae h fun vs h1 h=>bi h (fun _ h=>nomatch h) fun h2 h=>cW (P:=fun u Y'=>Gt A p u Y' w (.ref sl)) h (AD h2 (aB h1▸rv) hs)
 | .first,hs,h=>bt h (fun h=>ae h fun vs h1 h=>dr (P:=fun u Y'=>Gt A p u Y' w (.ref sl)) h fun u h2=>xv h2 (aB h1▸rv) hs) fun h=>
   bt h (fun h=>ae h fun y h1 h=>dr (P:=fun u Y'=>Gt A p u Y' w (.ref sl)) h fun j h2=>A2 (cw h1▸rv) h2 hs) fun h=>lu rv h fun r rv h=>dr (P:=fun u Y'=>Gt A p u Y' w (.ref sl)) h fun vs h2=>jQ rv h2 hs
 | .rev,hs,h=>lu rv h fun r rv h=>dr (P:=fun u Y'=>Gt A p u Y' w (.ref sl)) h fun vs h2=>A3 rv h2 hs
 | .first30,hs,h=>dr (P:=fun u Y'=>Gt A p u Y' w (.ref sl)) h fun vs h2=>py (ze h2▸rv) hs
theorem DT{e:Expr}{l u st:Option Expr}{pos ps:Pos}{x:X}{k:Sl}(hk:fY l u st=some k)(sx:SX c e x):SX c (.Subscript e (.Slice l u st ps) pos) (.slc x k):=.of fun{U Y Y' p} f v h=>aE h fun u Y1 h1 h=>
 ⟨fun g=>Subscript_ ((sx.v f h1).go fun q1 w1 n1 r1=>rE hk fun t tl tu ts=>q1.push fun q2 n2 e2 i2=>f9.elim fun ops ho=>tL (vg (r1.nx n2) i2.h h) ho fun q3 w3 n3 r3=>g q3 w3 (n1.trans (n2.trans n3)) r3)⟩
end
section
variable{c:Cc}{A:UG}{env:Env}{U:En}{Y Y':St}{p:Pt Y}{Er:Value->UE->Prop}{s:UE}
theorem I1{i j:Int}(hi:i.natAbs<2^31):IntMulOk i j:=by
 refine IntMulOk.of_left ?_;unfold Builtin.Int.intBits
 split
 ·decide
 ·rename_i h;have h0:i.natAbs≠0:=fun e=>h (by rw[Int.natAbs_eq_zero.mp e];rfl)
  have:Nat.log2 i.natAbs<31:=(Nat.log2_lt h0).mpr hi;exact PR this
noncomputable def C3:cP->Operator
 | .add=>.Add | .sub=>.Sub | .mul=>.Mult | .mod=>.Mod
theorem zX{o:Operator}{b:cP}(h:zY o=some b):o=C3 b:=by
 cases o<;>first | (cases h;rfl) | exact nomatch(show none=some b from h)
theorem CX{xs ys:Array Value}:(xs.toList++ys.toList).toArray=xs++ys:=by rw[<- Array.toList_append,Array.toArray_toList]
theorem VL.isEmpty{vs:List AV}{ws:Array Value}(h:VL vs p ws.toList):ws.isEmpty=vs.isEmpty:=by
 rw[Array.isEmpty,h.size];cases vs<;>rfl
theorem CA{xs ys:List AV}{v u:Value}(rv:V (.tup xs) p v)(ru:V (.tup ys) p u)(h:(!xs.isEmpty)=true)(hl:(xs++ys).length<=ax):aQ A p (binaryOp .Add v u) (.tup (xs++ys)) Y:=
 rv.tupE (P:=fun v=>aQ A p (binaryOp .Add v u) (.tup (xs++ys)) Y) fun a ws n la ia ra=>ru.tupE (P:=fun u=>aQ A p (binaryOp .Add (.ref a) u) (.tup (xs++ys)) Y) fun b zs m lb ib rb=>by
  have n1:¬ws.isEmpty=true:=by rw[ra.isEmpty];cases xs<;>first | exact Tg | exact nomatch h
  cases ys with
  | nil=>
   rw[Ti];exact⟨fun g=>concat_meets ⟨_,ia.h,rfl⟩ ⟨_,ib.h,rfl⟩ noFill_tuple_add seq_tuple_add F.slot_tuple_add F.entry_tuple_add (F.args_tuple_add_2 _ _) (AutoSeq1.tuple___add___tuple_tuple_1 a ws n b zs m n1 rb.isEmpty) ⟨ia.h,ib.h,g p _ (.refl p) ⟨la,a,ws,n,rfl,ia,ra.vrels⟩⟩⟩
  | cons y ys=>exact⟨fun g=>PySem.P.add_tuple ia.h ib.h n1 (by rw[rb.isEmpty];exact Tg) (CX▸Pt.pushT hl (ah.append ra rb) g) (by rw[ra.size,rb.size,<- SP];exact aW hl)⟩
theorem CE{r r':Nat}{xs ys:List AV}{v u:Value}(rv:V (.ref r) p v)(ru:V (.ref r') p u)(h1:ai Y r=some xs)(h2:ai Y r'=some ys)(hl:(xs++ys).length<=ax):aQ A p (binaryOp .Add v u) (.ref Y.length) (Y++[.list (xs++ys)]):=
 rv.lstE h1 (P:=fun v=>aQ A p (binaryOp .Add v u) (.ref Y.length) (Y++[.list (xs++ys)])) fun a ws n _ la ha ra=>ru.lstE h2 (P:=fun u=>aQ A p (binaryOp .Add (.ref a) u) (.ref Y.length) (Y++[.list (xs++ys)])) fun b zs m _ lb hb rb=>
  ⟨fun g=>PySem.P.add_list ha hb (CX▸Pt.pushL hl (ah.append ra rb) g) (by rw[ra.size,rb.size,<- SP];exact aW hl)⟩
theorem CB{r:Nat}{x:AV}{v u:Value}(rv:V (.ref r) p v)(ru:V (.int 1) p u)(h1:ai Y r=some [x]):aQ A p (binaryOp .Mult v u) (.ref Y.length) (Y++[.list [x]]):=
 rv.lstE h1 (P:=fun v=>aQ A p (binaryOp .Mult v u) (.ref Y.length) (Y++[.list [x]])) fun a ws n _ la ha ra=>ru.int (P:=fun u=>aQ A p (binaryOp .Mult (.ref a) u) (.ref Y.length) (Y++[.list [x]])) fun t=>⟨fun g=>by
  refine wpAny_binaryOp_repeat_ref (T:="list") (U:="int") (by decide) ⟨_,ha,rfl⟩ (fun s'=>typeIs_int s' 1 t) noFill_list_mul F.fills_int_mul F.slot_int_rmul repeat_list F.slot_int_index.lookup
     (call_meets F.slot_int_rmul (typeIs_int p.s 1 t) F.entry_int_rmul (F.args_int_rmul_2 _ _) (int___rmul___int_list 1 t a ws n)
      ⟨ha,rfl,⟨_,ha,rfl⟩,call_meets F.slot_list_mul ⟨_,ha,rfl⟩ F.entry_list_mul (F.args_list_mul_2 _ _)
       (lm_list_mul_any a ws n none #[] 1 t (by decide) (by rw[ra.size];show ¬1*Int.toNat 1 > (2^63-1) / 8;decide) (by rw[ra.size];show ¬Builtin.List.listTooLong (1*Int.toNat 1)=true;decide)) ⟨ha,?_⟩⟩)
  have e2:(List.foldl (fun x1 x2=>x1++x2) #[] (List.replicate (if ws.isEmpty=true then 0 else(1:Int).toNat) ws))=ws.toList.toArray:=by
   rw[ra.isEmpty,show(if([x]:List AV).isEmpty=true then 0 else(1:Int).toNat)=1 from rfl,Array.toArray_toList]
   exact Array.empty_append
  rw[e2];exact Pt.pushL la ra g⟩
theorem uq{a b:AV}{f:Int->Int->Option (AV×St)}{r:AV×St}{v u:Value}{op:Operator}{w:AV}{τ:St}(rv:V a p v)(ru:V b p u)(h:yV a b f=some r)(k:∀ i t j t',f i j=some r->aQ A p (binaryOp op (.int i t) (.int j t')) w τ):aQ A p (binaryOp op v u) w τ:=
 ae h fun i h1 h=>ae h fun j h2 h=>V.int (P:=fun v=>aQ A p (binaryOp op v u) w τ) (bp h1▸rv) fun t=>V.int (P:=fun u=>aQ A p (binaryOp op (.int i t) u) w τ) (bp h2▸ru) fun t'=>k i t j t' h
theorem CF{v u w:AV}{v' u':Value}(rv:V v p v')(ru:V u p u')(h:i0 .add Y v u=some (w,Y')):aQ A p (binaryOp .Add v' u') w Y':=
 bt h (fun h=>uq rv ru h fun i t j t' e=>cW e ⟨fun g=>PySem.P.add_int (g (p.tok _) _ .tok ⟨_,rfl⟩)⟩) fun h=>bt h
   (fun h=>ae h fun x h1 h=>ae h fun y h2 h=>fz h fun q=>CA (aB h1▸rv) (aB h2▸ru) (SL.mp q).1 (SF (SL.mp q).2))
   fun h=>ae h fun r h1 h=>ae h fun r' h2 h=>ae h fun x h3 h=>ae h fun y h4 h=>fz (a:=.ref Y.length) h fun q=>CE (ba h1▸rv) (ba h2▸ru) h3 h4 (SF q)
theorem CD{v u w:AV}{v' u':Value}(rv:V v p v')(ru:V u p u')(h:i0 .mul Y v u=some (w,Y')):aQ A p (binaryOp .Mult v' u') w Y':=
 bt h (fun h=>uq rv ru h fun i t j t' e=>fz e fun q=>⟨fun g=>PySem.P.mul_int (g (p.tok _) _ .tok ⟨_,rfl⟩) (I1 (SF (SL.mp q).1))⟩)
   fun h=>ae h fun r h1 h=>ae h fun j h2 h=>ae h fun x h3 h=>gS h fun y hy h=>fz (a:=.ref Y.length) h fun q=>CB (ba h1▸rv) ((SF q)▸bp h2▸ru) (hy▸h3)
theorem wD{v u w:AV}{v' u':Value}(rv:V v p v')(ru:V u p u'):∀{op:cP},i0 op Y v u=some (w,Y')->aQ A p (binaryOp (C3 op) v' u') w Y'
 | .add,h=>CF rv ru h
 | .sub,h=>uq rv ru h fun i t j t' e=>cW e ⟨fun g=>PySem.P.sub_int (g (p.tok _) _ .tok ⟨_,rfl⟩)⟩
 | .mul,h=>CD rv ru h
 | .mod,h=>uq rv ru h fun i t j t' e=>fz e fun q=>⟨fun g=>mod_int' (Int.ne_of_gt (SF q)) (g (p.tok _) _ .tok ⟨_,by rw[Int.fmod_eq_emod_of_nonneg _ (Int.le_of_lt (SF q))]⟩)⟩
theorem D9{l r:Expr}{op:Operator}{b:cP}{pos:Pos}{x y:X}(hop:zY op=some b)(sx:SX c l x)(sy:SX c r y):SX c (.BinOp l op r pos) (.bin b x y):=.of fun{U Y Y' p} f v h=>
 aE h fun u Y1 h1 h=>aE h fun k Y2 h2 h=>⟨fun g=>wpAny_BinOp ((sx.v f h1).go fun q1 w1 n1 r1=>(sy.v (f.nx n1) h2).go fun q2 w2 n2 r2=>(zX hop▸wD (r1.nx n2) r2 h:aQ f.A q2 (binaryOp op w1 w2) v Y').after (n1.trans n2) g)⟩
theorem DW{e:Expr}{pos:Pos}{x:X}(sx:SX c e x):SX c (.UnaryOp .USub e pos) (.neg x):=.of fun{U Y Y' p} f v h=>aE h fun u Y1 h1 h=>jU h fun v hv=>aH hv fun i hi e=>by
 cases e
 cases bp hi
 exact⟨fun{Er Q} g=>wpAny_UnaryOp ((sx.ev f h1).go fun q w n r=>(r.val rfl).int (P:=fun w=>wpAny M0 f.A (unaryOp .USub w) Q Er q.s) fun t=>PySem.P.neg_int (g (q.tok _) _ (n.trans .tok) ⟨_,rfl⟩))⟩
end
section
variable{c:Cc}{A:UG}{env:Env}{U:En}{Y Y':St}{p:Pt Y}{Er:Value->UE->Prop}{s:UE}
theorem iG.sysm{x:Hp}(R:iG x Y){a:Addr}(ha:a∈x.F):(a==sysModules)=false:=beq_eq_false_iff_ne.mpr fun e=>R.pf.sysm.elim fun _ h=>nomatch(e▸(R.alive a ha).1).symm.trans h
theorem yb{x:Hp}{vs:List AV}{ws:List Value}(h:AV.purs vs=true)(r:bP x vs ws):GR x 6 vs ws:=gm (P:=Ot x) (Ps:=GR x) bo ⟨⟨[],.nil⟩,rfl,SZ _⟩
  (fun r t=>⟨r.rd.elim fun _ g=>t.rd.elim fun _ g'=>⟨_,.cons g g'⟩,SL.mpr ⟨r.lay,t.lay⟩,Nat.max_le.mpr ⟨r.dep,t.dep⟩⟩) h r
theorem Cj{x:Hp}{vs:List AV}{ws:List Value}(h:AV.purs vs=true)(r:bP x vs ws):wJ x vs:=gm (P:=fun _ v _=>Kk x v) (Ps:=fun _ vs _=>wJ x vs) eQ qt mK h r
theorem mR{x:Hp}{vs:List AV}{ws:List Value}{a:AV}{w:Value}(h:AV.purs vs=true)(r:bP x vs ws)(ha:a.pur=true)(ra:ao x a w):((cu vs).any fun y=>PyData.eqv y (gY a))=decide (a∈vs):=
 gm (P:=fun _ v _=>Kk x v) (Ps:=fun _ vs _=>((cu vs).any fun y=>PyData.eqv y (gY a))=decide (a∈vs)) eQ (d6 nofun) (fun{_ v _ vs _} h t=>by
  rw[cu,List.any_cons,t,h ha ra,<- Bool.decide_or];exact decide_eq_decide.mpr ⟨fun q=>q.elim (fun e=>e▸.head _) (.tail _),fun q=>(SN.mp q).imp Eq.symm id⟩) h r
noncomputable def nb(neg b:Bool):Bool:=if neg then !b else b
theorem B8{r:Nat}{es:List (AV×AV)}{k:AV}{key w:Value}(hu:A.units+12<cLine)(rv:V (.ref r) p w)(hr:aM Y r=some es)(hk:k.pur=true)(rk:V k p key):Ev (Y':=Y) (fun q b=>b=(az es k).isSome) A p (contains w key):=
 rv.dctE hr (P:=fun w=>Ev (Y':=Y) (fun q b=>b=(az es k).isSome) A p (contains w key)) fun a ds n hp hl nd ho hd=>⟨fun{E Q} g=>by
  have hT:p.s.TypeIs (.ref a) "dict":=⟨_,ho,rfl⟩;unfold contains;refine S6 (Sv (wpAny_specialOf hT slot_dict_contains.lookup ?_));show wpAny _ _ (if(some (Value.builtin "dict.__contains__")==some Value.none)=true then _ else _) _ E p.s
  rw[Sz (by rw[beq_builtin_none];exact Tg)]
  refine Sv (wpAny_callSpecialUnlessNone?_slot (name:=Str.ofString "__contains__") hT slot_dict_contains (TA slot_dict_contains hT entry_dict_contains ?_ (args_dict_contains _ _)));show wpAny _ _ (dictGet a key >>= _) _ _ p.s;refine Sv ((sQ (A:=A.in1) p (by show A.units+1+6<cLine;exact OE hu) ho hd nd hk rk).go fun q o n e=>e.elim (fun e=>?_) fun e=>e.elim fun v e=>e.elim fun w e=>?_)
  ·rw[e.2];show wpAny _ _ (Builtin.Dict.pendingKey? a key >>= _) _ _ _;exact Sv (wpAny_pendingKey_other (p.r.sysm (Hp.mem_of (x:=p.x) hp)) (Sw ⟨_,rfl,wpAny_truthy_bool (g q _ n (by rw[e.1];rfl))⟩))
  ·rw[e.2.1];show wpAny _ _ (PySem.ret (.bool true)) _ _ _;exact Sw ⟨_,rfl,wpAny_truthy_bool (g q _ n (by rw[e.1];rfl))⟩⟩
theorem B1{r:Nat}{es:List (AV×AV)}{k:AV}{key w:Value}{neg:Bool}(hu:A.units+12<cLine)(rv:V (.ref r) p w)(hr:aM Y r=some es)(hk:k.pur=true)(rk:V k p key):aQ A p (compareOp (if neg then .NotIn else .In) key w) (.bool (nb neg (az es k).isSome)) Y:=by
 cases neg<;>exact(B8 hu rv hr hk rk).bind fun q b n e=>.pure (Sx Value.bool (by rw[e];rfl))
theorem xC{i k:Nat}{b:Bool}(h:xD i k=some b):(!(Builtin.Str.occurrences (au k) (au i) 0 (au k).length 1).isEmpty)=b:=
 have all:∀ i,i<=6->1<=i->(!(Builtin.Str.occurrences (au 25) (au i) 0 (au 25).length 1).isEmpty)=false:=by decide +kernel
 bi h (fun h1 h2=>Ub (eD h1).2.2▸SQ h2▸all i (SV (eD h1).2.1) (SV (eD h1).1)) fun _ h=>nomatch h
theorem Ji{a:Nat}(hu:a+12<cLine){k m:Nat}(h:k<=12):a+min k m<cLine:=Tc (Tp (Sy (Uh _ _) h) _) hu
theorem jV{a:Addr}{vs:List AV}{ws:Array Value}{n:Nat}(h:AV.purs vs=true)(ho:p.s.heap.get? a=some (gu ws n))(r:VL vs p ws.toList):(∃ as,Reads p.s.heap (.ref a) (.list (cu vs)) as)/\(PyData.list (cu vs)).canLay0=true/\(PyData.list (cu vs)).depth<=12:=
 have g:=yb h r.vrels
 ⟨g.rd.imp' _ fun _ g=>.list ho rfl rfl g,g.lay,Sy (T1 g.dep) (by decide)⟩
theorem Bg{a:Addr}{vs:List AV}{ws:Array Value}{n:Nat}(h:AV.purs vs=true)(ho:p.s.heap.get? a=some (bV ws n))(r:VL vs p ws.toList):(∃ as,Reads p.s.heap (.ref a) (.tuple (cu vs)) as)/\(PyData.tuple (cu vs)).canLay0=true/\(PyData.tuple (cu vs)).depth<=12:=
 have g:=yb h r.vrels
 ⟨g.rd.imp' _ fun _ g=>.tuple ho rfl rfl g,g.lay,Sy (T1 g.dep) (by decide)⟩
theorem B0{r:Nat}{vs:List AV}{k:AV}{key w:Value}{neg:Bool}(hu:A.units+12<cLine)(rv:V (.ref r) p w)(hr:ai Y r=some vs)(h:(k.pur&&AV.purs vs)=true)(rk:V k p key):aQ A p (compareOp (if neg then .NotIn else .In) key w) (.bool (nb neg (decide (k∈vs)))) Y:=
 rv.lstE hr (P:=fun w=>aQ A p (compareOp (if neg then .NotIn else .In) key w) (.bool (nb neg (decide (k∈vs)))) Y) fun a ws n _ _ ho r=>
  have h:=SL.mp h;have l:=jV h.2 ho r;have x:=bo h.1 rk
  l.1.elim fun _ rl=>x.rd.elim fun _ rx=>by
   rw[<- mR h.2 r.vrels h.1 rk]
   cases neg
   ·exact⟨fun g=>SeqAt.in_list_reads rl rx l.2.1 x.lay (oQ x.dep hu) (g p _ (.refl p) rfl)⟩
   ·exact⟨fun g=>SeqAt.notIn_list_reads rl rx l.2.1 x.lay (oQ x.dep hu) (g p _ (.refl p) rfl)⟩
theorem Fu{vs:List AV}{k:AV}{key w:Value}{neg:Bool}(hu:A.units+12<cLine)(rv:V (.tup vs) p w)(h:(k.pur&&AV.purs vs)=true)(rk:V k p key):aQ A p (compareOp (if neg then .NotIn else .In) key w) (.bool (nb neg (decide (k∈vs)))) Y:=
 rv.tupE (P:=fun w=>aQ A p (compareOp (if neg then .NotIn else .In) key w) (.bool (nb neg (decide (k∈vs)))) Y) fun a ws n _ i r=>
  have h:=SL.mp h;have l:=Bg h.2 i.h r;have x:=bo h.1 rk
  l.1.elim fun _ rl=>x.rd.elim fun _ rx=>by
   rw[<- mR h.2 r.vrels h.1 rk]
   cases neg
   ·exact⟨fun g=>SeqAt.in_tuple_reads rl rx l.2.1 x.lay (oQ x.dep hu) (g p _ (.refl p) rfl)⟩
   ·exact⟨fun g=>SeqAt.notIn_tuple_reads rl rx l.2.1 x.lay (oQ x.dep hu) (g p _ (.refl p) rfl)⟩
theorem mD{a b:AV}{v u:Value}{t:Bool}(neg:Bool)(hu:A.units+20<cLine)(ra:V a p v)(rb:V b p u)(h:NS Y a b=some t):aQ A p (compareOp (if neg then .NotIn else .In) v u) (.bool (nb neg t)) Y:=
 have hu:A.units+12<cLine:=Tc (Tp (by decide) _) hu
 bt h (fun h=>lu rb h fun r rb h=>bt h (fun h=>ae h fun es h1 h=>cN h fun q e=>e▸B1 hu rb h1 q ra) fun h=>ae h fun vs h1 h=>cN h fun q e=>e▸B0 hu rb h1 q ra) fun h=>
  bt h (fun h=>ae h fun vs h1 h=>cN h fun q e=>e▸Fu hu (aB h1▸rb) q ra) fun h=>ae h fun k h1 h=>ae h fun i h2 h=>by
   refine V.symE (P:=fun v=>aQ A p (compareOp (if neg then .NotIn else .In) v u) (.bool (nb neg t)) Y) (cw h2▸ra) fun t1 _=>V.symE (P:=fun u=>aQ A p (compareOp (if neg then .NotIn else .In) _ u) (.bool (nb neg t)) Y) (cw h1▸rb) fun t2 _=>?_
   rw[<- xC h]
   cases neg
   ·exact⟨fun g=>PySem.P.in_str (g p _ (.refl p) rfl)⟩
   ·exact⟨fun g=>PySem.P.notIn_str (g p _ (.refl p) rfl)⟩
theorem Ck{r r':Nat}{x y:List AV}{v u:Value}{neg:Bool}(hu:A.units+12<cLine)(ra:V (.ref r) p v)(rb:V (.ref r') p u)(h1:ai Y r=some x)(h2:ai Y r'=some y)(h:(AV.purs x&&AV.purs y)=true) :
  aQ A p (compareOp (if neg then .NotEq else .Eq) v u) (.bool (nb neg (decide (x=y)))) Y:=
 ra.lstE h1 (P:=fun v=>aQ A p (compareOp (if neg then .NotEq else .Eq) v u) (.bool (nb neg (decide (x=y)))) Y) fun a ws n _ _ ho ra=>rb.lstE h2 (P:=fun u=>aQ A p (compareOp (if neg then .NotEq else .Eq) (.ref a) u) (.bool (nb neg (decide (x=y)))) Y) fun b zs m _ _ ho' rb=>
  have h:=SL.mp h;have l:=jV h.1 ho ra;have l':=jV h.2 ho' rb
  l.1.elim fun _ rl=>l'.1.elim fun _ rl'=>by
   rw[<- Cj h.1 ra.vrels h.2 rb.vrels]
   cases neg
   ·exact⟨fun g=>SeqAt.compareEq_reads rl rl' l.2.1 l'.2.1 (Ji hu l.2.2) (g p _ (.refl p) rfl)⟩
   ·exact⟨fun g=>SeqAt.compareNe_reads rl rl' l.2.1 l'.2.1 (Ji hu l.2.2) (g p _ (.refl p) rfl)⟩
theorem mJ{a b:AV}{v u:Value}{t:Bool}(neg:Bool)(hu:A.units+20<cLine)(ra:V a p v)(rb:V b p u)(h:N6 Y a b=some t):aQ A p (compareOp (if neg then .NotEq else .Eq) v u) (.bool (nb neg t)) Y:=
 have hu:A.units+12<cLine:=Tc (Tp (by decide) _) hu
 bt h (fun h=>ae h fun x h1 h=>aH h fun y h2 e=>by
   cases fk h1
   cases fk h2
   cases(show v=.bool x from ra)
   cases(show u=.bool y from rb)
   cases e
   cases neg
   ·exact⟨fun g=>SeqAt.RcAt.bool_bool _ _ _ _ _ _ (g p _ (.refl p) rfl)⟩
   ·exact⟨fun g=>SeqAt.RcNeAt.bool_bool _ _ _ _ _ _ (g p _ (.refl p) rfl)⟩) fun h=>
  bt h (fun h=>cN h fun q e=>by
   have q:=SL.mp q;have hu:A.units+6<cLine:=Tc (Tp (by decide) _) hu
   cases e
   cases neg
   ·exact⟨fun g=>FM hu q.1 q.2 ra rb (g p _ (.refl p) rfl)⟩
   ·exact⟨fun g=>ES hu q.1 q.2 ra rb (g p _ (.refl p) rfl)⟩) fun h=>ae h fun r h1 h=>ae h fun r' h2 h=>ae h fun x h3 h=>ae h fun y h4 h=>cN h fun q e=>e▸Ck hu (ba h1▸ra) (ba h2▸rb) h3 h4 q
noncomputable def C2:aR->CmpOp
 | .eq=>.Eq | .ne=>.NotEq | .lt=>.Lt | .le=>.LtE | .gt=>.Gt | .ge=>.GtE | .isIn=>.In | .notIn=>.NotIn | .is=>.Is
theorem zK{o:CmpOp}{b:aR}(h:ec o=some b):o=C2 b:=by
 cases o<;>first | (cases h;rfl) | exact nomatch(show none=some b from h)
theorem eC{a b:AV}{v u:Value}{t:Bool}{f:Int->Int->Bool}{op:CmpOp}(ra:V a p v)(rb:V b p u)(h:zL a b f=some t)(k:∀{i j:Int} {t t':Tok} {E Q:Value->UE->Prop},Q (.bool (f i j)) p.s->wpAny M0 A (compareOp op (.int i t) (.int j t')) Q E p.s):aQ A p (compareOp op v u) (.bool t) Y:=
 ae h fun i h1 h=>aH h fun j h2 e=>V.int (P:=fun v=>aQ A p (compareOp op v u) (.bool t) Y) (bp h1▸ra) fun t1=>V.int (P:=fun u=>aQ A p (compareOp op (.int i t1) u) (.bool t) Y) (bp h2▸rb) fun t2=>⟨fun g=>k (e▸g p _ (.refl p) rfl)⟩
theorem wA{a b:AV}{v u:Value}{t:Bool}(hu:A.units+20<cLine)(ra:V a p v)(rb:V b p u):∀{op:aR},bh op Y a b=some t->aQ A p (compareOp (C2 op) v u) (.bool t) Y
 | .eq,h=>mJ false hu ra rb h
 | .ne,h=>aH h fun t' h e=>e▸mJ true hu ra rb h
 | .lt,h=>eC ra rb h PySem.P.lt_int
 | .le,h=>eC ra rb h PySem.P.le_int
 | .gt,h=>eC ra rb h PySem.P.gt_int
 | .ge,h=>eC ra rb h PySem.P.ge_int
 | .isIn,h=>mD false hu ra rb h
 | .notIn,h=>aH h fun t' h e=>e▸mD true hu ra rb h
 | .is,h=>bi h (fun hb h=>by
   cases fS hb
   cases(show u=.none from rb)
   exact bt h (fun h=>cN h fun q e=>by
     cases fS q
     cases(show v=.none from ra)
     cases e
     exact⟨fun g=>wpAny_is_plain rfl (g p _ (.refl p) rfl)⟩) fun h=>cN h fun q e=>by
     obtain⟨vs,hv⟩:=Option.isSome_iff_exists.mp q
     cases e
     exact V.tupE (P:=fun v=>aQ A p (compareOp .Is v .none) (.bool false) Y) (aB hv▸ra) fun a ws n _ _ _=>⟨fun g=>wpAny_is_plain rfl (g p _ (.refl p) rfl)⟩) fun _ h=>nomatch h
end
section
variable{c:Cc}{A:UG}{env:Env}{U:En}{Y Y':St}{p:Pt Y}{Er:Value->UE->Prop}{s:UE}
abbrev Aq(A:UG)(p:Pt Y)(m:Sem Bool)(b:Bool)(Y':St):Prop:=Ev (Y':=Y') (fun _ t=>t=b) A p m
structure ST(c:Cc)(e:Expr)(x:X):Prop where
 ev:∀{U:En} {Y Y':St} {p:Pt Y} (f:Fm c U p) {b:Bool},jK (ar c.C x U Y)=some (b,Y')->Aq f.A p (isTrue e f.env (eval e f.env)) b Y'
theorem rf{r:Rs}{b:Bool}{τ:St}(h:jK r=some (b,τ)):r=some (.bool b,τ):=aE h fun v Y1 h1 h=>jU (P:=fun b τ=>r=some (.bool b,τ)) h fun b hb=>fk hb▸h1
theorem SX.t{e:Expr}{x:X}(sx:SX c e x)(f:Fm c U p){b:Bool}(h:jK (ar c.C x U Y)=some (b,Y')):aQ f.A p (eval e f.env) (.bool b) Y':=(sx.ev f (rf h)).mono fun _ _ _ r=>r.val rfl
theorem V.boolE{b:Bool}{w:Value}(r:V (.bool b) p w){P:Value->Prop}(k:P (.bool b)):P w:=(show w=.bool b from r)▸k
theorem pd{e:Expr}{x:X}(sx:SX c e x)(he:∀ env whole,isTrue e env whole=(do let v <- whole;standAt e.pos;holding [v] (truthy v))):ST c e x:=
 ⟨fun f _ h=>⟨fun{Er Q} g=>wpAny_isTrue_value ((sx.t f h).go fun q w n r=>r.boolE (P:=fun w=>wpAny M0 f.A (truthy w) Q Er q.s) (wpAny_truthy_bool (g q _ n rfl))) (he _ _)⟩⟩
theorem eW{n:Nat}(R:cg A n):A.units+20<cLine:=Tc (Tp (by decide) _) R.six
theorem iu{op:CmpOp}{b:aR}{a u:AV}{v w:Value}{t:Bool}{n:Nat}(hop:ec op=some b)(R:cg A n)(ra:V a p v)(ru:V u p w)(h:bh b Y a u=some t):aQ A p (compareOp op v w) (.bool t) Y:=zK hop▸wA (eW R) ra ru h
theorem D7{l r:Expr}{op:CmpOp}{b:aR}{pos:Pos}{x y:X}(hop:ec op=some b)(hm:behindInMarks op r=false)(sx:SX c l x)(sy:SX c r y):SX c (.Compare l [op] [r] pos) (.cmp b x y):=.of fun{U Y Y' p} f v h=>
 aE h fun u Y1 h1 h=>aE h fun k Y2 h2 h=>jU h fun v hv=>aH hv fun t ht e=>e▸⟨fun g=>wpAny_Compare1 ((sx.v f h1).go fun q1 w1 n1 r1=>(sy.v (f.nx n1) h2).go fun q2 w2 n2 r2=>(iu hop f.R (r1.nx n2) r2 ht).after (n1.trans n2) g) hm⟩
theorem br{b:Bool}{w:Value}{Q:Bool->UE->Prop}(r:V (.bool b) p w)(h:Q b p.s):wpAny M0 A (truthy w) Q Er p.s:=r.boolE (P:=fun w=>wpAny M0 A (truthy w) Q Er p.s) (wpAny_truthy_bool h)
theorem Eg{l r:Expr}{op:CmpOp}{b:aR}{pos:Pos}{x y:X}(hop:ec op=some b)(hm:behindInMarks op r=false)(sx:SX c l x)(sy:SX c r y):ST c (.Compare l [op] [r] pos) (.cmp b x y):=⟨fun{U Y Y' p} f t h=>
 aE (rf h) fun u Y1 h1 h=>aE h fun k Y2 h2 h=>jU (P:=fun v Y'=>v=.bool t->Aq f.A p (isTrue (.Compare l [op] [r] pos) f.env (eval (.Compare l [op] [r] pos) f.env)) t Y') h (fun v hv=>aH hv fun t' ht e e'=>
  AV.bool.inj (e.trans e')▸⟨fun g=>wpAny_isTrue_Compare1 ((sx.v f h1).go fun q1 w1 n1 r1=>(sy.v (f.nx n1) h2).go fun q2 w2 n2 r2=>(iu hop f.R (r1.nx n2) r2 ht).go fun q3 w3 n3 r3=>br r3 (g q3 _ (n1.trans (n2.trans n3)) rfl)) hm⟩) rfl⟩
section
variable{l m r:Expr}{op op':CmpOp}{b b':aR}{pos:Pos}{x y z:X}{f:Fm c U p}{u k:AV}{Y1 Y2:St}{t:Bool}
theorem yA(hm:behindInMarks op' r=false):lastMarks [op,op'] [m,r]=false:=by simpa[lastMarks] using hm
theorem qB{Q:Value->UE->Prop}(hop:ec op=some b)(hm:behindInMarks op' r=false)(sx:SX c l x)(sy:SX c m y)(h1:nv (ar c.C x U Y)=some (u,Y1))(h2:nv (ar c.C y U Y1)=some (k,Y2))(ht:bh b Y2 u k=some t)
  (g:∀(q:Pt Y2) w w',Nx [] p q->V k q w->V (.bool t) q w'->if t=true then wpAny M0 f.A (compareChain pos w [op'] [eval r f.env]) Q Er q.s else Q w' q.s):wpAny M0 f.A (eval (.Compare l [op,op'] [m,r] pos) f.env) Q Er p.s:=
 Compare_chain ((sx.v f h1).go fun q1 w1 n1 r1=>chain_link ((sy.v (f.nx n1) h2).go fun q2 w2 n2 r2=>(iu hop f.R (r1.nx n2) r2 ht).go fun q3 w3 n3 r3=>br r3 (g q3 w2 w3 (n1.trans (n2.trans n3)) (r2.nx n3) r3))) (yA hm)
theorem tK{Q:Bool->UE->Prop}(hop:ec op=some b)(hm:behindInMarks op' r=false)(sx:SX c l x)(sy:SX c m y)(h1:nv (ar c.C x U Y)=some (u,Y1))(h2:nv (ar c.C y U Y1)=some (k,Y2))(ht:bh b Y2 u k=some t)
  (g:∀(q:Pt Y2) w,Nx [] p q->V k q w->if t=true then wpAny M0 f.A (testChain pos w [op'] [eval r f.env]) Q Er q.s else Q false q.s):wpAny M0 f.A (isTrue (.Compare l [op,op'] [m,r] pos) f.env (eval (.Compare l [op,op'] [m,r] pos) f.env)) Q Er p.s:=
 isTrue_chain ((sx.v f h1).go fun q1 w1 n1 r1=>test_link ((sy.v (f.nx n1) h2).go fun q2 w2 n2 r2=>(iu hop f.R (r1.nx n2) r2 ht).go fun q3 w3 n3 r3=>br r3 (g q3 w2 (n1.trans (n2.trans n3)) (r2.nx n3)))) (yA hm)
end
theorem AJ{l m r:Expr}{op op':CmpOp}{b b':aR}{pos:Pos}{x y z:X}(hop:ec op=some b)(hop':ec op'=some b')(hm:behindInMarks op' r=false)(sx:SX c l x)(sy:SX c m y)(sz:SX c r z) :
  SX c (.Compare l [op,op'] [m,r] pos) (.cmp2 b b' x y z):=.of fun{U Y Y' p} f v h=>aE h fun u Y1 h1 h=>aE h fun k Y2 h2 h=>ae h fun t ht h=>match t,ht,h with
 | false,ht,h=>cW h ⟨fun g=>qB hop hm sx sy h1 h2 ht fun q w w' n _ r'=>g q w' n r'⟩
 | true,ht,h=>aE h fun o Y3 h4 h=>jU h fun v hv=>aH hv fun t2 ht2 e=>e▸⟨fun g=>qB hop hm sx sy h1 h2 ht fun q w w' n r _=>chain_last ((sz.v (f.nx n) h4).go fun q4 w4 n4 r4=>(iu hop' f.R (r.nx n4) r4 ht2).after (n.trans n4) g)⟩
theorem AU{l m r:Expr}{op op':CmpOp}{b b':aR}{pos:Pos}{x y z:X}(hop:ec op=some b)(hop':ec op'=some b')(hm:behindInMarks op' r=false)(sx:SX c l x)(sy:SX c m y)(sz:SX c r z) :
  ST c (.Compare l [op,op'] [m,r] pos) (.cmp2 b b' x y z):=⟨fun{U Y Y' p} f t0 h=>aE (rf h) fun u Y1 h1 h=>aE h fun k Y2 h2 h=>ae h fun t ht h=>match t,ht,h with
 | false,ht,h=>by cases h;exact⟨fun g=>tK hop hm sx sy h1 h2 ht fun q w n _=>g q _ n rfl⟩
 | true,ht,h=>aE h fun o Y3 h4 h=>jU (P:=fun v Y'=>v=.bool t0->Aq f.A p _ t0 Y') h (fun v hv=>aH hv fun t2 ht2 e e'=>AV.bool.inj (e.trans e')▸⟨fun g=>tK hop hm sx sy h1 h2 ht fun q w n r=>test_last ((sz.v (f.nx n) h4).go fun q4 w4 n4 r4=>(iu hop' f.R (r.nx n4) r4 ht2).go fun q5 w5 n5 r5=>br r5 (g q5 _ (n.trans (n4.trans n5)) rfl))⟩) rfl⟩
theorem Ea{a b:Expr}{x y:X}{pos:Pos}(sx:SX c a x)(sy:SX c b y):SX c (.BoolOp .And [a,b] pos) (.and x y):=.of fun{U Y Y' p} f v h=>aE h fun t Y1 h1 h=>match t,h1,h with
 | false,h1,h=>cW h ⟨fun g=>wpAny_And2 ((sx.t f h1).go fun q w n r=>br r (g q w n r))⟩
 | true,h1,h=>aE h fun t2 Y2 h2 h=>cW h ⟨fun g=>wpAny_And2 ((sx.t f h1).go fun q w n r=>br r ((sy.t (f.nx n) h2).after n g))⟩
theorem HN{a b:Expr}{x y:X}{pos:Pos}(sx:SX c a x)(sy:SX c b y):SX c (.BoolOp .Or [a,b] pos) (.or x y):=.of fun{U Y Y' p} f v h=>aE h fun t Y1 h1 h=>match t,h1,h with
 | true,h1,h=>cW h ⟨fun g=>wpAny_Or2 ((sx.t f h1).go fun q w n r=>br r (g q w n r))⟩
 | false,h1,h=>aE h fun t2 Y2 h2 h=>cW h ⟨fun g=>wpAny_Or2 ((sx.t f h1).go fun q w n r=>br r ((sy.t (f.nx n) h2).after n g))⟩
theorem Ic{t b:Bool}{τ υ:St}{P:Bool->St->Prop}(h:some (AV.bool t,τ)=some (AV.bool b,υ))(k:P t τ):P b υ:=by cases h;exact k
theorem Eh{a b:Expr}{x y:X}{pos:Pos}(sx:ST c a x)(sy:ST c b y):ST c (.BoolOp .And [a,b] pos) (.and x y):=⟨fun{U Y Y' p} f v h=>aE (rf h) fun t Y1 h1 h=>match t,h1,h with
 | false,h1,h=>Ic (P:=Aq f.A p _) h ⟨fun g=>wpAny_isTrue_BoolOp (wpAny_allTrue_And_cons ((sx.ev f h1).go fun q w n r=>by cases r;exact g q _ n rfl))⟩
 | true,h1,h=>aE h fun t2 Y2 h2 h=>Ic (P:=Aq f.A p _) h ⟨fun g=>wpAny_isTrue_BoolOp (wpAny_allTrue_And_cons ((sx.ev f h1).go fun q w n r=>by cases r;exact wpAny_allTrue_And_cons ((sy.ev (f.nx n) h2).go fun q2 w2 n2 r2=>match w2,r2 with
  | true,r2=>wpAny_allTrue_And_nil (g q2 _ (n.trans n2) r2)
  | false,r2=>g q2 _ (n.trans n2) r2)))⟩⟩
theorem HP{a b:Expr}{x y:X}{pos:Pos}(sx:ST c a x)(sy:ST c b y):ST c (.BoolOp .Or [a,b] pos) (.or x y):=⟨fun{U Y Y' p} f v h=>aE (rf h) fun t Y1 h1 h=>match t,h1,h with
 | true,h1,h=>Ic (P:=Aq f.A p _) h ⟨fun g=>wpAny_isTrue_BoolOp (wpAny_allTrue_Or_cons ((sx.ev f h1).go fun q w n r=>by cases r;exact g q _ n rfl))⟩
 | false,h1,h=>aE h fun t2 Y2 h2 h=>Ic (P:=Aq f.A p _) h ⟨fun g=>wpAny_isTrue_BoolOp (wpAny_allTrue_Or_cons ((sx.ev f h1).go fun q w n r=>by cases r;exact wpAny_allTrue_Or_cons ((sy.ev (f.nx n) h2).go fun q2 w2 n2 r2=>match w2,r2 with
  | false,r2=>wpAny_allTrue_Or_nil (g q2 _ (n.trans n2) r2)
  | true,r2=>g q2 _ (n.trans n2) r2)))⟩⟩
theorem DU{a:Expr}{x:X}{pos:Pos}(sx:SX c a x):SX c (.UnaryOp .Not a pos) (.not x):=.of fun{U Y Y' p} f v h=>aE h fun t Y1 h1 h=>cW h ⟨fun g=>wpAny_UnaryOp ((sx.t f h1).go fun q w n r=>not_value (br r (g q _ n rfl)))⟩
theorem Ee{a:Expr}{x:X}{pos:Pos}(sx:ST c a x):ST c (.UnaryOp .Not a pos) (.not x):=⟨fun{U Y Y' p} f v h=>aE (rf h) fun t Y1 h1 h=>Ic (P:=Aq f.A p _) h ⟨fun g=>wpAny_isTrue_Not ((sx.ev f h1).go fun q w n r=>g q _ n (Sx (!·) r))⟩⟩
theorem DY{d a b:Expr}{z x y:X}{pos:Pos}(sz:ST c d z)(sx:SX c a x)(sy:SX c b y):SX c (.IfExp d a b pos) (.ite z x y):=.of fun{U Y Y' p} f v h=>aE h fun t Y1 h1 h=>match t,h1,h with
 | true,h1,h=>⟨fun g=>wpAny_IfExp ((sz.ev f h1).go fun q w n r=>by cases r;exact(sx.v (f.nx n) h).after n g)⟩
 | false,h1,h=>⟨fun g=>wpAny_IfExp ((sz.ev f h1).go fun q w n r=>by cases r;exact(sy.v (f.nx n) h).after n g)⟩
theorem xt{r:Rs}{b:Bool}{τ:St}(h:nv r=some (.bool b,τ)):jK r=some (b,τ):=(Kw h).1▸rfl
theorem Ef{d a b:Expr}{z x y:X}{pos:Pos}(sz:ST c d z)(sx:ST c a x)(sy:ST c b y):ST c (.IfExp d a b pos) (.ite z x y):=⟨fun{U Y Y' p} f v h=>aE (rf h) fun t Y1 h1 h=>match t,h1,h with
 | true,h1,h=>⟨fun g=>by rw[arm_isTrue_IfExp];exact Sv ((sz.ev f h1).go fun q w n r=>by cases r;exact(sx.ev (f.nx n) (xt h)).after n g)⟩
 | false,h1,h=>⟨fun g=>by rw[arm_isTrue_IfExp];exact Sv ((sz.ev f h1).go fun q w n r=>by cases r;exact(sy.ev (f.nx n) (xt h)).after n g)⟩⟩
end
section
variable{c:Cc}{A:UG}{env:Env}{U:En}{Y Y':St}{p:Pt Y}{Er:Value->UE->Prop}{s:UE}
abbrev oJ(c:Cc)(es:List Expr)(xs:List X):Prop:=ah (SX c) es xs
theorem oJ.sxs{es:List Expr}{xs:List X}(h:oJ c es xs):GQ c es xs:=ah.ind (P:=GQ c) AF (fun h _ t=>xF h t) h
noncomputable def li(env:Env)(i:Nat):Sem Value:=eval (.Constant (.str (au i)) 0 default) env
theorem vZ{o:Option Expr}{i:Nat}{s:Str}(h:(uE o).bind Ed=some s)(hi:bd aS s=some i):evalOpt o env=some (li env i):=ae h fun c h1 h2=>(kx h1).elim fun _ h=>h.elim fun _ h=>by
 rw[h,vc h2,(dE hi).2];rfl
theorem vX{keys:List (Option Expr)}:∀{ks:List Nat},jw keys=some ks->evalEachOpt keys env=ks.map (fun i=>some (li env i))/\∀ i,i∈ks->i<aS.length:=by
 induction keys with
 | nil=>exact fun h=>SQ h▸⟨rfl,fun _ h=>SH h T6⟩
 | cons o r ih=>
  refine fun h=>ae h fun s h0 h=>ae h fun i h1 h=>aH h fun ks h2 e=>e▸⟨?_,fun j hj=>(SN.mp hj).elim (fun e=>e▸(dE h1).1) ((ih h2).2 j)⟩;show evalOpt o env::evalEachOpt r env=_;rw[vZ h0 h1,(ih h2).1];rfl
theorem wU{α β:Type}{as:List α}:∀{bs:List β},(as.map some).zip bs=(as.zip bs).map fun p=>(some p.1,p.2):=by
 induction as with
 | nil=>exact rfl
 | cons a as ih=>
  refine @fun bs=>?_
  cases bs with
  | nil=>rfl
  | cons b bs=>exact Sx ((some a,b)::·) ih
noncomputable def qZ(env:Env)(pos:Pos)(es:List Expr):List (Sem Value):=(evalEach es env).map fun v=>do let x <- v;standAt pos;pure x
structure PE(x:Hp)(e:AV×AV)(w:Value×Value):Prop where
 pur:e.1.pur=true
 key:ao x e.1 w.1
 val:ao x e.2 w.2
def PL(kvs:List (AV×AV)){Y:St}(p:Pt Y)(ws:List (Value×Value)):Prop:=ah (PE p.x) kvs ws
theorem PL.wk{Y:St}{p:Pt Y}{q:Pt Y'}{kvs:List (AV×AV)}{ws:List (Value×Value)}(h:PL kvs p ws)(n:Wk p.x q.x):PL kvs q ws:=ah.mono (S:=PE q.x) (fun r=>⟨r.pur,r.key.wk n,r.val.wk n⟩) h
def kX(c:Cc)(U:En)(pos:Pos)(es:List Expr)(xs:List X):Prop:=∀{ks:List Nat} {Y Y':St} {p:Pt Y} (f:Fm c U p) {vs:List AV},ks.length=es.length->(∀ i,i∈ks->i<aS.length)->cT c.C xs U Y=some (vs,Y')->
  Ev (Y':=Y') (PL ((ks.map .sym).zip vs)) f.A p (evalPairs ((ks.map (li f.env)).zip (qZ f.env pos es)))
theorem vy{pos:Pos}:kX c U pos [] []:=fun{ks Y Y' p} f vs hl _ hd=>by
 cases List.length_eq_zero_iff.mp hl
 exact cW (P:=fun vs τ=>Ev (Y':=τ) (PL (([]:List AV).zip vs)) f.A p (evalPairs [])) hd ⟨fun g=>evalPairs_nil (g p _ (.refl p) .nil)⟩
theorem rR{pos:Pos}{e:Expr}{x:X}{es:List Expr}{xs:List X}(sx:SX c e x)(ih:kX c U pos es xs):kX c U pos (e::es) (x::xs):=fun{ks Y Y' p} f vs hl hk hd=>by
 cases ks with
 | nil=>cases hl
 | cons k ks=>
  exact aE hd fun v Y1 h1 hd=>aE hd fun us Y2 h2 hd=>cW (P:=fun vs τ=>Ev (Y':=τ) (PL ((((k::ks).map .sym):List AV).zip vs)) f.A p _) hd
     ⟨fun g=>evalPairs_cons (Calls.Constant_str (Sv ((sx.v (f.nx (.tok (t:=p.s.toks+1))) h1).go fun q w n r=>Sv (wpAny_standAt (Sw ((ih ((f.nx .tok).nx n) (Nat.succ.inj hl) (fun i hi=>hk i (.tail _ hi)) h2).go fun q2 ws n2 r2=>
      g q2 _ (Nx.trans (.tok (t:=p.s.toks+1)) (n.trans n2)) (.cons ⟨rfl,⟨hk k (.head _),_,rfl⟩,(r.nx n2)⟩ r2)))))))⟩
theorem pK{pos:Pos}{es:List Expr}{xs:List X}(h:oJ c es xs):kX c U pos es xs:=ah.ind (P:=kX c U pos) vy (fun h _ t=>rR h t) h
theorem Eu{α:Type}{l:List α}:∀{i:Nat} {a:α},l[i]?=some a->l.set i a=l:=by
 induction l with
 | nil=>exact fun h=>bY h
 | cons x l ih=>
  refine @fun i a h=>?_
  cases i with
  | zero=>exact SQ h▸rfl
  | succ i=>exact Sx (x::·) (ih h)
theorem A5{α:Type}{l:List α}{i:Nat}{a b:α}(h:l[i]?=some b):(l.set i a)[i]?=some a:=TQ (SJ.mp h).1
theorem ir{r:Nat}{es:List (AV×AV)}(h:Y[r]?=some (.dict es)):aM Y r=some es:=(Sx (·.bind AO.dct) h:_)
theorem o9{a:Addr}{r:Nat}{kvs:List (AV×AV)}:∀{Y:St} {acc:List (AV×AV)} {p:Pt Y} {ws:List (Value×Value)},A.units+6<cLine->Y[r]?=some (.dict acc)->p.ι[r]?=some (a,a)->PL kvs p ws->((acc++kvs).map (·.1)).Nodup->(acc++kvs).length<=ax->
  Ev (Y':=Y.set r (.dict (acc++kvs))) (fun _ _=>True) A p (forIn ws PUnit.unit fun(x:Value×Value) (_:PUnit)=>(do dictSet a x.1 x.2;pure (ForInStep.yield PUnit.unit):Sem (ForInStep PUnit))):=by
 induction kvs with
 | nil=>
  refine @fun Y acc p _ hu hr hp h nd hl=>h.nilE (P:=fun ws=>Ev (Y':=Y.set r (.dict (acc++[]))) (fun _ _=>True) A p (forIn ws PUnit.unit _)) ?_;rw[Ti,Eu hr,List.forIn_nil];exact .pure trivial
 | cons kv kvs ih=>
  refine @fun Y acc p _ hu hr hp h=>?_;have h0:=@ih (Y.set r (.dict (aT acc kv.1 kv.2))) (aT acc kv.1 kv.2);rw[List.set_set] at h0;refine h.consE (P:=fun ws=>((acc++kv::kvs).map (·.1)).Nodup->(acc++kv::kvs).length<=ax->Ev (Y':=Y.set r (.dict (acc++kv::kvs))) (fun _ _=>True) A p (forIn ws PUnit.unit _)) fun w ws e h nd hl=>?_;have hk:kv.1∉acc.map (·.1):=fun hm=>(Tj.mp (Ta▸nd)).2.2 _ hm _ (.head _) rfl;have ap:acc++kv::kvs=aT acc kv.1 kv.2++kvs:=by rw[cM hk,SR];rfl
  have hz:acc.length+1<=ax:=Sy (by rw[SP];exact Tp (T1 (SZ _)) _) hl
  rw[Uc,ap];refine Ev.bind (Y':=Y.set r (.dict (aT acc kv.1 kv.2))) (k:=fun q b=>q.ι[r]?=some (a,a)/\PL kvs q ws/\b=ForInStep.yield PUnit.unit) ⟨fun g=>Sv (p.dct (ir hr) fun a' ds n hp' hz' nd' ho hd=>?_)⟩ fun q b n g=>by rw[g.2.2];exact h0 hu (A5 hr) g.1 g.2.1 (ap▸nd) (ap▸hl)
  have ha:a=a':=Sx Prod.fst (SQ (hp.symm.trans hp'));exact ha▸(sP p hp hu (ha▸ho) hd nd' e.pur e.key e.val hz' (by rw[cM hk,SP];exact hz)).go fun q _ n _=>Sw (g q _ n ⟨n.wk.get hp,PL.wk h n.wk,rfl⟩)
theorem lV:∀{ks:List Nat} {vs:List AV},ks.length=vs.length->(((ks.map AV.sym).zip vs).map (·.1))=ks.map .sym
 | [],_,_=>rfl
 | _::_,[],h=>nomatch h
 | k::_,_::_,h=>Sx (AV.sym k::·) (lV (Nat.succ.inj h))
theorem sk{ks:List Nat}(h:ks.Nodup):(ks.map AV.sym).Nodup:=List.pairwise_map.mpr (List.Pairwise.imp (fun hab e=>hab (AV.sym.inj e)) h)
theorem gE:∀{es:List Expr},(evalEach es env).length=es.length
 | []=>rfl
 | _::es=>Sx (·+1) (gE (es:=es))
theorem kh{α:Type}{l:List α}{a b:α}:(l++[a]).set l.length b=l++[b]:=by
 induction l with
 | nil=>rfl
 | cons x l ih=>exact Sx (x::·) ih
theorem xd{pos:Pos}{es:List Expr}:(qZ env pos es).length=es.length:=SU _ |>.trans gE
theorem D6{keys:List (Option Expr)}{es:List Expr}{ks:List Nat}{xs:List X}{pos:Pos}(hk:jw keys=some ks)(hl:ks.length=es.length)(sxl:oJ c es xs):SX c (.Dict keys es pos) (.dct ks xs):=.of fun{U Y Y' p} f v h=>aE h fun vs Y1 h1 h=>fz (a:=.ref Y1.length) h fun hq=>by
 have hq:=eD hq;have hz:=SF hq.2.2;have lz:=SF hq.2.1;have kz:=(vX (env:=f.env) hk)
 cases keys with
 | nil=>
  cases hk
  cases List.length_eq_zero_iff.mp hl.symm
  exact sxl.nilE (P:=fun xs=>cT c.C xs U Y=some (vs,Y1)->aQ f.A p (eval (.Dict [] [] pos) f.env) (.ref Y1.length) (Y1++[.dict ((([]:List Nat).map .sym).zip vs)])) (fun h1=>cW (P:=fun vs Y1=>aQ f.A p (eval (.Dict [] [] pos) f.env) (.ref Y1.length) (Y1++[.dict ((([]:List Nat).map .sym).zip vs)])) h1
   ⟨fun g=>wpAny_Dict_empty (p.newD (es:=[]) (ds:=#[]) (TN (SE _)) (fun _ _ e=>SW _ e) (Tb _ rfl) (SZ _) T7 .nil fun q n v=>g q _ n v)⟩) h1
 | cons o rr=>
  have pl:((ks.map (li f.env)).zip (qZ f.env pos es)).length=ks.length:=by
   rw[List.length_zip,SU,xd,<- hl,Nat.min_self]
  rw[arm_eval_Dict,kz.1,show(ks.map fun i=>some (li f.env i))=(ks.map (li f.env)).map some from(TG ..).symm,wU];show aQ f.A p (do standAt pos;dictDisplay (((ks.map (li f.env)).zip (qZ f.env pos es)).map fun p=>(some p.1,p.2))) _ _
  rw[dictDisplay_pairs _ (fun e=>by
   rw[show(ks.map (li f.env)).zip (qZ f.env pos es)=[] from e] at pl;exact ae hk fun s _ h=>ae h fun k _ h=>aH h fun ks' _ e=>by subst e;cases pl) (show((ks.map (li f.env)).zip (qZ f.env pos es)).length<17 by rw[pl,lz];exact Tc hz (by decide))]
  refine⟨fun g=>Sv (wpAny_standAt (Sv ?_))⟩;unfold subDict;refine Sv (wpAny_alloc (Sv (S6 ?_)));rw[SI (show((ks.map (li f.env)).zip (qZ f.env pos es)).length<=15 by rw[pl,lz];exact Sy hz (by decide))]
  refine p.grow [p.s.heap.objs.size] (fun _ _ e=>SW _ e) (fun a ha=>SO.mp ha▸⟨TN (SE _),_,Tb _ rfl⟩) (Th.mpr ⟨nofun,.nil⟩) fun q n eh hκ _=>?_
  have hκ:=hκ _ (.head _);have ho:q.s.heap.get? p.s.heap.objs.size=some (bS #[] 0):=eh▸Tb _ rfl;refine Sv ((pK sxl (f.nx n) hl kz.2 h1).go fun q2 ws n2 r2=>S6 ?_);have kp:=n2.kept hκ.1;refine p.adopt q2 (n.trans n2) (fun a=>(n.trans n2).sub nofun) (Tj.mp p.r.nodup).2.1 (fun _=>id) (o:=.dict []) kp.1 hκ.2 (fun _=>⟨rfl,SZ _,T7,#[],0,kp.2.trans ho,.nil⟩) fun r n3 wk hp _ _=>?_
  have hr:(Y1++[AO.dict []])[Y1.length]?=some (.dict []):=UA;have st:=o9 (A:=f.A) (r:=Y1.length) (kvs:=(ks.map .sym).zip vs) (acc:=[]) (Tc (Tp (by decide) _) f.R.six) hr hp (PL.wk r2 wk)
   (by rw[List.nil_append,lV lz];exact sk (SF hq.1)) (by rw[List.nil_append,List.length_zip];exact Sy (Nat.min_le_right _ _) (Sy hz (by decide)))
  rw[List.nil_append,kh] at st;exact Sv (st.go fun q4 _ n4 _=>Sw (Sw (Sw (g q4 _ (n3.trans n4) ⟨_,n4.wk.get hp,rfl⟩))))
end
theorem cg.call{A:UG}{n:Nat}(R:cg A n):kW A n:=⟨by have:=R.depth;exact u2 this,by have:=R.units;exact u3 this,R.handled⟩
theorem cg.make{A:UG}{n:Nat}(R:cg A n)(C:Addr)(vals:List Value):kW (A.under (.builtin "type.__call__" ⟨.ref C::vals,[]⟩)) n:=
 ⟨by rw[depth_under_make];have:=R.depth;exact u4 this,by rw[units_under_make];have:=R.units;exact u5 this,R.handled⟩
theorem kW.body{A:UG}{n:Nat}(R:kW A (n+1))(env:Env):cg (A.deeper env) n:=
 ⟨by show A.depth+1+3*n+10<_;have:=R.depth;exact u6 this,by show A.units+3+20*n+100<_;have:=R.units;exact u7 this,R.handled⟩
section
variable{c:Cc}{A:UG}{env:Env}{U:En}{Y Y' Y1:St}{p:Pt Y}{Er:Value->UE->Prop}{s:UE}{es:List Expr}{xs:List X}{pos:Pos}
noncomputable abbrev i9(pos:Pos)(es:List Expr)(env:Env):List (Bool×Sem Value):=backTo pos (starEach es env)
theorem bI(h:oJ c es xs):(i9 pos es env).any (·.1)=false:=ah.ind (P:=fun es _=>(i9 pos es env).any (·.1)=false) rfl (fun sx _ ih=>by
 show(backTo pos (starEach (_::_) env)).any (·.1)=false;rw[sx.star];exact ih) h
theorem db{M:Model}{f:Value}{args:List (Bool×Sem Value)}{Q:Args->UE->Prop}(hp:args.any (·.1)=false)(h:wpAny M A (spliced args) (fun vs s'=>Q ⟨vs,[]⟩ s') Er s):wpAny M A (evalArgs f true args []) Q Er s:=by
 cases args with
 | nil=>exact Sv (Tx h (fun vs s' h'=>Sv (Sw (S6 (Sv (Sw (Sv (Sw (Sw h')))))))) fun _ _ x=>x)
 | cons a r=>
  obtain⟨b,x⟩:=a
  cases b with
  | true=>cases hp
  | false=>exact Calls.evalArgs_plain h
theorem iv{vs:List AV}{v:AV}{w:Value}{first:List Value}(sxl:oJ c es xs)(f:Fm c U p)(h1:cT c.C xs U Y=some (vs,Y1))(hk:keepIn K0 w=true)(g:∀(q:Pt Y1) ws,Nx [] p q->VL vs q ws->aQ f.A q (call w (first++ws)) v Y') :
  aQ f.A p (callWith pos w first (i9 pos es f.env) []) v Y':=
 ⟨fun k=>callWith_of (P:=K0.In) (by rw[bI sxl];rfl) (keeps_K hk) (db (bI sxl) ((sxl.sxs.ev f h1 pos).go fun q ws n r=>⟨q.kin,(g q ws n r).after n k⟩))⟩
theorem zT{vs:List AV}{v:AV}{id:String}{first:List Value}(sxl:oJ c es xs)(f:Fm c U p)(h1:cT c.C xs U Y=some (vs,Y1))(g:∀(q:Pt Y1) ws,Nx [] p q->VL vs q ws->aQ f.A q (call (.builtin id) (first++ws)) v Y') :
  aQ f.A p (callWith pos (.builtin id) first (i9 pos es f.env) []) v Y':=
 ⟨fun k=>Calls.callWith_builtin (bI sxl) (db (bI sxl) ((sxl.sxs.ev f h1 pos).go fun q ws n r=>(g q ws n r).after n k))⟩
theorem qn{n:Nat}{vs:List AV}{v:AV}{ws:List Value}{g:Nat}{C:Calls}(ok:fm n C)(R:cg A n)(r:VL vs p ws)(h:C.fn g vs Y=some (v,Y')):aQ A p (call (.ref (bv g)) ws) v Y':=⟨fun k=>wpAny_call (ok.go h R.call r fun q w n e=>k q w n e)⟩
theorem tM{x:Str}{ps:Pos}{w:Value}{v:AV}{mg:Str->Option Value}(f:Fm c U p)(hd:(x==("__debug__":Str))=false)(hg:dy (c.cx.sc.lookup x)=true)(hm:H0.Ns mainGlobals mg)(hv:mg x=some w)(h:aQ f.A p (callWith pos w [] (i9 pos es f.env) []) v Y') :
  aQ f.A p (eval (.Call (.Name x ps) es [] pos) f.env) v Y':=⟨fun k=>Call_Name rfl (wpAny_Name (mx f hg hm hv (h.go k)) hd)⟩
theorem iz{x:Str}{ps:Pos}{attr:Str}{whole:Sem Value}(hx:x≠("super":Str)):attributeBase (.Call (.Name x ps) es [] pos) attr env whole=whole:=by
 cases es with
 | nil=>
  show(if(x != ("super":Str)||_||_||_)=true then _ else _)=whole
  rw[bne_iff_ne.mpr hx];rfl
 | cons _ _=>rfl
theorem AK{x:Str}{ps:Pos}{g:Nat}(hx:x≠("super":Str))(hg:dy (c.cx.sc.lookup x)=true)(hf:bd TB.fns x=some g)(hd:(x==("__debug__":Str))=false)(sxl:oJ c es xs):SX c (.Call (.Name x ps) es [] pos) (.call g xs):=.of (fun{U Y Y' p} f v h=>aE h fun vs Y1 h1 h=>
 (ch hf).elim fun y hy=>p.r.pf.ns.elim fun mg e=>e.elim fun mb e=>tM f hd hg e.1 (hy.2.1▸e.2.2.1 g y hy.1) (iv sxl f h1 (c.ok.keep h) fun q ws n r=>qn c.ok f.R r h)) (fun _ _ _=>iz hx)
theorem mt{k m f:Nat}(h:dp k m=some f):k<7:=ae h fun _ h _=>(SJ.mp h).1
theorem Pt.newI(p:Pt Y){k:Nat}(hk:k<7){Q:UE->Prop}(g:∀ q:Pt (Y++[.inst k []]),Nx [] p q->V (.ref Y.length) q (.ref (p.s.heap.objs.size+1))->Q q.s) :
  Q ⟨(p.s.heap.push emptyDict).push (instObj (aZ k) p.s.heap.objs.size),p.s.gens,p.s.drawn,p.s.toks,p.s.os⟩:=
 have f0:p.s.heap.get? p.s.heap.objs.size=none:=TN (SE _);have f1:p.s.heap.get? (p.s.heap.objs.size+1)=none:=TN (TS _);have o1:((p.s.heap.push emptyDict).push (instObj (aZ k) p.s.heap.objs.size)).get? (p.s.heap.objs.size+1)=some (instObj (aZ k) p.s.heap.objs.size):=Ue p.s.heap emptyDict▸Tb (p.s.heap.push emptyDict) rfl;have o0:((p.s.heap.push emptyDict).push (instObj (aZ k) p.s.heap.objs.size)).get? p.s.heap.objs.size=some (bS #[] 0):=SW _ (Tb _ rfl)
 p.newO (pr:=(p.s.heap.objs.size+1,p.s.heap.objs.size)) (o:=.inst k []) f0 (fun _ _ e=>SW _ (SW _ e))
  (fun wk=>⟨hk,SZ _,T7,⟨o1,fun hm=>(S9.mp hm).elim (fun hm=>(S9.mp (show _∈c8 p.ι++[p.s.heap.objs.size] by rw[<- show c8 (p.ι++[(p.s.heap.objs.size+1,p.s.heap.objs.size)])=c8 p.ι++[p.s.heap.objs.size] from dH _ _];exact hm)).elim (fun h=>p.r.none_not f1 (Te _ h)) fun h=>Nat.succ_ne_self _ (SO.mp h)) fun h=>p.r.none_not f1 (Hp.mem_κ (x:=p.x) h)⟩,#[],0,o0,.nil⟩) g ⟨_,o0⟩
theorem vM{k:Nat}{vs:List AV}{v:AV}{ws:List Value}{n:Nat}{C:Calls}(ok:fm n C)(R:cg A n)(r:VL vs p ws)(h:IX C k vs Y=some (v,Y')):aQ A p (call (.ref (aZ k)) ws) v Y':=
 ae h fun g hg h=>aE h fun u τ h1 h=>fz (a:=.ref Y.length) h fun hu=>by
  have hk:=mt hg;have F:=p.r.pf.clss k hk;obtain⟨g',e1,e2,e3⟩:=F.init
  cases hg.symm.trans e1
  cases fS hu
  refine⟨fun{E Q} j=>wpAny_call (make_core (h:=p.s.heap) (makes_of p.kin F.makes) (looks_findIn p.kin e2) (fun self=>bind_fn p.kin self e3) (.inl rfl) (p.newI hk fun q n v=>ok.go h1 (R.make _ _) (.cons v (r.nx n)) fun q2 w n2 r2=>?_))⟩
  cases(show w=.none from r2)
  exact⟨rfl,j q2 _ (n.trans n2) (v.nx n2)⟩
theorem DV{x:Str}{ps:Pos}{k:Nat}(hx:x≠("super":Str))(hg:dy (c.cx.sc.lookup x)=true)(hf:bd TB.clss x=some k)(hd:(x==("__debug__":Str))=false)(sxl:oJ c es xs):SX c (.Call (.Name x ps) es [] pos) (.new k xs):=.of (fun{U Y Y' p} f v h=>aE h fun vs Y1 h1 h=>
 (ch hf).elim fun y hy=>p.r.pf.ns.elim fun mg e=>e.elim fun mb e=>tM f hd hg e.1 (hy.2.1▸e.2.2.2.1 k y hy.1) (iv sxl f h1 (p.r.pf.clss k (ae h fun _ h _=>mt h)).keep fun q ws n r=>vM c.ok f.R r h)) (fun _ _ _=>iz hx)
end
section
variable{c:Cc}{A:UG}{env:Env}{U:En}{Y Y' Y1:St}{p:Pt Y}{Er:Value->UE->Prop}{s:UE}{es:List Expr}{xs:List X}{pos:Pos}
structure GZ(m:Nat)(A:UG)(env:Env)(p:Pt Y)(pos:Pos)(es:List Expr)(w:Value)(v:AV)(Y':St):Prop where
 go:∀{E Q:Value->UE->Prop} (pl:Sem Bool),(∀(q:Pt Y') w,Nx [] p q->V v q w->Q w q.s)->
 wpAny M0 A (getMethod w (dU m) pl) (fun fx s₂=>wpAny M0 A (callWith pos fx.1 fx.2 (i9 pos es env) []) Q E s₂) E p.s
theorem vO{o:Expr}{name:Str}{apos pos:Pos}{a:X}{Q:Value->UE->Prop}(so:SX c o a)(hp:apos.endLine=pos.line)(hl:es.length<30)(sxl:oJ c es xs)
  (h:wpAny M0 A (eval o env) (fun ov s₁=>∀ pl,wpAny M0 A (getMethod ov name pl) (fun fx s₂=>wpAny M0 A (callWith pos fx.1 fx.2 (i9 pos es env) []) Q Er s₂) Er s₁) Er s) :
  wpAny M0 A (eval (.Call (.Attribute o name apos) es [] pos) env) Q Er s:=by
 rw[arm_eval_Call,so.base];refine Sv (Tx h (fun ov s₁ h₁=>Sv (wpAny_standAt ?_)) fun _ _ x=>x);unfold methodCall;have na:(backTo pos (starEach es env)).all (fun x=>!x.1)=true:=by
  rw[List.all_eq_not_any_not];have:=bI (env:=env) (pos:=pos) sxl;simp only[Bool.not_not];rw[this];rfl
 have hf:methodCallForm (es.length+([]:List Keyword).length) (backTo pos (starEach es env)) (backToKw pos (keywordEach [] env))=true:=by
  unfold methodCallForm;rw[na];exact SM hl
 rw[hf];refine Sv (S6 ?_);unfold calleeOf;rw[SI rfl];refine Tx (h₁ _) (fun fx s₂ h₂=>?_) fun _ _ x=>x;obtain⟨f,first⟩:=fx
 unfold methodCallPos;rw[SI (TX.mpr (.inr (beq_iff_eq.mpr hp)))];exact Sv (Sw h₂)
structure oK(T:String)(m:Nat)(u:AV)(Y:St)(vs:List AV)(v:AV)(Y':St):Prop where
 ex:∃ id,Slot T (dU m) id/\typeOf (.builtin id)=pure (.type "method_descriptor")/\∀{A:UG} {p:Pt Y} {w:Value} {ws:List Value},A.units+20<cLine->V u p w->VL vs p ws->aQ A p (call (.builtin id) (w::ws)) v Y'
theorem ka{T:String}{m:Nat}{u v:AV}{vs:List AV}{w:Value}(M:oK T m u Y1 vs v Y')(pa:PlainAttrs T)(hT:p.s.TypeIs w T)(hd:∀ a,w=.ref a->∃ o,p.s.heap.get? a=some o/\o.dict=none)(sxl:oJ c es xs)(f:Fm c U p)(r:V u p w)(h1:cT c.C xs U Y=some (vs,Y1)) :
  GZ m f.A f.env p pos es w v Y':=⟨fun pl g=>M.ex.elim fun id M=>getMethod_builtin hT pa M.1 M.2.1 hd ((zT (first:=[w]) sxl f h1 fun q ws n rs=>M.2.2 (eW f.R) (r.nx n) rs).go g)⟩
variable{r:Nat}{ls:List AV}{v u:AV}
theorem VL.oneE{ws:List Value}{P:List Value->Prop}(h:VL [v] p ws)(k:∀ w,V v p w->P [w]):P ws:=h.consE fun w ws h t=>t.nilE (P:=fun ws=>P (w::ws)) (k w h)
theorem VL.twoE{ws:List Value}{P:List Value->Prop}(h:VL [v,u] p ws)(k:∀ w z,V v p w->V u p z->P [w,z]):P ws:=h.consE fun w ws h t=>VL.oneE (P:=fun ws=>P (w::ws)) t fun z g=>k w z h g
theorem yE(hr:ai Y r=some ls)(hl:ls.length+1<=ax):oK "list" 27 (.ref r) Y [u] .none (Y.set r (.list (ls++[u]))):=⟨"list.append",F.slot_list_append,type_list_append,fun{A p w ws} hu rw rs=>
 rw.lstE hr (P:=fun w=>aQ A p (call (.builtin "list.append") (w::ws)) .none (Y.set r (.list (ls++[u])))) fun a us n hp _ ho rl=>rs.oneE (P:=fun ws=>aQ A p (call (.builtin "list.append") (.ref a::ws)) .none (Y.set r (.list (ls++[u])))) fun w e=>
  ⟨fun g=>call_meets F.slot_list_append ⟨_,ho,rfl⟩ F.entry_list_append (F.args_list_append_2 _ _) (list_append a us n w (aW (rl.size▸Nat.le_of_succ_le hl))) ⟨ho,p.setL (vs:=ls++[u]) hp (Tm ..) (Tw _ ho rfl) (by rw[SP];exact hl)
   (by rw[Um];exact ah.snoc rl e) fun q n=>g q _ n rfl⟩⟩⟩
theorem yD{r':Nat}{zs:List AV}(hr:ai Y r=some ls)(hz:ai Y r'=some zs)(hl:(ls++zs).length<=ax):oK "list" 28 (.ref r) Y [.ref r'] .none (Y.set r (.list (ls++zs))):=⟨"list.extend",F.slot_list_extend,F.type_list_extend,fun{A p w ws} hu rw rs=>
 rw.lstE hr (P:=fun w=>aQ A p (call (.builtin "list.extend") (w::ws)) .none (Y.set r (.list (ls++zs)))) fun a us n hp l1 ho rl=>rs.oneE (P:=fun ws=>aQ A p (call (.builtin "list.extend") (.ref a::ws)) .none (Y.set r (.list (ls++zs)))) fun w e=>
  e.lstE hz (P:=fun w=>aQ A p (call (.builtin "list.extend") [.ref a,w]) .none (Y.set r (.list (ls++zs)))) fun b us' n' hp' _ ho' rl'=>
  have hs:us.size+us'.size<=ax:=by rw[rl.size,rl'.size,<- SP];exact hl
  ⟨fun g=>call_meets F.slot_list_extend ⟨_,ho,rfl⟩ F.entry_list_extend (F.args_list_extend_2 _ _) (AutoSeq1.list_extend_list_list_0 a us n b us' n' (fun q=>by
    have:=(SL.mp q).2;unfold Builtin.List.listTooLong at this;exact SH (SF this) (Nat.not_lt.mpr (aW hs))) (rl.size▸aW l1) (Nat.le_succ_of_le (aW hs)))
   ⟨ho,ho',p.setL (vs:=ls++zs) hp (Tm ..) (Tw _ ho rfl) hl (by rw[Array.toList_append];exact ah.append rl rl') fun q n=>g q _ n rfl⟩⟩⟩
theorem BR:∀{ls:List AV} {u:AV},ls.getLast?=some u->ls[ls.length-1]?=some u:=fun h=>by rw[<- List.getLast?_eq_getElem?];exact h
theorem EX(hr:ai Y r=some ls)(h:ls.getLast?=some u):oK "list" 29 (.ref r) Y [] u (Y.set r (.list ls.dropLast)):=⟨"list.pop",F.slot_list_pop,F.type_list_pop,fun{A p w ws} hu rw rs=>
 rw.lstE hr (P:=fun w=>aQ A p (call (.builtin "list.pop") (w::ws)) u (Y.set r (.list ls.dropLast))) fun a us n hp l1 ho rl=>rs.nilE (P:=fun ws=>aQ A p (call (.builtin "list.pop") (.ref a::ws)) u (Y.set r (.list ls.dropLast))) (ah.get rl (BR h) fun w h1 h2=>by
  rw[<- rl.size] at h1;have hi:us.size-1<us.size:=by rw[<- Uf];exact(SJ.mp h1).1
  refine⟨fun g=>call_meets F.slot_list_pop ⟨_,ho,rfl⟩ F.entry_list_pop (F.args_list_pop_1 _) (MeetsSeq.list_pop_last a us n w (Ts▸h1) (rl.size▸aW l1)) ⟨ho,?_⟩⟩;refine p.setL (vs:=ls.dropLast) hp (Tm ..) (Tw _ ho rfl) (Sy (List.length_dropLast▸Nat.sub_le _ _) l1) ?_ fun q n=>g q _ n (V.nx h2 n);show VL ls.dropLast p (us.eraseIdxIfInBounds (us.size-1)).toList;rw[Array.eraseIdxIfInBounds,dif_pos hi,Array.toList_eraseIdx,List.dropLast_eq_take,<- rl.size,List.eraseIdx_eq_take_drop_succ,List.drop_of_length_le (by rw[Uf];exact Nat.le_add_of_sub_le (SE _)),Ti]
  exact ah.take _ rl)⟩
theorem ah.mem'{α β:Type}{R:α->β->Prop}{es:List α}{ds:List β}{b:β}(h:ah R es ds)(hb:b∈ds):∃ a,a∈es/\R a b:=by
 obtain⟨i,hi⟩:=T5.mp hb;exact h.get' hi fun a h1 h2=>⟨a,Tf h1,h2⟩
open Classical in
theorem BH{j:Nat}(hr:ai Y r=some ls)(hq:(u.pur&&AV.purs ls)=true)(h:ls.findIdx? (fun x=>decide (x=u))=some j):oK "list" 30 (.ref r) Y [u] (.int (j:Nat)) Y:=⟨"list.index",F.slot_list_index,F.type_list_index,fun{A p w ws} hu rw rs=>
 rw.lstE hr (P:=fun w=>aQ A p (call (.builtin "list.index") (w::ws)) (.int (j:Nat)) Y) fun a us n hp l1 ho rl=>rs.oneE (P:=fun ws=>aQ A p (call (.builtin "list.index") (.ref a::ws)) (.int (j:Nat)) Y) fun w e=>by
  have hq:=SL.mp hq;have pu:∀{x},x∈ls->x.pur=true:=fun hx=>Un.mp hq.2 _ hx;have ev:∀{x y},x∈ls->ao p.x x y->decide (ao p.x u y)=decide (x=u):=fun hx g=>decide_eq_decide.mpr ⟨fun q=>ao.inj (pu hx) hq.1 g q,fun q=>q▸g⟩;obtain⟨hjl,hjt,hjn⟩:=List.findIdx?_eq_some_iff_getElem.mp h;have ti:∀ i (hi:i<us.size) {P:Prop},(∀(hi':i<ls.length),decide (ao p.x u us[i])=decide (ls[i]=u)->P)->P:=fun i hi P k=>ah.get' (i:=i) (b:=us[i]) rl (by rw[Ts];exact TL hi) fun x h1 h2=>by
   obtain⟨hi',e⟩:=SJ.mp h1;exact k hi' (e▸ev (Tf h1) h2)
  have hj:j<us.size:=rl.size▸hjl;refine⟨fun g=>call_meets F.slot_list_index ⟨_,ho,rfl⟩ F.entry_list_index (F.args_list_index_2 _ _) (SeqAt.list_indexAt a us n none #[] w (fun y=>decide (ao p.x u y)) j hj (Int.lt_of_lt_of_le (Int.ofNat_lt.mpr (Tz hjl l1)) (by decide)) (ti j hj fun _ e=>e.trans hjt)
   fun m hm hlt=>ti m hm fun hi e=>e.trans (Bool.eq_false_iff.mpr (hjn m hlt))) ⟨ho,fun y hy=>?_,g (p.tok _) _ .tok ⟨_,rfl⟩⟩⟩
  obtain⟨x,hx,g⟩:=ah.mem' rl (Array.mem_toList_iff.mpr hy);have d1:=bo (pu hx) g;have d2:=bo hq.1 e;show SeqAt.EqAt A.in1 p.s y w (decide (ao p.x u y));rw[ev hx g,<- eQ (pu hx) g hq.1 e];obtain⟨_,ra⟩:=d1.rd;obtain⟨_,rb⟩:=d2.rd;exact SeqAt.eqAt_reads _ _ A.in1 p.s y w _ _ ra rb d1.lay d2.lay (KT d1.dep hu)⟩
theorem eu{T:String}{m k:Nat}{vs us:List AV}{x:AV}(hm:Nat.beq m k=true)(hv:vs=us)(M:oK T k x Y us v Y'):oK T m x Y vs v Y':=Ub hm▸hv▸M
theorem vR{m:Nat}{vs:List AV}(h:kf r m vs Y=some (v,Y')):oK "list" m (.ref r) Y vs v Y':=
 ae h fun ls hr h=>bi h (fun hm h=>gS h fun u hu h=>fz h fun q=>eu hm hu (yE hr (SF q))) fun _ h=>
  bi h (fun hm h=>gS h fun u hu h=>ae h fun r' h1 h=>ae h fun zs hz h=>fz h fun q=>eu hm (ba h1▸hu) (yD hr hz (SF (SL.mp q).2))) fun _ h=>
  bi h (fun hm h=>gS h fun u hu h=>bi h (fun q h=>dr (P:=oK "list" m (.ref r) Y vs) h fun j hj=>eu hm hu (BH hr q hj)) fun _ h=>nomatch h) fun _ h=>
  bi h (fun q h=>dr (P:=oK "list" m (.ref r) Y vs) h fun u hu=>eu (SL.mp q).1 (List.isEmpty_iff.mp (SL.mp q).2) (EX hr hu)) fun _ h=>nomatch h
end
section
variable{c:Cc}{A:UG}{env:Env}{U:En}{Y Y' Y1:St}{p:Pt Y}{Er:Value->UE->Prop}{s:UE}{r:Nat}{ls:List (AV×AV)}{k v u d:AV}
theorem Pt.sysm(p:Pt Y){a:Addr}(h:p.ι[r]?=some (a,a)):(a==sysModules)=false:=p.r.sysm (Hp.mem_of (x:=p.x) h)
theorem EY(hr:aM Y r=some ls)(hk:k.pur=true):oK "dict" 31 (.ref r) Y [k,d] ((az ls k).getD d) Y:=⟨"dict.get",F.slot_dict_get,F.type_dict_get,fun{A p w ws} hu rw rs=>
 rw.dctE hr (P:=fun w=>aQ A p (call (.builtin "dict.get") (w::ws)) ((az ls k).getD d) Y) fun a ds n hp _ nd ho hd=>rs.twoE (P:=fun ws=>aQ A p (call (.builtin "dict.get") (.ref a::ws)) ((az ls k).getD d) Y) fun key dd e1 e2=>
  ⟨fun g=>TA F.slot_dict_get ⟨_,ho,rfl⟩ F.entry_dict_get (by
   refine Sv (m:=dictGet a key) ((sQ (A:=A.in1) p (by show A.units+1+6<cLine;exact u8 hu) ho hd nd hk e1).go fun q o n e=>e.elim (fun e=>?_) fun e=>e.elim fun v e=>e.elim fun w e=>?_)
   ·rw[e.2];show wpAny _ _ (Builtin.Dict.missed a key >>= _) _ _ _;exact Sv (wpAny_missed_other (p.sysm hp) (Sw ⟨dd,rfl,g q dd n (by rw[e.1];exact V.nx e2 n)⟩))
   ·rw[e.2.1];exact Sw ⟨w,rfl,g q w n (by rw[e.1];exact e.2.2)⟩) (F.args_dict_get_3 _ _ _)⟩⟩
theorem vj{a:Addr}{key dd:Value}{Y':St}(hs:(a==sysModules)=false){ds:Array UH}{n:Nat}(ho:p.s.heap.get? a=some (bS ds n)){Q:Fin->UE->Prop}(h:wpAny M0 A (dictSetDefault a key dd) (fun v s=>Q (.done (.ret v)) s) Er p.s) :
  wpAny M0 A (Builtin.«dict.setdefault» ⟨[.ref a,key,dd],[]⟩) Q Er p.s:=by
 unfold Builtin.«dict.setdefault»;refine Sv ?_;unfold Builtin.Dict.keyAndDefault;refine Sv (Uu ⟨_,ho,rfl⟩ (Sw ?_));show wpAny _ _ (if(a==sysModules)=true then _ else(dictSetDefault a key dd >>= _)) _ _ _
 rw[Sz (by rw[hs];exact Tg)]
 exact Sv (Tx h (fun v s h=>Sw h) fun _ _ x=>x)
theorem gr(hr:aM Y r=some ls)(hk:k.pur=true)(h1:∀ u,az ls k=some u->v=u/\Y'=Y)(h2:az ls k=none->ls.length+1<=ax/\v=d/\Y'=Y.set r (.dict (ls++[(k,d)]))):oK "dict" 32 (.ref r) Y [k,d] v Y':=⟨"dict.setdefault",F.slot_dict_setdefault,F.type_dict_setdefault,fun{A p w ws} hu rw rs=>
 rw.dctE hr (P:=fun w=>aQ A p (call (.builtin "dict.setdefault") (w::ws)) v Y') fun a ds n hp hz nd ho hd=>rs.twoE (P:=fun ws=>aQ A p (call (.builtin "dict.setdefault") (.ref a::ws)) v Y') fun key dd e1 e2=>
  ⟨fun{E Q} g=>TA F.slot_dict_setdefault ⟨_,ho,rfl⟩ F.entry_dict_setdefault (vj (Y':=Y') (p.sysm hp) ho (k9 (A:=A.in1) p hp (by show A.units+1+6<cLine;exact u8 hu) ho hd nd hk e1 e2 hz
   (fun u t w' hu r=>by obtain⟨rfl,rfl⟩:=h1 u hu;exact⟨w',rfl,g (p.tok t) _ .tok r⟩)
   fun hn=>⟨(h2 hn).1,fun q n=>by obtain⟨_,rfl,rfl⟩:=h2 hn;exact⟨dd,rfl,g q dd n (V.nx e2 n)⟩⟩)) (F.args_dict_setdefault_3 _ _ _)⟩⟩
theorem sF{w:Value}(hk:k.pur=true)(r:V k p w):(keyPart w).isSome=true\/∃ a,w=.ref a:=
 bH (x:=p.x) (P:=fun _ _ w=>(keyPart w).isSome=true\/∃ a,w=.ref a) (Ps:=fun _ _ _=>True) (.inl rfl) (fun _=>.inl rfl) (fun _ _=>.inr ⟨_,rfl⟩) trivial (fun _ _=>trivial) hk r
theorem Cn{es:List (AV×AV)}(hn:(es.map (·.1)).Nodup):((eS es k).map (·.1)).Nodup:=List.Nodup.sublist (List.Sublist.map _ Ut) hn
theorem oU{a:Addr}{ds:Array UH}{ep:Nat}{es:List (AV×AV)}{key:Value}(p:Pt Y)(hp:p.ι[r]?=some (a,a))(hu:A.units+6<cLine)(ho:p.s.heap.get? a=some (bS ds ep))(hd:ah (DE p.x) es ds.toList)(nd:(es.map (·.1)).Nodup)(hk:k.pur=true)(rk:V k p key)
  (hz:es.length<=ax) (hv:az es k=some v):Ev (Y':=Y.set r (.dict (eS es k))) (fun q o=>∃ e:UH,o=some e/\V v q e.val) A p (Builtin.Dict.takeOut a key):=⟨fun g=>
 S6 (Sv (gz p hu hk rk fun t=>Sv (gA (p.tok t) hu ho hd nd hk rk (fun h=>nomatch(fh h).symm.trans hv) fun i e d h1 h2 h3 h4=>Sv (T4 (s:=(p.tok t).s) ho rfl (by
  have hi:i<ds.size:=(Uy.mp h3).1;have hat:At es k i:=by unfold At;rw[h1,<- h2];rfl
  rw[h3];refine Sv (wpAny_updateDictKeys (s:=(p.tok t).s) ho rfl (Sw (Pt.setD p (es:=eS es k) (h':=p.s.heap.update a (Obj.mapDictKeys fun xs=>xs.eraseIdxIfInBounds i)) hp (Tm ..) (Tw _ ho rfl) (Sy (List.length_filter_le _ _) hz) (Cn nd)
   (by show ah _ (eS es k) (ds.eraseIdxIfInBounds i).toList;rw[Array.eraseIdxIfInBounds,dif_pos hi,Array.toList_eraseIdx,Co nd hat];exact hd.eraseIdx i) fun q n=>g q _ n ⟨d,rfl,?_⟩)) (eX hd▸aW hz) (by rw[Array.eraseIdxIfInBounds,dif_pos hi,Array.size_eraseIdx];exact Sy (Nat.sub_le _ 1) (TS _)))
  exact V.nx (p:=p) ((SQ ((h2▸oe nd h1).symm.trans hv))▸h4.val) n)))))⟩
theorem BI(hr:aM Y r=some ls)(hk:k.pur=true)(hv:az ls k=some v):oK "dict" 29 (.ref r) Y [k] v (Y.set r (.dict (eS ls k))):=⟨"dict.pop",F.slot_dict_pop,F.type_dict_pop,fun{A p w ws} hu rw rs=>
 rw.dctE hr (P:=fun w=>aQ A p (call (.builtin "dict.pop") (w::ws)) v (Y.set r (.dict (eS ls k)))) fun a ds n hp hz nd ho hd=>rs.oneE (P:=fun ws=>aQ A p (call (.builtin "dict.pop") (.ref a::ws)) v (Y.set r (.dict (eS ls k)))) fun key e=>
  ⟨fun{E Q} g=>TA F.slot_dict_pop ⟨_,ho,rfl⟩ F.entry_dict_pop (by
   show wpAny _ _ (Builtin.«dict.pop» ⟨[.ref a,key],[]⟩) _ _ _;unfold Builtin.«dict.pop»;refine Sv ?_;unfold Builtin.Dict.keyAndDefault;refine Sv (Uu ⟨_,ho,rfl⟩ (Sw ?_));have ev:=oU (A:=A.in1) p hp (by show A.units+1+6<cLine;exact u8 hu) ho hd nd hk e hz hv
   have hne:ds.isEmpty=false:=by
    cases hd0:ds.isEmpty with
    | false=>rfl
    | true=>
     have:ds.size=0:=eq_of_beq hd0;rw[eX hd] at this;rw[List.length_eq_zero_iff.mp this] at hv;exact nomatch hv
   have ea:∀{q:Pt (Y.set r (.dict (eS ls k)))} {e:UH},Nx [] p q->V v q e.val->wpAny M0 A.in1 (do
     if(some e).isNone then Builtin.Dict.missedRemoval a key
     match some e,(none:Option Value) with
      | some e,_=>letGo [e.key] [e.val];PySem.ret e.val
      | none,some x=>rule "dict.pop.default";PySem.ret x
      | none,none=>rule "dict.pop.keyerror";raiseNew (<- newExc (.type "KeyError") [key])) (fun ea s'=>∃ v,ea=.done (.ret v)/\Q v s') E q.s:=fun{q e} n r=>
    Sv (Sv (S6 (wpAny_point (Sw (Sw ⟨e.val,rfl,g q _ n r⟩)))))
   rcases sF hk e with hkp | ⟨b,rfl⟩
   ·dsimp only;rw[SI hkp];exact Sv (Sw (Sv (ev.go fun q o n h=>h.elim fun e h=>by rw[h.1];exact ea n h.2)))
   ·dsimp only;rw[Sz (by simp[keyPart])]
    refine Sv (T4 ho rfl (Sv (Sw ?_)));rw[hne];exact Sv (ev.go fun q o n h=>h.elim fun e h=>by rw[h.1];exact ea n h.2)) (F.args_dict_pop_2 _ _)⟩⟩
theorem yC(hr:aM Y r=some ls):oK "dict" 34 (.ref r) Y [] (.view r) Y:=⟨"dict.items",F.slot_dict_items,F.type_dict_items,fun{A p w ws} hu rw rs=>
 rw.dctE hr (P:=fun w=>aQ A p (call (.builtin "dict.items") (w::ws)) (.view r) Y) fun a ds n hp hz nd ho hd=>rs.nilE (P:=fun ws=>aQ A p (call (.builtin "dict.items") (.ref a::ws)) (.view r) Y)
  ⟨fun{E Q} g=>TA F.slot_dict_items ⟨_,ho,rfl⟩ F.entry_dict_items (by
   show wpAny _ _ (Builtin.«dict.items» ⟨[.ref a],[]⟩) _ _ _;unfold Builtin.«dict.items»;refine Sv ?_;unfold Builtin.Dict.noArgs;refine Sv (Uu ⟨_,ho,rfl⟩ (Sw ?_));show wpAny _ _ (Builtin.Dict.showsAll a >>= _) _ _ _;unfold Builtin.Dict.showsAll;rw[Sz (by rw[p.sysm hp];exact Tg)]
   exact Sv (Sw (Sv (TR (Sw ⟨_,rfl,p.push fun q n _ i=>g q _ n ⟨_,(a,a),rfl,n.wk.get hp,i⟩⟩))))) (F.args_dict_items_1 _)⟩⟩
theorem wx{m:Nat}{vs:List AV}(h:kw r m vs Y=some (v,Y')):oK "dict" m (.ref r) Y vs v Y':=
 ae h fun ls hr h=>bi h (fun hm h=>kQ h fun k d hu h=>fz h fun q=>eu hm hu (EY hr q)) fun _ h=>
  bi h (fun hm h=>kQ h fun k d hu h=>bi h (fun q h=>eu hm hu (bt h
   (fun h=>aH h fun u h1 e=>gr hr q (fun u' h2=>SQ (h1.symm.trans h2)▸⟨(Prod.mk.inj e).1.symm,(Prod.mk.inj e).2.symm⟩) fun h2=>nomatch h1.symm.trans h2)
   fun h=>cN h fun q2 e=>gr hr q (fun u' h2=>nomatch h2.symm.trans (Option.isNone_iff_eq_none.mp (SL.mp q2).2)) fun _=>⟨SF (SL.mp q2).1,(Prod.mk.inj e).1.symm,(Prod.mk.inj e).2.symm⟩)) fun _ h=>nomatch h) fun _ h=>
  bi h (fun hm h=>gS h fun k hu h=>bi h (fun q h=>dr (P:=oK "dict" m (.ref r) Y vs) h fun j hj=>eu hm hu (BI hr q hj)) fun _ h=>nomatch h) fun _ h=>
  fz h fun q=>eu (SL.mp q).1 (List.isEmpty_iff.mp (SL.mp q).2) (yC hr)
end
section
variable{c:Cc}{A:UG}{env:Env}{U:En}{Y Y' Y1:St}{p:Pt Y}{Er:Value->UE->Prop}{s:UE}{es:List Expr}{xs:List X}{pos:Pos}{m:Nat}{v u:AV}{vs:List AV}
theorem oW{i:Nat}{b:Bool}(h:eH i=some b):Txt.isspace (au i)=b:=
 have all:∀ i,i<=6->1<=i->(decide ((au i).length > 0)&&(au i).cps.all Unicode.isSpace)=false:=by decide +kernel
 bi h (fun h1 h2=>SQ h2▸all i (SV (SL.mp h1).2) (SV (SL.mp h1).1)) fun _ h=>nomatch h
theorem BF{i:Nat}{b:Bool}(h:eH i=some b):oK "str" 33 (.sym i) Y [] (.bool b) Y:=⟨"str.isspace",F.slot_str_isspace,F.type_str_isspace,fun{A p w ws} hu rw rs=>
 rw.symE (P:=fun w=>aQ A p (call (.builtin "str.isspace") (w::ws)) (.bool b) Y) fun t _=>rs.nilE (P:=fun ws=>aQ A p (call (.builtin "str.isspace") (_::ws)) (.bool b) Y) ⟨fun g=>PySem.SC.isspace (g p _ (.refl p) (Sx Value.bool (oW h)))⟩⟩
theorem Bz{r g:Nat}{q:Nat×List (Nat×AV)}{w:Value}(sxl:oJ c es xs)(f:Fm c U p)(hm:m<bO.length)(hq:dP Y r=some q)(hlk:(q.2.lookup m).isNone=true)(hg:dp q.1 m=some g)(rw:V (.ref r) p w)(h1:cT c.C xs U Y=some (vs,Y1))(h2:c.C.fn g (.ref r::vs) Y1=some (v,Y')) :
  GZ m f.A f.env p pos es w v Y':=⟨fun{E Q} pl k=>by
 refine rw.insE hq (P:=fun w=>wpAny M0 f.A (getMethod w (dU m) pl) (fun fx s₂=>wpAny M0 f.A (callWith pos fx.1 fx.2 (i9 pos es f.env) []) Q E s₂) E p.s) fun pr hp o=>o.ex.elim fun ds h=>h.elim fun n h=>?_;have F:=p.r.pf.clss q.1 o.lt;have M:=F.meth m g hg hm;refine method_fn p.kin (jy o.obj.h h.1) F.ga F.gx M.1 M.2 (by
  show(lookIn (dU m) (bS ds n)).map (·.isSome)=some false;rw[sO (n:=n) hm h.2 (Option.isNone_iff_eq_none.mp hlk)];rfl) ?_
 exact(iv (first:=[.ref pr.1]) sxl f h1 (c.ok.keep h2) fun q2 ws n rs=>qn c.ok f.R (ah.cons (R:=ao q2.x) (a:=.ref r) ⟨pr,n.wk.get hp,rfl⟩ rs) h2).go k⟩
theorem By{k:oH}{w:Value}(sxl:oJ c es xs)(f:Fm c U p)(hm:m<bO.length)(rw:V u p w)(h0:fj Y u m=some k)(h1:cT c.C xs U Y=some (vs,Y1))(h2:ky c.C k u m vs Y1=some (v,Y')):GZ m f.A f.env p pos es w v Y':=
 bt h0 (fun h0=>ae h0 fun r hr h0=>bt h0 (fun h0=>ae h0 fun q hq h0=>bi h0 (fun hlk h0=>aH h0 fun g hg e=>by
   cases e
   cases ba hr
   exact Bz sxl f hm hq hlk hg rw h1 h2) fun _ h=>nomatch h)
  fun h0=>bt h0 (fun h0=>aH h0 fun ls hl e=>by
   cases e
   cases ba hr
   exact rw.lstE hl (P:=fun w=>V (.ref r) p w->GZ m f.A f.env p pos es w v Y') (fun a ws n _ _ ho _ rw=>ka (w:=.ref a) (vR h2) F.plainAttrs_list ⟨_,ho,rfl⟩ (fun a e=>by cases e;exact⟨_,ho,rfl⟩) sxl f rw h1) rw)
  fun h0=>aH h0 fun ls hl e=>by
   cases e
   cases ba hr
   exact rw.dctE hl (P:=fun w=>V (.ref r) p w->GZ m f.A f.env p pos es w v Y') (fun a ws n _ _ _ ho _ rw=>ka (w:=.ref a) (wx h2) F.plainAttrs_dict ⟨_,ho,rfl⟩ (fun a e=>by cases e;exact⟨_,ho,rfl⟩) sxl f rw h1) rw)
 fun h0=>aH h0 fun i hi e=>by
  cases e
  cases cw hi
  exact bi h2 (fun q h=>jU (P:=GZ m f.A f.env p pos es w) h fun v hv=>aH hv fun b hb e=>by
   have q:=SL.mp q
   cases e
   exact rw.symE (P:=fun w=>V (.sym i) p w->GZ m f.A f.env p pos es w (.bool b) Y1) (fun t _ rw=>by
    have M:oK "str" m (.sym i) Y1 vs (.bool b) Y1:=eu q.1 (List.isEmpty_iff.mp q.2) (BF hb);have hT:p.s.TypeIs (.str (au i) t) "str":=typeIs_str _ _ _;have hd:∀ a,Value.str (au i) t=.ref a->∃ o,p.s.heap.get? a=some o/\o.dict=none:=fun a e=>nomatch e
    have pa:PlainAttrs "str":=F.plainAttrs_str;exact ka M pa hT hd sxl f rw h1) rw) fun _ h=>nomatch h
theorem AH{o:Expr}{nm:Str}{apos:Pos}{a:X}(hp:apos.endLine=pos.line)(hl:es.length<30)(hm:bd bO nm=some m)(so:SX c o a)(sxl:oJ c es xs):SX c (.Call (.Attribute o nm apos) es [] pos) (.meth a m xs):=.of fun{U Y Y' p} f v h=>
 aE h fun u Y1 h1 h=>ae h fun k h0 h=>aE h fun vs Y2 h2 h=>⟨fun{E Q} g=>by
  rw[(er hm).2];exact vO so hp hl sxl ((so.v f h1).go fun q w n r pl=>(By sxl (f.nx n) (er hm).1 r h0 h2 h).go pl fun q2 w2 n2 r2=>g q2 w2 (n.trans n2) r2)⟩
end
section
variable{c:Cc}{A:UG}{env:Env}{U:En}{Y Y' Y1:St}{p:Pt Y}{Er:Value->UE->Prop}{s:UE}{v u:AV}{vs:List AV}
def uL(is:List Int)(ws:List Value):Prop:=∃ xs:List (Int×Tok),ws=xs.map (fun p=>.int p.1 p.2)/\is=xs.map (·.1)
theorem sI{vs:List AV}:∀{is:List Int} {ws:List Value},cB vs=some is->VL vs p ws->uL is ws:=by
 induction vs with
 | nil=>exact fun hi r=>r.nilE (SQ hi▸⟨[],rfl,rfl⟩)
 | cons v vs ih=>exact fun hi r=>ae hi fun i h1 h=>aH h fun is h2 e=>e▸r.consE fun w ws h3 t=>(ih h2 t).elim fun xs h=>V.int (p:=p) (P:=fun w=>uL (i::is) (w::ws)) (bp h1▸h3) fun t=>⟨(i,t)::xs,Sx _ h.1,Sx _ h.2⟩
theorem kr(l:List Int):∀(i:Int),(l.foldl max i)∈i::l/\∀ x∈i::l,x<=l.foldl max i:=by
 induction l with
 | nil=>exact fun i=>⟨.head _,fun x hx=>(SO.mp hx)▸Int.le_refl _⟩
 | cons a l ih=>
  refine fun i=>⟨(SN.mp (ih (max i a)).1).elim (fun g=>?_) fun g=>.tail _ (.tail _ g),fun x hx=>?_⟩
  ·rw[List.foldl_cons,g];exact(Int.le_total i a).elim (fun q=>by rw[Int.max_eq_right q];exact .tail _ (.head _)) fun q=>by rw[Int.max_eq_left q];exact .head _
  ·have h0:=(ih (max i a)).2 _ (.head _);exact(SN.mp hx).elim (fun e=>Int.le_trans (e▸Int.le_max_left i a) h0) fun hx=>(SN.mp hx).elim (fun e=>Int.le_trans (e▸Int.le_max_right i a) h0) fun hx=>(ih (max i a)).2 x (.tail _ hx)
theorem wf{xs:List (Int×Tok)}{ws:Array Value}(h:ws.toList=xs.map fun p=>Value.int p.1 p.2):ws=intItems xs.toArray:=by
 rw[<- Array.toArray_toList (xs:=ws),h];unfold intItems;rw[List.map_toArray]
theorem uj{i:Nat}{w:Value}{is:List Int}{P:Value->Prop}(rv:V (.ref i) p w)(hr:ai Y i=some vs)(hi:cB vs=some is)(k:∀ a (xs:List (Int×Tok)),is=xs.map (·.1)->p.s.heap.IsList a (intItems xs.toArray)->P (.ref a)):P w:=
 rv.lstE hr fun a ws n _ _ ho r=>(sI hi r).elim fun xs h=>k a xs h.2 (wf h.1▸cA ho)
theorem Pt.more(p:Pt Y){h':Heap}{Q:UE->Prop}{t:Nat}{d:Drawn}(hk:∀ b o,p.s.heap.get? b=some o->h'.get? b=some o)(k:∀ q:Pt Y,Nx [] p q->q.s.heap=h'->(∀ a o,p.s.heap.get? a=none->h'.get? a=some o->fE q.x a o)->Q q.s):Q ⟨h',p.s.gens,d,t,p.s.os⟩:=
 p.grow [] hk (fun _ h=>nomatch h) .nil fun q n e _ f=>k q n e fun a o h=>f a o h nofun
theorem zP{i:Nat}{w:Value}{j:Int}{is:List Int}(hh:A.handled=none)(rv:V (.ref i) p w)(hr:ai Y i=some vs)(hi:cB vs=some (j::is)):aQ A p (call (.builtin "max") [w]) (.int (is.foldl max j)) Y:=
 uj rv hr hi (P:=fun w=>aQ A p (call (.builtin "max") [w]) (.int (is.foldl max j)) Y) fun a xs e hl=>by
  have hne:0<xs.toArray.size:=by
   cases xs with
   | nil=>cases e
   | cons _ _=>exact Nat.succ_pos _
  have sz:xs.toArray.size=xs.length:=rfl;refine⟨fun g=>max_intList hh hl hne fun v h' tk hv hk=>?_⟩;obtain⟨t,rfl⟩:=intItems_at hv;have h1:=argBest_gt (numAt xs.toArray) (xs.toArray.size-1);have m:=kr is j;have aa:∀(i:Nat) (h:i<xs.length),numAt xs.toArray i=(xs[i]).1:=fun i h=>by simp[numAt,h]
  have hb:argBest (fun i j=>decide (numAt xs.toArray i > numAt xs.toArray j)) (xs.toArray.size-1)<xs.length:=Tc h1.1 (Nat.sub_lt hne Nat.one_pos);have eq:numAt xs.toArray (argBest (fun i j=>decide (numAt xs.toArray i > numAt xs.toArray j)) (xs.toArray.size-1))=is.foldl max j:=by
   refine Int.le_antisymm (m.2 _ (e▸SY.mpr ⟨_,List.getElem_mem hb,(aa _ hb).symm⟩)) ?_;obtain⟨q,hq,hq2⟩:=SY.mp (e▸m.1);obtain⟨i,hi,rfl⟩:=List.mem_iff_getElem.mp hq;exact hq2▸aa i hi▸h1.2 i (Nat.le_sub_one_of_lt (sz▸hi))
  rw[eq];exact p.more hk fun q n _ _=>g q _ n ⟨t,rfl⟩
theorem zN{i:Nat}{w:Value}{is:List Int}(hh:A.handled=none)(rv:V (.ref i) p w)(hr:ai Y i=some vs)(hi:cB vs=some is):aQ A p (call (.builtin "sum") [w]) (.int is.sum) Y:=
 uj rv hr hi (P:=fun w=>aQ A p (call (.builtin "sum") [w]) (.int is.sum) Y) fun a xs e hl=>⟨fun g=>sum_intListG hh hl fun h' tk t' hk=>by
  rw[preSum_eq,show xs.toArray.toList.map (·.1)=is from e.symm,List.take_of_length_le (by rw[e,SU];exact SE xs.length)]
  exact p.more hk fun q n _ _=>g q _ n ⟨t',rfl⟩⟩
theorem iN{it:Addr}{T:String}{o:Obj}{ws:Array Value}{m:Nat}(hT:T="list"\/T="tuple")(ho:p.s.heap.get? it=some o)(hc:o.cls=.type T)(hd:o.data=.seq ws m)(hl:vs.length<=ax)(hx:VL vs p ws.toList) :
  aQ A p (call (.type "list") [.ref it]) (.ref Y.length) (Y++[.list vs]):=
 ⟨fun g=>call_list_seq it hT ho hc hd (fun h' c' hk hg=>p.newL (TN (SE _)) hk hg hl hx fun q n v=>g q _ n v) (hx.size▸aW hl)⟩
theorem rK(l:List Value):∀(b:Nat),(∀(j:Nat) (v:Value),l[j]?=some v->∃ t,v=Value.int ((b+j:Nat):Int) t)->VL ((List.range' b l.length).map fun(i:Nat)=>AV.int i) p l:=by
 induction l with
 | nil=>exact fun _ _=>.nil
 | cons v l ih=>exact fun b h=>.cons (R:=ao p.x) (h 0 v rfl) (ih (b+1) fun j u hu=>(h (j+1) u hu).imp fun t e=>e.trans (Sx (fun k:Nat=>Value.int (k:Int) t) (u9)))
theorem pD{k:Nat}{acc:Array Value}(hi:PySem.ItemsOf (fun(i:Nat) (v:Value)=>∃ t,v=Value.int ((0:Int)+i*1) t) acc k):VL ((List.range k).map fun(i:Nat)=>AV.int i) p acc.toList:=by
 rw[List.range_eq_range',<- hi.1,<- Uf];exact rK acc.toList 0 fun j v hj=>(hi.2 j v (Ts▸hj)).imp fun t e=>by rw[e,Int.mul_one,Int.zero_add,TZ]
end
open AutoSeq1 (wpAny_loadPart')
theorem eO(l:Addr)(items:Array Value)(n:Nat) :
  Meets (Builtin.«enumerate.__new__» ⟨[.type "enumerate",.ref l],[]⟩) (fun _ R s=>s.heap.get? l=some (bV items n)/\
   R (.ok (.ret (.ref (s.heap.push { cls:=.type "tuple_iterator",data:=.fields #[.ref l,.int 0 0] }).objs.size)))
    {s with heap:=(s.heap.push { cls:=.type "tuple_iterator",data:=.fields #[.ref l,.int 0 0] }).push { cls:=.type "enumerate",data:=.fields #[.none,.bool false,.ref s.heap.objs.size,rawInt 0,.none,.none] } }):=
 .of_wp fun aj w A R s h=>by
  obtain⟨hp,g,d,tk,os⟩:=s;obtain⟨hl,h⟩:=h;have hsub:=sub_enumerate;have hL:Heap.IsTuple (Shared.heap ⟨hp,g,d,tk,os⟩) l items:=⟨_,hl,rfl,n,rfl⟩
  wp_walk using wpAny_loadPart' hl
  refine wpAny_stack_any fun st=>Sw ?_;refine Bool.rec (motive:=fun b=>wpAny _ _ (if b=true then _ else _) _ _ _) ?_ ?_ _
  ·wp_walk using wpAny_loadPart' hl,wpAny_pyIter_tuple hL
   exact⟨_,rfl,h⟩
  ·wp_walk using wpAny_loadPart' hl,wpAny_pyIter_tuple hL
   exact⟨_,rfl,h⟩
noncomputable abbrev tH(h:Heap)(l1:Addr):Heap:=h.push { cls:=.type "tuple_iterator",data:=.fields #[.ref l1,.int 0 0] }
noncomputable abbrev tG(h:Heap)(l1 l2:Addr):Heap:=(tH h l1).push { cls:=.type "tuple_iterator",data:=.fields #[.ref l2,.int 0 0] }
noncomputable abbrev tF(h:Heap)(l1 l2:Addr):Heap:=(tG h l1 l2).push { cls:=.type "tuple",data:=.seq #[.ref h.objs.size,.ref (tH h l1).objs.size] }
noncomputable abbrev tE(h:Heap)(l1 l2:Addr):Heap:=(tF h l1 l2).push { cls:=.type "tuple",data:=.seq #[.none,.none] }
noncomputable abbrev jE(h:Heap)(l1 l2:Addr):Heap:=(tE h l1 l2).push { cls:=.type "zip",data:=.fields #[.none,.bool false,.bool false,.ref (tG h l1 l2).objs.size,.ref (tF h l1 l2).objs.size] }
theorem kc(l1 l2:Addr)(xs ys:Array Value) :
  Meets (Builtin.«zip.__new__» ⟨[.type "zip",.ref l1,.ref l2],[]⟩) (fun _ R s=>s.heap.IsTuple l1 xs/\s.heap.IsTuple l2 ys/\
   R (.ok (.ret (.ref (tE s.heap l1 l2).objs.size))) { s with heap:=jE s.heap l1 l2 }):=
 .of_wp fun aj w A R s h=>by
  obtain⟨hp,g,d,tk,os⟩:=s;obtain⟨hl1,hl2,h⟩:=h;have hsub:=sub_zip;have hL1:Heap.IsTuple (Shared.heap ⟨hp,g,d,tk,os⟩) l1 xs:=hl1;have hL2:Heap.IsTuple (Shared.heap ⟨hp.push { cls:=.type "tuple_iterator",data:=.fields #[.ref l1,.int 0 0] },g,d,tk,os⟩) l2 ys:=Heap.IsTuple.push hl2 _
  wp_walk using wpAny_pyIter_tuple hL1,wpAny_pyIter_tuple hL2
  exact⟨_,rfl,h⟩
section
variable{c:Cc}{A:UG}{env:Env}{U:En}{Y Y' Y1:St}{p:Pt Y}{Er:Value->UE->Prop}{s:UE}{v u:AV}{vs:List AV}{w:Value}
abbrev qX(κ:List Addr)(A:UG)(p:Pt Y)(m:Sem Value)(v:AV)(Y':St):Prop:=Ev (Y':=Y') (E κ v) A p m
theorem aV{h:Heap}{a:Addr}(ha:h.objs.size<=a):h.get? a=none:=TN ha
theorem E.of_it{κ:List Addr}(hv:v.isIt=true)(h:Hf κ p w v):E κ v p w:=⟨fun e=>(nomatch hv.symm.trans e),fun _=>⟨κ,fun _=>id,h⟩⟩
theorem I3{P:Addr->Prop}{a b:Addr}(h1:P a)(h2:P b):∀ c,c∈[a,b]->P c:=fun c h=>(SN.mp h).elim (fun e=>e▸h1) fun h=>(SO.mp h)▸h2
theorem zv(rv:V (.tup vs) p w):qX p.κ A p (call (.type "enumerate") [w]) (.enm (.tup vs)) Y:=
 rv.tupE (P:=fun w=>qX p.κ A p (call (.type "enumerate") [w]) (.enm (.tup vs)) Y) fun l ws m hl im hx=>⟨fun g=>by
  refine callType_new PySem.F.called_enumerate (by decide) (PySem.F.typeCall_enumerate_1 _) (PySem.F.newCall_enumerate_1 _) (fun obj=>PySem.F.args_object_init_2 obj _) PySem.F.entry_enumerate_new (eO l ws m) ⟨im.h,?_⟩
  have hz:(p.s.heap.push { cls:=.type "tuple_iterator",data:=.fields #[.ref l,.int 0 0] }).objs.size=p.s.heap.objs.size+1:=Ue ..;have he:=Tb (p.s.heap.push { cls:=.type "tuple_iterator",data:=.fields #[.ref l,.int 0 0] }) (o:={ cls:=.type "enumerate",data:=.fields #[.none,.bool false,.ref p.s.heap.objs.size,rawInt 0,.none,.none] }) rfl;have hi:=SW { cls:=.type "enumerate",data:=.fields #[.none,.bool false,.ref p.s.heap.objs.size,rawInt 0,.none,.none] } (Tb p.s.heap (o:={ cls:=.type "tuple_iterator",data:=.fields #[.ref l,.int 0 0] }) rfl);show _/\_;rw[hz] at he ⊢;refine⟨⟨_,he,rfl⟩,p.grow [p.s.heap.objs.size+1,p.s.heap.objs.size] (fun _ _ e=>SW _ (SW _ e)) (I3 (P:=fun a=>p.s.heap.get? a=none/\∃ o,Heap.get? (Heap.push _ _) a=some o) ⟨aV (TS _),_,he⟩ ⟨aV (SE _),_,hi⟩) (Th.mpr ⟨fun h=>Nat.succ_ne_self _ (SO.mp h),Th.mpr ⟨nofun,.nil⟩⟩) fun q n eh hκ _=>g q _ n (.of_it rfl
   ⟨_,p.s.heap.objs.size,l,ws,m,rfl,⟨hκ _ (.head _),hκ _ (.tail _ (.head _)),Nat.succ_ne_self _⟩,⟨eh▸he,_,eh▸hi,rfl,rfl⟩,hl,n.wk.imm im,VL.nx hx n⟩)⟩⟩
theorem zw{r:Nat}(rv:V (.ref r) p w)(hr:ai Y r=some vs):qX p.κ A p (call (.type "enumerate") [w]) (.enm (.ref r)) Y:=
 rv.lstE hr (P:=fun w=>qX p.κ A p (call (.type "enumerate") [w]) (.enm (.ref r)) Y) fun l ws m hp hl ho hx=>⟨fun g=>call_enumerate_list (cA ho) fun h' he hit hsz hk=>
  p.grow [p.s.heap.objs.size+1,p.s.heap.objs.size] hk (I3 (P:=fun a=>p.s.heap.get? a=none/\∃ o,h'.get? a=some o) ⟨aV (TS _),_,he⟩ ⟨aV (SE _),hit.imp fun _ h=>h.1⟩)
   (Th.mpr ⟨fun h=>Nat.succ_ne_self _ (SO.mp h),Th.mpr ⟨nofun,.nil⟩⟩) fun q n eh hκ _=>g q _ n (.of_it rfl ⟨_,p.s.heap.objs.size,l,rfl,⟨hκ _ (.head _),hκ _ (.tail _ (.head _)),Nat.succ_ne_self _⟩,⟨eh▸he,eh▸hit⟩,n.wk.get hp⟩)⟩
theorem Pt.growO(p:Pt Y){h':Heap}{Q:UE->Prop}{t:Nat}{d:Drawn}{a:Addr}{o:AO}(L:List Addr)(hk:∀ a o,p.s.heap.get? a=some o->h'.get? a=some o)(hn:∀ b,b∈a::L->p.s.heap.get? b=none/\∃ o,h'.get? b=some o)(nd:(a::L).Nodup)
  (ho:ed ⟨p.ι++[(a,a)],L++p.κ,h'⟩ (a,a) o) (k:∀ q:Pt (Y++[o]),Nx [] p q->q.s.heap=h'->(∀ b,b∈L->b∈q.κ/\b∉p.κ)->q.ι[Y.length]?=some (a,a)->Q q.s):Q ⟨h',p.s.gens,d,t,p.s.os⟩:=
 have g:=p.r.grow (y:=⟨p.ι++[(a,a)],L++p.κ,h'⟩) (os:=[o]) (e:=[(a,a)]) (L:=L) rfl rfl hk hn nd rfl fun _ i _ _=>rS (P:=ed ⟨p.ι++[(a,a)],L++p.κ,h'⟩) ho i
 k ⟨p.ι++[(a,a)],L++p.κ,⟨h',p.s.gens,d,t,p.s.os⟩,g.2⟩ ⟨g.1,fun _ h=>.inr ⟨Tq _ h,(p.r.alive _ (Hp.mem_κ (x:=p.x) h)).2.elim fun _ e=>(hk _ _ e).trans e.symm⟩,rfl,rfl⟩ rfl
  (fun b hb=>⟨Te _ hb,fun hm=>p.r.none_not (hn b (.tail _ hb)).1 (Hp.mem_κ (x:=p.x) hm)⟩) (th p.r.len)
theorem Pl{k:Nat}:[k+3,k+4,k+2,k,k+1].Nodup/\[k+4,k+2,k+3,k,k+1].Nodup:=by
 have h:∀ l:List Nat,l.Nodup->(l.map (k+·)).Nodup:=fun l h=>List.pairwise_map.mpr (h.imp fun a b=>a (Nat.add_left_cancel b));exact⟨h [3,4,2,0,1] (by decide),h [4,2,3,0,1] (by decide)⟩
theorem Nw{k:Nat}{P:Nat->Prop}(h4:P (k+4))(h2:P (k+2))(h0:P k)(h1:P (k+1)):∀ a,a∈[k+4,k+2,k,k+1]->P a:=fun a h=>
 (SN.mp h).elim (fun e=>e▸h4) fun h=>(SN.mp h).elim (fun e=>e▸h2) fun h=>(SN.mp h).elim (fun e=>e▸h0) fun h=>(SO.mp h)▸h1
theorem As{us:List AV}{w':Value}(rv:V (.tup vs) p w)(ru:V (.tup us) p w'):qX p.κ A p (call (.type "zip") [w,w']) (.zp (.tup (.ref Y.length::vs)) (.tup us)) (Y++[.hid]):=
 rv.tupE (P:=fun w=>qX p.κ A p (call (.type "zip") [w,w']) (.zp (.tup (.ref Y.length::vs)) (.tup us)) (Y++[.hid])) fun l1 ws m hl im hx=>ru.tupE (P:=fun w'=>qX p.κ A p (call (.type "zip") [.ref l1,w']) (.zp (.tup (.ref Y.length::vs)) (.tup us)) (Y++[.hid])) fun l2 zs m' hl' im' hx'=>⟨fun g=>by
  refine callType_new PySem.F.called_zip (by decide) (PySem.F.typeCall_zip_2 _ _) (PySem.F.newCall_zip_2 _ _) (fun obj=>PySem.F.args_object_init_3 obj _ _) PySem.F.entry_zip_new (kc l1 l2 ws zs) ⟨⟨_,im.h,rfl,m,rfl⟩,⟨_,im'.h,rfl,m',rfl⟩,?_⟩
  generalize hH:p.s.heap=H;have z1:(tH H l1).objs.size=H.objs.size+1:=Ue ..;have z2:(tG H l1 l2).objs.size=H.objs.size+2:=by rw[Ue,z1]
  have z3:(tF H l1 l2).objs.size=H.objs.size+3:=by rw[Ue,z2]
  have z4:(tE H l1 l2).objs.size=H.objs.size+4:=by rw[Ue,z3]
  have g5:(jE H l1 l2).get? (tE H l1 l2).objs.size=some _:=Tb _ rfl;have g4:(jE H l1 l2).get? (tF H l1 l2).objs.size=some _:=SW _ (Tb _ rfl);have g3:(jE H l1 l2).get? (tG H l1 l2).objs.size=some _:=SW _ (SW _ (Tb _ rfl));have g2:(jE H l1 l2).get? (tH H l1).objs.size=some _:=SW _ (SW _ (SW _ (Tb _ rfl)));have g1:(jE H l1 l2).get? H.objs.size=some _:=SW _ (SW _ (SW _ (SW _ (Tb _ rfl))));show _/\_;rw[z2,z3,z4] at g5;rw[z1,z2] at g3;rw[z3] at g4;rw[z1] at g2;rw[z4];subst hH;have nn:∀ k,p.s.heap.get? (p.s.heap.objs.size+k)=none:=fun k=>aV (Ty _ _);refine⟨⟨_,g5,rfl⟩,p.growO (o:=.hid) (a:=p.s.heap.objs.size+3) [p.s.heap.objs.size+4,p.s.heap.objs.size+2,p.s.heap.objs.size,p.s.heap.objs.size+1]
   (fun c o x=>SW _ (SW _ (SW _ (SW _ (SW _ x)))))
   (fun b hb=>(SN.mp hb).elim (fun e=>e▸⟨nn 3,_,g4⟩) (Nw (P:=fun b=>p.s.heap.get? b=none/\∃ o,(jE p.s.heap l1 l2).get? b=some o) ⟨nn 4,_,g5⟩ ⟨nn 2,_,g3⟩ ⟨nn 0,_,g1⟩ ⟨nn 1,_,g2⟩ b)) Pl.1 ⟨rfl,_,_,g4⟩ fun q n eh hκ hp=>g q _ n (.of_it rfl
   ⟨_,p.s.heap.objs.size+2,p.s.heap.objs.size+3,p.s.heap.objs.size,p.s.heap.objs.size+1,l1,l2,ws,zs,m,m',rfl,⟨hκ,Pl.2⟩,hp,⟨eh▸g5,eh▸g3,eh▸g4,⟨_,eh▸g1,rfl,rfl⟩,⟨_,eh▸g2,rfl,rfl⟩⟩,⟨hl,n.wk.imm im,VL.nx hx n⟩,⟨hl',n.wk.imm im',VL.nx hx' n⟩⟩)⟩⟩
end
theorem eP{A:UG}{E:Value->UE->Prop}{a:Addr}{xs:Array Value}{k:Nat}{name:Str}{u:Tok}{h:Heap}{g:Array GenState}{d:Drawn}{tk:Nat}{os:OsState}{Q:Value->UE->Prop}
  (hx:h.get? a=some (bV xs k)) (hmiss:typeLookup (.type "tuple") name=pure none) (hname:(["__module__","__name__","__qualname__","__doc__","__annotations__"]:List Str).contains name=false) (hA:A.handled=none)
  (hE:∀ h' tk e,Heap.NewExcOf h h' e "AttributeError"->E (.ref e) ⟨h',g,d,tk,os⟩) (hsz:name.length+100<=sizeLine) :
  wpAny M0 A (getAttrBy (.ref a) (.str name u) false) Q E ⟨h,g,d,tk,os⟩:=by
 have hT:∀ tk',(⟨h,g,d,tk',os⟩:UE).TypeIs (.ref a) "tuple":=fun _=>⟨_,hx,rfl⟩;have f1:=sub_AttributeError;have f3:=PySem.F.slot_tuple_getattribute.lookup;have f4:=PySem.F.slot_tuple_getattribute.bind (.ref a);have f5:=am_tuple_getattr_none;unfold getAttrBy
 repeat (any_goals (first | assumption | exact hT _ | ((with_reducible show wpAny _ _ (call (Value.builtin "tuple.__getattribute__") _ _) _ _ _);refine call_meets PySem.F.slot_tuple_getattribute (hT _) am_entry_tuple_getattribute (PySem.F.args_tuple_getattribute_2 _ _) (meets_getattribute_miss_tuple a xs k #[] name _ hmiss hname hsz) ⟨hx,hA,fun h' tk' e hx'=>?_⟩) | wp_step))
 obtain⟨t',u',he⟩:=hx'.there;show wpAny _ _ (getattributeRaised _ _ _ _ _ _ _) _ _ _;unfold getattributeRaised
 repeat (any_goals (first | assumption | wp_step))
 exact hE _ _ _ hx'.of
theorem lc:typeLookup (.type "tuple") "keys"=pure none:=by rw[typeLookup_type,builtinLookup_eq_fast];kernel_rfl
theorem q8{A:UG}{E:Value->UE->Prop}{s:UE}{a:Addr}{xs:Array Value}{k:Nat}{Q:Option Value->UE->Prop}(hx:s.heap.get? a=some (bV xs k))(hA:A.handled=none)
  (h:∀ h' tk,(∀ b o,s.heap.get? b=some o->h'.get? b=some o)->Q none { s with heap:=h',toks:=tk }):wpAny M0 A (getAttr? (.ref a) "keys") Q E s:=by
 obtain⟨hp,g,d,tk,os⟩:=s;unfold getAttr? getAttrBy? mkText;refine Sv (Sv (wpAny_fresh (Sw (Sv (wpAny_attempt ?_)))));refine eP hx lc (by decide +kernel) hA (fun h' tk' e x=>?_) (by rw[sizeLine_eq];decide +kernel)
 obtain⟨ob,vs,h1,h2,_⟩:=x.there;refine Sv (wpAny_isInstance (T:="AttributeError") (b:=true) ⟨ob,h1,h2⟩ sub_AttributeError ?_);exact Sw (h h' tk' x.keeps)
section
variable{c:Cc}{A:UG}{env:Env}{U:En}{Y Y' Y1:St}{p:Pt Y}{Er:Value->UE->Prop}{s:UE}{v u:AV}{vs:List AV}{w:Value}{es:List (AV×AV)}{ds:Array UH}{m:Nat}
theorem DE.sym{x:Hp}{e:AV×AV}{d:UH}(h:DE x e d)(hs:e.1.isSym=true):(keyPart d.key).isSome=true:=by
 obtain⟨k,v⟩:=e
 cases k with
 | sym i=>exact h.key.2.elim fun t q=>by rw[q];rfl
 | _=>cases hs
theorem CO{x:Hp}(hd:ah (DE x) es ds.toList)(hs:es.all (fun e=>e.1.isSym)=true):(ds.all fun e=>(keyPart e.key).isSome)=true:=by
 rw[<- Array.all_toList];exact ah.ind (P:=fun(es:List (AV×AV)) (ds:List UH)=>es.all (fun e=>e.1.isSym)=true->ds.all (fun e=>(keyPart e.key).isSome)=true) (fun _=>rfl) (fun h _ ih q=>SL.mpr ⟨h.sym (SL.mp q).1,ih (SL.mp q).2⟩) hd hs
theorem xw(nd:(es.map (·.1)).Nodup){i:Nat}{e:AV×AV}(h:es[i]?=some e):e.1∉(es.take i).map (·.1):=fun hm=>by
 obtain⟨j,hj⟩:=T5.mp hm;rw[List.map_take] at hj;have hlt:j<i:=Tz (SJ.mp hj).1 (List.length_take_le _ _);rw[List.getElem?_take_of_lt hlt] at hj;have h1:(es.map (·.1))[i]?=some e.1:=by rw[Tv,h];rfl
 exact SH ((List.getElem?_inj (SJ.mp h1).1 nd).mp (h1.trans hj.symm)) (T0 hlt)
theorem qe{o:AO}:(Y++[o])[Y.length]?=some o:=UA
structure MI{τ:St}(p:Pt τ)(Y:St)(es:List (AV×AV))(ds:Array UH)(m:Nat)(b:Addr)(rest:List Nat)(s:UE):Prop where
 ex:∃(i:Nat) (q:Pt (Y++[.dict (es.take i)])),s=q.s/\Nx [] p q/\rest=List.range' i (ds.size-i)/\i<=ds.size/\q.s.heap.get? b=some (bS ds m)
theorem rL{x i n:Nat}{rest:List Nat}(h:x::rest=List.range' i (n-i)):i<n/\x=i/\rest=List.range' (i+1) (n-(i+1)):=by
 have hlt:i<n:=Nat.lt_of_not_le fun g=>by rw[Nat.sub_eq_zero_of_le g] at h;exact nomatch h
 rw[show n-i=(n-(i+1))+1 from(Ur (Nat.sub_pos_of_lt hlt)).symm,List.range'_succ] at h;exact⟨hlt,(List.cons.inj h).1,(List.cons.inj h).2⟩
theorem pZ{a b:Addr}{nm:String}{p:Pt (Y++[.dict []])}(nd:(es.map (·.1)).Nodup)(h8:es.length<=8)(hs:es.all (fun e=>e.1.isSym)=true)(hu:A.units+6<cLine)(hab:b≠a)(hp:p.ι[Y.length]?=some (a,a))(hb:p.s.heap.get? b=some (bS ds m))(hd:ah (DE p.x) es ds.toList)
  (hsys:(b==sysModules)=false):Ev (Y':=Y++[.dict es]) (fun _ (_:Unit)=>True) A p (Builtin.Dict.mergeDict nm a b):=⟨fun{E Q} g=>by
 unfold Builtin.Dict.mergeDict;rw[Sz (by rw[beq_eq_false_iff_ne.mpr (Ne.symm hab)];exact Tg)]
 unfold Builtin.Dict.showsAll;rw[Sz (by rw[hsys];exact Tg)]
 refine Sv (Sw (Sv (T4 hb rfl ?_)));dsimp only;have sz:=eX hd;rw[show(decide (ds.size<=8)&&ds.all fun e=>(keyPart e.key).isSome)=true from SL.mpr ⟨SM (sz▸h8),CO hd hs⟩,Sz (by decide)]
 refine Sv (T3 hb rfl (Sv (T4 hb rfl (Sv ?_))));rw[Std.Legacy.Range.forIn_eq_forIn_range'];simp only[Std.Legacy.Range.size,Nat.sub_zero,Nat.add_sub_cancel,Nat.div_one];refine wpAny_forIn_list _ (fun rest _=>MI p Y es ds m b rest) _ (fun x rest _ s' hI=>?_) (fun _ s' hI=>?_) _ _ ⟨0,p,rfl,.refl p,by rw[Nat.sub_zero],SZ _,hb⟩
 ·obtain⟨i,q,rfl,n,hr,hi,hbq⟩:=hI;obtain⟨hlt,rfl,hrest⟩:=rL hr;refine Sv (T4 hbq rfl ?_);rw[TL hlt];refine ah.get' (i:=x) (b:=ds[x]) hd (by rw[Ts];exact TL hlt) fun e h1 h2=>?_
  have h2:=h2.wk n.wk;show wpAny _ _ (holding [ds[x].key,ds[x].val] (dictSetHashed a ds[x].key ds[x].hash ds[x].val) >>= _) _ _ _;rw[h2.hash];have hd2:aT (es.take x) e.1 e.2=es.take (x+1):=by
   rw[cM (xw nd h1),List.take_add_one,h1];rfl
  refine Sv (S6 (q.dct (ir qe) fun a' ds' n' hp' hz' nd' ho hd'=>?_))
  cases(n.wk.get hp).symm.trans hp'
  have st:=uz q hp' hu ho hd' nd' h2.pur h2.key h2.val hz' (by rw[hd2];exact Sy (List.length_take_le' _ _) (Sy h8 (by decide)))
  rw[hd2,kh] at st;refine st.go fun q2 _ n2 hk=>?_;have hb2:=(hk b hab).trans hbq;refine Sv (T3 hb2 rfl ?_);rw[jB];exact Sw ⟨x+1,q2,rfl,n.trans n2,hrest,hlt,hb2⟩
 ·obtain⟨i,q,rfl,n,hr,hi,_⟩:=hI;have hin:i=ds.size:=(Nat.lt_or_eq_of_le hi).elim (fun h=>by rw[show ds.size-i=(ds.size-(i+1))+1 from(Ur (Nat.sub_pos_of_lt h)).symm,List.range'_succ] at hr;exact nomatch hr) id
  have e:es.take i=es:=List.take_of_length_le (by rw[hin,sz];exact SE _)
  revert q
  rw[e];exact fun q n _=>Sw (g q _ n trivial)⟩
theorem lM{r:Nat}{n:Nat}(R:cg A n)(rv:V (.ref r) p w)(hr:aM Y r=some es)(h8:es.length<=8)(hs:es.all (fun e=>e.1.isSym)=true):aQ A p (call (.type "dict") [w]) (.ref Y.length) (Y++[.dict es]):=
 rv.dctE hr (P:=fun w=>aQ A p (call (.type "dict") [w]) (.ref Y.length) (Y++[.dict es])) fun b ds m hpb hz nd ho hd=>⟨fun{E Q} g=>by
  refine callType_codes (Q₁:=fun obj s₁=>obj=.ref p.s.heap.objs.size/\s₁={ p.s with heap:=p.s.heap.push { cls:=.type "dict",data:=.dict #[] } }) PySem.F.kt_called_dict (PySem.F.kt_typeCall_dict_1 _) PySem.F.entry_dict_init (kt_code_dict_new _ ⟨rfl,rfl⟩) ?_;intro obj s₁ hh;obtain⟨rfl,rfl⟩:=hh;have hn:p.s.heap.get? p.s.heap.objs.size=none:=aV (SE _);have hab:b≠p.s.heap.objs.size:=fun e=>nomatch(e▸ho).symm.trans hn
  have hnew:=Tb p.s.heap (o:=bS #[] 0) rfl;have ho':=SW (bS #[] 0) ho;refine⟨⟨_,hnew,rfl⟩,PySem.F.args_dict_init_2 _ _,?_⟩;unfold Builtin.«dict.__init__»;refine Sv ?_;unfold Builtin.Dict.selfAndRest;refine Sv (Uu ⟨_,hnew,rfl⟩ ?_);show wpAny _ _ (pure (p.s.heap.objs.size,[Value.ref b])) _ _ _;refine Sw ?_;show wpAny _ _ (Builtin.Dict.updateFrom "dict.__init__" p.s.heap.objs.size (.ref b) [] .none) _ _ _;unfold Builtin.Dict.updateFrom;have hoT:({ p.s with heap:=p.s.heap.push { cls:=.type "dict",data:=.dict #[] } }:UE).TypeIs (.ref b) "dict":=⟨_,ho',rfl⟩;refine Sv (wpAny_typeOf hoT ?_);rw[Sz (by decide)]
  refine Sv ?_;unfold Builtin.Dict.merge;refine Sv ?_;unfold Builtin.Dict.readDirectly;refine Sv (wpAny_isInstance hoT isSubtype_dict_dict ?_);rw[Bool.not_true,Sz Tg];refine Sv (wpAny_specialOf hoT PySem.F.slot_dict_iter.lookup (Sw ?_));rw[SI (beq_self_eq_true _)];refine Sv (Sw (p.newOH (pr:=(p.s.heap.objs.size,p.s.heap.objs.size)) (o:=.dict []) hn (fun _ _ e=>SW _ e) (fun _=>⟨rfl,SZ _,T7,#[],0,hnew,.nil⟩) (fun q n hp e=>?_) ⟨_,hnew⟩));refine(pZ nd h8 hs (by show A.units+1+1+6<cLine;have:=R.six;exact Qe this) hab hp (e▸ho') (hd.mono (DE.wk n.wk)) (p.sysm hpb)).go fun q2 _ n2 _=>?_
  show wpAny _ _ (Builtin.Dict.addKeywords p.s.heap.objs.size [] >>= _) _ _ _;exact Sv (Sw (Sw ⟨rfl,g q2 _ (n.trans n2) ⟨_,n2.wk.get hp,rfl⟩⟩))⟩
end
theorem mL:entryFor table "dict.update.loop"=some Builtin.«dict.update.loop»:=entryFor_of_fast (by kernel_rfl)
theorem eY:plainId "dict.update.loop"=true:=by decide +kernel
section
variable{c:Cc}{A:UG}{env:Env}{U:En}{Y Y' Y1:St}{p:Pt Y}{Er:Value->UE->Prop}{s:UE}{v u:AV}{vs:List AV}{w:Value}
theorem vz{k d:AV}(h:yh v=some (k,d)):v=.tup [k,d]/\k.pur=true:=ae h fun l h1 h=>kQ h fun a b hl h=>cN h fun q e=>by
 cases e
 exact⟨hl▸aB h1,q⟩
theorem CN{α:Type}{l:List α}{x:α}{xs:List α}{i:Nat}(h:l.drop i=x::xs):l[i]?=some x/\l.drop (i+1)=xs:=⟨by rw[<- Nat.add_zero i,<- List.getElem?_drop,h];rfl,by rw[<- List.drop_drop,h];rfl⟩
theorem VL.two{ws:List Value}(h:VL [v,u] p ws):∃ w z,ws=[w,z]/\V v p w/\V u p z:=VL.twoE (P:=fun ws=>∃ w z,ws=[w,z]/\V v p w/\V u p z) h fun w z a b=>⟨w,z,rfl,a,b⟩
theorem VL.one{ws:List Value}(h:VL [v] p ws):∃ w,ws=[w]/\V v p w:=VL.oneE (P:=fun ws=>∃ w,ws=[w]/\V v p w) h fun w a=>⟨w,rfl,a⟩
theorem zz{it l a:Addr}{ws:Array Value}{n i:Nat}{acc:List (AV×AV)}{k d:AV}{p:Pt (Y++[.dict acc])}{w:Value}{R:Result->UE->Prop}(hu:A.units+12<cLine)(hp:p.ι[Y.length]?=some (a,a))(hit:it∈p.κ)(hi:p.s.heap.IsTupleIter it l i)(il:fE p.x l (bV ws n))(hw:ws[i]?=some w)
  (rp:V (.tup [k,d]) p w) (hk:k.pur=true) (hz:(aT acc k d).length<=ax) (g:∀ q:Pt (Y++[.dict (aT acc k d)]),Nx [it] p q->it∈q.κ->q.s.heap.IsTupleIter it l (i+1)->codeAny M0 A (.builtin "dict.update.loop" ⟨[.ref a,.ref it,rawInt ((i+1:Nat):Int),.none],[]⟩) R q.s) :
  codeAny M0 A (.builtin "dict.update.loop" ⟨[.ref a,.ref it,rawInt i,.none],[]⟩) R p.s:=
 rp.tupE (P:=fun w=>ws[i]?=some w->codeAny M0 A (.builtin "dict.update.loop" ⟨[.ref a,.ref it,rawInt i,.none],[]⟩) R p.s) (fun ta us tn _ it2 ru hw=>by
  have hus:us.toList.length=2:=ru.length.symm;refine codeAny_builtin mL ?_;rw[Around.under_plainId eY];unfold Builtin.«dict.update.loop»;refine Sv (wpAny_pyNext_tuple_item hi ⟨_,il.h,rfl,n,rfl⟩ hw fun h1 hit1 hs1=>?_);obtain⟨o1,ho1,hoc,hod⟩:=hit1;refine p.put hit hs1 ho1 fun q nq hq ho=>?_;have ht:q.s.heap.get? ta=some (bV us tn):=(nq.wk.imm it2).h;dsimp only;refine Sv (S6 (Sv (wpAny_tryCatch ?_)));unfold Builtin.Dict.pairItems;refine Sv (wpAny_typeOf (T:="tuple") ⟨_,ht,rfl⟩ ?_);rw[SI (by decide)]
  unfold seqItems?;refine Sv (Sv (wpAny_load ht (Sw (Sw ?_))));obtain⟨w1,w2,e,e1,e2⟩:=VL.two (VL.nx ru nq);rw[show((some us:Option (Array Value)).getD #[]).toList=[w1,w2] from e];refine S6 (q.dct (ir qe) fun a' ds' n' hp' hz' nd' ho' hd'=>?_)
  cases(nq.wk.get hp).symm.trans hp'
  have st:=sP (A:=A.in1) q hp' (by show A.units+1+6<cLine;exact OE hu) ho' hd' nd' hk e1 e2 hz' hz
  rw[kh] at st;refine st.go fun q2 _ n2 _=>Sw ⟨plainId_quiet eY _,?_⟩;have kp:=n2.kept hq;exact g q2 (nq.trans n2.weak) kp.1 ⟨o1,kp.2.trans ho,hoc,hod⟩) hw
theorem zC{es:List (AV×AV)}{k d:AV}(nd:(es.map (·.1)).Nodup):(aT es k d).length<=es.length+1:=On (k:=k) nd (fun h=>by rw[cM h,SP];exact SE _) fun i h=>by rw[gF nd h,List.length_modify];exact TS _
theorem zA{it l a:Addr}{ws:Array Value}{n:Nat}{R:Result->UE->Prop}(hu:A.units+12<cLine)(hh:A.handled=none){xs:List AV}:∀{ps acc:List (AV×AV)} {i:Nat} {p:Pt (Y++[.dict acc])},fb xs=some ps->p.ι[Y.length]?=some (a,a)->it∈p.κ->p.s.heap.IsTupleIter it l i->
  fE p.x l (bV ws n)->VL xs p (ws.toList.drop i)->acc.length+ps.length<=16->(acc.map (·.1)).Nodup->(∀ q:Pt (Y++[.dict (ps.foldl (fun es p=>aT es p.1 p.2) acc)]),Nx [it] p q->R (.ok (.ret .none)) q.s)->codeAny M0 A (.builtin "dict.update.loop" ⟨[.ref a,.ref it,rawInt i,.none],[]⟩) R p.s:=by
 induction xs with
 | nil=>
  refine @fun ps acc i p hps=>SQ hps▸fun hp hit hi il hx hz nd g=>codeAny_builtin mL ?_;rw[Around.under_plainId eY];unfold Builtin.«dict.update.loop»;refine Sv (wpAny_pyNext_tuple_end hh hi ⟨_,il.h,rfl,n,rfl⟩ (Uv (Nat.le_of_sub_eq_zero (List.length_drop.symm.trans hx.length.symm))) fun h' hk=>?_);show wpAny _ _ (Builtin.Dict.addKeywords a [] >>= _) _ _ _;exact Sv (Sw (Sw (p.moves hit hk g)))
 | cons x xs ih=>
  refine @fun ps acc i p hps=>ae hps fun kd h1 h=>aH h fun r h2 e=>e▸fun hp hit hi il hx hz nd g=>?_;have he:=vz (k:=kd.1) (d:=kd.2) h1;have hl:(aT acc kd.1 kd.2).length<=acc.length+1:=zC nd;have hz':acc.length+(r.length+1)<=16:=hz;generalize hws:ws.toList.drop i=wl at hx;refine hx.consE (P:=fun wl=>ws.toList.drop i=wl->_) (fun w wl rw' t hws=>?_) hws;have ad:=CN hws;exact zz hu hp hit hi il (Ts▸ad.1) (he.1▸rw') he.2 (Sy hl (Sy (Qd hz') (show 16<=ax by decide))) fun q nq hq hi2=>ih h2 (nq.wk.get hp) hq hi2 (nq.wk.imm il) (ad.2▸VL.nx t nq) (Qc hl hz') (eB nd) fun q2 n2=>g q2 (nq.trans n2)
theorem lL{n:Nat}{ps:List (AV×AV)}(R:cg A n)(rv:V (.tup vs) p w)(hps:fb vs=some ps)(h8:ps.length<=8):aQ A p (call (.type "dict") [w]) (.ref Y.length) (Y++[.dict (ps.foldl (fun es p=>aT es p.1 p.2) [])]):=
 rv.tupE (P:=fun w=>aQ A p (call (.type "dict") [w]) (.ref Y.length) (Y++[.dict (ps.foldl (fun es p=>aT es p.1 p.2) [])])) fun l ws m hl il hx=>⟨fun{E Q} g=>by
  refine callType_codes (Q₁:=fun obj s₁=>obj=.ref p.s.heap.objs.size/\s₁={ p.s with heap:=p.s.heap.push { cls:=.type "dict",data:=.dict #[] } }) PySem.F.kt_called_dict (PySem.F.kt_typeCall_dict_1 _) PySem.F.entry_dict_init (kt_code_dict_new _ ⟨rfl,rfl⟩) ?_;intro obj s₁ hh;obtain⟨rfl,rfl⟩:=hh;have hnew:=Tb p.s.heap (o:=bS #[] 0) rfl;refine⟨⟨_,hnew,rfl⟩,PySem.F.args_dict_init_2 _ _,?_⟩;unfold Builtin.«dict.__init__»;refine Sv ?_;unfold Builtin.Dict.selfAndRest;refine Sv (Uu ⟨_,hnew,rfl⟩ ?_);show wpAny _ _ (pure (p.s.heap.objs.size,[Value.ref l])) _ _ _;refine Sw ?_;refine p.newOH (pr:=(p.s.heap.objs.size,p.s.heap.objs.size)) (o:=.dict []) (aV (SE _)) (fun _ _ e=>SW _ e) (fun _=>⟨rfl,SZ _,T7,#[],0,hnew,.nil⟩) (fun q n hp _=>?_) ⟨_,hnew⟩;have il:=n.wk.imm il;show wpAny _ _ (Builtin.Dict.updateFrom "dict.__init__" p.s.heap.objs.size (.ref l) [] .none) _ _ _;unfold Builtin.Dict.updateFrom;refine Sv (wpAny_typeOf (T:="tuple") ⟨_,il.h,rfl⟩ ?_);rw[SI (by decide)]
  refine Sv (q8 il.h R.handled fun h2 t2 hk2=>q.more hk2 fun q2 n2 _ _=>?_);rw[SI (show(none:Option Value).isNone=true from rfl)];have il2:=n2.wk.imm il;refine Sv (TD (Sv (wpAny_pyIter_tuple ⟨_,il2.h,rfl,m,rfl⟩ (Sw ⟨plainId_quiet eY _,?_⟩))));refine q2.grow [q2.s.heap.objs.size] (fun _ _ e=>SW _ e) (fun a ha=>SO.mp ha▸⟨aV (SE _),_,Tb _ rfl⟩) (Th.mpr ⟨nofun,.nil⟩) fun q3 n3 eh hκ _=>?_
  have hκ:=hκ _ (.head _);refine zA (i:=0) (A:=A.in1) (by show A.units+1+12<cLine;have:=R.six;exact Qb this) R.handled hps ((n2.trans n3).wk.get hp) hκ.1 ⟨_,eh▸Tb _ rfl,rfl,rfl⟩ (n3.wk.imm il2) (VL.nx hx (n.trans (n2.trans n3))) (by show 0+ps.length<=16;exact Qa h8) T7 fun q4 n4=>?_
  have n5:Nx [] q2 q4:=(n3.weak.trans n4).more fun b hb hq=>SH (SO.mp hb▸hq) hκ.2;exact⟨rfl,g q4 _ (n.trans (n2.trans n5)) ⟨_,(n2.trans n5).wk.get hp,rfl⟩⟩⟩
end
section
variable{A:UG}{E:Value->UE->Prop}
theorem xI{S it l:Addr}{items:Array Value}(Inv:Nat->Heap->Prop)(hSl:S≠l)(hSi:S≠it)(hli:l≠it)(hh:A.handled=none)
  (step:∀ i v s (Q:Bool->UE->Prop),items[i]?=some v->Inv i s.heap->(∀ b h' t,Inv (i+1) h'->Heap.SameBut S s.heap h'->Q b { s with heap:=h',toks:=t })->wpAny M0 A.in1 (setAdd S v) Q (fun _ _=>False) s)
  (keep:∀ i h h',Inv i h->Heap.ExtBut it h h'->Inv i h') :
  ∀(k i:Nat) (s:UE) (R:Result->UE->Prop),items.size-i=k->i<=items.size->s.heap.IsListIter it l i->s.heap.IsList l items->Inv i s.heap->
   (∀ h' t,Inv items.size h'->(∀ b o,b≠S->b≠it->s.heap.get? b=some o->h'.get? b=some o)->R (.ok (.ret .none)) { s with heap:=h',toks:=t })->
   codeAny M0 A (.builtin "set.update.loop" ⟨[.ref S,.ref it],[]⟩) R s:=by
 intro k
 induction k with
 | zero=>
  intro i s R hk hi hit hl hI hR;have hin:i=items.size:=TH hi (Nat.le_of_sub_eq_zero hk);subst hin;refine codeAny_builtin PyProof.Rows.F.entry_set_update_loop ?_;rw[Around.under_plainId PyProof.Rows.F.plain_set_update_loop _];show wpAny _ A.in1 (pyNext (.ref it) >>= _) _ _ s;refine Sv (wpAny_pyNext_list_end hh hit hl (by simp) fun h' hk'=>?_)
  show wpAny _ A.in1 (PySem.ret Value.none) _ _ _;exact Sw (hR h' s.toks (keep _ _ _ hI hk') fun b o _ hb e=>hk' b o hb e)
 | succ k ih=>
  intro i s R hk hi hit hl hI hR;have hlt:i<items.size:=Nat.lt_of_sub_eq_succ hk;refine codeAny_builtin PyProof.Rows.F.entry_set_update_loop ?_;rw[Around.under_plainId PyProof.Rows.F.plain_set_update_loop _];show wpAny _ A.in1 (pyNext (.ref it) >>= _) _ _ s;have hx:items[i]?=some items[i]:=TL hlt;refine Sv (wpAny_pyNext_list_item hit hl hx fun h' hit' hs'=>?_);show wpAny _ A.in1 (holding [items[i]] (setAdd S items[i]) >>= _) _ _ _;have hI':=keep i _ _ hI hs'.extBut;refine Sv (S6 (Tx (step i _ { s with heap:=h' } _ hx hI' fun b h'' t hI'' hs''=>?_) (fun _ _ z=>z) fun _ _ z=>z.elim));refine Sw ⟨plainId_quiet PyProof.Rows.F.plain_set_update_loop _,ih (i+1) { s with heap:=h'',toks:=t } R (Sx Nat.pred hk) hlt ?_ ?_ hI'' fun h3 t3 hI3 hk3=>?_⟩
  ·exact hit'.extBut hs''.extBut hSi.symm
  ·exact(hl.extBut hs'.extBut hli).extBut hs''.extBut hSl.symm
  ·exact hR h3 t3 hI3 fun b o h1 h2 e=>hk3 b o h1 h2 ((hs''.2 b h1).trans ((hs'.2 b h2).trans e))
theorem pA{s:UE}(a:Value){Q₁:Value->UE->Prop}
  (h:Q₁ (.ref s.heap.objs.size) { s with heap:=s.heap.push { cls:=.type "set",dict:=none,data:=.set #[] 0 (.fresh 0 0 (!kA)) } }) :
  codeAny M0 A (.call (.builtin "set.__new__") ⟨[.type "set",a],[]⟩) (wants Q₁ E) s:=by
 refine codeAny_of_tree ?_;show wpAny _ A.in1 (checkBuiltinCall "set.__new__" ⟨[.type "set",a],[]⟩ >>= fun _=>again (.builtin "set.__new__" ⟨[.type "set",a],[]⟩)) _ _ s;refine Sv (wpAny_of_eq (PySem.F.newCall_set_1 a) (Sw ⟨plainId_quiet PySem.F.plain_set_new _,codeAny_builtin PySem.F.entry_set_new ?_⟩));rw[Around.under_plainId PySem.F.plain_set_new _];unfold Builtin.«set.__new__» Builtin.Frozenset.newClass;have hsub:=sub_set_self;obtain⟨hp,g,d,tk,os⟩:=s;dsimp only
 wp_walk
 refine wpAny_askSetting (Sw ?_);dsimp only;simp only[newObj];refine Sv (wpAny_alloc (Sw ?_));exact Sw h
def FV(A:UG)(s:UE)(E:Value->UE->Prop)(l:Addr)(items:Array Value)(Q:Value->UE->Prop)(Inv:Nat->Heap->Prop):Prop:=∀(hh:A.handled=none) (hl:s.heap.IsList l items) (init:∀(h':Heap),h'.get? s.heap.objs.size=some { cls:=.type "set",dict:=none,data:=.set #[] 0 (.fresh 0 0 (!kA)) }->(∀ b o,s.heap.get? b=some o->h'.get? b=some o)->Inv 0 h') (step:∀ i v s₁ (Q:Bool->UE->Prop),items[i]?=some v->Inv i s₁.heap->(∀ b h' t,Inv (i+1) h'->Heap.SameBut s.heap.objs.size s₁.heap h'->Q b { s₁ with heap:=h',toks:=t })->wpAny M0 A.in1.in1.in1 (setAdd s.heap.objs.size v) Q (fun _ _=>False) s₁) (keep:∀ i h h' it,s.heap.get? it=none->it≠s.heap.objs.size->Inv i h->Heap.ExtBut it h h'->Inv i h') (h:∀ h' tk,Inv items.size h'->(∀ b o,s.heap.get? b=some o->h'.get? b=some o)->Q (.ref s.heap.objs.size) { s with heap:=h',toks:=tk }),wpAny M0 A (call (.type "set") [.ref l]) Q E s
def JS(a:UG×UE×(Value->UE->Prop)×Addr×Array Value×(Value->UE->Prop)×(Nat->Heap->Prop)):Prop:=FV a.1 a.2.1 a.2.2.1 a.2.2.2.1 a.2.2.2.2.1 a.2.2.2.2.2.1 a.2.2.2.2.2.2
noncomputable def sU:=lK ({},{},default) JS
noncomputable def PC:=sU.1
noncomputable def lJ:=sU.2.1
noncomputable def N8:=sU.2.2.1
noncomputable def Cr:=sU.2.2.2.1
noncomputable def fi:=sU.2.2.2.2.1
noncomputable def R9:=sU.2.2.2.2.2.1
noncomputable def zJ:=sU.2.2.2.2.2.2
theorem N9:FV PC lJ N8 Cr fi R9 zJ:=fun hh hl init step keep h=>by
 obtain⟨c,tl,hmro⟩:=PySem.F.called_set.mro;have hmade:=PySem.F.called_set.made;have hsub:=PySem.F.called_set.sub;refine wpAny_call (codeAny_of_tree ?_);show wpAny _ _ (callAny (.type "set") _) _ _ _;refine Sw ⟨Code.quiet_builtin _ (by decide +kernel),codeAny_builtin PySem.F.entry_type_call ?_⟩
 rw[Around.under_plain (weight_type_call_type "set" [.ref Cr] []) rfl];have h1:=PySem.F.called_set.notType;have h2:=PySem.F.called_set.canCreate;have hct:=PySem.F.typeCall_set_1 (.ref Cr)
 repeat (any_goals (first | assumption | wp_step))
 refine codeAny_mono (pA (.ref Cr) (E:=N8) (Q₁:=fun obj s₁=>∃ led:Bool,led=(!kA)/\obj=.ref lJ.heap.objs.size/\s₁={ lJ with heap:=lJ.heap.push { cls:=.type "set",dict:=none,data:=.set #[] 0 (.fresh 0 0 led) } }) ⟨_,rfl,rfl,rfl⟩) fun r s₁ hr=>?_
 cases r with
 | error e=>exact hr
 | ok fl=>
  cases fl with
  | ret obj=>
   obtain⟨led,hled,rfl,rfl⟩:=hr;have hS:(lJ.heap.push { cls:=.type "set",dict:=none,data:=.set #[] 0 (.fresh 0 0 led) }).get? lJ.heap.objs.size=some { cls:=.type "set",dict:=none,data:=.set #[] 0 (.fresh 0 0 led) }:=Tb _ rfl;have hT:Shared.TypeIs { lJ with heap:=lJ.heap.push { cls:=.type "set",dict:=none,data:=.set #[] 0 (.fresh 0 0 led) } } (.ref lJ.heap.objs.size) "set":=⟨_,hS,rfl⟩;have hli:=PySem.F.called_set.init.lookup;have hbi:=PySem.F.called_set.init.bind (.ref lJ.heap.objs.size)
   repeat (any_goals (first | assumption | wp_step))
   refine codeAny_mono (codeAny_call_builtin (R:=wants (fun r s₂=>r=.none/\∃ h' tk,s₂={ lJ with heap:=h',toks:=tk }/\zJ fi.size h'/\(∀ b o,lJ.heap.get? b=some o->h'.get? b=some o)) N8) PySem.F.called_set.init.plain PySem.F.entry_set_init (check_set_init_1 hT ?_)) fun r₂ s₂ hr₂=>?_
   ·obtain⟨ol,hol,hcl,nl,hdl⟩:=hl;obtain⟨ocls,odict,odata,oslots⟩:=ol;simp only at hcl hdl;subst hcl;subst hdl;have hol':(lJ.heap.push { cls:=.type "set",dict:=none,data:=.set #[] 0 (.fresh 0 0 led) }).get? Cr=some { cls:=.type "list",dict:=odict,data:=.seq fi nl,slots:=oslots }:=SW _ hol;have hsls:=PySem.F.sub_list_set;have hslf:=PySem.F.sub_list_frozenset;have hne:(Value.type "list"==Value.type "dict")=false:=by decide
    have hl1:(lJ.heap.push { cls:=.type "set",dict:=none,data:=.set #[] 0 (.fresh 0 0 led) }).IsList Cr fi:=⟨_,hol',rfl,nl,rfl⟩;unfold Builtin.«set.__init__» noKeywords Builtin.Frozenset.updateFrom;generalize hPI:pyIter=PI
    wp_walk
    subst hPI;refine wpAny_pyIter_list hl1 ?_;refine Sv (wpAny_runValue ?_);have hlS:Cr<lJ.heap.objs.size:=Tt hol;have hpz:(lJ.heap.push { cls:=.type "set",dict:=none,data:=.set #[] 0 (.fresh 0 0 led) }).objs.size=lJ.heap.objs.size+1:=Ue ..;refine xI (A:=PC.in1.in1) (items:=fi) (S:=lJ.heap.objs.size) (l:=Cr) (it:=(lJ.heap.push { cls:=.type "set",dict:=none,data:=.set #[] 0 (.fresh 0 0 led) }).objs.size) zJ (T0 hlS) (by rw[hpz];exact S7 (T8 _)) (by rw[hpz];exact S7 (TC hlS)) hh
     (fun i v s₁ Q' hv hI hq=>step i v s₁ Q' hv hI hq) (fun i h h' hI hx=>keep i h h' _ (by rw[hpz];exact aV (TS _)) (by rw[hpz];exact T0 (T8 _)) hI hx)
     (fi.size-0) 0 { lJ with heap:=(lJ.heap.push { cls:=.type "set",dict:=none,data:=.set #[] 0 (.fresh 0 0 led) }).push { cls:=.type "list_iterator",data:=.fields #[.ref Cr,.int 0 0] } } _ rfl (SZ _) ⟨_,Tb _ rfl,rfl,rfl⟩ (hl1.push _) (by exact init _ (by rw[<- hled];exact SW _ hS) fun b o e=>SW _ (SW _ e)) fun h' t' hI' hk'=>?_
    refine Sw ?_;show wpAny _ _ (PySem.ret Value.none) _ _ _;refine Sw ⟨rfl,h',t',rfl,hI',fun b o e=>?_⟩;have hb:=Tt e;exact hk' b o (S7 hb) (by rw[hpz];exact S7 (TC hb)) (SW _ (SW _ e))
   ·cases r₂ with
    | error e=>exact hr₂
    | ok fl₂=>
     cases fl₂ with
     | ret r=>
      obtain⟨rfl,h',tk,rfl,hS',hk'⟩:=hr₂
      repeat (any_goals (first | assumption | wp_step))
      exact h _ _ hS' hk'
     | _=>exact hr₂.elim
  | _=>exact hr.elim
theorem oo{l:Addr}{items:Array Value}{s:UE}{Q:Value->UE->Prop}(Inv:Nat->Heap->Prop):FV A s E l items Q Inv:=bE JS N9 (A,s,E,l,items,Q,Inv)
end
theorem kG(a j:Nat):SetTable.below #[a] j=if a<j then 1 else 0:=by
 unfold SetTable.below;show SetTable.below.go #[a] j 1 0 1=_;unfold SetTable.below.go;simp only[Nat.zero_lt_one,↓reduceIte,Nat.reduceDiv,Nat.zero_add,Array.getD]
 by_cases h:a<j
 ·simp[h,SetTable.below.go]
 ·simp[h,SetTable.below.go]
structure oD(t:UI):Prop where
 dum:t.dummies=#[]
 mask:7<=t.mask
 rise:∀ x y,t.place=#[x,y]->x<y
theorem BZ(j:Nat):SetTable.insertAt #[] (SetTable.below #[] j) j=#[j]:=rfl
theorem BY(c j:Nat):SetTable.insertAt #[c] (SetTable.below #[c] j) j=if c<j then #[c,j] else #[j,c]:=by
 rw[kG]
 split<;>rfl
theorem iO{pl:Array Nat}{j:Nat}(hz:pl.size<=1)(hj:∀ c,pl=#[c]->j≠c):∀ x y,SetTable.insertAt pl (SetTable.below pl j) j=#[x,y]->x<y:=by
 intro x y h
 match pl,hz with
 | ⟨[]⟩,_=>rw[show(⟨[]⟩:Array Nat)=#[] from rfl,BZ] at h;exact SH (Sx Array.size h) (by simp)
 | ⟨[c]⟩,_=>
  have hc:=hj c rfl;rw[show(⟨[c]⟩:Array Nat)=#[c] from rfl,BY] at h
  split at h
  ·have:=Sx Array.toList h;simp at this;exact P9 ‹_› this
  ·have:=Sx Array.toList h;simp at this;exact P8 hc ‹_› this
 | ⟨_::_::_⟩,hz=>simp at hz
theorem gj{t:UI}(n:Nat)(hn:n<=2):oD (t.standIn (n+1))/\(t.standIn (n+1)).led=t.led:=by
 refine⟨⟨rfl,by show 7<=4*(n+1)+4;exact P7,fun x y h=>?_⟩,rfl⟩
 have h':Array.range (n+1)=#[x,y]:=h;have:=Sx Array.toList h';rw[Array.toList_range] at this;have hn:n=1:=by have:=Sx List.length this;simpa using this
 subst hn;simp[List.range_succ] at this;exact P6 this
theorem FH{t:UI}{f:Nat->Int}{h:Int}{n:Nat}{p:SetTable.Probe}(hs:t.slot p.j=.empty):SetTable.probe.go t f h (n+1) p=some (.empty p.j p.dummy):=by rw[SetTable.probe.go,hs]
theorem JG{t:UI}{f:Nat->Int}{h:Int}{n i:Nat}{p:SetTable.Probe}(hs:t.slot p.j=.live i):SetTable.probe.go t f h (n+1) p=if(f i==h)=true then some (.candidate p.j i (t.advance p)) else SetTable.probe.go t f h n (t.advance p):=by rw[SetTable.probe.go,hs]
theorem A1{t:UI}(hd:t.dummies=#[]){j:Nat}:t.slot j≠.dummy:=fun e=>by
 rw[SetTable.slot,hd] at e;exact(Tl ((t.place[SetTable.below t.place j]?==some j)=true)).elim (fun q=>nomatch(SI q).symm.trans e) fun q=>nomatch(Sz q).symm.trans e
theorem Kd{t:UI}{p:SetTable.Probe}:(t.advance p).dummy=p.dummy:=by
 unfold SetTable.advance;exact(Tl (p.more > 0)).elim (fun q=>by rw[SI q]) fun q=>by rw[Sz q]
theorem pE{t:UI}(hd:t.dummies=#[]){f:Nat->Int}{h:Int}(fuel:Nat):∀(p:SetTable.Probe) {j:Nat} {d:Option Nat},p.dummy=none->SetTable.probe.go t f h fuel p=some (.empty j d)->t.slot j=.empty/\d=none:=by
 induction fuel with
 | zero=>exact @fun _ _ _ _ e=>bY e
 | succ fuel ih=>
  refine @fun p j d hp e=>?_
  cases hs:t.slot p.j with
  | empty=>
   have g:SetTable.Met.empty p.j p.dummy=.empty j d:=SQ ((FH hs).symm.trans e)
   cases g
   exact⟨hs,hp⟩
  | dummy=>exact SH hs (A1 hd)
  | live i=>
   have e:=(JG hs).symm.trans e;exact(Tl ((f i==h)=true)).elim (fun q=>nomatch SQ ((SI q).symm.trans e)) fun q=>ih _ (Kd.trans hp) ((Sz q).symm.trans e)
theorem lm{t:UI}{c j:Nat}(hp:t.place=#[c])(h:t.slot j=.empty):j≠c:=by
 rintro rfl
 unfold SetTable.slot at h;rw[hp] at h;simp only[kG,Nat.lt_irrefl,if_false] at h;simp at h
theorem qd{t:UI}(es:Array (Int×Value))(h:Int)(x:Value)(T:oD t)(hf:t.fits es.size=true)(hz:es.size<=1):oD (layNew t es h x).2.1/\(layNew t es h x).2.1.led=t.led:=by
 have hpz:t.place.size=es.size:=by simp only[SetTable.fits,Bool.and_eq_true,beq_iff_eq] at hf;exact hf.1
 unfold layNew
 split
 ·rename_i slot wd he;unfold SetTable.freeSlot at he
  split at he
  ·rename_i j d hp;obtain⟨h1,rfl⟩:=pE T.dum _ _ rfl hp;simp at he;obtain⟨rfl,rfl⟩:=he;have hez:(SetTable.insertAt es (t.put j).2 (h,x)).size=es.size+1:=by rw[<- Uf,(SetTable.insertAt_perm es _ (h,x)).length_eq];simp
   have main:oD (t.put j).1/\(t.put j).1.led=t.led:=by
    refine⟨⟨?_,T.mask,?_⟩,rfl⟩
    ·show(if SetTable.has t.dummies j=true then _ else t.dummies)=#[]
     rw[T.dum];rfl
    ·exact iO (OD hz hpz) fun c hc=>lm hc h1
   dsimp only;unfold SetTable.orStandIn
   split
   ·exact main
   ·rw[hez];have:=gj (t:=(t.put j).1) es.size (Sy hz (by decide))
    exact⟨this.1,this.2.trans main.2⟩
  ·cases he
 ·exact gj es.size (Sy hz (by decide))
theorem l8{t:UI}(T:oD t)(hn:t.place.size<=2):t.tooFull=false:=by
 have:=T.mask;simp only[SetTable.tooFull,SetTable.fill,T.dum,Array.size_empty,decide_eq_false_iff_not];exact Nat.not_le_of_gt (Tc (Nat.mul_le_mul_right 5 hn) (Tz (by decide:2*5<7*3) (Nat.mul_le_mul_right 3 this)))
theorem cL{t:UI}{n:Nat}(h:t.fits n=true):t.place.size=n:=by
 simp only[SetTable.fits,Bool.and_eq_true,beq_iff_eq] at h;exact h.1
def bQ(tp:Bool)(h:Heap)(a:Addr)(es:Array (Int×Value)):Prop:=
 ∃ ep t,h.get? a=some { cls:=.type "set",dict:=none,data:=.set es ep t }/\t.fits es.size=true/\(t.led=true\/kA=true)/\oD t/\es.size<=2/\(tp=true->t.mask=7/\∀ e,es=#[e]->t.place=#[SetTable.bits e.1%8])
section
variable{A:UG}{E:Value->UE->Prop}{s:UE}
theorem bQ.put{tp:Bool}{h:Heap}{a:Addr}{es es':Array (Int×Value)}{ep:Nat}{t t':UI}(ho:h.get? a=some { cls:=.type "set",dict:=none,data:=.set es ep t })(hf:t'.fits es'.size=true)(hl:t'.led=true\/kA=true)(hT:oD t')(hz:es'.size<=2)
  (ht:tp=true->t'.mask=7/\∀ e,es'=#[e]->t'.place=#[SetTable.bits e.1%8]):(h.update a (Obj.putSet es' t')).get? a=some { cls:=.type "set",dict:=none,data:=.set es' (ep+1) t' }/\bQ tp (h.update a (Obj.putSet es' t')) a es':=by
 have e:(h.update a (Obj.putSet es' t')).get? a=some { cls:=.type "set",dict:=none,data:=.set es' (ep+1) t' }:=Tw (Obj.putSet es' t') ho rfl;exact⟨e,_,_,e,hf,hl,hT,hz,ht⟩
theorem me{g:Bool->Sem Unit}{a:Addr}{es es1:Array (Int×Value)}{ep:Nat}{t t2:UI}{wasDummy:Bool}{R:Option Bool->UE->Prop}
  (ho:s.heap.get? a=some { cls:=.type "set",dict:=none,data:=.set es ep t }) (hz:es1.size<=2) (hf2:t2.fits es1.size=true) (hl2:t2.led=true\/kA=true) (hT:oD t2)
  (h:∀ h',Heap.SameBut a s.heap h'->bQ false h' a es1->R (some true) { s with heap:=h' }) :
  wpAny M0 A (storeSet a es1 t2 >>= fun _=>
    if(!wasDummy&&t2.tooFull)=true then
     g (relayAll t2 es1 (SetTable.grown es1.size)).2.2 >>= fun _=>storeSet a (relayAll t2 es1 (SetTable.grown es1.size)).1 (relayAll t2 es1 (SetTable.grown es1.size)).2.1 >>= fun _=>pure (some true)
    else pure (some true)) R E s:=by
 refine Sv (wpAny_storeSet_of ho rfl ?_ (by rw[sizeLine_eq];exact Sy hz (by decide)))
 rw[l8 hT (by rw[cL hf2];exact hz)]
 simp only[Bool.and_false,Bool.false_eq_true,if_false];exact Sw (h _ (Tm ..) (bQ.put (tp:=false) ho hf2 hl2 hT hz (fun e=>nomatch e)).2)
theorem kS{κ:Type}[DecidableEq κ]{knd:KeyKind PySem.Challenge.rw_rh0018_01.row.prog w0 κ}{a:Addr}{es:Array (Int×Value)}{k:κ}{x:Value}{Q:Bool->UE->Prop}(hkey:knd.is k x=true)(hsc:x.scannable=true)
  (hel:ElemsOf knd es.toList) (hz:es.size<=1) (hS:bQ false s.heap a es)
  (h1:es.toList.any (fun e=>knd.is k e.2)=true->∀ h',Heap.SameBut a s.heap h'->bQ false h' a es->Q false { s with heap:=h' })
  (h2:es.toList.any (fun e=>knd.is k e.2)=false->∀ h' es',Heap.SameBut a s.heap h'->es'.toList.Perm (es.toList++[(knd.hash k,x)])->bQ false h' a es'->Q true { s with heap:=h' }) :
  wpAny M0 A (setAddHashed a x (knd.hash k)) Q E s:=by
 obtain⟨ep,t,ho,hf,hl,hT,_,_⟩:=id hS;have hb:es.size<scanBound:=Tc hz (by decide)
 unfold setAddHashed setAddHashedIn;refine S6 (Sv (TY ho rfl hf ?_));dsimp only;rw[byScan_of hsc hb hel];simp only[↓reduceIte];unfold setAddByScan;refine Sv (Sv (TD (Sv (wpAny_setScan_of hkey ho rfl hf hel ?_))))
 cases hr:List.findIdx? (fun e=>knd.is k e.2) es.toList with
 | some j=>
  dsimp only;obtain⟨hj,hpj,_⟩:=List.findIdx?_eq_some_iff_getElem.mp hr;exact Sw (Sw (h1 (List.any_eq_true.mpr ⟨_,List.getElem_mem hj,hpj⟩) s.heap (Heap.SameBut.refl a s.heap) hS))
 | none=>
  dsimp only;have hn:es.toList.any (fun e=>knd.is k e.2)=false:=by
   cases hb:es.toList.any (fun e=>knd.is k e.2) with
   | false=>rfl
   | true=>obtain⟨e,he,hp⟩:=List.any_eq_true.mp hb;have:=List.findIdx?_eq_none_iff.mp hr e he;rw[hp] at this;cases this
  have KA:∀(b:Bool) {s₁:UE} {Q':Unit->UE->Prop},Q' () s₁->wpAny M0 A (match b with | true=>rule "set.scan.the-table-gave-way" | false=>pure ()) Q' E s₁:=
   fun b s₁ Q' hq=>by cases b<;>first | exact Sw hq | exact TD hq
  have hperm:=layNew_perm t es (knd.hash k) x;have hfits:=layNew_fits t es (knd.hash k) x;obtain⟨htidy,hled⟩:=qd es (knd.hash k) x hT hf hz;generalize hL:layNew t es (knd.hash k) x=L at hperm hfits hled htidy ⊢;obtain⟨es1,t1,wasDummy,gave⟩:=L;dsimp only at hperm hfits hled htidy ⊢;rw[Um] at hperm;have hb1:es1.size<=2:=by
   rw[<- Uf,hperm.length_eq,SP,Uf];simp only[List.length_cons,List.length_nil];exact P5 hz
  have hl1:t1.led=true\/kA=true:=by rw[hled];exact hl
  refine Sv (KA _ ?_);refine Tr (fun _=>?_) (fun _=>?_)
  ·refine Sv ?_;rw[hashByValue_scannable 8 hsc];refine Sw ?_;refine me ho hb1 ?_ ?_ ?_ fun h' hs hS'=>?_
   ·split
    ·exact hfits
    ·exact SetTable.fits_plain_off hfits
   ·split<;>exact hl1
   ·split
    ·exact htidy
    ·exact⟨htidy.dum,htidy.mask,htidy.rise⟩
   ·exact Sw (h2 hn h' es1 hs hperm hS')
  ·refine Sv (Sw ?_);simp only[↓reduceIte];exact me ho hb1 hfits hl1 htidy fun h' hs hS'=>Sw (h2 hn h' es1 hs hperm hS')
end
noncomputable abbrev pr(i q:Nat):SetTable.Probe:={ j:=i,more:=0,i:=i,perturb:=q,dummy:=none }
noncomputable abbrev G7(i q:Nat):Nat:=(i*5+1+q / 32)%8
structure uK(t:UI)(pl:Array Nat):Prop where
 mask:t.mask=7
 dum:t.dummies=#[]
 place:t.place=pl
theorem HQ{t:UI}(T:uK t #[])(j:Nat):t.slot j=.empty:=by
 obtain⟨m,p,d,f,l,mv,pl⟩:=t;obtain⟨rfl,rfl,rfl⟩:=T;rfl
theorem pq{t:UI}{a:Nat}(T:uK t #[a])(j:Nat):t.slot j=if a=j then .live 0 else .empty:=by
 obtain⟨m,p,d,f,l,mv,pl⟩:=t;obtain⟨rfl,rfl,rfl⟩:=T;unfold SetTable.slot;dsimp only;rw[kG];have hd:SetTable.has #[] j=false:=rfl
 by_cases h:a=j
 ·subst h;rw[Sz (Ui _),SI rfl];simp
 ·rw[Sz h]
  by_cases hl:a<j
  ·rw[SI hl];simp[hd]
  ·rw[Sz hl];simp[hd,h]
theorem PO{t:UI}{pl:Array Nat}(T:uK t pl)(i q:Nat):t.advance (pr i q)=pr (G7 i q) (q / 32):=by
 unfold SetTable.advance SetTable.leap;simp only[Nat.lt_irrefl,↓reduceIte,T.mask,gt_iff_lt];have:SetTable.runEnd 7 ((i*5+1+q / 32)%8)-(i*5+1+q / 32)%8=0:=by
  unfold SetTable.runEnd;rw[Sz (Nat.not_le_of_gt (Tz (by decide:7<9) (Nat.le_add_left 9 _)))];exact Nat.sub_self _
 simp only[this]
theorem Kt{t:UI}{pl:Array Nat}(T:uK t pl)(h:Int):t.probeStart h=pr (SetTable.bits h%8) (SetTable.bits h):=by
 unfold SetTable.probeStart;simp only[T.mask];have:SetTable.runEnd 7 (SetTable.bits h%8)-SetTable.bits h%8=0:=by
  unfold SetTable.runEnd;rw[Sz (Nat.not_le_of_gt (Tz (by decide:7<9) (Nat.le_add_left 9 _)))];exact Nat.sub_self _
 simp only[Nat.reduceAdd,this]
theorem yt{i:Nat}(h:i<8):G7 i 0≠i:=(by decide:∀ i,i<8->(i*5+1+0 / 32)%8≠i) i h
theorem C9(i q:Nat):G7 i q<8:=Nat.mod_lt _ (by decide)
theorem uF(h:Int):SetTable.bits h<32^13:=by
 unfold SetTable.bits;have h1:(0:Int)<2^64:=by decide
 exact Tz ((Int.toNat_lt (Int.emod_nonneg h (by decide))).mpr (Int.emod_lt_of_pos h h1)) (by decide)
theorem EH{t:UI}(T:uK t #[])(f:Nat->Int)(h:Int):t.probe f h (t.probeStart h)=some (.empty (SetTable.bits h%8) none):=by
 rw[Kt T];unfold SetTable.probe;rw[T.mask];show SetTable.probe.go t f h (219+1) _=_;unfold SetTable.probe.go;rw[HQ T]
theorem B9{t:UI}{a:Nat}(T:uK t #[a]){f:Nat->Int}{h:Int}(hf:f 0≠h)(k i q fuel:Nat):q<32^k->i<8->k+2<=fuel->∃ j,j≠a/\SetTable.probe.go t f h fuel (pr i q)=some (.empty j none):=by
 induction fuel generalizing k i q with
 | zero=>exact fun _ _ hk=>SH hk P4
 | succ fuel ih=>
  refine fun hq hi hk=>(Tl (a=i)).elim (fun e=>?_) fun e=>⟨i,fun q=>e q.symm,FH ((pq T i).trans (Sz e))⟩;rw[JG ((pq T i).trans (SI e)),Sz fun q=>hf (eq_of_beq q),PO T]
  cases k with
  | zero=>
   have hg:fuel-1+1=fuel:=Ur (Nat.le_of_succ_le_succ hk);have hq:q=0:=Nat.eq_zero_of_le_zero (Nat.le_of_lt_succ hq);rw[hq,<- hg];exact⟨G7 i 0,fun q=>yt hi (q.trans e),FH ((pq T _).trans (Sz fun q=>yt hi (q.symm.trans e)))⟩
  | succ k=>exact ih k _ _ ((Nat.div_lt_iff_lt_mul (by decide)).mpr hq) (C9 ..) (P3 hk)
theorem rM{t:UI}{a:Nat}(T:uK t #[a]){f:Nat->Int}{h:Int}(hf:f 0≠h):∃ j,j≠a/\t.probe f h (t.probeStart h)=some (.empty j none):=by
 rw[Kt T];unfold SetTable.probe;rw[T.mask];exact B9 T hf 13 _ _ _ (uF h) (Nat.mod_lt _ (by decide)) (by decide)
theorem jW{t:UI}{a:Nat}(T:uK t #[a]){f:Nat->Int}{h:Int}(i q:Nat)(hf:f 0=h):t.probe f h (pr i q)=if a=i then some (.candidate i 0 (pr (G7 i q) (q / 32))) else some (.empty i none):=by
 unfold SetTable.probe;rw[T.mask];show SetTable.probe.go t f h (219+1) _=_;unfold SetTable.probe.go;rw[pq T]
 by_cases e:a=i
 ·rw[SI e,SI e];simp only[hf,beq_self_eq_true,if_true,PO T]
 ·rw[Sz e,Sz e]
theorem Bh{t:UI}{pl:Array Nat}(T:uK t pl)(j:Nat):(t.put j).2=SetTable.below pl j/\(t.put j).1.mask=7/\(t.put j).1.dummies=#[]/\(t.put j).1.place=SetTable.insertAt pl (SetTable.below pl j) j/\(t.put j).1.led=t.led:=by
 obtain⟨m,p,d,f,l,mv,pl⟩:=t;obtain⟨rfl,rfl,rfl⟩:=T;exact⟨rfl,rfl,rfl,rfl,rfl⟩
section
variable{x:Hp}{A:UG}{s:UE}{E:Value->UE->Prop}
def GU(x:Hp)(d:Nat)(w:Value):Prop:=∀{k:Nat} {A:UG} {s:UE} {Q:Bool->UE->Prop} {E:Value->UE->Prop},s.heap=x.h->d<=k->Q false s->wpAny M0 A (ofAClassStatement k w) Q E s
def Dz(x:Hp)(d:Nat)(ws:List Value):Prop:=∀{k:Nat} {A:UG} {s:UE} {Q:Option Bool×Unit->UE->Prop} {E:Value->UE->Prop},s.heap=x.h->d<=k->Q (none,()) s->
 wpAny M0 A (forIn ws (none,()) fun y (_:Option Bool×Unit)=>do
   let x <- ofAClassStatement k y
   if x=true then pure (ForInStep.done (some true,())) else pure (ForInStep.yield (none,()))) Q E s
theorem Bt{d:Nat}{a:Addr}{ws:Array Value}{n:Nat}(i:fE x a (bV ws n))(r:Dz x d ws.toList):GU x (d+1) (.ref a)
 | 0,_,_,_,_,_,hk,_=>SH hk (S0 _)
 | k+1,A,s,Q,E,hs,hk,h=>by
  have ho:s.heap.get? a=some (bV ws n):=hs▸i.h;have hT:s.TypeIs (.ref a) "tuple":=⟨_,ho,rfl⟩;unfold ofAClassStatement;refine Sv ?_;refine wpAny_typeOf hT ?_;refine Tr (fun _=>?_) fun hn=>SH (by decide) hn
  refine Sv (Sw (Tr (fun hn=>SH hn (by decide)) fun _=>?_))
  refine Sv (Ud ho rfl (Sv ?_));show wpAny _ _ (forIn ws _ _) _ _ s;rw[<- Array.forIn_toList];exact r hs (Nat.le_of_succ_le_succ hk) (Sw h)
theorem yo{d:Nat}{v:AV}{w:Value}:v.purD d=true->ao x v w->GU x d w:=
 bH (P:=fun d _ w=>GU x d w) (Ps:=fun d _ ws=>Dz x d ws) (fun{_ _ _} {k} {A s Q E} _ _ h=>by cases k<;>exact Sw h) (fun{_ _ _} _ {k} {A s Q E} _ _ h=>by cases k<;>exact Sw h) Bt
  (fun{_} {k} {A s Q E} _ _ h=>by rw[List.forIn_nil];exact Sw h)
  fun{_ _ _ _ _} r t {k} {A s Q E} hs hk h=>by
   rw[Uc];refine Sv (Sv (r hs hk ?_));rw[Sz Tg];exact Sw (t hs hk h)
def GW(x:Hp)(w:Value):Prop:=∀{k:Nat} {A:UG} {s:UE} {Q:Bool->UE->Prop} {E:Value->UE->Prop},s.heap=x.h->(∀ b,Q b s)->wpAny M0 A (hashByValue k w) Q E s
def DB(x:Hp)(ws:List Value):Prop:=∀{k:Nat} {A:UG} {s:UE} {Q:Option Bool×Unit->UE->Prop} {E:Value->UE->Prop},s.heap=x.h->Q (none,()) s->Q (some false,()) s->
 wpAny M0 A (forIn ws (none,()) fun y (_:Option Bool×Unit)=>do
   let x <- hashByValue k y
   if(!x)=true then pure (ForInStep.done (some false,())) else pure (ForInStep.yield (none,()))) Q E s
theorem B7{a:Addr}{ws:Array Value}{n:Nat}(i:fE x a (bV ws n))(r:DB x ws.toList):GW x (.ref a)
 | 0,_,_,_,_,_,h=>Sw (h _)
 | k+1,A,s,Q,E,hs,h=>by
  have ho:s.heap.get? a=some (bV ws n):=hs▸i.h;unfold hashByValue;refine Sv (wpAny_specialOf (T:="tuple") ⟨_,ho,rfl⟩ F.slot_tuple_hash.lookup ?_);refine Sv (Ud ho rfl (Sv ?_));show wpAny _ _ (forIn ws _ _) _ _ s;rw[<- Array.forIn_toList];exact r hs (Sw (h _)) (Sw (h _))
theorem FG{d:Nat}{v:AV}{w:Value}:v.purD d=true->ao x v w->GW x w:=
 bH (P:=fun _ _ w=>GW x w) (Ps:=fun _ _ ws=>DB x ws) (fun{_ _ _} {k} {A s Q E} _ h=>by cases k<;>exact Sw (h _)) (fun{_ _ _} _ {k} {A s Q E} _ h=>by cases k<;>exact Sw (h _)) B7
  (fun{_} {k} {A s Q E} _ h _=>by rw[List.forIn_nil];exact Sw h)
  fun{_ _ _ _ _} r t {k} {A s Q E} hs h h'=>by
   rw[Uc];refine Sv (Sv (r hs fun b=>?_))
   cases b with
   | true=>exact Sw (t hs h h')
   | false=>exact Sw (Sw h')
theorem wr{a b:AV}{v u:Value}{Q:Bool->UE->Prop}(hs:s.heap=x.h)(hu:A.units+6<cLine)(pa:a.pur=true)(pb:b.pur=true)(ra:ao x a v)(rb:ao x b u)(h:Q (decide (a=b)) s):wpAny M0 A (eqBool v u) Q E s:=
 (bo pa ra).rd.elim fun _ xa=>(bo pb rb).rd.elim fun _ xb=>SeqAt.eqBoolOverData _ _ _ _ _ _ _ _ _ _ _ _ (hs.symm▸xa) (hs.symm▸xb) (bo pa ra).lay (bo pb rb).lay (Tc (Tp (Sy (Uh _ _) (bo pa ra).dep) _) hu) (eQ pa ra pb rb▸h)
theorem A9{a b:AV}{v u:Value}{Q:Bool->UE->Prop}(hs:s.heap=x.h)(pa:a.pur=true)(pb:b.pur=true)(ra:ao x a v)(rb:ao x b u)(h:Q false s):wpAny M0 A (searchCouldBeSeen v [u]) Q E s:=by
 unfold searchCouldBeSeen;refine Sv ?_;rw[Uc];refine Sv (Tr (fun _=>Sw ?_) fun _=>?_)
 ·dsimp only;rw[List.forIn_nil];exact Sw (Sw h)
 ·refine Sv (gl pa ra hs (by decide) ?_)
  rw[Bool.not_true,Sz Tg];refine Sv (gl pb rb hs (by decide) ?_)
  rw[Bool.not_true,Sz Tg];refine Sv (yo pa ra hs (by decide) ?_)
  rw[Sz Tg];refine Sv (yo pb rb hs (by decide) ?_)
  rw[Sz Tg];refine Sw ?_;dsimp only;rw[List.forIn_nil];exact Sw (Sw h)
end
section
variable{z:Hp}{A:UG}{s:UE}{E:Value->UE->Prop}
theorem xy{t:UI}{n:Nat}(m:t.mask=7)(d:t.dummies=#[])(hn:t.place.size=n)(h7:n<=7):t.fits n=true:=by
 simp[SetTable.fits,SetTable.fill,m,d,hn];exact h7
theorem uv{t:UI}(m:t.mask=7):t.gaveWay=false:=by simp[SetTable.gaveWay,m]
theorem mT{a:Addr}{b:AV}{x:Value}{es:Array (Int×Value)}{j:Nat}{Q:Bool->UE->Prop}(hsz:s.heap=z.h)(pb:b.pur=true)(rb:ao z b x){ep:Nat}{t:UI}{pl:Array Nat}(T:uK t pl){H:Int}
  (ho:s.heap.get? a=some { cls:=.type "set",dict:=none,data:=.set es ep t }) (hf:t.fits es.size=true) (hl:t.led=true\/kA=true) (hz:es.size<=1) (hjn:∀ c,pl=#[c]->j≠c) (hj:∀ e,es.push (H,x)=#[e]->SetTable.insertAt pl (SetTable.below pl j) j=#[SetTable.bits e.1%8])
  (h:∀ h' es',Heap.SameBut a s.heap h'->es'.toList.Perm (es.toList++[(H,x)])->bQ true h' a es'->Q true { s with heap:=h' }) :
  wpAny M0 A (do
    let(es,_,t) <- setState a
    let(t,p):=t.put j
    let ot <- if t.plain then hashByValue 8 x else pure true
    let t:=if ot then t else{ t with plain:=false }
    storeSet a (SetTable.insertAt es p (H,x)) t
    if !false&&t.tooFull then setRelay a (SetTable.grown (es.size+1))
    return true) Q E s:=by
 refine Sv (TY ho rfl hf ?_);obtain⟨q1,q2,q3,q4,q5⟩:=Bh T j
 rcases hq:t.put j with⟨t1,p⟩
 rw[hq] at q1 q2 q3 q4 q5;simp only[hq];dsimp only at q1 q2 q3 q4 q5 ⊢;have hpl:pl.size=es.size:=by rw[<- T.place];exact cL hf
 have hpz:t1.place.size=es.size+1:=by
  rw[q4,<- Uf,(SetTable.insertAt_perm pl _ j).length_eq];simp[hpl]
 have hperm:=SetTable.insertAt_perm es p (H,x);have hez:(SetTable.insertAt es p (H,x)).size=es.size+1:=by rw[<- Uf,hperm.length_eq];simp
 have ea:∀ t2:UI,t2.mask=7->t2.dummies=#[]->t2.place=t1.place->t2.led=t1.led->
   wpAny M0 A (do
    storeSet a (SetTable.insertAt es p (H,x)) t2
    if(!false&&t2.tooFull)=true then do
      setRelay a (SetTable.grown (es.size+1))
      pure true
     else pure true) Q E s:=by
  intro t2 m2 d2 p2 l2;have hf2:t2.fits (SetTable.insertAt es p (H,x)).size=true:=xy m2 d2 (by rw[p2,hpz,hez]) (by rw[hez];exact P2 hz)
  refine Sv (wpAny_storeSet_of ho rfl ?_ (by rw[hez,sizeLine_eq];exact P1 hz))
  have T2:oD t2:=⟨d2,P0 m2,by rw[p2,q4];exact iO (OD hz hpl) hjn⟩
  rw[l8 T2 (by rw[p2,hpz];exact OC hz)]
  simp only[Bool.not_false,Bool.and_false,Bool.false_eq_true,if_false];refine Sw (h _ _ (Tm ..) (by rw[Um] at hperm;exact hperm) (bQ.put ho hf2 (by rw[l2,q5];exact hl) T2 (by rw[hez];exact OC hz) fun _=>⟨m2,fun e he=>?_⟩).2)
  rw[p2,q4];refine hj e ?_;have h1:es.size=0:=by have:=Sx Array.size he;rw[hez] at this;simpa using this
  have h2:es=#[]:=Array.size_eq_zero_iff.mp h1;subst h2;rw[he] at hperm;have h3:(H,x)=e:=by simpa using hperm.symm
  rw[h3];rfl
 refine Tr (fun _=>?_) (fun _=>?_)
 ·refine Sv (FG pb rb hsz fun c=>?_)
  cases c
  ·exact ea _ q2 q3 rfl rfl
  ·exact ea _ q2 q3 rfl rfl
 ·exact Sv (Sw (ea _ q2 q3 rfl rfl))
theorem uc{x:Addr}{es:Array (Int×Value)}:byScan (.ref x) es=false:=by simp[byScan,Value.scannable]
def Et(A:UG)(s:UE)(E:Value->UE->Prop)(a:Addr)(v:Value)(H:Int)(ep:Nat)(t:UI)(Q:SetFound->UE->Prop)(fuel:Nat)(st:Option SetTable.Probe):Prop:=∀{es:Array (Int×Value)} (m:t.mask=7) (ho:s.heap.get? a=some { cls:=.type "set",dict:=none,data:=.set es ep t }) (hf:t.fits es.size=true) (h:∀ f:Nat->Int,(∀ e,es=#[e]->f 0=e.1)->∃ j,t.probe f H (st.getD (t.probeStart H))=some (.empty j none)/\Q (.free j false) s),wpAny M0 A (setSearchFrom a v H true (fuel+1) st) Q E s
def HY(a:UG×UE×(Value->UE->Prop)×Addr×Value×Int×Nat×UI×(SetFound->UE->Prop)×Nat×Option SetTable.Probe):Prop:=Et a.1 a.2.1 a.2.2.1 a.2.2.2.1 a.2.2.2.2.1 a.2.2.2.2.2.1 a.2.2.2.2.2.2.1 a.2.2.2.2.2.2.2.1 a.2.2.2.2.2.2.2.2.1 a.2.2.2.2.2.2.2.2.2.1 a.2.2.2.2.2.2.2.2.2.2
noncomputable def jS:=lK ({},{},default) HY
noncomputable def Qv:=jS.1
noncomputable def OJ:=jS.2.1
noncomputable def Qu:=jS.2.2.1
noncomputable def Qt:=jS.2.2.2.1
noncomputable def Qs:=jS.2.2.2.2.1
noncomputable def K9:=jS.2.2.2.2.2.1
noncomputable def K8:=jS.2.2.2.2.2.2.1
noncomputable def K7:=jS.2.2.2.2.2.2.2.1
noncomputable def OK:=jS.2.2.2.2.2.2.2.2.1
noncomputable def Es:=jS.2.2.2.2.2.2.2.2.2.1
noncomputable def HX:=jS.2.2.2.2.2.2.2.2.2.2
theorem Lc:Et Qv OJ Qu Qt Qs K9 K8 K7 OK Es HX:=fun{es} m ho hf h=>by
 refine Sv (TY ho rfl hf ?_);dsimp only;rw[uv m];refine Tr nofun fun _=>?_
 generalize hr:SetTable.probe K7 _ K9 (HX.getD (K7.probeStart K9))=r;obtain⟨j,rfl,g⟩:∃ j,r=some (.empty j none)/\OK (.free j false) OJ:=by subst hr;exact h _ fun e h=>by subst h;rfl
 exact Sw g
theorem jO{a:Addr}{v:Value}{H:Int}{ep:Nat}{t:UI}{Q:SetFound->UE->Prop}{fuel:Nat}{st:Option SetTable.Probe}:Et A s E a v H ep t Q fuel st:=bE HY Lc (A,s,E,a,v,H,ep,t,Q,fuel,st)
def Ey(z:Hp)(A:UG)(s:UE)(u b:AV)(E:Value->UE->Prop)(a x y:Addr)(H:Int)(ep:Nat)(t:UI)(c fuel:Nat)(st:Option SetTable.Probe)(Q:SetFound->UE->Prop):Prop:=∀{nx:SetTable.Probe} (hsz:s.heap=z.h) (hu:A.units+6<cLine) (pu:u.pur=true) (pb:b.pur=true) (ru:ao z u (.ref y)) (rb:ao z b (.ref x)) (T:uK t #[c]) (ho:s.heap.get? a=some { cls:=.type "set",dict:=none,data:=.set #[(H,.ref y)] ep t }) (hf:t.fits 1=true) (hp:∀ f:Nat->Int,f 0=H->t.probe f H (st.getD (t.probeStart H))=some (.candidate c 0 nx)) (h1:u=b->Q (.there none) s) (h2:u≠b->wpAny M0 A (setSearchFrom a (.ref x) H true fuel (some nx)) Q E s),wpAny M0 A (setSearchFrom a (.ref x) H true (fuel+1) st) Q E s
def Ib(a:Hp×UG×UE×AV×AV×(Value->UE->Prop)×Addr×Addr×Addr×Int×Nat×UI×Nat×Nat×Option SetTable.Probe×(SetFound->UE->Prop)):Prop:=Ey a.1 a.2.1 a.2.2.1 a.2.2.2.1 a.2.2.2.2.1 a.2.2.2.2.2.1 a.2.2.2.2.2.2.1 a.2.2.2.2.2.2.2.1 a.2.2.2.2.2.2.2.2.1 a.2.2.2.2.2.2.2.2.2.1 a.2.2.2.2.2.2.2.2.2.2.1 a.2.2.2.2.2.2.2.2.2.2.2.1 a.2.2.2.2.2.2.2.2.2.2.2.2.1 a.2.2.2.2.2.2.2.2.2.2.2.2.2.1 a.2.2.2.2.2.2.2.2.2.2.2.2.2.2.1 a.2.2.2.2.2.2.2.2.2.2.2.2.2.2.2
noncomputable def ft:=lK (⟨[],[],{}⟩,{},{},.none,.none,default) Ib
noncomputable def Qz:=ft.1
noncomputable def OU:=ft.2.1
noncomputable def OP:=ft.2.2.1
noncomputable def OO:=ft.2.2.2.1
noncomputable def OR:=ft.2.2.2.2.1
noncomputable def OT:=ft.2.2.2.2.2.1
noncomputable def Ks:=ft.2.2.2.2.2.2.1
noncomputable def Kr:=ft.2.2.2.2.2.2.2.1
noncomputable def C0:=ft.2.2.2.2.2.2.2.2.1
noncomputable def G6:=ft.2.2.2.2.2.2.2.2.2.1
noncomputable def Lk:=ft.2.2.2.2.2.2.2.2.2.2.1
noncomputable def G5:=ft.2.2.2.2.2.2.2.2.2.2.2.1
noncomputable def OQ:=ft.2.2.2.2.2.2.2.2.2.2.2.2.1
noncomputable def rI:=ft.2.2.2.2.2.2.2.2.2.2.2.2.2.1
noncomputable def Lj:=ft.2.2.2.2.2.2.2.2.2.2.2.2.2.2.1
noncomputable def OS:=ft.2.2.2.2.2.2.2.2.2.2.2.2.2.2.2
theorem Lm:Ey Qz OU OP OO OR OT Ks Kr C0 G6 Lk G5 OQ rI Lj OS:=fun{nx} hsz hu pu pb ru rb T ho hf hp h1 h2=>by
 refine Sv (TY ho rfl hf ?_);dsimp only;rw[uv T.mask,hp _ rfl];refine Tr nofun fun _=>?_
 have go:wpAny M0 OU (do
   let some (_,C0):=(#[(G6,Value.ref C0)]:Array (Int×Value))[0]? | unsupported "internal:set-entry"
   let equal <- holding [C0] (eqBool C0 (.ref Kr))
   let(es',_,t') <- setState Ks
   if true&&equal then return .there none
   let some same:=t'.sameMemory G5.moves G5.mask | unsupported "set.changed-during-lookup:is-the-new-block-at-the-old-address"
   let still <- match (if same then t'.slot OQ else .empty) with
    | .live i'=>match es'[i']? with
     | some (_,y')=>do pure (if <- isSame y' C0 then some i' else none)
     | none=>pure none
    | _=>pure none
   match still with
   | none=>rule "set.search.anew";setSearchFrom Ks (.ref Kr) G6 true rI none
   | some i'=>if equal then return .there (some i') else setSearchFrom Ks (.ref Kr) G6 true rI (some nx)) OS OT OP:=by
  refine Sv (S6 (wr hsz hu pu pb ru rb (Sv (TY ho rfl hf ?_))));dsimp only;rw[Bool.true_and]
  by_cases e:OO=OR
  ·rw[SM e];exact Sw (h1 e)
  rw[Td e];have hsm:G5.sameMemory G5.moves G5.mask=some true:=by unfold SetTable.sameMemory;simp
  rw[Sz nofun,hsm]
  dsimp only;rw[SI rfl,pq T,SI rfl];exact Sv (wpAny_isSame_ref_self (Sv (Sw (h2 e))))
 refine Tr (fun _=>?_) fun _=>go;refine Sv ?_;rw[show((#[(G6,Value.ref C0)]:Array (Int×Value)).filter (fun e=>e.1==G6)).toList.map (·.2)=[.ref C0] by simp]
 exact A9 hsz pb pu rb ru go
theorem ph{a x y:Addr}{u b:AV}{H:Int}{ep:Nat}{t:UI}{c fuel:Nat}{st:Option SetTable.Probe}{Q:SetFound->UE->Prop}:Ey z A s u b E a x y H ep t c fuel st Q:=bE Ib Lm (z,A,s,u,b,E,a,x,y,H,ep,t,c,fuel,st,Q)
theorem Ab{a x:Addr}{b:AV}{H:Int}{Q:Bool->UE->Prop}(hsz:s.heap=z.h)(pb:b.pur=true)(rb:ao z b (.ref x))(hS:bQ true s.heap a #[])
  (h:∀ h',Heap.SameBut a s.heap h'->bQ true h' a #[(H,.ref x)]->Q true { s with heap:=h' }):wpAny M0 A (setAddHashed a (.ref x) H) Q E s:=by
 obtain⟨ep,t,ho,hf,hl,hT,_,htt⟩:=id hS;obtain⟨hm,_⟩:=htt rfl;have T:uK t #[]:=⟨hm,hT.dum,Array.size_eq_zero_iff.mp (cL hf)⟩;refine S6 (Sv (TY ho rfl hf ?_));dsimp only;rw[uc];refine Tr nofun fun _=>Sv (jO hm ho hf fun f _=>⟨_,EH T f H,?_⟩)
 refine mT hsz pb rb T ho hf hl (SZ _) (H:=H) (fun c hc=>nomatch Sx Array.size hc) (fun e he=>?_) fun h' es' hs hp hS'=>?_
 ·cases Array.singleton_inj.mp he;rfl
 ·cases(Array.toList_inj (xs:=es') (ys:=#[(H,Value.ref x)])).mp (List.perm_singleton.mp hp)
  exact h h' hs hS'
theorem vp{a x y:Addr}{u b:AV}{H:Int}{ep:Nat}{t:UI}{c:Nat}(hsz:s.heap=z.h)(hu:A.units+6<cLine)(pu:u.pur=true)(pb:b.pur=true)(ru:ao z u (.ref y))(rb:ao z b (.ref x))(hne:u≠b)(T:uK t #[c])
  (ho:s.heap.get? a=some { cls:=.type "set",dict:=none,data:=.set #[(H,.ref y)] ep t }) (hf:t.fits 1=true) {Q:SetFound->UE->Prop} (h:∀ j,j≠c->Q (.free j false) s) (k:Nat) :
  ∀(i q fuel:Nat) (st:Option SetTable.Probe),st.getD (t.probeStart H)=pr i q->q<32^k->i<8->k+2<=fuel->wpAny M0 A (setSearchFrom a (.ref x) H true fuel st) Q E s:=by
 have one:∀(i q fuel:Nat) (st:Option SetTable.Probe),st.getD (t.probeStart H)=pr i q->(c=i->wpAny M0 A (setSearchFrom a (.ref x) H true fuel (some (pr (G7 i q) (q / 32)))) Q E s)->wpAny M0 A (setSearchFrom a (.ref x) H true (fuel+1) st) Q E s:=fun i q fuel st hst g=>by
  by_cases e:c=i
  ·cases e
   exact ph hsz hu pu pb ru rb T ho hf (fun f hf=>by rw[hst,jW T c q hf,SI rfl]) (fun e=>SH e hne) fun _=>g rfl
  ·exact jO T.mask ho hf fun f hf=>⟨i,by rw[hst,jW T i q (hf _ rfl),Sz e],h i fun q=>e q.symm⟩
 induction k with
 | zero=>
  intro i q fuel st hst hq hi hk;obtain⟨g,rfl⟩:∃ g,fuel=g+2:=⟨fuel-2,(Ur hk).symm⟩;refine one i q _ st hst fun e=>one _ _ _ _ rfl fun e'=>?_;have:q=0:=Nat.lt_one_iff.mp hq;subst this;exact SH (e'.symm.trans e) (yt hi)
 | succ k ih=>
  intro i q fuel st hst hq hi hk;obtain⟨g,rfl⟩:∃ g,fuel=g+1:=⟨fuel-1,(Ur (Sy (Nat.le_add_left 1 (k+2)) hk)).symm⟩;exact one i q g st hst fun _=>ih _ _ g _ rfl ((Nat.div_lt_iff_lt_mul (by decide)).mpr hq) (C9 ..) (Nat.le_of_succ_le_succ hk)
theorem Aa{a x y:Addr}{u b:AV}{H H0:Int}{Q:Bool->UE->Prop}(hsz:s.heap=z.h)(hu:A.units+6<cLine)(pu:u.pur=true)(pb:b.pur=true)(ru:ao z u (.ref y))(rb:ao z b (.ref x))(hH:u=b->H0=H)
  (hS:bQ true s.heap a #[(H0,.ref y)]) (h1:u=b->Q false s)
  (h2:u≠b->∀ h' es',Heap.SameBut a s.heap h'->es'.toList.Perm [(H0,.ref y),(H,.ref x)]->bQ true h' a es'->Q true { s with heap:=h' }):wpAny M0 A (setAddHashed a (.ref x) H) Q E s:=by
 obtain⟨ep,t,ho,hf,hl,hT,_,htt⟩:=id hS;obtain⟨hm,hp⟩:=htt rfl;have T:uK t #[SetTable.bits H0%8]:=⟨hm,hT.dum,hp _ rfl⟩;have hf1:t.fits 1=true:=hf;refine S6 (Sv (TY ho rfl hf ?_));dsimp only;rw[uc];refine Tr nofun fun _=>Sv ?_
 have aft:u≠b->∀ j,j≠SetTable.bits H0%8->_:=fun hne j hj=>mT hsz pb rb T ho hf hl (SE 1) (H:=H) (A:=A) (E:=E) (Q:=Q) (fun c hc=>by cases Array.singleton_inj.mp hc;exact hj) (fun e he=>SH (Sx Array.size he) nofun) fun h' es' hs hp hS'=>h2 hne h' es' hs hp hS'
 by_cases e:H0=H
 ·subst e
  by_cases hne:u=b
  ·exact ph hsz hu pu pb ru rb T ho hf1 (fun f hf=>by rw[Option.getD_none,Kt T,jW T _ _ hf,SI rfl]) (fun e=>Sw (h1 e)) fun e=>SH hne e
  ·exact vp hsz hu pu pb ru rb hne T ho hf1 (fun j hj=>aft hne j hj) 13 _ _ _ none (Kt T _) (uF _) (Nat.mod_lt _ (by decide)) (by decide)
 ·refine jO hm ho hf1 fun f hf=>?_;obtain⟨j,hj,hr⟩:=rM T (f:=f) (h:=H) (by rw[hf _ rfl];exact e)
  exact⟨j,hr,aft (fun q=>e (hH q)) j hj⟩
end
noncomputable def AV.isTup:AV->Bool
 | .tup _=>true
 | _=>false
section
variable{z:Hp}{Y:St}{p:Pt Y}{A:UG}{s:UE}{E:Value->UE->Prop}
noncomputable abbrev PG:=PySem.Challenge.rw_rh0018_01.row.prog
theorem pJ{es':Array (Int×Value)}{e:Int×Value}(h:es'.toList.Perm [e]):es'=#[e]:=Array.toList_inj.mp (List.perm_singleton.mp h)
def kY(S:Addr)(tp:Bool)(s:UE)(P:Array (Int×Value)->Prop)(Q:Bool->UE->Prop):Prop:=∀ b h' t es',Heap.SameBut S s.heap h'->bQ tp h' S es'->P es'->Q b { s with heap:=h',toks:=t }
theorem mS{S:Addr}{a:AV}{w:Value}{Q:Bool->UE->Prop}(hs:s.heap=z.h)(hu:A.units+10<cLine)(pa:a.pur=true)(ra:ao z a w)(hS:bQ a.isTup s.heap S #[])(h:kY S a.isTup s (·=#[(bK a,w)]) Q):wpAny M0 A (setAdd S w) Q E s:=
 bH (x:=z) (P:=fun _ v w=>bQ v.isTup s.heap S #[]->kY S v.isTup s (·=#[(bK v,w)]) Q->v.pur=true->ao z v w->wpAny M0 A (setAdd S w) Q E s) (Ps:=fun _ _ _=>True)
  (fun{_ i t} hS h pa ra=>S6 (Sv (eA pa ra hs (Tc (Tp (by decide) _) hu) fun t'=>
   kS (s:={ s with toks:=t' }) (knd:=intKind PG w0) (k:=i) (es:=#[]) (intKind_is ..) rfl (fun _ he=>by simp at he) (by decide) hS (fun he=>by simp at he) fun _ h' es' hs hp hS'=>h _ h' t' _ hs (pJ hp▸hS') rfl)))
  (fun{_ i t} hi hS h pa ra=>S6 (Sv (eA pa ra hs (Tc (Tp (by decide) _) hu) fun t'=>
   kS (s:={ s with toks:=t' }) (knd:=strKind PG w0) (k:=au i) (es:=#[]) (strKind_is ..) rfl (fun _ he=>by simp at he) (by decide) hS (fun he=>by simp at he) fun _ h' es' hs hp hS'=>h _ h' t' _ hs (pJ hp▸hS') rfl)))
  (fun{_ vs a ws n} _ _ hS h pa ra=>S6 (Sv (eA pa ra hs (Tc (Tp (by decide) _) hu) fun t'=>Ab (s:={ s with toks:=t' }) hs pa ra hS fun h' hsb hS'=>h _ h' t' _ hsb hS' rfl)))
  trivial (fun _ _=>trivial) pa ra hS h pa ra
theorem Jk{u b:AV}{y w:Value}{C:AV->AV->Value->Value->Prop}(hk:b7 u b=true)(pu:u.pur=true)(pb:b.pur=true)(ru:ao z u y)(rb:ao z b w)(hi:∀ i j t t',C (.int i) (.int j) (.int i t) (.int j t'))(hs:∀ i j t t',i<aS.length->j<aS.length->C (.sym i) (.sym j) (.str (au i) t) (.str (au j) t'))
  (ht:∀ vs us a b,C (.tup vs) (.tup us) (.ref a) (.ref b)):C u b y w:=by
 revert hk
 refine bH (x:=z) (P:=fun _ u y=>b7 u b=true->C u b y w) (Ps:=fun _ _ _=>True) (fun{_ i t}=>?_) (fun{_ i t} hi'=>?_) (fun{_ vs a ws n} _ _=>?_) trivial (fun _ _=>trivial) pu ru
 ·exact bH (x:=z) (P:=fun _ b w=>b7 (.int i) b=true->C (.int i) b (.int i t) w) (Ps:=fun _ _ _=>True) (fun _=>hi ..) (fun _ h=>nomatch h) (fun _ _ h=>nomatch h) trivial (fun _ _=>trivial) pb rb
 ·exact bH (x:=z) (P:=fun _ b w=>b7 (.sym i) b=true->C (.sym i) b (.str (au i) t) w) (Ps:=fun _ _ _=>True) (fun h=>nomatch h) (fun hj _=>hs _ _ _ _ hi' hj) (fun _ _ h=>nomatch h) trivial (fun _ _=>trivial) pb rb
 ·exact bH (x:=z) (P:=fun _ b w=>b7 (.tup vs) b=true->C (.tup vs) b (.ref a) w) (Ps:=fun _ _ _=>True) (fun h=>nomatch h) (fun _ h=>nomatch h) (fun _ _ _=>ht ..) trivial (fun _ _=>trivial) pb rb
def iF(u b:AV)(y w:Value)(es:Array (Int×Value)):Prop:=(u=b->es=#[(bK u,y)])/\(u≠b->es.toList.Perm [(bK u,y),(bK b,w)])
theorem wv{κ:Type}[DecidableEq κ]{knd:KeyKind PG w0 κ}{k:κ}{y:Value}(h:knd.is k y=true)(hsc:y.scannable=true):ElemsOf knd (#[(knd.hash k,y)]:Array (Int×Value)).toList:=fun e he=>SO.mp he▸⟨⟨k,h,rfl⟩,hsc⟩
theorem iJ{κ:Type}[DecidableEq κ](knd:KeyKind PG w0 κ){i j:κ}{u b:AV}{y w:Value}{S:Addr}{Q:Bool->UE->Prop}(hi:knd.is i y=true)(hj:knd.is j w=true)(yc:y.scannable=true)(wc:w.scannable=true)(hu:knd.hash i=bK u)(hb:knd.hash j=bK b)
  (ij:knd.is j y=decide (u=b)) (hS:bQ false s.heap S #[(bK u,y)]) (h:kY S false s (iF u b y w) Q) {t:Nat}:wpAny M0 A (setAddHashed S w (bK b)) Q E { s with toks:=t }:=
 hb▸kS (s:={ s with toks:=t }) (knd:=knd) (k:=j) hj wc (hu▸wv hi yc) (SE _) hS
  (fun he h' hs hS'=>have e:u=b:=SF (ij▸(by simpa using he));h _ h' t _ hs hS' ⟨fun _=>rfl,fun n=>SH e n⟩)
  fun he h' es' hs hp hS'=>have e:u≠b:=of_decide_eq_false (ij▸(by simpa using he));h _ h' t _ hs hS' ⟨fun n=>SH n e,fun _=>hb▸hp⟩
def Af(A:UG)(s:UE)(z:Hp)(S:Addr)(Q:Bool->UE->Prop)(E:Value->UE->Prop)(u b:AV)(y w:Value):Prop:=ao z u y->ao z b w->u.pur=true->b.pur=true->bQ u.isTup s.heap S #[(bK u,y)]->kY S u.isTup s (iF u b y w) Q->wpAny M0 A (setAdd S w) Q E s
theorem tz{S:Addr}{u b:AV}{w y:Value}{Q:Bool->UE->Prop}(hs:s.heap=z.h)(hu:A.units+10<cLine)(pu:u.pur=true)(pb:b.pur=true)(hk:b7 u b=true)(ru:ao z u y)(rb:ao z b w)(hS:bQ u.isTup s.heap S #[(bK u,y)])
  (h:kY S u.isTup s (iF u b y w) Q):wpAny M0 A (setAdd S w) Q E s:=
 have hu6:A.units+6<cLine:=Tc (Tp (by decide) _) hu
 Jk (C:=Af A s z S Q E) hk pu pb ru rb
  (fun i j t t' ru rb pu pb hS h=>S6 (Sv (eA pb rb hs hu6 fun t2=>iJ (intKind PG w0) (i:=i) (j:=j) (u:=.int i) (b:=.int j) (intKind_is ..) (intKind_is ..) rfl rfl rfl rfl (decide_eq_decide.mpr ⟨fun e=>Sx _ e,AV.int.inj⟩:decide (i=j)=decide (AV.int i=AV.int j)) hS h)))
  (fun i j t t' hi hj ru rb pu pb hS h=>S6 (Sv (eA pb rb hs hu6 fun t2=>iJ (strKind PG w0) (i:=au i) (j:=au j) (u:=.sym i) (b:=.sym j) (strKind_is ..) (strKind_is ..) rfl rfl rfl rfl (decide_eq_decide.mpr ⟨fun e=>Sx _ ((dY j hj).2 i hi e),fun e=>Sx _ (AV.sym.inj e)⟩:decide (au i=au j)=decide (AV.sym i=AV.sym j)) hS h)))
  (fun vs us a c ru rb pu pb hS h=>S6 (Sv (eA pb rb hs hu6 fun t2=>Aa (s:={ s with toks:=t2 }) hs hu6 pu pb ru rb (fun e=>Sx _ e) hS (fun e=>h _ s.heap t2 _ (Heap.SameBut.refl ..) hS ⟨fun _=>rfl,fun n=>SH e n⟩) fun e h' es' hsb hp hS'=>h _ h' t2 _ hsb hS' ⟨fun n=>SH n e,fun _=>hp⟩)))
  ru rb pu pb hS h
theorem bQ.same{tp:Bool}{h h':Heap}{a:Addr}{es:Array (Int×Value)}(x:bQ tp h a es)(e:∀ o,h.get? a=some o->h'.get? a=some o):bQ tp h' a es:=x.imp fun _ x=>x.imp fun _ x=>⟨e _ x.1,x.2⟩
theorem rF{xs ys:List AV}{l:Addr}{ws:Array Value}{m:Nat}(P:Nat->Array (Int×Value)->Prop)(tp:Bool)(hh:A.handled=none)(ho:p.s.heap.get? l=some (gu ws m))(h0:P 0 #[])
  (step:∀(i:Nat) (w:Value) (s:UE) (es:Array (Int×Value)) (S:Addr) (Q:Bool->UE->Prop),ws.toList[i]?=some w->Wk p.x ⟨p.ι,p.κ,s.heap⟩->bQ tp s.heap S es->P i es->kY S tp s (P (i+1)) Q->wpAny M0 A.in1.in1.in1 (setAdd S w) Q (fun _ _=>False) s)
  (ea:∀ es,P ws.size es->∃ us,us.Perm (es.toList.map (·.2))/\VL ys p us):aQ A p (call (.type "set") [.ref l]) (.fset ys) Y:=by
 have hne:∀ b o,p.s.heap.get? b=some o->b≠p.s.heap.objs.size:=fun b o e=>S7 (Tt e);refine⟨fun g=>oo (l:=l) (items:=ws) (fun i h=>(∀ b o,p.s.heap.get? b=some o->h.get? b=some o)/\∃ es,bQ tp h p.s.heap.objs.size es/\P i es) hh (cA ho)
  (fun h' hS hk=>⟨hk,#[],⟨0,_,hS,rfl,by show(!kA)=true\/kA=true;cases kA<;>decide,⟨rfl,SE _,fun x y h=>SH (Sx Array.size h) (by simp[SetTable.fresh])⟩,by decide,fun _=>⟨rfl,fun e he=>SH (Sx Array.size he) (by simp)⟩⟩,h0⟩)
  (fun i v s₁ Q' hi hI hQ=>hI.2.elim fun es hS=>step i v s₁ es _ Q' (by rw[Ts];exact hi) (.same fun b o e _=>hI.1 b o e) hS.1 hS.2 fun b h' t es' hsb hS' hP=>hQ b h' t ⟨fun c o e'=>(hsb.2 c (hne c o e')).trans (hI.1 c o e'),es',hS',hP⟩ hsb)
  (fun i h1 h2 it hn hi hI hx=>⟨fun b o e=>hx b o (fun q=>by subst q;rw[hn] at e;cases e) (hI.1 b o e),hI.2.imp fun es hS=>⟨hS.1.same fun o e=>hx _ o hi.symm e,hS.2⟩⟩)
  fun h' tk hI hk=>hI.2.elim fun es hS=>(ea es hS.2).elim fun us hu=>p.more hk fun q n _ im=>?_⟩
 obtain⟨ep,t,ho',hf,hl,hT,hz,_⟩:=hS.1;exact g q _ n ⟨_,es.toList.map (·.2),us,es,ep,t,rfl,⟨⟨hf,rfl,hl,hz,hT.rise⟩,hu.1⟩,im _ _ (aV (SE _)) ho',ah.vrels (VL.nx hu.2 n)⟩
theorem q7{A:UG}{n:Nat}(R:cg A n):A.in1.in1.in1.units+10<cLine:=by show A.units+1+1+1+10<cLine;have:=R.six;exact PZ this
theorem Bn{w v:Value}{i:Nat}(h:[w][i]?=some v):i=0/\w=v:=by
 cases i with
 | zero=>exact⟨rfl,SQ h⟩
 | succ i=>cases h
section
variable{n:Nat}{a b:AV}{l:Addr}{ws:Array Value}{m:Nat}
theorem Lg(R:cg A n)(ho:p.s.heap.get? l=some (gu ws m))(hx:VL [] p ws.toList):aQ A p (call (.type "set") [.ref l]) (.fset []) Y:=
 rF (xs:=[]) (fun _ es=>es=#[]) false R.handled ho rfl (fun i w s es S Q hw _ _ _ _=>by rw[show ws.toList=[] from hx] at hw;cases hw) fun es e=>⟨[],e▸.refl _,.nil⟩
theorem Le(R:cg A n)(ho:p.s.heap.get? l=some (gu ws m))(hx:VL [a] p ws.toList)(pa:a.pur=true):aQ A p (call (.type "set") [.ref l]) (.fset [a]) Y:=
 (VL.one hx).elim fun w1 h=>rF (xs:=[a]) (fun i es=>(i=0->es=#[])/\(i=1->es=#[(bK a,w1)])) a.isTup R.handled ho ⟨fun _=>rfl,nofun⟩ (fun i w s es S Q hw wk hS hP hQ=>by
  rw[h.1] at hw;obtain⟨rfl,rfl⟩:=Bn hw
  cases hP.1 rfl
  exact mS (z:=⟨p.ι,p.κ,s.heap⟩) rfl (q7 R) pa (ao.wk wk h.2) hS fun b h' t es' hsb hS' hP=>hQ b h' t es' hsb hS' ⟨nofun,fun _=>hP⟩) fun es hP=>⟨[w1],by rw[hP.2 (by rw[hx.size];rfl)];exact .refl _,.cons h.2 .nil⟩
theorem AB{w v u:Value}{i:Nat}(h:[w,u][i]?=some v){C:Nat->Value->Prop}(h0:C 0 w)(h1:C 1 u):C i v:=match i,h with
 | 0,h=>SQ h▸h0
 | 1,h=>SQ h▸h1
theorem Ld(R:cg A n)(ho:p.s.heap.get? l=some (gu ws m))(hx:VL [a,b] p ws.toList)(pa:a.pur=true)(pb:b.pur=true)(hk:b7 a b=true):aQ A p (call (.type "set") [.ref l]) (.fset (bif decide (a=b) then[a] else[a,b])) Y:=
 (VL.two hx).elim fun w1 h=>h.elim fun w2 h=>rF (xs:=[a,b]) (fun i es=>(i=0->es=#[])/\(i=1->es=#[(bK a,w1)])/\(i=2->iF a b w1 w2 es)) a.isTup R.handled ho ⟨fun _=>rfl,nofun,nofun⟩ (fun i w s es S Q hw wk hS hP hQ=>by
  rw[h.1] at hw
  revert hP hQ
  refine AB hw (C:=fun i w=>((i=0->es=#[])/\(i=1->es=#[(bK a,w1)])/\(i=2->iF a b w1 w2 es))->kY S a.isTup s (fun es=>(i+1=0->es=#[])/\(i+1=1->es=#[(bK a,w1)])/\(i+1=2->iF a b w1 w2 es)) Q->wpAny M0 A.in1.in1.in1 (setAdd S w) Q (fun _ _=>False) s) (fun hP hQ=>?_) fun hP hQ=>?_
  ·cases hP.1 rfl
   exact mS (z:=⟨p.ι,p.κ,s.heap⟩) rfl (q7 R) pa (ao.wk wk h.2.1) hS fun b h' t es' hsb hS' hP=>hQ b h' t es' hsb hS' ⟨nofun,fun _=>hP,nofun⟩
  ·cases hP.2.1 rfl
   exact tz (z:=⟨p.ι,p.κ,s.heap⟩) rfl (q7 R) pa pb hk (ao.wk wk h.2.1) (ao.wk wk h.2.2) hS fun b h' t es' hsb hS' hP=>hQ b h' t es' hsb hS' ⟨nofun,nofun,fun _=>hP⟩) fun es hP=>by
  have hP:=hP.2.2 (by rw[hx.size];rfl)
  by_cases hab:a=b
  ·rw[SM hab];exact⟨[w1],by rw[hP.1 hab];exact .refl _,.cons h.2.1 .nil⟩
  ·rw[Td hab];exact⟨[w1,w2],((hP.2 hab).map (fun e:Int×Value=>e.2)).symm,.cons h.2.1 (.cons h.2.2 .nil)⟩
theorem zO{r:Nat}{ys:List AV}{w:Value}(R:cg A n)(rv:V (.ref r) p w):∀{xs:List AV},ai Y r=some xs->ln xs=some ys->aQ A p (call (.type "set") [w]) (.fset ys) Y
 | [],hr,hs=>SQ hs▸rv.lstE hr (P:=fun w=>aQ A p (call (.type "set") [w]) (.fset []) Y) fun l ws m _ _ ho hx=>Lg R ho hx
 | [a],hr,hs=>cN hs fun pa e=>e▸rv.lstE hr (P:=fun w=>aQ A p (call (.type "set") [w]) (.fset [a]) Y) fun l ws m _ _ ho hx=>Le R ho hx pa
 | [a,b],hr,hs=>cN hs fun q e=>e▸rv.lstE hr (P:=fun w=>aQ A p (call (.type "set") [w]) (.fset (bif decide (a=b) then[a] else[a,b])) Y) fun l ws m _ _ ho hx=>Ld R ho hx (eD q).1 (eD q).2.1 (eD q).2.2
end
end
section
variable{M:Model}{A:UG}{E:Value->UE->Prop}{s:UE}
theorem ku{α:Type}{l:List α}:∀{i:Nat} (h:i<l.length),(l[i]::l.eraseIdx i).Perm l:=by
 induction l with
 | nil=>exact fun h=>SH h (Nat.not_lt_zero _)
 | cons x l ih=>
  refine @fun i h=>?_
  cases i with
  | zero=>exact .refl _
  | succ i=>exact(List.Perm.swap _ _ _).trans ((ih (Nat.lt_of_succ_lt_succ h)).cons _)
theorem w6{src:Source}{n:Nat}{Q:Nat->UE->Prop}(hn:n≠0)(h:∀ i d,i<n->Q i { s with drawn:=d }):wpAny M A (choose src n) Q E s:=fun Γ p _=>by
 show Sem.wp M Γ (.choose src n .pure) _ _ p s;rw[Sem.wp_choose];refine⟨hn,?_⟩;rw[Sem.wp_pure];exact h _ _ (Nat.mod_lt _ (Nat.pos_of_ne_zero hn))
theorem mY{α:Type}(n:Nat):∀(xs:List α) {s:UE} {Q:List α->UE->Prop},n=xs.length->(∀ ys d,ys.Perm xs->Q ys { s with drawn:=d })->wpAny M A (drawOrder n xs) Q E s:=by
 induction n with
 | zero=>exact fun xs s Q hn h=>UC hn.symm▸Sw (h [] s.drawn (UC hn.symm▸.refl _))
 | succ n ih=>
  refine @fun xs s Q hn h=>?_
  cases xs with
  | nil=>exact nomatch hn
  | cons y ys=>
   refine Sv (w6 (Nat.succ_ne_zero _) fun i d hi=>?_);rw[Tu hi];exact Sv (ih _ (by rw[List.length_eraseIdx_of_lt hi,<- hn];rfl) fun zs d' hz=>Sw (h _ _ ((hz.cons _).trans (ku hi))))
end
theorem Bl{α:Type}(next:Nat->Nat)(fuel:Nat):∀(k:Nat) (qc:List α) (out:Array α),fuel=qc.length->(pickOrder.go next fuel k qc out).toList.Perm (out.toList++qc):=by
 induction fuel with
 | zero=>exact fun k l out h=>UC h.symm▸(Ti out.toList).symm▸.refl _
 | succ fuel ih=>
  refine fun k l out h=>?_
  cases l with
  | nil=>exact nomatch h
  | cons x r=>
   have hi:next k%(x::r).length<(x::r).length:=Nat.mod_lt _ (Nat.succ_pos _);show(match (x::r)[next k%(x::r).length]? with | some _=>_ | none=>_:Array α).toList.Perm _
   rw[Tu hi];refine(ih (k+1) _ _ (by rw[List.length_eraseIdx_of_lt hi,<- h];rfl)).trans ?_
   rw[Um,SR];exact(ku hi).append_left _
theorem vx{α:Type}(next:Nat->Nat)(xs:Array α):(pickOrder next xs).toList.Perm xs.toList:=by
 have:=Bl next xs.size 0 xs.toList #[] (by simp)
 simpa[pickOrder] using this
theorem tc{pl:Array Nat}(hz:pl.size<=2):SetTable.below pl 0=0:=by
 match pl,hz with
 | ⟨[]⟩,_=>rfl
 | ⟨[a]⟩,_=>show SetTable.below #[a] 0=0;rw[kG];simp
 | ⟨[a,b]⟩,_=>
  show SetTable.below.go #[a,b] 0 2 0 2=0;simp[SetTable.below.go]
 | ⟨_::_::_::_⟩,hz=>simp at hz
theorem te{pl:Array Nat}(hz:pl.size<=2)(hr:∀ x y,pl=#[x,y]->x<y){i p:Nat}(h:pl[i]?=some p):SetTable.below pl (p+1)=i+1:=by
 match pl,hz with
 | ⟨[]⟩,_=>simp at h
 | ⟨[a]⟩,_=>
  rcases i with _ | i
  ·simp at h;subst h;show SetTable.below #[a] (a+1)=1;rw[kG];simp
  ·simp at h
 | ⟨[a,b]⟩,_=>
  have hab:=hr a b rfl
  rcases i with _ | _ | i
  ·simp at h;subst h;show SetTable.below.go #[a,b] (a+1) 2 0 2=1;have:¬b<a+1:=PY hab;simp[SetTable.below.go,this]
  ·simp at h;subst h;show SetTable.below.go #[a,b] (b+1) 2 0 2=2;simp[SetTable.below.go]
  ·simp at h
 | ⟨_::_::_::_⟩,hz=>simp at hz
namespace F
theorem slot_set_iterator_next:Slot "set_iterator" "__next__" "set_iterator.__next__":=
 .of (owner:="set_iterator") (n:="__next__") (by rw[typeLookup_type,builtinLookup_eq_fast];kernel_rfl) (by decide +kernel) (by decide +kernel) (by decide +kernel)
  (by first | exact .inl (by decide +kernel) | exact .inr (by decide +kernel)) (by rw[isSubtype_type];kernel_rfl)
theorem entry_set_iterator_next:entryFor table "set_iterator.__next__"=some Builtin.«set_iterator.__next__»:=entryFor_of_tree (by kernel_rfl)
theorem args_set_iterator_next(a:Value):argsOk "set_iterator.__next__" ⟨[a],[]⟩:=by unfold argsOk;kernel_rfl
theorem entry_set_iter:entryFor table "set.__iter__"=some Builtin.«frozenset.__iter__»:=
 entryFor_alias (id':="frozenset.__iter__") (by kernel_rfl) rfl (by decide +kernel) (by kernel_rfl)
end F
def fD(S I T:Addr)(es:Array (Int×Value))(ep:Nat)(t:UI)(ord:List Value)(i:Nat)(h:Heap):Prop:=
 ∃ first:Value,h.get? I=some { cls:=.type "set_iterator",data:=.fields #[first,.int i 0,.ref S,.int es.size 0,.int ep 0] }/\h.get? S=some { cls:=.type "set",data:=.set es ep t }/\
  ((kA=true/\first=.int 0 0/\ord=(pickOrder (w0.params.setOrder S ep) es).toList.map (·.2))\/
   (kA=false/\(!t.plain&&decide (es.size > 1))=true/\∃(pl:List Nat) (m:Nat),first=.ref T/\h.get? T=some (bV (pl.map fun j=>Value.int (j:Nat) 0).toArray m)/\(∀ j∈pl,j<es.size)/\ord=pl.map (fun j=>(es.getD j (0,.none)).2))\/
   (kA=false/\(!t.plain&&decide (es.size > 1))=false/\t.led=true/\∃ k:Nat,first=.int k 0/\SetTable.below t.place k=i/\ord=es.toList.map (·.2)))
section
variable{A:UG}{E:Value->UE->Prop}{s:UE}
theorem fD.typeIs{S I T:Addr}{es:Array (Int×Value)}{ep:Nat}{t:UI}{ord:List Value}{i:Nat}(x:fD S I T es ep t ord i s.heap):s.TypeIs (.ref I) "set_iterator":=by
 obtain⟨_,h,_⟩:=x;exact⟨_,h,rfl⟩
theorem fD.frame{S I T:Addr}{es:Array (Int×Value)}{ep:Nat}{t:UI}{ord:List Value}{i:Nat}{h h':Heap}(x:fD S I T es ep t ord i h)(hk:∀ b∈[I,S,T],∀ o,h.get? b=some o->h'.get? b=some o):fD S I T es ep t ord i h':=by
 obtain⟨f,h1,h2,h3⟩:=x;refine⟨f,hk I (by simp) _ h1,hk S (by simp) _ h2,?_⟩
 rcases h3 with h3 | ⟨a,b,pl,m,c,d,e⟩ | h3
 ·exact .inl h3
 ·exact .inr (.inl ⟨a,b,pl,m,c,hk T (by simp) _ d,e⟩)
 ·exact .inr (.inr h3)
theorem ji{Q:Bool->UE->Prop}(h:Q kA s):wpAny M0 A setsByText Q E s:=by
 unfold setsByText;exact Sv (wpAny_askSetting (Sw h))
section
variable{S:Addr}{es:Array (Int×Value)}{ep:Nat}{t:UI}(hS:s.heap.get? S=some { cls:=.type "set",data:=.set es ep t })(hf:t.fits es.size=true)
include hS hf
theorem w7{Q:Array (Int×Value)->UE->Prop}(hb:kA=true)(h:Q (pickOrder (w0.params.setOrder S ep) es) s):wpAny M0 A (setWalk S) Q E s:=by
 unfold setWalk;exact Sv (TY hS rfl hf (Sv (ji (wpAny_ite_true (by rw[hb];rfl) (Sv (wpAny_askSetting (Sw h)))))))
theorem pW{Q:Option (Value×Nat)->UE->Prop}{k g:Nat}{r:Option (Int×Value)}(hb:kA=true)(hr:(pickOrder (w0.params.setOrder S ep) es)[g]?=r)(h:Q (r.map fun e=>(e.2,k)) s):wpAny M0 A (setNext S k g ep) Q E s:=by
 unfold setNext;refine Sv (TY hS rfl hf (Sv (ji (wpAny_ite_true (by rw[hb];rfl) (wpAny_ite_false (c:=(ep != ep)=true) (by simp) ?_)))))
 exact Sv (w7 hS hf hb (Sw (by rw[hr];exact h)))
theorem pX{Q:Option (Value×Nat)->UE->Prop}{k g i:Nat}(hb:kA=false)(hd:(!t.plain&&decide (es.size > 1))=false)(hl:t.led=true)(hk:SetTable.below t.place k=i)(h:∀ r,r=(match es[i]?,t.place[i]? with | some (_,x),some j=>some (x,j+1) | _,_=>none)->Q r s):wpAny M0 A (setNext S k g ep) Q E s:=by
 subst hk;unfold setNext;refine Sv (TY hS rfl hf (Sv (ji (wpAny_ite_false (by rw[hb];rfl) ?_))))
 refine Tr (fun q=>SH (hd.symm.trans q) Tg) fun _=>Sv ?_;show wpAny _ _ (if(!t.led&&!es.isEmpty)=true then unsupported "set:maker-not-led" else pure ()) _ _ _
 exact wpAny_ite_false (by rw[hl];rfl) (Sw (Sw (h _ rfl)))
theorem ss{Q:Value->UE->Prop}{j:Nat}{e:Int×Value}(he:es[j]?=some e)(h:Q e.2 s):wpAny M0 A (setNextDrawn S j ep) Q E s:=by
 unfold setNextDrawn;refine Sv (TY hS rfl hf (wpAny_ite_false (c:=(ep != ep)=true) (by simp) ?_))
 rw[he];exact Sw h
end
def Ep(A:UG)(s:UE)(E:Value->UE->Prop)(S I T:Addr)(es:Array (Int×Value))(ep:Nat)(t:UI)(ord:List Value)(i:Nat)(Q:Option Value->UE->Prop):Prop:=∀{v:Value} (hST:S≠I) (hT:T≠I) (hf:t.fits es.size=true) (hz:es.size<=2) (hr:∀ x y,t.place=#[x,y]->x<y) (hx:ord[i]?=some v) (x:fD S I T es ep t ord i s.heap) (h:∀ h',fD S I T es ep t ord (i+1) h'->Heap.SameBut I s.heap h'->Q (some v) { s with heap:=h' }),wpAny M0 A (pyNext (.ref I)) Q E s
def HV(a:UG×UE×(Value->UE->Prop)×Addr×Addr×Addr×Array (Int×Value)×Nat×UI×List Value×Nat×(Option Value->UE->Prop)):Prop:=Ep a.1 a.2.1 a.2.2.1 a.2.2.2.1 a.2.2.2.2.1 a.2.2.2.2.2.1 a.2.2.2.2.2.2.1 a.2.2.2.2.2.2.2.1 a.2.2.2.2.2.2.2.2.1 a.2.2.2.2.2.2.2.2.2.1 a.2.2.2.2.2.2.2.2.2.2.1 a.2.2.2.2.2.2.2.2.2.2.2
noncomputable def iT:=lK ({},{},default) HV
noncomputable def Qr:=iT.1
noncomputable def G3:=iT.2.1
noncomputable def Qq:=iT.2.2.1
noncomputable def HU:=iT.2.2.2.1
noncomputable def CY:=iT.2.2.2.2.1
noncomputable def OI:=iT.2.2.2.2.2.1
noncomputable def vi:=iT.2.2.2.2.2.2.1
noncomputable def HT:=iT.2.2.2.2.2.2.2.1
noncomputable def Kq:=iT.2.2.2.2.2.2.2.2.1
noncomputable def HR:=iT.2.2.2.2.2.2.2.2.2.1
noncomputable def qW:=iT.2.2.2.2.2.2.2.2.2.2.1
noncomputable def Qp:=iT.2.2.2.2.2.2.2.2.2.2.2
theorem K6:Ep Qr G3 Qq HU CY OI vi HT Kq HR qW Qp:=fun{v} hST hT hf hz hr hx x h=>by
 obtain⟨first,ho,hS,hm⟩:=id x
 unfold pyNext;refine Sv (wpAny_attempt (wpAny_callSpecial?_slot (name:=Str.ofString "__next__") x.typeIs F.slot_set_iterator_next (TA F.slot_set_iterator_next x.typeIs F.entry_set_iterator_next ?_ (F.args_set_iterator_next _))));refine Sv (Sw (Sv (wpAny_fieldsOf ho rfl (Sv (wpAny_setEntries_of hS rfl hf (wpAny_ite_false (by simp) ?_))))))
 rcases hm with⟨hb,rfl,hord⟩ | ⟨hb,hd,pl,m,rfl,hTo,hpl,hord⟩ | ⟨hb,hd,hl,k,rfl,hk,hord⟩
 ·have hv:((pickOrder (w0.params.setOrder HU HT) vi)[qW]?).map (·.2)=some v:=by rw[hord] at hx;simpa using hx
  obtain⟨e,he,rfl⟩:=Uj.mp hv;refine Sv (pW hS hf hb (g:=qW) he ?_);refine Sv (TT ho rfl (by simp) ?_)
  have ho1:=Tw (Obj.mapFields (·.setIfInBounds 0 (rawInt ((0:Int).toNat:Nat)))) ho rfl;refine Sv (TT ho1 rfl (by simp[Obj.mapFields]) ?_)
  have ho2:=Tw (Obj.mapFields (·.setIfInBounds 1 (rawInt ((qW:Int)+1)))) ho1 rfl;have sb:Heap.SameBut CY G3.heap _:=(Tm G3.heap CY (Obj.mapFields (·.setIfInBounds 0 (rawInt ((0:Int).toNat:Nat))))).trans (Tm _ CY (Obj.mapFields (·.setIfInBounds 1 (rawInt ((qW:Int)+1)))));exact Sw ⟨_,rfl,Sw (h _ ⟨_,ho2,(sb.2 HU hST).trans hS,.inl ⟨hb,rfl,hord⟩⟩ sb)⟩
 ·refine Sv (Ud hTo rfl ?_);obtain⟨j,hj,hjv⟩:∃ j,pl[qW]?=some j/\(vi.getD j (0,.none)).2=v:=by rw[hord] at hx;simpa using hx
  have hjz:=hpl j (Tf hj);have hp:((pl.map fun j=>Value.int (j:Nat) 0).toArray)[(qW:Int).toNat]?=some (.int (j:Nat) 0):=by simp[hj]
  dsimp only;rw[hp];have hv:vi[j].2=v:=by rw[<- hjv];simp[Array.getD,hjz]
  refine Sv (ss hS hf (j:=j) (TL hjz) ?_);refine Sv (TT ho rfl (by simp) ?_)
  have ho1:=Tw (Obj.mapFields (·.setIfInBounds 1 (rawInt ((qW:Int)+1)))) ho rfl;have sb:=Tm G3.heap CY (Obj.mapFields (·.setIfInBounds 1 (rawInt ((qW:Int)+1))));rw[hv];exact Sw ⟨_,rfl,Sw (h _ ⟨_,ho1,(sb.2 HU hST).trans hS,.inr (.inl ⟨hb,hd,pl,m,rfl,(sb.2 OI hT).trans hTo,hpl,hord⟩)⟩ sb)⟩
 ·obtain⟨e,he,rfl⟩:∃ e,vi[qW]?=some e/\e.2=v:=by
   rw[hord] at hx;simp only[List.getElem?_map,Array.getElem?_toList] at hx;exact Uj.mp hx
  have hi:qW<vi.size:=(Uy.mp he).1;have hpi:Kq.place[qW]?=some (Kq.place[qW]'(by rw[cL hf];exact hi)):=TL _
  generalize Kq.place[qW]'(by rw[cL hf];exact hi)=q at hpi
  refine Sv (pX hS hf hb hd hl (k:=k) hk fun r hr=>?_);rw[he,hpi] at hr;subst hr;refine Sv (TT ho rfl (by simp) ?_)
  have ho1:=Tw (Obj.mapFields (·.setIfInBounds 0 (rawInt ((q+1:Nat):Int)))) ho rfl;refine Sv (TT ho1 rfl (by simp[Obj.mapFields]) ?_)
  have ho2:=Tw (Obj.mapFields (·.setIfInBounds 1 (rawInt ((qW:Int)+1)))) ho1 rfl;have sb:Heap.SameBut CY G3.heap _:=(Tm G3.heap CY (Obj.mapFields (·.setIfInBounds 0 (rawInt ((q+1:Nat):Int))))).trans (Tm _ CY (Obj.mapFields (·.setIfInBounds 1 (rawInt ((qW:Int)+1)))));exact Sw ⟨_,rfl,Sw (h _ ⟨_,ho2,(sb.2 HU hST).trans hS,.inr (.inr ⟨hb,hd,hl,q+1,rfl,te (by rw[cL hf];exact hz) hr hpi,hord⟩)⟩ sb)⟩
theorem xW{S I T:Addr}{es:Array (Int×Value)}{ep:Nat}{t:UI}{ord:List Value}{i:Nat}{Q:Option Value->UE->Prop}:Ep A s E S I T es ep t ord i Q:=bE HV K6 (A,s,E,S,I,T,es,ep,t,ord,i,Q)
theorem gh{α:Type}{P:α->UE->Prop}{Q:Option Value->UE->Prop}(hh:A.handled=none)(h:∀ h',(∀ b o,s.heap.get? b=some o->h'.get? b=some o)->Q none { s with heap:=h' }) :
  wpAny M0 A.in1 ((newExc (.type "StopIteration") []) >>= fun e=>(raiseNew e:Sem α)) P
   (fun e s'=>wpAny M0 A (isInstance e (.type "StopIteration") >>= fun b=>if b=true then pure none else throw e) Q E s') s:=by
 refine Sv ?_;simp only[newExc,newTuple];refine Sv (TR ?_ (by size_fits))
 refine Sv (m:=firstArgMember _ _) (wpAny_of_eq (a:=Value.none) (by first | rfl | (simp only[firstArgMember];rfl)) ?_)
 refine TR ?_ (by size_fits)
 simp only[raiseNew];refine Sv (wpAny_handled ?_);rw[show A.in1.handled=none from hh];refine Sv (Sw (wpAny_throw ?_));refine Sv (wpAny_isInstance (T:="StopIteration") (b:=true) ⟨_,Tb _ rfl,rfl⟩ isSubtype_stop ?_);exact Sw (h _ fun b o e=>SW _ (SW _ e))
end
theorem yT{ord:List Value}{acc:Array Value}(h:ItemsOf (fun i v=>ord[i]?=some v) acc ord.length):acc.toList=ord:=by
 apply List.ext_getElem?;intro i
 by_cases hi:i<acc.size
 ·have:=h.2 i _ (TL hi);rw[this,Ts,TL hi]
 ·rw[List.getElem?_eq_none (by simpa using hi),List.getElem?_eq_none (by rw[<- h.1];exact PX hi)]
section
variable{A:UG}{E:Value->UE->Prop}{s:UE}
def FX(A:UG)(s:UE)(E:Value->UE->Prop)(r:Addr)(T:String)(iq:List Value->Prop)(Q:List Value->UE->Prop):Prop:=∀(hT:s.TypeIs (.ref r) T) (nl:(Value.type T==Value.type "list")=false) (nt:(Value.type T==Value.type "tuple")=false) (hint:∀(E₁:Value->UE->Prop) (s₁:UE) (Q₁:Bool->UE->Prop),s₁.TypeIs (.ref r) T->Q₁ false s₁->wpAny M0 A.in1 (Builtin.List.listLengthHint (.ref r)) Q₁ E₁ s₁) (iter:∀(E₁:Value->UE->Prop) (s₁:UE) (Q₁:Value->UE->Prop),(∀ b o,s.heap.get? b=some o->s₁.heap.get? b=some o)->
   (∀ h' d I fp ord St,Walks PG w0 A.in1 I fp [I] ord.length (fun i v=>ord[i]?=some v) St->St 0 h'->iq ord->ord.length<=sizeLine->I∈fp->(∀ b∈fp,s₁.heap.get? b=none\/∃ o,s.heap.get? b=some o)->(∀ b o,s₁.heap.get? b=some o->h'.get? b=some o)->s₁.heap.get? I=none->
    Q₁ (.ref I) { s₁ with heap:=h',drawn:=d })->wpAny M0 A.in1 (pyIter (.ref r)) Q₁ E₁ s₁) (h:∀ h' tk d ord,iq ord->(∀ b o,s.heap.get? b=some o->h'.get? b=some o)->Q ord { s with heap:=h',toks:=tk,drawn:=d }),wpAny M0 A (collect (.ref r)) Q E s
def JV(a:UG×UE×(Value->UE->Prop)×Addr×String×(List Value->Prop)×(List Value->UE->Prop)):Prop:=FX a.1 a.2.1 a.2.2.1 a.2.2.2.1 a.2.2.2.2.1 a.2.2.2.2.2.1 a.2.2.2.2.2.2
noncomputable def sW:=lK ({},{},default) JV
noncomputable def Ha:=sW.1
noncomputable def jC:=sW.2.1
noncomputable def Oe:=sW.2.2.1
noncomputable def KE:=sW.2.2.2.1
noncomputable def PH:=sW.2.2.2.2.1
noncomputable def FW:=sW.2.2.2.2.2.1
noncomputable def PJ:=sW.2.2.2.2.2.2
theorem Of:FX Ha jC Oe KE PH FW PJ:=fun hT nl nt hint iter h=>by
 obtain⟨or,hor,hoc⟩:=hT;have hr:=Tt hor;unfold collect;refine Sv (wpAny_runValue (codeAny_builtin entry_proto_collect' ?_));rw[Around.under_plainId PySem.F.plain_proto_collect _];show wpAny _ Ha.in1 (newList [] >>= fun l=>again (.builtin "list.__iadd__" ⟨[l,.ref KE],[]⟩)) _ _ jC;refine Sv (TR ?_);refine Sw ⟨plainId_quiet PySem.F.plain_list_iadd _,codeAny_builtin entry_list_iadd' ?_⟩;rw[Around.under_plainId PySem.F.plain_list_iadd _];have hS₁:(jC.heap.push { cls:=.type "list",data:=.seq ([]:List Value).toArray }).get? jC.heap.objs.size=some { cls:=.type "list",data:=.seq #[] }:=Tb _ rfl;show wpAny _ Ha.in1 (Builtin.List.listExtendWith (.ref jC.heap.objs.size) (.ref KE) (.ref jC.heap.objs.size)) _ _ _;unfold Builtin.List.listExtendWith;have hk0:∀ b o,jC.heap.get? b=some o->(jC.heap.push { cls:=.type "list",data:=.seq ([]:List Value).toArray }).get? b=some o:=fun b o e=>SW _ e;refine Sv (wpAny_typeOf (T:=PH) ⟨or,hk0 _ _ hor,hoc⟩ ?_);have h1:Builtin.List.listSameRef (.ref jC.heap.objs.size) (.ref KE)=false:=by simp only[Builtin.List.listSameRef,beq_eq_false_iff_ne,ne_eq];exact T0 hr
 simp only[h1,nl,nt,Bool.or_false,Bool.false_eq_true,if_false];refine Sv (iter _ { jC with heap:=jC.heap.push { cls:=.type "list",data:=.seq ([]:List Value).toArray } } _ hk0 fun h2 d I fp ord St W st hgood hz hIf hfp hk hI=>?_);have hS₂:=hk _ _ hS₁;refine Sv (S6 (hint _ _ _ ⟨or,hk _ _ (hk0 _ _ hor),hoc⟩ ?_));have hSf:jC.heap.objs.size∉fp:=fun hm=>by
  rcases hfp _ hm with e | ⟨o,e⟩
  ·rw[hS₁] at e;cases e
  ·exact Ui _ (Tt e)
 have ea:∀(h3:Heap) (c tk:Nat),St 0 h3->(∀ b o,b≠jC.heap.objs.size->h2.get? b=some o->h3.get? b=some o)->h3.get? jC.heap.objs.size=some { cls:=.type "list",data:=.seq #[] c }->
   codeAny M0 Ha (.builtin "list.extend.loop" ⟨[.ref jC.heap.objs.size,.ref I,.ref jC.heap.objs.size],[]⟩)
    (fun q s'=>match q with | .ok (.ret v)=>wpAny M0 Ha (match v with | .ref a=>(do let o <- load a;match o.data with | .seq xs _=>pure xs.toList | _=>unsupported "internal:collect") | _=>unsupported "internal:collect") PJ Oe s' | .error e=>Oe e s' | _=>False) { jC with heap:=h3,toks:=tk,drawn:=d }:=by
  intro h3 c tk hst hk3 hS₃;refine codeAny_extend_loopS W.toS hz _ hSf (.ref jC.heap.objs.size) ord.length 0 _ #[] c rfl (SZ _) hst hS₃ (ItemsOf.nil _) fun s' acc' c' hm hS' hacc=>?_;rw[Moved.eq_with hm];show wpAny _ Ha (load jC.heap.objs.size >>= _) _ _ _;refine Sv (wpAny_load hS' ?_);refine Sw ?_;rw[yT hacc];refine h s'.heap s'.toks d ord hgood fun b o e=>?_;have hb:=Tt e;have hbS:b≠jC.heap.objs.size:=S7 hb;refine hm.heap b o (fun hmem=>?_) (hk3 b o hbS (hk b o (hk0 b o e)))
  rcases SN.mp hmem with e' | e'
  ·exact hbS e'
  ·have hbI:=SO.mp e';subst hbI;have hI':=hk0 _ _ e;rw[show(jC.heap.push { cls:=.type "list",data:=.seq ([]:List Value).toArray }).get? b=none from hI] at hI';cases hI'
 refine Tr (fun _=>?_) (fun _=>?_)
 ·refine Sv (TD ?_);refine Sv ?_;show wpAny _ _ (updateSeq jC.heap.objs.size (·.push .none) >>= fun _=>updateSeq jC.heap.objs.size (·.pop)) _ _ _;refine Sv (wpAny_updateSeq hS₂ rfl ?_);have hS₃:=Tw (Obj.mapSeq (·.push Value.none)) hS₂ rfl;refine wpAny_updateSeq (hz:=by seq_fits) hS₃ rfl ?_
  have hS₄:=Tw (Obj.mapSeq (·.pop)) hS₃ rfl;refine Sw ⟨plainId_quiet PySem.F.plain_extend_loop _,?_⟩;refine codeAny_mono (ea _ _ _ (W.frame 0 _ _ st fun b hb o e=>?_) (fun b o hb e=>?_) hS₄) fun q s' hq=>?_
  ·have hbS:b≠jC.heap.objs.size:=fun h=>hSf (h▸hb);exact(Uz _ _ (Ne.symm hbS)).trans ((Uz _ _ (Ne.symm hbS)).trans e)
  ·exact(Uz _ _ (Ne.symm hb)).trans ((Uz _ _ (Ne.symm hb)).trans e)
  ·rcases q with e | f
   ·exact hq
   ·cases f<;>exact hq
 ·refine Sw ⟨plainId_quiet PySem.F.plain_extend_loop _,?_⟩;refine codeAny_mono (ea _ 0 _ st (fun b o _ e=>e) hS₂) fun q s' hq=>?_
  rcases q with e | f
  ·exact hq
  ·cases f<;>exact hq
theorem iS{r:Addr}{T:String}(iq:List Value->Prop){Q:List Value->UE->Prop}:FX A s E r T iq Q:=bE JV Of (A,s,E,r,T,iq,Q)
end
namespace F
theorem slot_set_iterator_iter:Slot "set_iterator" "__iter__" "set_iterator.__iter__":=
 .of (owner:="set_iterator") (n:="__iter__") (by rw[typeLookup_type,builtinLookup_eq_fast];kernel_rfl) (by decide +kernel) (by decide +kernel) (by decide +kernel)
  (by first | exact .inl (by decide +kernel) | exact .inr (by decide +kernel)) (by rw[isSubtype_type];kernel_rfl)
theorem entry_set_iterator_iter:entryFor table "set_iterator.__iter__"=some Builtin.«dict_keyiterator.__iter__»:=
 entryFor_alias (id':="dict_keyiterator.__iter__") (by kernel_rfl) rfl (by decide +kernel) (by kernel_rfl)
theorem args_set_iterator_iter(a:Value):argsOk "set_iterator.__iter__" ⟨[a],[]⟩:=by unfold argsOk;kernel_rfl
end F
section
variable{A:UG}{E:Value->UE->Prop}{s:UE}
theorem y8{r:Addr}{Q:Bool->UE->Prop}(hT:s.TypeIs (.ref r) "set")(h:Q false s):wpAny M0 A (Builtin.List.listLengthHint (.ref r)) Q E s:=by
 unfold Builtin.List.listLengthHint;refine Sv (wpAny_specialOf hT PySem.F.slot_set_len.lookup ?_);generalize hid:("set.__len__":String)=id0
 wp_delta
 rw[show splitId id0=some ("set","__len__") from by subst hid;decide +kernel]
 subst hid;refine Sv (wpAny_isInstance (T:="set") (b:=true) hT (by rw[isSubtype_type];kernel_rfl) ?_)
 refine Tr (fun hab=>SH hab (by decide)) (fun _=>?_)
 refine Tr (fun _=>?_) (fun hab=>SH (by decide +kernel) hab)
 refine Sv (wpAny_typeOf hT ?_);exact Sw h
def Ex(A:UG)(s:UE)(E:Value->UE->Prop)(S I T:Addr)(es:Array (Int×Value))(ep:Nat)(t:UI)(ord:List Value)(Q:Option Value->UE->Prop):Prop:=∀(hh:A.handled=none) (hz:es.size<=2) (hf:t.fits es.size=true) (ho:ord.length=es.size) (x:fD S I T es ep t ord es.size s.heap) (h:∀ h',Heap.ExtBut I s.heap h'->Q none { s with heap:=h' }),wpAny M0 A (pyNext (.ref I)) Q E s
def Ia(a:UG×UE×(Value->UE->Prop)×Addr×Addr×Addr×Array (Int×Value)×Nat×UI×List Value×(Option Value->UE->Prop)):Prop:=Ex a.1 a.2.1 a.2.2.1 a.2.2.2.1 a.2.2.2.2.1 a.2.2.2.2.2.1 a.2.2.2.2.2.2.1 a.2.2.2.2.2.2.2.1 a.2.2.2.2.2.2.2.2.1 a.2.2.2.2.2.2.2.2.2.1 a.2.2.2.2.2.2.2.2.2.2
noncomputable def jT:=lK ({},{},default) Ia
noncomputable def Qy:=jT.1
noncomputable def G4:=jT.2.1
noncomputable def Qx:=jT.2.2.1
noncomputable def OL:=jT.2.2.2.1
noncomputable def ON:=jT.2.2.2.2.1
noncomputable def Qw:=jT.2.2.2.2.2.1
noncomputable def vo:=jT.2.2.2.2.2.2.1
noncomputable def H9:=jT.2.2.2.2.2.2.2.1
noncomputable def set:=jT.2.2.2.2.2.2.2.2.1
noncomputable def H8:=jT.2.2.2.2.2.2.2.2.2.1
noncomputable def OM:=jT.2.2.2.2.2.2.2.2.2.2
theorem Lh:Ex Qy G4 Qx OL ON Qw vo H9 set H8 OM:=fun hh hz hf ho x h=>by
 obtain⟨first,hI,hS,hm⟩:=id x
 have ea:∀ h1,Heap.SameBut ON G4.heap h1->∀ h',(∀ b o,h1.get? b=some o->h'.get? b=some o)->OM none { G4 with heap:=h' }:=fun h1 sb h' hk=>h h' fun b o hb e=>hk b o ((sb.2 b hb).trans e);unfold pyNext;refine Sv (wpAny_attempt (wpAny_callSpecial?_slot (name:=Str.ofString "__next__") x.typeIs F.slot_set_iterator_next (TA F.slot_set_iterator_next x.typeIs F.entry_set_iterator_next ?_ (F.args_set_iterator_next _))));refine Sv (Sw (Sv (wpAny_fieldsOf hI rfl (Sv (wpAny_setEntries_of hS rfl hf (wpAny_ite_false (by simp) ?_))))))
 rcases hm with⟨hb,rfl,hord⟩ | ⟨hb,hd,pl,m,rfl,hTo,hpl,hord⟩ | ⟨hb,hd,hl,k,rfl,hk,hord⟩
 ·have hpz:(pickOrder (w0.params.setOrder OL H9) vo).size=vo.size:=by rw[<- ho,hord];simp
  refine Sv (pW hS hf hb (g:=vo.size) (Uv (by rw[hpz];exact SE _)) ?_)
  exact Sv (TT hI rfl (by simp) (gh (s:={ G4 with heap:=_ }) hh (ea _ (Tm ..))))
 ·have hp:((pl.map fun j=>Value.int (j:Nat) 0).toArray)[(vo.size:Int).toNat]?=none:=by
   have:pl.length=vo.size:=by rw[<- ho,hord];simp
   simp[this]
  refine Sv (Ud hTo rfl ?_);dsimp only;rw[hp];refine Sv (TT hI rfl (by simp) ?_)
  have ho1:=Tw (Obj.mapFields (·.setIfInBounds 0 (rawInt 0))) hI rfl;exact Sv (TT ho1 rfl (by simp[Obj.mapFields]) (gh (s:={ G4 with heap:=_ }) hh (ea _ ((Tm ..).trans (Tm ..)))))
 ·refine Sv (pX hS hf hb hd hl (k:=k) hk fun r hr=>?_);rw[Uv (SE _)] at hr;subst hr;exact Sv (TT hI rfl (by simp) (gh (s:={ G4 with heap:=_ }) hh (ea _ (Tm ..))))
theorem A6{S I T:Addr}{es:Array (Int×Value)}{ep:Nat}{t:UI}{ord:List Value}{Q:Option Value->UE->Prop}:Ex A s E S I T es ep t ord Q:=bE Ia Lh (A,s,E,S,I,T,es,ep,t,ord,Q)
theorem vk(A:UG)(hh:A.handled=none){S I T:Addr}{es:Array (Int×Value)}{ep:Nat}{t:UI}{ord:List Value}(hST:S≠I)(hT:T≠I)(hf:t.fits es.size=true)(hz:es.size<=2)(hr:∀ x y,t.place=#[x,y]->x<y)(ho:ord.length=es.size) :
  Walks PG w0 A I [I,S,T] [I] ord.length (fun i v=>ord[i]?=some v) (fD S I T es ep t ord) where
 sub:=fun b hb=>by simp at hb;simp[hb]
 frame:=fun _ _ _ st hk=>st.frame hk
 item:=fun i s Q E hi st hQ=>xW hST hT hf hz hr (Tu hi) st fun h' x' sb=>hQ _ h' s.toks (Tu hi) x' fun b o hb e=>(sb.2 b (fun q=>hb (by simp[q]))).trans e
 done:=fun s Q E st hQ=>A6 hh hz hf ho (by rw[<- ho];exact st) fun h' hx=>hQ h' s.toks fun b o hb e=>hx b o (fun q=>hb (by simp[q])) e
 self:=fun i s Q E st hQ=>by
  refine wpAny_pyIter_slot st.typeIs F.slot_set_iterator_iter (TA F.slot_set_iterator_iter st.typeIs F.entry_set_iterator_iter ?_ (F.args_set_iterator_iter _));show wpAny _ _ (PySem.ret (.ref I)) _ _ s;exact Sw ⟨_,rfl,"set_iterator",_,st.typeIs,F.slot_set_iterator_next.lookup,hQ⟩
def Fj(A:UG)(s:UE)(E:Value->UE->Prop)(S:Addr)(es:Array (Int×Value))(ep:Nat)(t:UI)(Q:Value->UE->Prop):Prop:=∀(hh:A.handled=none) (hS:s.heap.get? S=some { cls:=.type "set",data:=.set es ep t }) (hf:t.fits es.size=true) (hl:t.led=true\/kA=true) (hz:es.size<=2) (hr:∀ x y,t.place=#[x,y]->x<y) (h:∀ h' d I fp (ord:List Value) St,Walks PG w0 A I fp [I] ord.length (fun i v=>ord[i]?=some v) St->St 0 h'->ord.Perm (es.toList.map (·.2))->I∈fp->(∀ b∈fp,s.heap.get? b=none\/b=S)->(∀ b o,s.heap.get? b=some o->h'.get? b=some o)->s.heap.get? I=none->
   Q (.ref I) { s with heap:=h',drawn:=d }),wpAny M0 A (pyIter (.ref S)) Q E s
def Jm(a:UG×UE×(Value->UE->Prop)×Addr×Array (Int×Value)×Nat×UI×(Value->UE->Prop)):Prop:=Fj a.1 a.2.1 a.2.2.1 a.2.2.2.1 a.2.2.2.2.1 a.2.2.2.2.2.1 a.2.2.2.2.2.2.1 a.2.2.2.2.2.2.2
noncomputable def qf:=lK ({},{},default) Jm
noncomputable def NP:=qf.1
noncomputable def wO:=qf.2.1
noncomputable def Pu:=qf.2.2.1
noncomputable def wP:=qf.2.2.2.1
noncomputable def fQ:=qf.2.2.2.2.1
noncomputable def BW:=qf.2.2.2.2.2.1
noncomputable def Ky:=qf.2.2.2.2.2.2.1
noncomputable def Pq:=qf.2.2.2.2.2.2.2
theorem NQ:Fj NP wO Pu wP fQ BW Ky Pq:=fun hh hS hf hl hz hr h=>by
 have hT:wO.TypeIs (.ref wP) "set":=⟨_,hS,rfl⟩;have hSlt:=Tt hS;refine wpAny_pyIter_slot hT PySem.F.slot_set_iter (TA PySem.F.slot_set_iter hT F.entry_set_iter ?_ (PySem.F.args_set_iter_1 _));unfold Builtin.«frozenset.__iter__» Builtin.Frozenset.slot0 slotArgs;simp only[List.isEmpty_nil,Bool.not_true,Bool.false_eq_true,↓reduceIte,bind_assoc,List.length_nil,bne_self_eq_false];unfold Builtin.Frozenset.addrOf Builtin.Frozenset.sizeOf;refine Sv (Sw ?_)
 try dsimp only
 refine Sv (Sw ?_);refine Sv (Sv (wpAny_setEntries_of hS rfl hf (Sw ?_)));unfold setDrawn;refine Sv (Sv (TY hS rfl hf (Sv (ji (Sw ?_)))));have ea:∀(h1:Heap) (d:Drawn) (T:Addr) (first:Value) (ord:List Value),(∀ b o,wO.heap.get? b=some o->h1.get? b=some o)->(T=wP\/wO.heap.get? T=none)->T≠h1.objs.size->wO.heap.get? h1.objs.size=none->
   (∀ h2,h2.get? h1.objs.size=some { cls:=.type "set_iterator",data:=.fields #[first,.int 0 0,.ref wP,.int fQ.size 0,.int BW 0] }->(∀ b o,h1.get? b=some o->h2.get? b=some o)->fD wP h1.objs.size T fQ BW Ky ord 0 h2)->ord.Perm (fQ.toList.map (·.2))->
   wpAny M0 NP.in1 (setEpoch wP >>= fun e=>newFields "set_iterator" [first,rawInt 0,.ref wP,rawInt fQ.size,rawInt e] >>= fun v=>PySem.ret v) (fun(f:PySem.Fin) s'=>∃ v,f=.done (.ret v)/\∃ T' c,s'.TypeIs v T'/\typeLookup (.type T') (Str.ofString "__next__")=pure (some c)/\Pq v s') (fun e s'=>Pu e s') { wO with heap:=h1,drawn:=d }:=by
  intro h1 d T first ord hk hT' hTn hn hst hp
  refine Sv (wpAny_setEpoch_of (hk _ _ hS) rfl hf ?_);unfold newFields;refine Sv (TR (Sw ⟨_,rfl,"set_iterator",_,⟨_,Tb _ rfl,rfl⟩,F.slot_set_iterator_next.lookup,?_⟩));have hSn:wP≠h1.objs.size:=S7 (Tt (hk _ _ hS));refine h (h1.push _) d h1.objs.size [h1.objs.size,wP,T] ord _ (vk NP hh hSn hTn hf hz hr (by rw[hp.length_eq];simp)) (hst _ (Tb _ rfl) fun b o e=>SW _ e) hp (by simp) (fun b hb=>?_) (fun b o e=>SW _ (hk b o e)) hn
  rcases SN.mp hb with rfl | hb
  ·exact .inl hn
  ·rcases SN.mp hb with rfl | hb
   ·exact .inr rfl
   ·rw[SO.mp hb];exact hT'.symm
 refine Tr (fun hd=>?_) fun hd=>?_
 ·have hd':(!kA&&(!Ky.plain&&decide (fQ.size > 1)))=true:=hd;rw[Bool.and_eq_true] at hd';refine Sv (mY fQ.size _ Uw.symm fun pl d hp=>?_);refine Sv (wpAny_newTuple ?_ (by rw[SU,hp.length_eq,Uw,sizeLine_eq];exact Sy hz (by decide)))
  refine Tx (ea _ d wO.heap.objs.size (.ref wO.heap.objs.size) (pl.map fun j=>(fQ.getD j (0,.none)).2) (fun b o e=>SW _ e) (.inr (aV (SE _))) (by rw[Ue];exact S7 (T8 _)) (aV (by rw[Ue];exact TS _)) (fun h2 e2 k2=>?_) ?_) (fun _ _ z=>z) fun _ _ z=>z
  ·exact⟨_,e2,k2 _ _ (SW _ hS),.inr (.inl ⟨by simpa using hd'.1,hd'.2,pl,0,rfl,k2 _ _ (Tb _ rfl),fun j hj=>by simpa using hp.mem_iff.mp hj,rfl⟩)⟩
  ·refine(hp.map _).trans ?_;have:(List.range fQ.size).map (fun j=>(fQ.getD j (0,.none)).2)=fQ.toList.map (·.2):=by
    apply List.ext_getElem
    ·simp
    ·intro i h1 h2;simp at h1;simp[Array.getD,h1]
   rw[this]
 ·have hd':¬((!kA&&(!Ky.plain&&decide (fQ.size > 1)))=true):=hd;rw[Bool.not_eq_true] at hd';refine Sv (Sw ?_)
  cases hb:kA with
  | true=>
   refine Tx (ea wO.heap wO.drawn wP (.int 0 0) ((pickOrder (w0.params.setOrder wP BW) fQ).toList.map (·.2)) (fun _ _ e=>e) (.inl rfl) (S7 hSlt) (aV (SE _)) (fun h2 e2 k2=>?_) ((vx _ fQ).map _)) (fun _ _ z=>z) fun _ _ z=>z;exact⟨_,e2,k2 _ _ hS,.inl ⟨hb,rfl,rfl⟩⟩
  | false=>
   rw[hb] at hd';refine Tx (ea wO.heap wO.drawn wP (.int 0 0) (fQ.toList.map (·.2)) (fun _ _ e=>e) (.inl rfl) (S7 hSlt) (aV (SE _)) (fun h2 e2 k2=>?_) (.refl _)) (fun _ _ z=>z) fun _ _ z=>z;exact⟨_,e2,k2 _ _ hS,.inr (.inr ⟨hb,by simpa using hd',hl.resolve_right (by rw[hb];simp),0,rfl,tc (by rw[cL hf];exact hz),rfl⟩)⟩
theorem yS{S:Addr}{es:Array (Int×Value)}{ep:Nat}{t:UI}{Q:Value->UE->Prop}:Fj A s E S es ep t Q:=bE Jm NQ (A,s,E,S,es,ep,t,Q)
def GX(h:Heap)(a:Addr)(ws:List Value):Prop:=∃ es n t,h.get? a=some (HZ es n t)/\Ki es t ws
theorem oj{S:Addr}{ws:List Value}{Q:List Value->UE->Prop}(hh:A.handled=none)(hS:GX s.heap S ws)
  (h:∀ h' tk d ord,ord.Perm ws->(∀ b o,s.heap.get? b=some o->h'.get? b=some o)->Q ord { s with heap:=h',toks:=tk,drawn:=d }):wpAny M0 A (collect (.ref S)) Q E s:=by
 obtain⟨es,n,t,ho,hf,rfl,hl,hz,hr⟩:=hS;refine iS (T:="set") (fun ord=>ord.Perm (es.toList.map (·.2))) ⟨_,ho,rfl⟩ (by decide) (by decide) (fun E₁ s₁ Q₁ hT hq=>y8 hT hq) (fun E₁ s₁ Q₁ hk hq=>?_) h
 refine yS (A:=A.in1) hh (hk _ _ ho) hf hl hz hr fun h' d I fp ord St Wk st hp hI hfp hk' hIn=>hq h' d I fp ord St Wk st hp (by rw[hp.length_eq,sizeLine_eq];simp;exact Sy hz (by decide)) hI (fun b hb=>?_) hk' hIn
 rcases hfp b hb with e | rfl
 ·exact .inl e
 ·exact .inr ⟨_,ho⟩
end
def mV(I d:Addr)(ds:Array UH)(m:Nat)(i:Nat)(h:Heap):Prop:=
 h.get? I=some { cls:=.type "dict_keyiterator",data:=.fields #[.ref d,.int i 0,.int ds.size 0,.int m 0] }/\h.get? d=some (bS ds m)
section
variable{A:UG}{E:Value->UE->Prop}{s:UE}
def Fe(A:UG)(s:UE)(E:Value->UE->Prop)(I d:Addr)(ds:Array UH)(m i:Nat)(e:UH)(Q:Option Value->UE->Prop):Prop:=∀(hne:d≠I) (he:ds[i]?=some e) (x:mV I d ds m i s.heap) (h:∀ h',mV I d ds m (i+1) h'->Heap.SameBut I s.heap h'->Q (some e.key) { s with heap:=h' }),wpAny M0 A (pyNext (.ref I)) Q E s
def Jl(a:UG×UE×(Value->UE->Prop)×Addr×Addr×Array UH×Nat×Nat×UH×(Option Value->UE->Prop)):Prop:=Fe a.1 a.2.1 a.2.2.1 a.2.2.2.1 a.2.2.2.2.1 a.2.2.2.2.2.1 a.2.2.2.2.2.2.1 a.2.2.2.2.2.2.2.1 a.2.2.2.2.2.2.2.2.1 a.2.2.2.2.2.2.2.2.2
noncomputable def lD:=lK ({},{},default) Jl
noncomputable def RU:=lD.1
noncomputable def Fd:=lD.2.1
noncomputable def RT:=lD.2.2.1
noncomputable def Dg:=lD.2.2.2.1
noncomputable def kid:=lD.2.2.2.2.1
noncomputable def kids:=lD.2.2.2.2.2.1
noncomputable def Pp:=lD.2.2.2.2.2.2.1
noncomputable def yQ:=lD.2.2.2.2.2.2.2.1
noncomputable def NN:=lD.2.2.2.2.2.2.2.2.1
noncomputable def RQ:=lD.2.2.2.2.2.2.2.2.2
theorem NO:Fe RU Fd RT Dg kid kids Pp yQ NN RQ:=fun hne he x h=>by
 obtain⟨ho,hod⟩:=id x;have hT:Fd.TypeIs (.ref Dg) "dict_keyiterator":=⟨_,ho,rfl⟩;have hlt:yQ<kids.size:=(Uy.mp he).1;unfold pyNext;refine Sv (wpAny_attempt (wpAny_callSpecial?_slot (name:=Str.ofString "__next__") hT PySem.F.slot_dict_keyiterator_next
  (TA PySem.F.slot_dict_keyiterator_next hT PySem.F.entry_dict_keyiterator_next ?_ (PySem.F.args_dict_keyiterator_next_1 _))))
 refine Sv (Sw ?_);refine Sv ?_;refine Sv ?_
 first | refine Sv (wpAny_typeNameOfWhole_keyiter hT (Sw ?_)) | refine Sv (wpAny_typeNameOf_keyiter hT (Sw ?_))
 refine Sv (wpAny_fieldsOf ho rfl ?_);have hown:Builtin.Dict_items.ownsTuple "dict_keyiterator"=false:=by decide
 rw[hown];show wpAny _ _ (if(Value.ref kid==Value.none)=true then _ else _) _ _ Fd
 rw[Sz (show ¬((Value.ref kid==Value.none)=true) from Tg)];refine Sv (Sw ?_);refine Sv (T4 hod rfl ?_);rw[Sz (by simp)]
 refine Sv (Sw ?_);refine Sv (T3 hod rfl ?_);rw[Sz (by simp)]
 refine Sw ?_;dsimp only;generalize hq:(if(yQ:Int)<0 then(none:Option UH) else kids[(yQ:Int).toNat]?)=q
 obtain rfl:some NN=q:=by rw[<- hq,Sz (Int.not_lt.mpr (Uq yQ)),Int.toNat_natCast,he]
 refine Sv ?_
 first | refine Sv (wpAny_typeNameOfWhole_keyiter hT (Sw ?_)) | refine Sv (wpAny_typeNameOf_keyiter hT (Sw ?_))
 refine Sv (wpAny_isOneOf_keyiter hT ?_);refine Sv (m:=setField (.ref Dg) 1 (rawInt ((yQ:Int)+1))) (TT ho rfl (by simp) ?_)
 have ho1:=Tw (Obj.mapFields (·.setIfInBounds 1 (rawInt ((yQ:Int)+1)))) ho rfl;have sb:=Tm Fd.heap Dg (Obj.mapFields (·.setIfInBounds 1 (rawInt ((yQ:Int)+1))));have hT':({ Fd with heap:=Fd.heap.update Dg (Obj.mapFields (·.setIfInBounds 1 (rawInt ((yQ:Int)+1)))) }:UE).TypeIs (.ref Dg) "dict_keyiterator":=⟨_,ho1,rfl⟩;have hK:mV Dg kid kids Pp (yQ+1) (Fd.heap.update Dg (Obj.mapFields (·.setIfInBounds 1 (rawInt ((yQ:Int)+1))))):=⟨ho1,(sb.2 kid hne).trans hod⟩;refine Sv (S6 ?_);refine Sv (wpAny_isOneOf_keyiter hT' ?_);show wpAny _ _ (pure NN.key) _ _ _;exact Sw (Sw ⟨_,rfl,Sw (h _ hK sb)⟩)
theorem yR{I d:Addr}{ds:Array UH}{m i:Nat}{e:UH}{Q:Option Value->UE->Prop}:Fe A s E I d ds m i e Q:=bE Jl NO (A,s,E,I,d,ds,m,i,e,Q)
theorem BS{I d:Addr}{ds:Array UH}{m:Nat}{Q:Option Value->UE->Prop}(hh:A.handled=none)(x:mV I d ds m ds.size s.heap)
  (h:∀ h',Heap.ExtBut I s.heap h'->Q none { s with heap:=h' }):wpAny M0 A (pyNext (.ref I)) Q E s:=by
 obtain⟨ho,hod⟩:=id x;have hT:s.TypeIs (.ref I) "dict_keyiterator":=⟨_,ho,rfl⟩;unfold pyNext;refine Sv (wpAny_attempt (wpAny_callSpecial?_slot (name:=Str.ofString "__next__") hT PySem.F.slot_dict_keyiterator_next
  (TA PySem.F.slot_dict_keyiterator_next hT PySem.F.entry_dict_keyiterator_next ?_ (PySem.F.args_dict_keyiterator_next_1 _))))
 refine Sv (Sw ?_);refine Sv ?_;refine Sv ?_
 first | refine Sv (wpAny_typeNameOfWhole_keyiter hT (Sw ?_)) | refine Sv (wpAny_typeNameOf_keyiter hT (Sw ?_))
 refine Sv (wpAny_fieldsOf ho rfl ?_);have hown:Builtin.Dict_items.ownsTuple "dict_keyiterator"=false:=by decide
 rw[hown];show wpAny _ _ (if(Value.ref d==Value.none)=true then _ else _) _ _ s
 rw[Sz (show ¬((Value.ref d==Value.none)=true) from Tg)];refine Sv (Sw ?_);refine Sv (T4 hod rfl ?_);rw[Sz (by simp)]
 refine Sv (Sw ?_);refine Sv (T3 hod rfl ?_);rw[Sz (by simp)]
 refine Sw ?_;dsimp only;generalize hq:(if(ds.size:Int)<0 then(none:Option UH) else ds[(ds.size:Int).toNat]?)=q
 obtain rfl:none=q:=by rw[<- hq,Sz (Int.not_lt.mpr (Uq _)),Int.toNat_natCast,Uv (SE ds.size)]
 refine Sv ?_
 first | refine Sv (wpAny_typeNameOfWhole_keyiter hT (Sw ?_)) | refine Sv (wpAny_typeNameOf_keyiter hT (Sw ?_))
 refine Sv (m:=setField (.ref I) 0 .none) (TT ho rfl (by simp) ?_)
 have sb:=Tm s.heap I (Obj.mapFields (·.setIfInBounds 0 Value.none));exact gh (s:={ s with heap:=s.heap.update I (Obj.mapFields (·.setIfInBounds 0 Value.none)) }) (E:=E) (Q:=Q) hh fun h' hk=>h h' fun b o hb e=>hk b o ((sb.2 b hb).trans e)
theorem vY(A:UG)(hh:A.handled=none){I d:Addr}{ds:Array UH}{m:Nat}(hne:d≠I) :
  Walks PG w0 A I [I,d] [I] (ds.toList.map (·.key)).length (fun i v=>(ds.toList.map (·.key))[i]?=some v) (mV I d ds m) where
 sub:=fun b hb=>by simp at hb;simp[hb]
 frame:=fun _ _ _ st hk=>⟨hk I (by simp) _ st.1,hk d (by simp) _ st.2⟩
 item:=fun i s Q E hi st hQ=>by
  have hi':i<ds.size:=by simpa using hi
  exact yR hne (TL hi') st fun h' x' sb=>hQ _ h' s.toks (by simp[hi']) x' fun b o hb e=>(sb.2 b (fun q=>hb (by simp[q]))).trans e
 done:=fun s Q E st hQ=>BS hh (by simpa using st) fun h' hx=>hQ h' s.toks fun b o hb e=>hx b o (fun q=>hb (by simp[q])) e
 self:=fun i s Q E st hQ=>by
  have hT:s.TypeIs (.ref I) "dict_keyiterator":=⟨_,st.1,rfl⟩;refine wpAny_pyIter_slot hT PySem.F.slot_dict_keyiterator_iter (TA PySem.F.slot_dict_keyiterator_iter hT PySem.F.entry_dict_keyiterator_iter ?_ (PySem.F.args_dict_keyiterator_iter_1 _));show wpAny _ _ (PySem.ret (.ref I)) _ _ s;exact Sw ⟨_,rfl,"dict_keyiterator",_,hT,PySem.F.slot_dict_keyiterator_next.lookup,hQ⟩
theorem v6{d:Addr}{ds:Array UH}{m:Nat}{Q:Value->UE->Prop}(hS:(d==sysModules)=false)(ho:s.heap.get? d=some (bS ds m))
  (h:Q (.ref s.heap.objs.size) { s with heap:=s.heap.push { cls:=.type "dict_keyiterator",data:=.fields #[.ref d,.int 0 0,.int ds.size 0,.int m 0] } }):wpAny M0 A (pyIter (.ref d)) Q E s:=by
 have hT:s.TypeIs (.ref d) "dict":=⟨_,ho,rfl⟩;refine wpAny_pyIter_slot hT PySem.F.slot_dict_iter (TA PySem.F.slot_dict_iter hT PySem.F.entry_dict_iter ?_ (PySem.F.args_dict_iter_1 _));unfold Builtin.«dict.__iter__»;refine Sv ?_;unfold Builtin.Dict.dictSlotNone;refine Sv (Uu hT ?_);show wpAny _ _ (pure (Value.ref d)) _ _ s;refine Sw ?_;show wpAny _ _ (Builtin.Dict.showsAll d >>= _) _ _ s;unfold Builtin.Dict.showsAll;rw[Sz (by rw[hS];exact Tg)]
 refine Sv (Sw ?_);refine Sv (T4 ho rfl ?_);refine Sv (T3 ho rfl ?_);refine Sv (TR (Sw ⟨_,rfl,"dict_keyiterator",_,⟨_,Tb _ rfl,rfl⟩,PySem.F.slot_dict_keyiterator_next.lookup,?_⟩));exact h
theorem om{d:Addr}{ds:Array UH}{m:Nat}{Q:List Value->UE->Prop}(hh:A.handled=none)(hS:(d==sysModules)=false)(hz:ds.size<=sizeLine)(ho:s.heap.get? d=some (bS ds m))
  (h:∀ h' tk d',(∀ b o,s.heap.get? b=some o->h'.get? b=some o)->Q (ds.toList.map (·.key)) { s with heap:=h',toks:=tk,drawn:=d' }):wpAny M0 A (collect (.ref d)) Q E s:=by
 refine iS (T:="dict") (fun ord=>ord=ds.toList.map (·.key)) ⟨_,ho,rfl⟩ (by decide) (by decide) (fun E₁ s₁ Q₁ hT hq=>kdl_hint_dict hT hq) (fun E₁ s₁ Q₁ hk hq=>?_) fun h' tk d' ord e hk=>by rw[e];exact h h' tk d' hk
 refine v6 hS (hk _ _ ho) ?_;have hlt:=Tt (hk _ _ ho);refine hq (s₁.heap.push _) s₁.drawn s₁.heap.objs.size [s₁.heap.objs.size,d] _ (mV s₁.heap.objs.size d ds m) (vY A.in1 hh (S7 hlt)) ⟨Tb _ rfl,SW _ (hk _ _ ho)⟩ rfl (by simpa using hz) (by simp) (fun b hb=>?_) (fun b o e=>SW _ e) (aV (SE _))
 rcases SN.mp hb with rfl | hb
 ·exact .inl (aV (SE _))
 ·rw[SO.mp hb];exact .inr ⟨_,ho⟩
end
def lU(h:Heap)(v1 v2:Value)(t:Bool):Prop:=∃ κ,∀(A:UG) (s:UE),s.heap=h->
 (∀(Q:SortKind->UE->Prop) (E:Value->UE->Prop),Q κ s->wpAny M0 A (keyKind' #[v1,v2]) Q E s)/\
 (∀(Q:Bool->UE->Prop) (E:Value->UE->Prop),A.units+12<cLine->Q t s->wpAny M0 A (keyLt' κ v2 v1) Q E s)
theorem BV:kas_sort 2=.ask 1 0 fun c=>.ret (if c=true then #[1,0] else #[0,1]):=by
 unfold kas_sort kas_count;show KasT.bind (KasT.bind (KasT.ask 1 0 _) _) _=_;simp only[KasT.bind];congr 1
 funext c
 cases c<;>rfl
section
variable{A:UG}{E:Value->UE->Prop}{s:UE}
def Eb(A:UG)(s:UE)(E:Value->UE->Prop)(a:Addr)(n:Nat)(P:PySem.Fin->UE->Prop):Prop:=∀{vs:List Value} {out:List Value} (hu:A.units+12<cLine) (ho:s.heap.get? a=some (seqObj "list" vs.toArray n)) (hc:(vs.length<2/\out=vs)\/∃ v1 v2 t,vs=[v1,v2]/\out=(if t=true then[v2,v1] else[v1,v2])/\∀ h':Heap,(∀ b o,b≠a->s.heap.get? b=some o->h'.get? b=some o)->lU h' v1 v2 t) (h:P (.done (.ret .none)) { s with heap:=sortedHeap s.heap a vs out.toArray }),wpAny M0 A (Builtin.«list.sort» ⟨[.ref a],[]⟩) P E s
def HO(a:UG×UE×(Value->UE->Prop)×Addr×Nat×(PySem.Fin->UE->Prop)):Prop:=Eb a.1 a.2.1 a.2.2.1 a.2.2.2.1 a.2.2.2.2.1 a.2.2.2.2.2
noncomputable def uY:=lK ({},{},default) HO
noncomputable def Kp:=uY.1
noncomputable def uX:=uY.2.1
noncomputable def OH:=uY.2.2.1
noncomputable def wK:=uY.2.2.2.1
noncomputable def Qn:=uY.2.2.2.2.1
noncomputable def OG:=uY.2.2.2.2.2
theorem KZ:Eb Kp uX OH wK Qn OG:=fun{vs} {out} hu ho hc h=>by
 rw[list_sort_plain];have ha:wK<uX.heap.objs.size:=Tt ho;have hvz:vs.length<=2:=by
  rcases hc with⟨h1,_⟩ | ⟨_,_,_,rfl,_⟩
  ·exact PW h1
  ·exact SE _
 refine Sv (listItems_at ho rfl ?_);refine Sv (listUpdate_at ho rfl ?_ (by rw[List.size_toArray,sizeLine_eq];exact Sy hvz (by decide)) (SZ _))
 obtain⟨e1,ho1⟩:∃ e1,(uX.heap.update wK (Obj.mapSeq fun _=>#[])).get? wK=some (seqObj "list" #[] e1):=⟨_,get?_update_seq ho (fun _=>#[])⟩;refine Sv (seqEpoch_at ho1 rfl ?_);refine Sv (wpAny_newTuple ?_ (by show vs.length<=_;rw[sizeLine_eq];exact Sy hvz (by decide)))
 refine Sv (wpAny_newList ?_ (SZ _));refine S6 ?_;have ho6:(((uX.heap.update wK (Obj.mapSeq fun _=>#[])).push (seqObj "tuple" vs.toArray 0)).push (seqObj "list" #[] 0)).get? wK=some (seqObj "list" #[] e1):=by
  rw[Heap.get?_push_ne _ _ _ (by rw[size_push',Heap.size_update];exact S7 (TC ha)),Heap.get?_push_ne _ _ _ (by rw[Heap.size_update];exact S7 ha)]
  exact ho1
 show wpAny M0 Kp _ OG OH { uX with heap:=((uX.heap.update wK (Obj.mapSeq fun _=>#[])).push (seqObj "tuple" vs.toArray 0)).push (seqObj "list" #[] 0) };dsimp only
 rcases hc with⟨hl,rfl⟩ | ⟨v1,v2,t,rfl,rfl,hcmp⟩
 ·have h2:out.toArray.size<2:=by simpa using hl
  rw[SI h2,SI h2];refine Sv (Sw ?_);rw[StateT.run_pure];refine Sv (Sw ?_);dsimp only;have hm:(out.toArray.zip out.toArray).map (·.2)=out.toArray:=by
   apply Array.toList_inj.mp;rw[Array.toList_map,Array.toList_zip];exact List.map_snd_zip (SE _)
  refine Sv (seqEpoch_at ho6 rfl ?_);show wpAny _ _ (Builtin.List.listUpdate (.ref wK) (fun _=>(out.toArray.zip out.toArray).map (·.2)) >>= _) _ _ _;rw[hm];refine Sv (listUpdate_at ho6 rfl ?_ (SZ _) (by rw[List.size_toArray,sizeLine_eq];exact PV hvz))
  show wpAny _ _ (if(e1 != e1)=true then _ else _) _ _ _
  simp only[bne_self_eq_false,Bool.false_eq_true,if_false];exact Sw h
 ·have h2:¬([v1,v2]:List Value).toArray.size<2:=by simp
  rw[Sz h2,Sz h2];obtain⟨κ,hκ⟩:=hcmp (((uX.heap.update wK (Obj.mapSeq fun _=>#[])).push (seqObj "tuple" ([v1,v2]:List Value).toArray 0)).push (seqObj "list" #[] 0)) fun b o hb e=>by
   have hlt:=Tt e;rw[Heap.get?_push_ne _ _ _ (by rw[size_push',Heap.size_update];exact S7 (TC hlt)),Heap.get?_push_ne _ _ _ (by rw[Heap.size_update];exact S7 hlt),Uz _ _ (Ne.symm hb)]
   exact e
  obtain⟨k1,k2⟩:=hκ Kp { uX with heap:=((uX.heap.update wK (Obj.mapSeq fun _=>#[])).push (seqObj "tuple" ([v1,v2]:List Value).toArray 0)).push (seqObj "list" #[] 0) } rfl;refine Sv (k1 _ _ ?_);refine Sv (Tx (kat_run (ks:=[v1,v2]) (vs:=[v1,v2]) (Q:=fun st' s'=>s'={ uX with heap:=((uX.heap.update wK (Obj.mapSeq fun _=>#[])).push (seqObj "tuple" ([v1,v2]:List Value).toArray 0)).push (seqObj "list" #[] 0) }/\failedOf st'=none/\(arrOf st').map (·.2)=(if t=true then[v2,v1] else[v1,v2]).toArray)
   (G:=fun p s'=>s'={ uX with heap:=((uX.heap.update wK (Obj.mapSeq fun _=>#[])).push (seqObj "tuple" ([v1,v2]:List Value).toArray 0)).push (seqObj "list" #[] 0) }/\p=if t=true then #[1,0] else #[0,1]) rfl (by simp) (by simp) (fun p st' s' a1 a2 a3 a4=>?_) ?_) (fun r s' hr=>?_) fun _ _ e=>e)
  ·obtain⟨rfl,rfl⟩:=a4;refine⟨rfl,a3,?_⟩;rw[kat_snds (ks:=[v1,v2]) (vs:=[v1,v2]) rfl a2]
   cases t<;>rfl
  ·show KasT.kasWp _ (kas_sort 2) _ _;rw[BV];show kas_ask PG w0 Kp κ [v1,v2] 1 0 _ _;unfold kas_ask;exact k2 _ _ hu ⟨rfl,rfl⟩
  ·obtain⟨⟨⟩,st'⟩:=r;obtain⟨rfl,hf,hm⟩:=hr;dsimp only at hf hm ⊢;refine Sv (seqEpoch_at ho6 rfl ?_);rw[hm];refine Sv (listUpdate_at ho6 rfl ?_ (SZ _) (by cases t<;>simp[sizeLine_eq]))
   rw[hf];simp only[bne_self_eq_false,Bool.false_eq_true,if_false];exact Sw h
theorem xR{a:Addr}{n:Nat}{P:PySem.Fin->UE->Prop}:Eb A s E a n P:=bE HO KZ (A,s,E,a,n,P)
end
theorem xz{j k:Nat}(hj:(Nat.beq j 7||Nat.beq j 8)=true)(hk:(Nat.beq k 7||Nat.beq k 8)=true):decide ((au j).cps.toList<(au k).cps.toList)=Nat.blt j k/\(j≠k->fZ k j=some (!Nat.blt j k)):=by
 have h:∀{j:Nat},(Nat.beq j 7||Nat.beq j 8)=true->j=7\/j=8:=fun h=>(TX.mp h).imp Ub Ub
 rcases h hj with rfl | rfl<;>rcases h hk with rfl | rfl<;>exact⟨by decide +kernel,by decide +kernel⟩
theorem nc{j k:Nat}{t:Bool}(h:fZ j k=some t):decide ((au j).cps.toList<(au k).cps.toList)=t/\(j≠k->fZ k j=some (!t)):=bi h (fun q e=>
 have q:=SL.mp q
 SQ e▸xz q.1 q.2) fun _ h=>nomatch h
theorem Dj{v:AV}{i:Nat}(h:ng v=some i):∃ vs,v=.tup (.sym i::vs):=ae h fun l h1 h=>ae h fun u h2 h=>by
 cases l with
 | nil=>cases h2
 | cons x l=>cases h2;cases cw h;exact⟨l,aB h1⟩
theorem Ja{a b:AV}{t:Bool}{C:AV->AV->Bool->Prop}(h:BJ b a=some t)(hi:∀ i j,C (.int j) (.int i) (decide (j<i)))(hs:∀ i j t,fZ j i=some t->C (.sym j) (.sym i) t)(ht:∀ i j vs us t,i≠j->fZ j i=some t->C (.tup (.sym j::us)) (.tup (.sym i::vs)) t):C b a t:=
 bt h (fun h=>ae h fun j h1 h=>aH h fun i h2 e=>bp h1▸bp h2▸e▸hi i j) fun h=>bt h (fun h=>ae h fun j h1 h=>ae h fun i h2 h=>cw h1▸cw h2▸hs i j t h) fun h=>ae h fun j h1 h=>ae h fun i h2 h=>
  (Dj h1).elim fun us e1=>(Dj h2).elim fun vs e2=>bi h (fun _ h=>nomatch h) fun q h=>e1▸e2▸ht i j vs us t (fun e=>nomatch(e▸Nat.beq_refl i:Nat.beq j i=true).symm.trans q) h
theorem yF{a b:AV}{t:Bool}(h:BJ b a=some t):a≠b->BJ a b=some (!t):=Ja (C:=fun b a t=>a≠b->BJ a b=some (!t)) h
 (fun i j ne=>(show some (decide (i<j))=some (!decide (j<i)) from by
  have:i≠j:=fun e=>ne (Sx _ e)
  rcases Int.lt_or_gt_of_ne this with q | q
  ·rw[SM q,Td (Int.not_lt.mpr (Int.le_of_lt q))];rfl
  ·rw[SM q,Td (Int.not_lt.mpr (Int.le_of_lt q))];rfl))
 (fun i j t h ne=>by
  show cO (fZ i j) _=_;rw[(nc h).2 fun e=>ne (Sx _ e.symm)];rfl)
 fun i j vs us t ne h _=>by
  show(bif Nat.beq i j then none else fZ i j)=_;rw[show Nat.beq i j=false from Bool.eq_false_iff.mpr fun e=>ne (Ub e)];exact(nc h).2 fun e=>ne e.symm
theorem yf{α:Type}{zs:List α}{a b:α}(h:zs.Perm [a,b]):zs=[a,b]\/zs=[b,a]:=by
 match zs,h.length_eq with
 | [x,y],_=>
  rcases SN.mp (h.mem_iff.mp (List.mem_cons_self (a:=x) (l:=[y]))) with rfl | hx
  ·exact .inl (Sx _ (List.perm_singleton.mp ((List.perm_cons _).mp h)))
  ·cases SO.mp hx
   exact .inr (Sx _ (List.perm_singleton.mp ((List.perm_cons _).mp (h.trans (List.Perm.swap _ _ _)))))
theorem rD{zs out:List AV}:∀{ys:List AV},zs.Perm ys->bZ ys=some out->bZ zs=some out
 | [],h,hs=>h.eq_nil▸hs
 | [a],h,hs=>List.perm_singleton.mp h▸hs
 | [a,b],h,hs=>(yf h).elim (fun e=>e▸hs) fun e=>e▸(Tl (a=b)).elim (fun q=>q▸q▸hs) fun q=>aH hs fun t ht g=>by
  show(BJ a b).map _=_;rw[yF ht q,<- g]
  cases t<;>rfl
section
variable{z:Hp}{Y:St}{p:Pt Y}{A:UG}{s:UE}{E:Value->UE->Prop}
theorem ao.intE{i:Int}{w:Value}(r:ao z (.int i) w){P:Value->Prop}(k:∀ t,P (.int i t)):P w:=r.elim fun t e=>e▸k t
theorem ao.symE{i:Nat}{w:Value}(r:ao z (.sym i) w){P:Value->Prop}(k:∀ t,i<aS.length->P (.str (au i) t)):P w:=r.2.elim fun t e=>e▸k t r.1
theorem ao.headE{i:Nat}{vs:List AV}{w:Value}(r:ao z (.tup (.sym i::vs)) w){P:Value->Prop}(k:∀ a ws n t,i<aS.length->z.h.get? a=some (bV ws n)->(∃ l,ws.toList=.str (au i) t::l)->P (.ref a)):P w:=
 r.2.elim fun a h=>h.elim fun ws h=>h.elim fun n h=>h.1▸h.2.2.elim fun w h'=>h'.elim fun l h'=>h'.2.1.2.elim fun t e=>k a ws n t h'.2.1.1 h.2.1.h ⟨l,e▸h'.1⟩
theorem Cv{a b:AV}{v u:Value}{t:Bool}(ra:ao z a v)(rb:ao z b u)(hl:BJ b a=some t):lU z.h v u t:=
 Ja (C:=fun b a t=>ao z a v->ao z b u->lU z.h v u t) hl
  (fun i j ra rb=>ra.intE (P:=fun v=>lU z.h v u _) fun t1=>rb.intE (P:=fun u=>lU z.h _ u _) fun t2=>⟨oneType',fun A s _=>⟨fun Q E hq=>by
   rw[show keyKind' #[Value.int _ t1,Value.int _ t2]=pure oneType' from keyKind_ints (.cons _ _ (.cons _ _ .nil))];exact Sw hq,fun Q E _ hq=>by rw[keyLt'_oneType];exact oneLt_int hq⟩⟩)
  (fun i j t h ra rb=>ra.symE (P:=fun v=>lU z.h v u _) fun t1 _=>rb.symE (P:=fun u=>lU z.h _ u _) fun t2 _=>⟨oneType',fun A s _=>⟨fun Q E hq=>by
   rw[show keyKind' #[Value.str _ t1,Value.str _ t2]=pure oneType' from keyKind_strs (.cons _ _ (.cons _ _ .nil))];exact Sw hq,fun Q E _ hq=>by rw[keyLt'_oneType];exact oneLt_str (by rw[(nc h).1];exact hq)⟩⟩)
  (fun i j vs us t ne h ra rb=>ra.headE (P:=fun v=>lU z.h v u _) fun x xs n tp hk hx ex=>rb.headE (P:=fun u=>lU z.h _ u _) fun y ys m tq hj hy ey=>by
   obtain⟨px,epx⟩:=ex;obtain⟨qy,eqy⟩:=ey;have hx0:xs[0]?=some (.str (au i) tp):=by rw[<- Ts,epx];rfl
   have hy0:ys[0]?=some (.str (au j) tq):=by rw[<- Ts,eqy];rfl
   refine⟨tuples' (Value.type "str" != Value.type "tuple"),fun A s hs=>⟨fun Q E hq=>?_,fun Q E hu hq=>?_⟩⟩
   ·rw[<- hs] at hx hy;refine kat_kind (vs:=[.ref x,.ref y]) (fs:=[.str (au i) tp,.str (au j) tq]) (.cons hx rfl rfl hx0 (.cons hy rfl rfl hy0 .nil)) (Nat.succ_pos _) (fun v hv=>?_) (by decide) hq
    exact(SN.mp hv).elim (fun e=>e▸Looks.of_pure rfl) fun hv=>(SO.mp hv)▸Looks.of_pure rfl
   ·rw[<- hs] at hx hy;refine kat_lt hy rfl hx rfl ?_;rw[epx,eqy];show KatLex _ _ _ _ _ _ ((.str (au j) tq,.str (au i) tp)::_) 0 s;exact kat_cons (wpAny_eqBool_str (kat_go (fun e=>SH ((dY i hk).2 j hj (eq_of_beq e)).symm ne) fun _=>kat_no (oneLt_str (by rw[(nc h).1];exact hq))))) ra rb
theorem vf{zs out:List AV}(h:bZ zs=some out):zs.length<=2/\out.length=zs.length:=by
 match zs,h with
 | [],h=>cases h;decide
 | [a],h=>cases h;exact⟨TS 1,rfl⟩
 | [a,b],h=>exact aH h fun t _ e=>e▸⟨SE _,by cases t<;>rfl⟩
theorem xQ{x:Hp}{zs out:List AV}{ord:List Value}{H:Heap}{a:Addr}(hH:∀ b o,x.h.get? b=some o->b≠a/\H.get? b=some o):VL zs p ord->Wk p.x x->bZ zs=some out->
  ∃ outv:List Value,VL out p outv/\((ord.length<2/\outv=ord)\/∃ v1 v2 t,ord=[v1,v2]/\outv=(if t=true then[v2,v1] else[v1,v2])/\∀ h':Heap,(∀ b o,b≠a->H.get? b=some o->h'.get? b=some o)->lU h' v1 v2 t):=by
 match zs with
 | []=>exact fun r _ hs=>SQ hs▸⟨ord,r,.inl ⟨r.length▸Nat.succ_pos _,rfl⟩⟩
 | [c]=>exact fun r _ hs=>SQ hs▸⟨ord,r,.inl ⟨by rw[<- r.length];exact T8 _,rfl⟩⟩
 | [c,d]=>
  exact fun r wk hs=>aH hs fun t ht e=>e▸(VL.two r).elim fun v h=>h.elim fun u h=>⟨if t=true then[u,v] else[v,u],by cases t<;>first | exact .cons h.2.1 (.cons h.2.2 .nil) | exact .cons h.2.2 (.cons h.2.1 .nil),.inr ⟨v,u,t,h.1,rfl,fun h' hk=>by
   have wk2:Wk x ⟨x.ι,x.κ,h'⟩:=.same fun b o e _=>hk b o (hH b o e).1 (hH b o e).2;exact Cv (z:=⟨x.ι,x.κ,h'⟩) (ao.wk (wk.trans wk2) h.2.1) (ao.wk (wk.trans wk2) h.2.2) ht⟩⟩
 | _::_::_::_=>exact fun _ _ hs=>nomatch hs
end
section
variable{c:Cc}{A:UG}{env:Env}{U:En}{Y Y' Y1:St}{p:Pt Y}{Er:Value->UE->Prop}{s:UE}{v u:AV}{vs out:List AV}{w:Value}{n:Nat}
abbrev Sq(A:UG)(p:Pt Y)(m:Sem (List Value))(out:List AV):Prop:=Ev (Y':=Y) (fun q ord=>∃ zs,VL zs q ord/\bZ zs=some out) A p m
theorem dJ{r:Addr}(hu:A.units+20<cLine)(hc:Sq A.in1 p (collect (.ref r)) out):aQ A p (call (.builtin "sorted") [.ref r]) (.ref Y.length) (Y++[.list out]):=⟨fun{E Q} g=>by
 refine Calls.call_function_entry kind_sorted plain_sorted entry_sorted (args_sorted1 _) ?_;unfold Builtin.«sorted»;refine Sv (m:=checkCount "sorted" 1 1 _) (Sw (Sv (hc.go fun q ord n h=>h.elim fun zs h=>?_)));have hz:=vf h.2;have hlen:=h.1.length;refine Sv (wpAny_newList ?_ (by rw[<- hlen];exact Sy hz.1 (by decide)))
 have hD:(q.s.heap.push (seqObj "list" ord.toArray 0)).get? q.s.heap.objs.size=some (seqObj "list" ord.toArray 0):=Tb _ rfl;have ne:∀ b o,q.s.heap.get? b=some o->b≠q.s.heap.objs.size:=fun b o e=>S7 (Tt e);obtain⟨outv,ho,hcmp⟩:=xQ (x:=q.x) (H:=q.s.heap.push (seqObj "list" ord.toArray 0)) (fun b o e=>⟨ne b o e,SW _ e⟩) h.1 (.refl _) h.2;obtain⟨k,hk⟩:=sortedHeap_at (out:=outv.toArray) hD;refine Sv (S6 (TA slot_list_sort ⟨_,hD,rfl⟩ entry_list_sort (xR (s:={ q.s with heap:=q.s.heap.push (seqObj "list" ord.toArray 0) }) (by show A.units+1+1+12<cLine;exact PU hu) hD hcmp ⟨_,rfl,Sw ⟨_,rfl,
  q.newL (aV (SE _)) (fun b o e=>(sortedHeap_old (ne b o e) (by rw[size_push'];exact TC (Tt e))).trans (SW _ e)) hk (by rw[hz.2];exact Sy hz.1 (by decide)) ho fun q2 n2 v=>g q2 _ (n.trans n2) v⟩⟩) (args_list_sort _)))⟩
theorem ah.perm{α β:Type}{R:α->β->Prop}{us ord:List β}(p:ord.Perm us):∀{xs:List α},ah R xs us->∃ ys,ah R ys ord/\ys.Perm xs:=by
 induction p with
 | nil=>exact fun{xs} r=>⟨xs,r,.refl _⟩
 | @cons a l1 l2 q ih=>
  intro xs r
  cases xs with
  | nil=>exact nomatch(show _=[] from r)
  | cons x xs=>
   exact r.elim fun d h=>h.elim fun t h=>by
    obtain⟨e,h1,h2⟩:=h
    cases e
    exact(ih h2).elim fun ys h=>⟨x::ys,.cons h1 h.1,h.2.cons _⟩
 | swap a b l=>
  intro xs r
  cases xs with
  | nil=>exact nomatch(show _=[] from r)
  | cons x xs=>
   exact r.elim fun d h=>h.elim fun t h=>by
    obtain⟨e,h1,h2⟩:=h
    cases e
    cases xs with
    | nil=>exact nomatch(show _=[] from h2)
    | cons y xs=>
     exact h2.elim fun d h=>h.elim fun t h=>by
      obtain⟨e,h3,h4⟩:=h
      cases e
      exact⟨y::x::xs,.cons h3 (.cons h1 h4),.swap _ _ _⟩
 | trans p q ih1 ih2=>exact fun{xs} r=>(ih2 r).elim fun ys h=>(ih1 h.1).elim fun zs h'=>⟨zs,h'.1,h'.2.trans h.2⟩
theorem Pt.moreD(p:Pt Y){h':Heap}{Q:UE->Prop}{t:Nat}{d:Drawn}(hk:∀ b o,p.s.heap.get? b=some o->h'.get? b=some o)(k:∀ q:Pt Y,Nx [] p q->Q q.s):Q ⟨h',p.s.gens,d,t,p.s.os⟩:=p.more hk fun q n _ _=>k q n
theorem rB{r:Nat}(R:cg A n)(rv:V (.ref r) p w)(hr:ai Y r=some vs)(hs:bZ vs=some out):aQ A p (call (.builtin "sorted") [w]) (.ref Y.length) (Y++[.list out]):=
 rv.lstE hr (P:=fun w=>aQ A p (call (.builtin "sorted") [w]) (.ref Y.length) (Y++[.list out])) fun a ws m _ hl ho hx=>dJ (eW R) ⟨fun g=>collect_list (vs:=ws.toList) (by rw[Array.toArray_toList];exact cA ho)
  (p.moreD (fun b o e=>(Uz _ _ (T0 (Tt e))).trans (SW _ e)) fun q n=>g q _ n ⟨vs,VL.nx hx n,hs⟩) (aW (by rw[<- hx.length];exact hl))⟩
theorem rC{r:Nat}{es:List (AV×AV)}(R:cg A n)(rv:V (.ref r) p w)(hr:aM Y r=some es)(hs:bZ (es.map (·.1))=some out):aQ A p (call (.builtin "sorted") [w]) (.ref Y.length) (Y++[.list out]):=
 rv.dctE hr (P:=fun w=>aQ A p (call (.builtin "sorted") [w]) (.ref Y.length) (Y++[.list out])) fun a ds m hp hl nd ho hd=>dJ (eW R) ⟨fun g=>om R.handled (p.sysm hp) (eX hd▸aW hl) ho fun h' tk d' hk=>p.moreD hk fun q n=>
  g q _ n ⟨_,ah.ind (P:=fun(es:List (AV×AV)) (ds:List UH)=>VL (es.map fun e:AV×AV=>e.1) q (ds.map fun d:UH=>d.key)) .nil (fun h _ t=>.cons (h.key.wk n.wk) t) hd,hs⟩⟩
theorem pk(R:cg A n)(rv:V (.fset vs) p w)(hs:bZ vs=some out):aQ A p (call (.builtin "sorted") [w]) (.ref Y.length) (Y++[.list out]):=
 rv.elim fun a h=>h.elim fun ws h=>h.elim fun us h=>h.elim fun es h=>h.elim fun m h=>h.elim fun t h=>h.1▸dJ (eW R) ⟨fun g=>oj R.handled ⟨es,m,t,h.2.2.1.h,h.2.1.1⟩ fun h' tk d ord ho hk=>p.moreD hk fun q n=>
  (ah.perm (ho.trans h.2.1.2.symm) (VL.nx h.2.2.2.both n)).elim fun ys hy=>g q _ n ⟨ys,hy.1,rD hy.2 hs⟩⟩
structure Ox(x:Hp)(es:List (AV×AV))(ds:List UH)(kvs:List (Str×Value)):Prop where
 pairs:PySem.Pairs (PySem.strKind PG w0) ds kvs
 keys:∀ e,e∈ds->∃ k,(PySem.strKind PG w0).is k e.key=true/\e.hash=(PySem.strKind PG w0).hash k
 both:ah (fun(e:AV×AV) (kv:Str×Value)=>∃ i,e.1=.sym i/\i<aS.length/\kv.1=au i/\ao x e.2 kv.2) es kvs
theorem Fc{x:Hp}{es:List (AV×AV)}{ds:List UH}(hd:ah (DE x) es ds):es.all (fun e=>e.1.isSym)=true->∃ kvs,Ox x es ds kvs:=
 ah.ind (P:=fun(es:List (AV×AV)) (ds:List UH)=>es.all (fun e=>e.1.isSym)=true->∃ kvs,Ox x es ds kvs) (fun _=>⟨[],.nil,fun _ h=>(nomatch h),.nil⟩) (fun{e d es ds} h _ ih hs=>by
  obtain⟨k,v⟩:=e;obtain⟨kvs,K⟩:=ih (SL.mp hs).2
  cases k with
  | sym i=>
   obtain⟨hi,t,hk⟩:=h.key;have his:(PySem.strKind PG w0).is (au i) d.key=true:=by rw[hk];exact strKind_is ..
   exact⟨(au i,d.val)::kvs,.cons his rfl K.pairs,fun e' he'=>(SN.mp he').elim (fun q=>q▸⟨au i,his,h.hash⟩) (K.keys e'),.cons ⟨i,rfl,hi,rfl,h.val⟩ K.both⟩
  | _=>cases(SL.mp hs).1) hd
theorem vW{x:Hp}{es:List (AV×AV)}{ds:List UH}{kvs:List (Str×Value)}(K:Ox x es ds kvs)(nd:(es.map (·.1)).Nodup):(kvs.map (·.1)).Nodup:=by
 refine List.pairwise_iff_getElem.mpr fun i j hi hj hij hx=>?_;rw[SU] at hi hj;rw[List.getElem_map,List.getElem_map] at hx;refine K.both.get' (Tu hi) fun e1 p1 p2=>K.both.get' (Tu hj) fun e2 q1 q2=>?_;obtain⟨a,a1,a2,a3,_⟩:=p2;obtain⟨b,b1,b2,b3,_⟩:=q2;have e:a=b:=(dY b b2).2 a a2 (a3.symm.trans (hx.trans b3));have g1:(es.map (·.1))[i]?=some (.sym a):=by rw[Tv,p1];exact Sx some a1
 have g2:(es.map (·.1))[j]?=some (.sym b):=by rw[Tv,q1];exact Sx some b1
 exact S7 hij ((List.getElem?_inj (SJ.mp g1).1 nd).mp (g1.trans (e▸g2.symm)))
theorem ah.of_get{α β:Type}{R:α->β->Prop}{es:List α}:∀{ds:List β},es.length=ds.length->(∀(j:Nat) a b,es[j]?=some a->ds[j]?=some b->R a b)->ah R es ds:=by
 induction es with
 | nil=>exact fun e _=>UC e.symm▸.nil
 | cons a es ih=>
  refine @fun ds e f=>?_
  cases ds with
  | nil=>exact nomatch e
  | cons b ds=>exact .cons (f 0 _ _ rfl rfl) (ih (Nat.succ.inj e) fun j a b h1 h2=>f (j+1) a b h1 h2)
theorem pj{r:Nat}{es:List (AV×AV)}(R:cg A n)(rv:V (.view r) p w)(hr:aM Y r=some es)(hsy:es.all (fun e=>e.1.isSym)=true)(hs:bZ (es.map fun e=>.tup [e.1,e.2])=some out):aQ A p (call (.builtin "sorted") [w]) (.ref Y.length) (Y++[.list out]):=
 rv.elim fun a h=>h.elim fun pr h=>h.1▸dJ (eW R) (p.dct hr fun b ds m hp hz nd ho hd=>(Fc hd hsy).elim fun kvs K=>⟨fun g=>by
  cases h.2.1.symm.trans hp
  have hzl:kvs.length=es.length:=K.both.length.symm;refine kdx_collect (knd:=PySem.strKind PG w0) (kvs:=kvs) (ep:=m) R.handled ⟨_,h.2.2.h,rfl,rfl⟩ ⟨_,ds,ho,⟨rfl,rfl,rfl⟩,rfl,fun e he=>K.keys e (Array.mem_toList_iff.mpr he),K.pairs,vW K nd⟩ (by rw[hzl];exact aW hz) fun h' tk as hk hl hG=>p.more hk fun q n _ im=>g q _ n ⟨_,?_,hs⟩
  refine ah.of_get (by rw[SU,SU,hl,hzl]) fun j x y hx hy=>?_
  rw[Tv] at hx hy;obtain⟨e',he',rfl⟩:=Uj.mp hx;obtain⟨a',ha',rfl⟩:=Uj.mp hy;obtain⟨key,k,x,g1,g2,g3⟩:=hG.pairs j a' ha';refine K.both.get he' fun kv h1 h2=>?_;obtain⟨i,i1,i2,i3,i4⟩:=h2
  cases g1.symm.trans h1
  obtain⟨t,rfl⟩:=Value.isStrOf_shape g2;exact⟨by show 2<=ax;decide,a',_,0,rfl,im _ _ (aV (TM (hG.above a' (Tf ha')))) g3,ah.vrels (.cons (R:=ao q.x) (by rw[i1];exact⟨i2,t,Sx (Value.str · t) i3⟩) (.cons (i4.wk n.wk) .nil))⟩⟩)
end
section
variable{c:Cc}{A:UG}{env:Env}{U:En}{Y Y' Y1:St}{p:Pt Y}{Er:Value->UE->Prop}{s:UE}{v u:AV}{vs out:List AV}{w:Value}{n:Nat}{ws:List Value}
theorem BN(rv:V (.tup vs) p w):aQ A p (call (.builtin "len") [w]) (.int vs.length) Y:=
 rv.tupE (P:=fun w=>aQ A p (call (.builtin "len") [w]) (.int vs.length) Y) fun a us m hl i hx=>⟨fun g=>PyProof.Rows.len_tuple ⟨_,i.h,rfl,m,rfl⟩ (hx.size▸um hl) (g (p.tok _) _ .tok ⟨_,Sx (fun k:Nat=>Value.int (k:Int) _) hx.size⟩)⟩
theorem BO{r:Nat}(rv:V (.ref r) p w)(hr:ai Y r=some vs):aQ A p (call (.builtin "len") [w]) (.int vs.length) Y:=
 rv.lstE hr (P:=fun w=>aQ A p (call (.builtin "len") [w]) (.int vs.length) Y) fun a us m _ hl ho hx=>⟨fun g=>Calls.call_len_list (cA ho) (hx.size▸um hl) (g (p.tok _) _ .tok ⟨_,Sx (fun k:Nat=>Value.int (k:Int) _) hx.size⟩)⟩
theorem yK(rv:V (.fset vs) p w):aQ A p (call (.builtin "len") [w]) (.int vs.length) Y:=
 rv.elim fun a h=>h.elim fun ws h=>h.elim fun us h=>h.elim fun es h=>h.elim fun m h=>h.elim fun t h=>h.1▸⟨fun g=>call_len_set h.2.2.1.h ⟨rfl,rfl,rfl⟩ rfl h.2.1.1.1 (Int.lt_of_le_of_lt (TP.mpr h.2.1.1.2.2.2.1) (by decide)) (g (p.tok _) _ .tok ⟨_,Sx (fun k:Nat=>Value.int (k:Int) _) (by
  have e:=Sx List.length h.2.1.1.2.1;rw[SU,Uf] at e;exact e.trans (h.2.1.2.length_eq.symm.trans h.2.2.2.both.length.symm))⟩)⟩
theorem sY{i:Nat}(hi:i<=50000)(t:Tok):aQ A p (call (.type "range") [.int (i:Int) t]) (.rng i) Y:=⟨fun g=>call_range_1 (p.push (t:=p.s.toks+1+1) fun q n _ im=>g q _ n ⟨hi,_,_,_,_,rfl,im⟩)⟩
theorem Ik(n:Nat):Builtin.Range.rangeSize 0 (n:Int) 1=n:=by
 rw[rangeSize_one]
 split<;>omega
theorem xS{n:Nat}(h:n<=50000):Builtin.Range.small 0 (n:Int) 1=true:=small_one (by decide) (by decide) (Int.le_trans (by decide) (Uq n)) (Int.lt_of_le_of_lt (TP.mpr h) (by decide))
theorem sE(hh:A.handled=none){k:Nat}(rv:V (.rng k) p w):aQ A p (call (.type "list") [w]) (.ref Y.length) (Y++[.list ((List.range k).map fun(i:Nat)=>.int i)]):=
 rv.2.elim fun a h=>h.elim fun t h=>h.elim fun u h=>h.elim fun y h=>h.1▸⟨fun g=>call_list_range hh h.2.h (xS rv.1) (Ik k) (by have:=rv.1;omega) fun h' tk acc c hk hg hi=>
  p.newL (aV (SE _)) hk hg (by rw[SU,Uw];exact Sy rv.1 (by decide)) (pD hi) fun q n v=>g q _ n v⟩
theorem uS(rv:V (.tup vs) p w):aQ A p (call (.type "tuple") [w]) (.tup vs) Y:=
 rv.tupE (P:=fun w=>V (.tup vs) p w->aQ A p (call (.type "tuple") [w]) (.tup vs) Y) (fun a us m hl i hx rv=>⟨fun g=>call_tuple_same ⟨_,i.h,rfl,m,rfl⟩ (g p _ (.refl p) rv)⟩) rv
theorem uT{r:Nat}(rv:V (.ref r) p w)(hr:ai Y r=some vs):aQ A p (call (.type "tuple") [w]) (.tup vs) Y:=
 rv.lstE hr (P:=fun w=>aQ A p (call (.type "tuple") [w]) (.tup vs) Y) fun a us m _ hl ho hx=>⟨fun g=>call_tuple_list (cA ho) (fun h' hk=>p.more (fun b o e=>SW _ (hk b o e)) fun q n _ im=>g q _ n ⟨hl,_,us,0,rfl,im _ _ (match e:p.s.heap.get? h'.objs.size with | none=>rfl | some o=>SH (Tt (hk _ _ e)) (Ui _)) (Tb _ rfl),ah.vrels (VL.nx hx n)⟩) (hx.size▸aW hl)⟩
theorem nQ{α:Type}{f:List AV->Option α}{b:α}{P:Prop}(r:V v p w)(h:(cS Y v).bind f=some b)(k:∀ i xs,V (.ref i) p w->ai Y i=some xs->f xs=some b->P):P:=ae h fun xs h1 h=>ae h1 fun i h2 h3=>k i xs (ba h2▸r) h3 h
theorem ke(r:V v p w)(h:cS Y v=some vs){P:Prop}(k:∀ i,V (.ref i) p w->ai Y i=some vs->P):P:=ae h fun i h2 h3=>k i (ba h2▸r) h3
structure Su(A:UG)(p:Pt Y)(b:aN)(v u:AV)(w:Value)(Y':St):Prop where
 ev:aQ A p (call (iZ b) [w]) u Y'
abbrev lT(A:UG)(p:Pt Y)(f:Value)(w:Value)(u:AV)(Y':St):Prop:=aQ A p (call f [w]) u Y'
theorem J6(rv:V v p w)(h:(cO (bw v) (cO (n7 v) (cS Y v))).map (fun xs=>(AV.int xs.length,Y))=some (u,Y')):lT A p (.builtin "len") w u Y':=
 dr h fun xs h=>bt h (fun h=>BN (aB h▸rv)) fun h=>bt h (fun h=>yK (mH h▸rv)) fun h=>ke rv h fun i rv h=>BO rv h
theorem Gp(rv:V v p w)(h:(iw v).map (fun b=>(AV.int (bif b then 1 else 0),Y))=some (u,Y')):lT A p (.type "int") w u Y':=
 dr h fun b h=>V.boolE (P:=fun w=>aQ A p (call (.type "int") [w]) (.int (bif b then 1 else 0)) Y) (fk h▸rv) ⟨fun g=>PySem.call_int_bool (g (p.tok _) _ .tok ⟨_,by cases b<;>rfl⟩)⟩
theorem Gi(R:cg A n)(rv:V v p w)(h:((cS Y v).bind fun xs=>(cB xs).bind fun is=>is.head?.map fun i=>(AV.int (is.tail.foldl max i),Y))=some (u,Y')):lT A p (.builtin "max") w u Y':=
 nQ rv h fun i xs rv hr h=>ae h fun is hi h=>dr h fun j hj=>by
  cases is with
  | nil=>cases hj
  | cons k is=>cases hj;exact zP R.handled rv hr hi
theorem Ge(R:cg A n)(rv:V v p w)(h:((cS Y v).bind fun xs=>(cB xs).map fun is=>(AV.int is.sum,Y))=some (u,Y')):lT A p (.builtin "sum") w u Y':=
 nQ rv h fun i xs rv hr h=>dr h fun is hi=>zN R.handled rv hr hi
theorem Gr(R:cg A n)(rv:V v p w)(h:cn .dict [v] Y=some (u,Y')):lT A p (.type "dict") w u Y':=
 bt h (fun h=>lu rv h fun r rv h=>ae h fun es hr h=>fz (a:=.ref Y.length) h fun q=>have q:=SL.mp q;lM R rv hr (SF q.1) q.2)
  fun h=>ae h fun xs h1 h=>ae h fun ps hp h=>fz (a:=.ref Y.length) h fun q=>lL R (aB h1▸rv) hp (SF q)
theorem z6(R:cg A n)(rv:V v p w)(h:cn .sorted [v] Y=some (u,Y')):lT A p (.builtin "sorted") w u Y':=
 bt h (fun h=>nQ rv h fun i xs rv hr h=>dr h fun ys hs=>rB R rv hr hs) fun h=>bt h (fun h=>ae h fun xs h1 h=>dr h fun ys hs=>pk R (mH h1▸rv) hs) fun h=>
  bt h (fun h=>lu rv h fun r rv h=>ae h fun es hr h=>dr h fun ys hs=>rC R rv hr hs) fun h=>ae h fun r h1 h=>ae h fun es hr h=>bi h (fun q h=>dr h fun ys hs=>pj R (uQ h1▸rv) hr q hs) fun _ h=>nomatch h
theorem Gh(R:cg A n)(rv:V v p w)(h:((cS Y v).bind fun xs=>(ln xs).map fun ys=>(AV.fset ys,Y))=some (u,Y')):lT A p (.type "set") w u Y':=
 nQ rv h fun i xs rv hr h=>dr h fun ys hs=>zO R rv hr hs
theorem Gl(R:cg A n)(rv:V v p w)(h:cn .listOf [v] Y=some (u,Y')):lT A p (.type "list") w u Y':=
 bt h (fun h=>dr h fun xs h1=>V.tupE (P:=fun w=>aQ A p (call (.type "list") [w]) (.ref Y.length) (Y++[.list xs])) (aB h1▸rv) fun a us m hl i hx=>iN (.inr rfl) i.h rfl rfl hl hx) fun h=>
  bt h (fun h=>dr h fun xs h1=>ke (P:=aQ A p (call (.type "list") [w]) (.ref Y.length) (Y++[AO.list xs])) rv h1 fun i rv hr=>rv.lstE hr (P:=fun w=>aQ A p (call (.type "list") [w]) (.ref Y.length) (Y++[AO.list xs])) fun a us m _ hl ho hx=>iN (.inl rfl) ho rfl rfl hl hx)
   fun h=>dr h fun k hk=>sE R.handled (pC hk▸rv)
theorem CG(rv:V v p w)(h:(cO (bw v) (cS Y v)).map (fun xs=>(AV.tup xs,Y))=some (u,Y')):lT A p (.type "tuple") w u Y':=
 dr h fun xs h=>bt h (fun h=>uS (aB h▸rv)) fun h=>ke rv h fun i rv hr=>uT rv hr
theorem CH(rv:V v p w)(h:((cH v).bind fun i=>dc (decide (0<=i)&&decide (i<=50000)) (AV.rng i.toNat,Y))=some (u,Y')):lT A p (.type "range") w u Y':=
 ae h fun i h1 h=>fz h fun q=>by
  have q:=SL.mp q;obtain⟨j,rfl⟩:=Int.eq_ofNat_of_zero_le (SF q.1);exact V.int (P:=fun w=>aQ A p (call (.type "range") [w]) (.rng j) Y) (bp h1▸rv) fun t=>sY (TP.mp (SF q.2)) t
theorem Gq(rv:V v p w)(h:(cO (bw v) (cS Y v)).map (fun _=>(AV.enm v,Y))=some (u,Y')):qX p.κ A p (call (.type "enumerate") [w]) u Y':=
 dr (P:=fun u Y'=>qX p.κ A p (call (.type "enumerate") [w]) u Y') h fun xs h=>bt h (fun h=>aB h▸zv (aB h▸rv)) fun h=>ae h fun i h1 hr=>ba h1▸zw (ba h1▸rv) hr
theorem aQ.toE{κ:List Addr}{m:Sem Value}(h:aQ A p m v Y'):qX κ A p m v Y':=h.mono fun _ _ _ r=>r.toE
theorem dj{f:Value}{C:AV->Rs}(rs:VL vs p ws)(h:dR vs C=some (u,Y'))(k:∀ v w,V v p w->C v=some (u,Y')->qX p.κ A p (call f [w]) u Y'):qX p.κ A p (call f ws) u Y':=
 gS h fun v hv h=>VL.oneE (P:=fun ws=>qX p.κ A p (call f ws) u Y') (hv▸rs) fun w r=>k v w r h
theorem wC(R:cg A n)(rs:VL vs p ws):∀{b:aN},cn b vs Y=some (u,Y')->qX p.κ A p (call (iZ b) ws) u Y'
 | .len,h=>dj rs h fun v w r h=>(J6 r h).toE
 | .int,h=>dj rs h fun v w r h=>(Gp r h).toE
 | .max,h=>dj rs h fun v w r h=>(Gi R r h).toE
 | .sum,h=>dj rs h fun v w r h=>(Ge R r h).toE
 | .dict,h=>dj rs h fun v w r h=>(Gr R r h).toE
 | .sorted,h=>dj rs h fun v w r h=>(z6 R r h).toE
 | .set,h=>dj rs h fun v w r h=>(Gh R r h).toE
 | .listOf,h=>dj rs h fun v w r h=>(Gl R r h).toE
 | .tupleOf,h=>dj rs h fun v w r h=>(CG r h).toE
 | .range,h=>dj rs h fun v w r h=>(CH r h).toE
 | .enum,h=>dj rs h fun v w r h=>Gq r h
 | .zip,h=>kQ h fun v u' hv h=>VL.twoE (P:=fun ws=>qX p.κ A p (call (.type "zip") ws) u Y') (hv▸rs) fun w w' r r'=>ae h fun a h1 h=>dr (P:=fun u Y'=>qX p.κ A p (call (.type "zip") [w,w']) u Y') h fun b h2=>As (aB h1▸r) (aB h2▸r')
theorem Cz(b:aN):(∃ i,iZ b=.builtin i)\/∃ T,iZ b=.type T:=by cases b<;>first | exact .inl ⟨_,rfl⟩ | exact .inr ⟨_,rfl⟩
theorem oq{b:aN}{pos:Pos}{es:List Expr}{xs:List X}{Q:Value->UE->Prop}(sxl:oJ c es xs)(h:wpAny M0 A (spliced (i9 pos es env)) (fun vs s₁=>wpAny M0 A (call (iZ b) vs) Q Er s₁) Er s):wpAny M0 A (callWith pos (iZ b) [] (i9 pos es env) []) Q Er s:=by
 have h1:∀ id,iZ b=.builtin id->wpAny M0 A (callWith pos (iZ b) [] (i9 pos es env) []) Q Er s:=fun id e=>by rw[e] at h ⊢;exact Calls.callWith_builtin (bI sxl) (db (bI sxl) h)
 have h2:∀ T,iZ b=.type T->wpAny M0 A (callWith pos (iZ b) [] (i9 pos es env) []) Q Er s:=fun T e=>by rw[e] at h ⊢;exact PyProof.Rows.callWith_type (bI sxl) (db (bI sxl) h)
 exact(Cz b).elim (fun h=>h.elim h1) fun h=>h.elim h2
theorem E.sub{κ κ':List Addr}(h:E κ' v p w)(hs:∀ a,a∈κ->a∈κ'):E κ v p w:=⟨h.val,fun hv=>(h.it hv).imp fun _ g=>⟨fun a ha=>g.1 a (hs a ha),g.2⟩⟩
theorem D8{x:Str}{ps pos:Pos}{es:List Expr}{xs:List X}{b:aN}(hx:x≠("super":Str))(hg:dy (c.cx.sc.lookup x)=true)(hb:mO x=some b)(hd:(x==("__debug__":Str))=false)(sxl:oJ c es xs):SX c (.Call (.Name x ps) es [] pos) (.blt b xs):=
 ⟨fun{U Y Y' p} f v h=>aE h fun vs Y1 h1 h=>p.r.pf.ns.elim fun mg e=>e.elim fun mb e=>⟨fun g=>Call_Name rfl (wpAny_Name (yJ f hg e.1 (kB hb▸(e.2.2.2.2.2 b).1) e.2.1 (kB hb▸(e.2.2.2.2.2 b).2) (oq sxl ((sxl.sxs.ev f h1 pos).go fun q ws n r=>(wC f.R r h).go fun q2 w2 n2 r2=>
   g q2 w2 (n.trans n2) (r2.sub fun a ha=>(n.kept ha).1)))) hd)⟩,fun _ _ _=>iz hx,fun _ _=>rfl⟩
end
noncomputable def cR(env:Env):List Addr:=env.locals::env.cells.filterMap fun p=>env.cells.lookup p.1
theorem fc{env:Env}{x:Str}{c:Addr}(h:env.cells.lookup x=some c):c∈cR env:=.tail _ (List.mem_filterMap.mpr ⟨(x,c),aD h,h⟩)
theorem jY{env:Env}{a:Addr}(h:a∈cR env):a=env.locals\/∃ x,env.cells.lookup x=some a:=(SN.mp h).imp id fun h=>(List.mem_filterMap.mp h).elim fun p h=>⟨p.1,h.2⟩
noncomputable def nr(loc:Bool)(env:Env):List Addr:=bif loc then[env.locals] else cR env
theorem rO:∀{loc:Bool} {env:Env},env.locals∈nr loc env
 | true,_=>.head _
 | false,_=>.head _
section
variable{c:Cc}{A:UG}{env:Env}{cx:Cx}{U U':En}{Y Y' Y'':St}{p:Pt Y}{q:Pt Y'}{Er:Value->UE->Prop}{s:UE}{v u:AV}{vs:List AV}{w:Value}{loc:Bool}{Z:List Addr}
structure Oy{α:Type}(Z:List Addr)(k:Pt Y'->α->Prop)(A:UG)(p:Pt Y)(m:Sem α):Prop where
 go:∀{E:Value->UE->Prop} {Q:α->UE->Prop},(∀ q a,Nx Z p q->k q a->Q a q.s)->wpAny M0 A m Q E p.s
abbrev DC(loc:Bool)(env:Env)(cx:Cx)(U:En)(A:UG)(p:Pt Y)(m:Sem Unit):Prop:=Oy (Y':=Y) (nr loc env) (fun q _=>FR q.x env cx U) A p m
theorem FR.sub(F:FR p.x env cx U){a:Addr}(h:a∈cR env):a∈p.κ:=(jY h).elim (fun e=>e▸F.ownL) fun h=>h.elim fun x hx=>F.ownC x a hx
theorem FR.cell_ne(F:FR p.x env cx U){x:Str}{c:Addr}{cv:Option Value}(hc:p.s.heap.IsCell c cv):c≠env.locals:=fun e=>F.ns.elim fun m h=>h.1.elim fun o h=>h.elim fun es h=>h.elim fun ep h=>hc.elim fun o' h'=>by
 cases(e▸h'.1).symm.trans h.1
 exact nomatch h'.2.symm.trans h.2.1
theorem dM{i j:Nat}(h:j≠i):ag U i v j=U j:=Sz h
theorem gW{i:Nat}:ag U i v i=some v:=SI rfl
structure DD(p:Pt Y)(q:Pt Y)(a:Addr):Prop where
 n:Nx [a] p q
 own:a∈q.κ
theorem DD.sub{q:Pt Y}{a:Addr}(h:DD p q a){b:Addr}(hb:b∈p.κ):b∈q.κ:=(h.n.prv b hb).elim (fun g=>SO.mp g▸h.own) And.left
theorem DD.same{q:Pt Y}{a:Addr}(h:DD p q a){b:Addr}(hb:b∈p.κ)(ne:b≠a):q.s.heap.get? b=p.s.heap.get? b:=(h.n.prv b hb).elim (fun g=>SH (SO.mp g) ne) And.right
theorem DD.cell{q:Pt Y}{a b:Addr}{cv:Option Value}(h:DD p q a)(hb:b∈p.κ)(ne:b≠a)(hc:p.s.heap.IsCell b cv):q.s.heap.IsCell b cv:=hc.imp fun o g=>⟨(h.same hb ne).trans g.1,g.2⟩
theorem FR.top_upd{x:Str}{i:Nat}(F:FR p.x env cx U)(hi:cx.sl.lookup x=some i):∀ j,cx.sl.length<=j->ag U i v j=none:=fun j hj=>(dM (T0 (Tz (F.st.slots x i hi) hj))).trans (F.top j hj)
theorem FS.ne{x y:Str}{i j:Nat}(F:FS env cx)(hj:cx.sl.lookup y=some j)(hi:cx.sl.lookup x=some i)(h:y≠x):j≠i:=fun q=>h (F.inj y x i (q▸hj) hi)
theorem pc{q:Pt Y}{x:Str}{i:Nat}(F:FR p.x env cx U)(hk:cx.sc.lookup x=some .local)(hi:cx.sl.lookup x=some i)(g:DD p q env.locals){m:Str->Option Value}(hm:∀ y i v,cx.sc.lookup y=some .local->cx.sl.lookup y=some i->U i=some v->∃ v',m y=some v'/\ao p.x v v')
  (hn:q.s.heap.Ns env.locals fun y=>if y=x then some w else m y) (e:V v p w):FR q.x env cx (ag U i v):=
 ⟨F.st,g.sub F.ownL,fun y d h=>g.sub (F.ownC y d h),⟨_,hn,fun y j u hy hj hu=>(Tl (y=x)).elim (fun hyx=>by
   subst hyx
   cases hi.symm.trans hj
   cases gW.symm.trans hu
   exact⟨w,SI rfl,e.nx g.n⟩) fun hyx=>(hm y j u hy hj ((dM (F.st.ne hj hi hyx)).symm.trans hu)).imp fun v' h=>⟨(Sz hyx).trans h.1,h.2.wk g.n.wk⟩⟩,
  fun y j hy hj=>(F.cells y j hy hj).imp fun d h=>h.imp fun dv h=>⟨h.1,g.cell (F.ownC y d h.1) (F.cell_ne (x:=y) h.2.1) h.2.1,fun u hu=>by
   have hyx:y≠x:=fun q=>by subst q;exact hy.elim (fun q=>nomatch hk.symm.trans q) fun q=>nomatch hk.symm.trans q
   exact(h.2.2 u ((dM (F.st.ne hj hi hyx)).symm.trans hu)).imp fun v' h=>⟨h.1,h.2.wk g.n.wk⟩⟩,F.top_upd hi⟩
theorem ry{q:Pt Y}{x:Str}{i:Nat}{d:Addr}(F:FR p.x env cx U)(hk:cx.sc.lookup x=some .cell\/cx.sc.lookup x=some .free)(hi:cx.sl.lookup x=some i)(hd:env.cells.lookup x=some d){dv:Option Value}(hc0:p.s.heap.IsCell d dv)(g:DD p q d)(hc:q.s.heap.IsCell d (some w))(e:V v p w):FR q.x env cx (ag U i v):=
 ⟨F.st,g.sub F.ownL,fun y d h=>g.sub (F.ownC y d h),F.ns.imp fun m h=>⟨h.1.imp fun o h=>h.imp fun es h=>h.imp fun ep h=>⟨(g.same F.ownL (Ne.symm (F.cell_ne (x:=x) hc0))).trans h.1,h.2⟩,fun y j u hy hj hu=>
   (h.2 y j u hy hj ((dM (F.st.ne hj hi fun q=>by
    subst q;exact hk.elim (fun q=>nomatch hy.symm.trans q) fun q=>nomatch hy.symm.trans q)).symm.trans hu)).imp fun v' h=>⟨h.1,h.2.wk g.n.wk⟩⟩,
  fun y j hy hj=>(Tl (y=x)).elim (fun hyx=>by
   subst hyx
   cases hi.symm.trans hj
   exact⟨d,some w,hd,hc,fun u hu=>by cases gW.symm.trans hu;exact⟨w,rfl,e.nx g.n⟩⟩) fun hyx=>(F.cells y j hy hj).imp fun d' h=>h.imp fun dv' h=>
    ⟨h.1,g.cell (F.ownC y d' h.1) (fun q=>hyx (F.st.apart y x d (q▸h.1) hd)) h.2.1,fun u hu=>(h.2.2 u ((dM (F.st.ne hj hi hyx)).symm.trans hu)).imp fun v' h=>⟨h.1,h.2.wk g.n.wk⟩⟩,F.top_upd hi⟩
theorem fM{x:Str}{i:Nat}(hloc:loc=true->cx.sc.lookup x=some .local)(ho:mC (cx.sc.lookup x)=true)(hi:cx.sl.lookup x=some i)(F:FR p.x env cx U)(e:V v p w):DC loc env cx (ag U i v) A p (storeName env x w):=by
 refine⟨fun{E Q} k=>?_⟩;have sc:=F.st.sc x;have cell:cx.sc.lookup x=some .cell\/cx.sc.lookup x=some .free->env.kindOf x=some .cell->wpAny M0 A (storeName env x w) Q E p.s:=fun hk hk'=>(F.cells x i hk hi).elim fun d h=>h.elim fun dv h=>wpAny_storeName_cell F.st.kind hk' h.1 h.2.1 fun h' hc' hs=>hc'.elim fun o ho=>
  p.put (F.ownC x d h.1) hs ho.1 fun q n hq hg=>k q () (n.more fun b hb _=>SO.mp hb▸(match loc,hloc with
   | true,hl=>hk.elim (fun q=>nomatch(hl rfl).symm.trans q) fun q=>nomatch(hl rfl).symm.trans q
   | false,_=>fc h.1)) (ry F hk hi h.1 h.2.1 ⟨n,hq⟩ ⟨o,hg,ho.2⟩ e)
 cases hk:cx.sc.lookup x with
 | none=>rw[hk] at ho;cases ho
 | some kd=>exact match kd,hk with
  | .local,hk=>F.ns.elim fun m h=>wpAny_storeName_local (sc.1 hk) h.1 (fun h' hn' hs=>hn'.elim fun o g=>g.elim fun es g=>g.elim fun ep g=>
    p.put F.ownL hs g.1 fun q n hq hg=>k q () (n.more fun b hb _=>SO.mp hb▸rO) (pc F hk hi ⟨n,hq⟩ h.2 ⟨o,es,ep,hg,g.2⟩ e)) (by rw[F.st.kind];rfl)
  | .cell,hk=>cell (.inl hk) (sc.2.1 hk)
  | .free,hk=>cell (.inr hk) (sc.2.2.1 hk)
  | .globalImplicit,hk | .globalExplicit,hk=>by rw[hk] at ho;cases ho
theorem j9{e:Expr}{x:Str}(h:ue e=some x):∃ ps,e=.Name x ps:=vn (C:=fun e=>∃ ps,e=.Name x ps) h bY (fun y p h=>⟨p,SQ h▸rfl⟩) (fun _ _ _=>bY) (fun _ _ _=>bY) (fun _ _ _=>bY) (fun _ _ _ _=>bY) (fun _ _ _=>bY) (fun _ _ _=>bY) bY
theorem iI{e:Expr}{es:List Expr}(h:re e=some es):∃ k ps,e=.Tuple es k ps:=vn (C:=fun e=>∃ k ps,e=.Tuple es k ps) h bY (fun _ _=>bY) (fun y k p h=>⟨k,p,SQ h▸rfl⟩) (fun _ _ _=>bY) (fun _ _ _=>bY) (fun _ _ _ _=>bY) (fun _ _ _=>bY) (fun _ _ _=>bY) bY
structure dT(loc:Bool)(cx:Cx)(e:Expr)(i:Nat):Prop where
 ex:∃ x ps,e=.Name x ps/\mC (cx.sc.lookup x)=true/\cx.sl.lookup x=some i/\(loc=true->cx.sc.lookup x=some .local)
theorem vP{x:Str}{ps:Pos}{sc:List (Str×NameKind)}(h:yI sc (.Name x ps)=true):sc.lookup x=some .local:=SF h
theorem vK{e:Expr}{i:Nat}(h:j4 cx e=some i)(hl:loc=true->yI cx.sc e=true):dT loc cx e i:=ae h fun x h1 h=>bi h (fun ho hi=>(j9 h1).elim fun ps e=>⟨x,ps,e,ho,hi,fun q=>vP (e▸hl q)⟩) fun _ h=>nomatch h
theorem sq{es:List Expr}:∀{is:List Nat},nN cx es=some is->(loc=true->es.all (yI cx.sc)=true)->ah (dT loc cx) es is:=by
 induction es with
 | nil=>exact fun h _=>SQ h▸.nil
 | cons e es ih=>exact fun h hl=>ae h fun i h1 h=>aH h fun is h2 g=>g▸.cons (vK h1 fun q=>(SL.mp (hl q)).1) (ih h2 fun q=>(SL.mp (hl q)).2)
def tB(loc:Bool)(cx:Cx)(t:Expr):Prop:=loc=true->dt cx.sc t=true
theorem jM{t:Expr}{pt:aw}{P:Expr->aw->Prop}(hloc:tB loc cx t)(h:bC cx t=some pt)(k1:∀ x ps i,mC (cx.sc.lookup x)=true->cx.sl.lookup x=some i->(loc=true->cx.sc.lookup x=some .local)->P (.Name x ps) (.one i))
  (k2:∀ es k ps is,ah (dT loc cx) es is->P (.Tuple es k ps) (.many is)):P t pt:=by
 unfold bC at h
 cases h1:j4 cx t with
 | some i=>
  rw[h1] at h
  cases h
  refine ae h1 fun x h2 h=>bi h (fun ho hi=>?_) fun _ h=>nomatch h
  obtain⟨ps,rfl⟩:=j9 h2;exact k1 x ps i ho hi fun q=>SF ((TX.mp (hloc q)).resolve_right Tg)
 | none=>
  rw[h1] at h;refine ae h fun es h2 h=>aH h fun is h3 e=>?_
  cases e
  obtain⟨k,ps,rfl⟩:=iI h2;exact k2 es k ps is (sq h3 fun q=>(TX.mp (hloc q)).resolve_left Tg)
structure GM(loc:Bool)(cx:Cx)(A:UG)(env:Env)(f:Value->Sem Unit)(i:Nat):Prop where
 ev:∀{Y:St} {U:En} {p:Pt Y} {v:AV} {w:Value},FR p.x env cx U->V v p w->DC loc env cx (ag U i v) A p (f w)
abbrev GN(loc:Bool)(cx:Cx)(A:UG)(env:Env)(fs:List (Value->Sem Unit))(is:List Nat):Prop:=ah (GM loc cx A env) fs is
theorem dT.each{es:List Expr}{is:List Nat}(hn:ah (dT loc cx) es is):(assignEach es env).length=is.length/\(assignEach es env).findIdx? (·.1)=none/\GN loc cx A env ((assignEach es env).map (·.2)) is:=
 ah.ind (P:=fun es is=>(assignEach es env).length=is.length/\(assignEach es env).findIdx? (·.1)=none/\GN loc cx A env ((assignEach es env).map (·.2)) is) ⟨rfl,rfl,.nil⟩ (fun{e i es is} h _ ih=>by
  obtain⟨x,ps,rfl,ho,hi,hl⟩:=h.ex;show((false,assign (.Name x ps) env)::assignEach es env).length=_/\((false,assign (.Name x ps) env)::assignEach es env).findIdx? _=_/\GN loc cx A env (((false,assign (.Name x ps) env)::assignEach es env).map _) _;refine⟨Sx (·+1) ih.1,?_,.cons ⟨fun F r=>⟨fun k=>wpAny_assign_Name ((fM hl ho hi F r).go k)⟩⟩ ih.2.2⟩;rw[List.findIdx?_cons,ih.2.1];rfl) hn
noncomputable def vL(e:Expr):Str:=(ue e).getD ⟨#[]⟩
theorem dT.binds{es:List Expr}{is:List Nat}(hn:ah (dT loc cx) es is):GN loc cx A env ((es.map vL).reverse.map fun n=>bindName env n) is.reverse:=by
 rw[<- List.map_reverse,TG];exact(ah.ind (P:=fun es is=>GN loc cx A env (es.map fun e=>bindName env (vL e)) is) .nil (fun{e i es is} h _ ih=>by
  obtain⟨x,ps,rfl,ho,hi,hl⟩:=h.ex;exact .cons ⟨fun F r=>⟨fun k=>wpAny_bindName ((fM hl ho hi F r).go k)⟩⟩ ih) hn.reverse)
theorem gb{fs:List (Value->Sem Unit)}{is:List Nat}(hS:GN loc cx A env fs is):∀{vs:List AV} {ws:List Value} {U U':En} {p:Pt Y},FR p.x env cx U->VL vs p ws->eG U is vs=some U'->DC loc env cx U' A p (assignInOrder fs ws):=
 ah.ind (P:=fun fs is=>∀{vs:List AV} {ws:List Value} {U U':En} {p:Pt Y},FR p.x env cx U->VL vs p ws->eG U is vs=some U'->DC loc env cx U' A p (assignInOrder fs ws))
  (fun{vs ws U U' p} F r h=>by
   cases vs with
   | cons _ _=>cases h
   | nil=>cases h;exact r.nilE (P:=fun ws=>DC loc env cx U A p (assignInOrder [] ws)) ⟨fun k=>Sw (k p () (.refl p) F)⟩)
  (fun{f i fs is} hf _ ih {vs ws U U' p} F r h=>by
   cases vs with
   | nil=>cases h
   | cons v vs=>
    exact r.consE (P:=fun ws=>DC loc env cx U' A p (assignInOrder (f::fs) ws)) fun w ws e r=>⟨fun k=>by
     show wpAny _ _ (holding ws (f w) >>= fun _=>assignInOrder fs ws) _ _ _;exact Sv (S6 ((hf.ev F e).go fun q _ n F1=>(ih F1 (VL.nx r n) h).go fun q2 _ n2 F2=>k q2 () (n.trans n2) F2))⟩) hS
theorem iH{is:List Nat}:∀{vs:List AV} {U U':En},eG U is vs=some U'->is.length=vs.length:=by
 induction is with
 | nil=>
  refine @fun vs _ _ h=>?_
  cases vs with
  | nil=>rfl
  | cons=>exact bY h
 | cons i is ih=>
  refine @fun vs _ _ h=>?_
  cases vs with
  | nil=>exact bY h
  | cons=>exact Sx (·+1) (ih h)
theorem xj{i j:Nat}(h:i≠j):ag (ag U i v) j u=ag (ag U j u) i v:=funext fun k=>(Tl (k=j)).elim (fun e=>by rw[e,gW,dM (Ne.symm h),gW]) fun h1=>by
 rw[dM h1];exact(Tl (k=i)).elim (fun e=>by rw[e,gW,gW]) fun h2=>by rw[dM h2,dM h2,dM h1]
theorem xk{is:List Nat}:∀{vs:List AV} {U:En} {i:Nat} {v:AV},i∉is->eG (ag U i v) is vs=(eG U is vs).map fun U'=>ag U' i v:=by
 induction is with
 | nil=>exact @fun vs _ _ _ _=>by cases vs<;>rfl
 | cons j is ih=>
  refine @fun vs U i v h=>?_
  cases vs with
  | nil=>rfl
  | cons u vs=>exact(Sx (eG · is vs) (xj fun e:i=j=>h (SN.mpr (.inl e)))).trans (ih fun q=>h (.tail _ q))
theorem oP{is js:List Nat}:∀{vs us:List AV} {U:En},is.length=vs.length->eG U (is++js) (vs++us)=(eG U is vs).bind fun U'=>eG U' js us:=by
 induction is with
 | nil=>exact @fun vs us U h=>UC h.symm▸rfl
 | cons i is ih=>
  refine @fun vs us U h=>?_
  cases vs with
  | nil=>exact nomatch h
  | cons v vs=>exact ih (Nat.succ.inj h)
theorem m7{is:List Nat}:∀{vs:List AV} {U U':En},is.Nodup->eG U is vs=some U'->eG U is.reverse vs.reverse=some U':=by
 induction is with
 | nil=>
  refine @fun vs U U' _ h=>?_
  cases vs with
  | nil=>exact h
  | cons=>exact bY h
 | cons i is ih=>
  refine @fun vs U U' hn h=>?_
  cases vs with
  | nil=>exact bY h
  | cons v vs=>
   have hn:=Th.mp hn;refine aH ((xk hn.1).symm.trans h) fun U1 h1 e=>?_;rw[List.reverse_cons,List.reverse_cons,oP (by rw[List.length_reverse,List.length_reverse];exact iH (is:=is) (vs:=vs) h),ih hn.2 h1,<- e]
   rfl
theorem ww{l it:Addr}{items:Array Value}(hne:l≠it)(n:Nat):∀(i:Nat) {s:UE} {Q:List Value->UE->Prop},s.heap.IsListIter it l i->s.heap.IsList l items->i+n<=items.size->
  (∀ h',h'.IsListIter it l (i+n)->Heap.SameBut it s.heap h'->Q ((items.toList.drop i).take n) { s with heap:=h' })->wpAny M0 A (draw (.ref it) n) Q Er s:=by
 induction n with
 | zero=>exact fun i s Q hit _ _ h=>Sw (List.take_zero▸h s.heap hit (Heap.SameBut.refl ..))
 | succ n ih=>
  refine @fun i s Q hit hl hi h=>?_;have hlt:i<items.size:=Tz (Nat.lt_add_of_pos_right (Nat.succ_pos n)) hi;have e:i+1+n=i+(n+1):=PT;refine Sv (wpAny_pyNext_list_item hit hl (TL hlt) fun h1 hit1 hs1=>?_);refine Sv (S6 (ih (i+1) (s:={ s with heap:=h1 }) hit1 (hl.extBut hs1.extBut hne) (e▸hi) fun h2 hit2 hs2=>Sw ?_));have:=h h2 (e▸hit2) (hs1.trans hs2);rwa [UD (by rw[Uf];exact hlt),List.take_succ_cons,Array.getElem_toList] at this
abbrev Kj(A:UG)(p:Pt Y)(m:Sem (List Value))(vs:List AV):Prop:=Ev (Y':=Y) (VL vs) A p m
theorem v7(hh:A.handled=none)(r:V (.tup vs) p w):Kj A p (unpackItems w vs.length none) vs:=r.tupE (P:=fun w=>Kj A p (unpackItems w vs.length none) vs) fun a ws m _ i hx=>⟨fun g=>by
 rw[<- hx.size];exact wpAny_unpackItems_tuple hh ⟨_,i.h,rfl,m,rfl⟩ fun h' hx'=>p.more (fun b o e=>hx' b o (S7 (Tt e)) e) fun q n _ _=>g q _ n (VL.nx hx n)⟩
theorem v8{k:Nat}(hh:A.handled=none)(r:V (.ref k) p w)(hl:ai Y k=some vs):Kj A p (unpackItems w vs.length none) vs:=r.lstE hl (P:=fun w=>Kj A p (unpackItems w vs.length none) vs) fun a ws m _ _ ho hx=>⟨fun g=>by
 rw[<- hx.size];have hL:p.s.heap.IsList a ws:=cA ho;have hlt:a≠p.s.heap.objs.size:=S7 (Tt ho);unfold unpackItems;refine Sv ?_;unfold notIterableAtAll;refine Sv (wpAny_specialOf hL.typeIs slot_list_iter.lookup (Sw ?_));rw[Sz Tg];refine Sv (S6 (wpAny_pyIter_list hL ?_));refine Sv (S6 (ww hlt ws.size 0 ⟨_,Tb _ rfl,rfl,rfl⟩ (hL.push _) (by rw[TZ];exact SE _) fun h1 hit1 hs1=>?_))
 rw[show(ws.toList.drop 0).take ws.size=ws.toList from List.take_of_length_le (SE _)];rw[Sz (show ¬ws.toList.length<ws.size from Ui _)];rw[TZ] at hit1;refine Sv (S6 (wpAny_pyNext_list_end hh hit1 ((hL.push _).extBut hs1.extBut hlt) (Uv (SE _)) fun h2 he2=>?_));exact Sw (p.more (fun b o e=>have hb:b≠p.s.heap.objs.size:=S7 (Tt e);he2 b o hb (hs1.extBut b o hb (SW _ e))) fun q n _ _=>g q _ n (VL.nx hx n))⟩
theorem kE{is:List Nat}(hh:A.handled=none)(r:V v p w)(h:bU (.many is) v U Y=some U'):∃ vs,eG U is vs=some U'/\Kj A p (unpackItems w is.length none) vs:=ae h fun vs h1 hu=>
 ⟨vs,hu,iH hu▸bt h1 (fun h1=>v7 hh (aB h1▸r)) fun h1=>lu r h1 fun k r hl=>v8 hh r hl⟩
theorem m8{fs:List (Value->Sem Unit)}{is:List Nat}{Q:Unit->UE->Prop}(hh:A.handled=none)(hS:GN loc cx A env fs is)(F:FR p.x env cx U)(r:V v p w)(hb:bU (.many is) v U Y=some U')(k:∀ q:Pt Y,Nx (nr loc env) p q->FR q.x env cx U'->Q () q.s) :
  wpAny M0 A (unpackItems w is.length none) (fun ws s'=>wpAny M0 A (assignInOrder fs ws) Q Er s') Er p.s:=
 (kE hh r hb).elim fun vs h=>h.2.go fun q ws n hx=>(gb hS (F.nx n nofun fun _ _ _=>nofun) hx h.1).go fun q2 _ n2 F2=>k q2 (n.weak.trans n2) F2
theorem de{t:Expr}{pt:aw}(hh:A.handled=none)(hloc:tB loc cx t)(ht:bC cx t=some pt)(F:FR p.x env cx U)(e:V v p w)(hb:bU pt v U Y=some U'):DC loc env cx U' A p (assign t env w):=
 jM (P:=fun t pt=>bU pt v U Y=some U'->DC loc env cx U' A p (assign t env w)) hloc ht (fun x ps i ho hi hl hb=>SQ hb▸⟨fun k=>wpAny_assign_Name ((fM hl ho hi F e).go k)⟩)
  (fun es k ps is hn hb=>⟨fun g=>by
   have hE:=dT.each (A:=A) (env:=env) hn;rw[arm_assign_Tuple];refine Sv (wpAny_standAt ?_);unfold unpack;rw[hE.1,hE.2.1];exact Sv (S6 (m8 hh hE.2.2 F e hb fun q n F=>g q () n F))⟩) hb
end
structure gT(A:UG)(tup:Bool)(it:Value)(X:List Addr)(items:List AV)(gd:List (Nat×Option (List AV)))(Sta:Nat->Hp->Prop):Prop where
 sub:∀{i:Nat} {x:Hp},Sta i x->∀ a,a∈X->a∈x.κ
 frame:∀{i:Nat} {Y Y':St} {p:Pt Y} {q:Pt Y'} {Z:List Addr},Sta i p.x->Nx Z p q->(∀ a,a∈Z->a∉X)->Sta i q.x
 next:∀{target:Expr} {i:Nat} {Y:St} {p:Pt Y} {v:AV} {E Q:Value->UE->Prop},(tup=true->∃ es k ps,target=.Tuple es k ps)->items[i]?=some v->ic Y gd=true->Sta i p.x->(∀(q:Pt Y) w,Nx X p q->V v q w->Sta (i+1) q.x->Q w q.s)->
   wpAny M0 A (pyNext it) (fun r s1=>∃ w,r=some w/\wpAny M0 A (letOwnedTupleGo target it w) (fun _ s2=>Q w s2) E s1) E p.s
 done:∀{Y:St} {p:Pt Y} {E:Value->UE->Prop} {Q:Option Value->UE->Prop},ic Y gd=true->Sta items.length p.x->(∀ q:Pt Y,Nx X p q->Q none q.s)->wpAny M0 A (pyNext it) Q E p.s
 self:∀{i:Nat} {Y:St} {p:Pt Y} {E Q:Value->UE->Prop},Sta i p.x->Q it p.s->wpAny M0 A (pyIter it) Q E p.s
def So(fl:Fl){Y:St}(p:Pt Y)(f:Flow):Prop:=match fl with
 | none=>f=.next
 | some v=>∃ w,f=.ret w/\V v p w
structure SK(env:Env)(cx:Cx)(fl:Fl)(U:En){Y:St}(p:Pt Y)(f:Flow):Prop where
 F:FR p.x env cx U
 fl:So fl p f
abbrev Am(env:Env)(cx:Cx)(A:UG){Y:St}(p:Pt Y)(m:Sem Flow)(fl:Fl)(U:En)(Y':St):Prop:=Oy (Y':=Y') (cR env) (SK env cx fl U) A p m
structure SS(c:Cc)(st:Stmt)(x:S):Prop where
 ev:∀{U U':En} {Y Y':St} {p:Pt Y} {fl:Fl} (f:Fm c U p),dS c.C x U Y=some (fl,U',Y')->Am f.env c.cx f.A p (exec st f.env) fl U' Y'
structure Ap(c:Cc)(sts:List Stmt)(xs:List S):Prop where
 ev:∀{U U':En} {Y Y':St} {p:Pt Y} {fl:Fl} (f:Fm c U p),bm c.C xs U Y=some (fl,U',Y')->Am f.env c.cx f.A p (execs sts f.env) fl U' Y'
section
variable{c:Cc}{A:UG}{env:Env}{cx:Cx}{U U':En}{Y Y' Y'':St}{p:Pt Y}{q:Pt Y'}{Er:Value->UE->Prop}{s:UE}{v u:AV}{vs:List AV}{w:Value}{fl:Fl}{pos:Pos}
theorem FR.nx0(F:FR p.x env cx U)(n:Nx [] p q):FR q.x env cx U:=F.nx n nofun fun _ _ _=>nofun
theorem FR.go(F:FR p.x env cx U){X:List Addr}(n:Nx X p q)(hx:∀ a,a∈X->a∉cR env):FR q.x env cx U:=F.nx n (fun hm=>hx _ hm (.head _)) fun _ _ hc hm=>hx _ hm (fc hc)
noncomputable def Fm.at_(f:Fm c U p)(F:FR q.x f.env c.cx U'):Fm c U' q:=⟨f.A,f.env,f.R,F⟩
theorem oR{a:Fl}{b:En}{τ:St}{P:Fl->En->St->Prop}(h:some (a,b,τ)=some (fl,U',Y'))(k:P a b τ):P fl U' Y':=by cases h;exact k
theorem BE{α:Type}{x:Option α}{f:α->Fl×En×St}{P:Fl->En->St->Prop}(h:x.map f=some (fl,U',Y'))(k:∀ a,x=some a->P (f a).1 (f a).2.1 (f a).2.2):P fl U' Y':=aH h fun a h e=>by have:=k a h;rw[e] at this;exact this
theorem Ej:Ap c [] []:=⟨fun{U U' Y Y' p fl} f h=>oR (P:=Am f.env c.cx f.A p (execs [] f.env)) h ⟨fun g=>wpAny_execs_nil (g p _ (.refl p) ⟨f.F,rfl⟩)⟩⟩
theorem AX{st:Stmt}{x:S}{sts:List Stmt}{xs:List S}(hs:SS c st x)(hss:Ap c sts xs):Ap c (st::sts) (x::xs):=⟨fun{U U' Y Y' p fl} f h=>Ew h
 (fun U1 Y1 h1 h=>⟨fun g=>wpAny_execs_cons ((hs.ev f h1).go fun q fw n k=>by
  cases(show fw=.next from k.fl)
  exact(hss.ev (f.at_ k.F) h).go fun q2 fw n2 k2=>g q2 fw (n.trans n2) k2)⟩)
 fun v U1 Y1 e h1=>by
  cases e
  exact⟨fun g=>wpAny_execs_cons ((hs.ev f h1).go fun q fw n k=>k.fl.elim fun w e=>by
   cases e.1
   exact g q _ n k)⟩⟩
structure Ah(e:Expr):Prop where
 sw:∀(t:Option Expr) (l:Nat) (env:Env),swapsWith e t l env=pure false
theorem AW{e:Expr}{x:X}(hp:Ah e)(sx:SX c e x):SS c (.Expr e pos) (.expr x):=⟨fun{U U' Y Y' p fl} f h=>aE h fun v Y1 h1 h=>oR (P:=Am f.env c.cx f.A p (exec (.Expr e pos) f.env)) h
 ⟨fun g=>wpAny_Expr_any ((sx.v f h1).go fun q w n r=>g q _ n.weak ⟨f.F.nx0 n,rfl⟩) (by unfold interactive;rw[f.F.st.kind];rfl) (hp.sw none _ _)⟩⟩
theorem Ei{e:Expr}{x:X}(sx:SX c e x):SS c (.Return (some e) pos) (.ret x):=⟨fun{U U' Y Y' p fl} f h=>aE h fun v Y1 h1 h=>oR (P:=Am f.env c.cx f.A p (exec (.Return (some e) pos) f.env)) h
 ⟨fun g=>wpAny_Return_some ((sx.v f h1).go fun q w n r=>g q _ n.weak ⟨f.F.nx0 n,w,rfl,r⟩)⟩⟩
theorem rA:SS c (.Return none pos) .retNone:=⟨fun{U U' Y Y' p fl} f h=>oR (P:=Am f.env c.cx f.A p (exec (.Return none pos) f.env)) h ⟨fun g=>wpAny_Return_none (g p _ (.refl p) ⟨f.F,.none,rfl,rfl⟩)⟩⟩
theorem xP{st:Stmt}:SS c st .raise:=⟨fun f h=>nomatch h⟩
theorem Ek{d:Expr}{x:X}{a b:List Stmt}{xa xb:List S}(st:ST c d x)(sa:Ap c a xa)(sb:Ap c b xb):SS c (.If d a b pos) (.ite x xa xb):=⟨fun{U U' Y Y' p fl} f h=>aE h fun t Y1 h1 h=>match t,h1,h with
 | true,h1,h=>⟨fun g=>wpAny_If ((st.ev f h1).go fun q w n r=>by cases r;exact(sa.ev (f.nx n) h).go fun q2 fw n2 k=>g q2 fw (n.weak.trans n2) k)⟩
 | false,h1,h=>⟨fun g=>wpAny_If ((st.ev f h1).go fun q w n r=>by cases r;exact(sb.ev (f.nx n) h).go fun q2 fw n2 k=>g q2 fw (n.weak.trans n2) k)⟩⟩
structure Sn(c:Cc)(x:X)(xb:List S)(env:Env)(p:Pt Y)(fl:Fl)(U':En)(Y':St)(k:Nat)(s:UE):Prop where
 ex:∃ U1 Y1,∃ q:Pt Y1,s=q.s/\Nx (cR env) p q/\FR q.x env c.cx U1/\dL (fun U Y=>jK (ar c.C x U Y)) (bm c.C xb) k U1 Y1=some (fl,U',Y')
theorem xO{d:Expr}{x:X}{b:List Stmt}{xb:List S}(st:ST c d x)(sb:Ap c b xb):SS c (.While d b [] pos) (.whl x xb):=⟨fun{U U' Y Y' p fl} f h=>⟨fun{E Q} g=>wpAny_While (codeAny_whileLoop (Sn c x xb f.env p fl U' Y') (fun k s' hI=>by
 obtain⟨U1,Y1,q,rfl,n,F,hw⟩:=hI
 cases k with
 | zero=>cases hw
 | succ k=>
  refine aE hw fun t Y2 h1 hw=>((st.ev (f.at_ F) h1).go fun q2 t' n2 r=>?_)
  cases r
  have n12:=n.trans n2.weak
  cases t with
  | false=>exact oR (P:=fun fl U' Y'=>(∀(q:Pt Y') a,Nx (cR f.env) p q->SK f.env c.cx fl U' q a->Q a q.s)->_) hw (fun g=>wpAny_execs_nil (g q2 _ n12 ⟨F.nx0 n2,rfl⟩)) g
  | true=>
   refine Ew hw (fun U3 Y3 h2 hw=>((sb.ev (f.at_ (F.nx0 n2)) h2).go fun q3 fw n3 k3=>?_)) fun v U3 Y3 e h2=>?_
   ·cases(show fw=.next from k3.fl)
    exact⟨k,T8 _,U3,Y3,q3,rfl,n12.trans n3,k3.F,hw⟩
   ·cases e
    exact(sb.ev (f.at_ (F.nx0 n2)) h2).go fun q3 fw n3 k3=>k3.fl.elim fun w e=>by
     cases e.1
     exact g q3 _ (n12.trans n3) k3) bA ⟨U,Y,p,rfl,.refl p,f.F,h⟩)⟩⟩
structure FI(c:Cc)(pt:aw)(xb:List S)(env:Env)(X:List Addr)(items:List AV)(gd:List (Nat×Option (List AV)))(Sta:Nat->Hp->Prop)(p:Pt Y)(fl:Fl)(U':En)(Y':St)(k:Nat)(s:UE):Prop where
 ex:∃ i U1 Y1,∃ q:Pt Y1,s=q.s/\k=items.length-i/\i<=items.length/\Nx (X++cR env) p q/\FR q.x env c.cx U1/\Sta i q.x/\dQ gd pt (bm c.C xb) (items.drop i) U1 Y1=some (fl,U',Y')
theorem Nx.left{X YY:List Addr}(n:Nx X p q):Nx (X++YY) p q:=n.more fun a h _=>Te _ h
theorem Nx.right{X YY:List Addr}(n:Nx YY p q):Nx (X++YY) p q:=n.more fun a h _=>Tq _ h
theorem Oh{b:Bool}{x:Fl×En×St}{P:Fl->En->St->Prop}(h:dc b x=some (fl,U',Y'))(k:b=true->P x.1 x.2.1 x.2.2):P fl U' Y':=cN h fun g e=>by subst e;exact k g
theorem wn{tup:Bool}{it:Value}{X:List Addr}{items:List AV}{gd:List (Nat×Option (List AV))}{Sta:Nat->Hp->Prop}{t:Expr}{pt:aw}{b:List Stmt}{xb:List S}{R:Result->UE->Prop}(f:Fm c U p)(Tn:gT f.A tup it X items gd Sta)
  (ht:bC c.cx t=some pt) (htt:tup=true->∃ es k q,t=.Tuple es k q) (sb:Ap c b xb) (st:Sta 0 p.x) (hX:∀ a,a∈X->a∉cR f.env) (hd:dQ gd pt (bm c.C xb) items U Y=some (fl,U',Y'))
  (h:∀(q:Pt Y') fw,Nx (X++cR f.env) p q->SK f.env c.cx fl U' q fw->R (.ok fw) q.s):codeAny M0 f.A (.forLoop t it b [] f.env) R p.s:=
 codeAny_forLoop_any (FI c pt xb f.env X items gd Sta p fl U' Y') (fun k s' hI=>by
  obtain⟨i,U1,Y1,q,rfl,rfl,hi,n,F,st,hf⟩:=hI
  rcases Nat.lt_or_eq_of_le hi with hlt | rfl
  ·rw[UD hlt] at hf;refine bi hf (fun hg hf=>ae hf fun U2 hb hf=>?_) fun _ h=>nomatch h
   refine Tx (Tn.next (E:=notedBy M0 f.A f.env fun e s'=>R (.error e) s') (Q:=fun w s2=>wpAny M0 f.A (assign t f.env w) (fun _ s2=>wpAny M0 f.A (execs b f.env) (fun fw s₃=>match fw with
      | .next | .cont=>∃ m,m<items.length-i/\FI c pt xb f.env X items gd Sta p fl U' Y' m s₃
      | .brk=>R (.ok .next) s₃
      | .ret v=>R (.ok (.ret v)) s₃) (notedBy M0 f.A f.env fun e s'=>R (.error e) s') s2) (notedBy M0 f.A f.env fun e s'=>R (.error e) s') s2) htt (Tu hlt) hg st fun q2 w n2 r2 st2=>?_) (fun rv s1 hr=>by obtain⟨w,rfl,hw⟩:=hr;exact hw) fun _ _ z=>z
   refine(de (loc:=false) f.R.handled nofun ht (F.go n2 hX) r2 hb).go fun q3 _ n3 F3=>?_
   have st3:=Tn.frame st2 n3 fun a ha hm=>hX a hm ha;have n13:Nx (X++cR f.env) p q3:=n.trans (n2.left.trans n3.right);refine Ew hf (fun U4 Y4 h4 hf=>(sb.ev (f.at_ F3) h4).go fun q5 fw n5 k5=>?_) fun v U4 Y4 e h4=>?_
   ·cases(show fw=.next from k5.fl)
    exact⟨items.length-(i+1),Nat.sub_succ_lt_self _ _ hlt,i+1,U4,Y4,q5,rfl,rfl,hlt,n13.trans n5.right,k5.F,Tn.frame st3 n5 fun a ha hm=>hX a hm ha,hf⟩
   ·cases e
    exact(sb.ev (f.at_ F3) h4).go fun q5 fw n5 k5=>k5.fl.elim fun w e=>by
     cases e.1
     exact h q5 _ (n13.trans n5.right) k5
  ·rw[List.drop_length] at hf;exact Oh (P:=fun fl U' Y'=>(∀(q:Pt Y') fw,Nx (X++cR f.env) p q->SK f.env c.cx fl U' q fw->R (.ok fw) q.s)->_) hf (fun hg h=>Tn.done hg st fun q2 n2=>wpAny_execs_nil (h q2 _ (n.trans n2.left) ⟨F.go n2 hX,rfl⟩)) h) (items.length-0) ⟨0,U,Y,p,rfl,rfl,SZ _,.refl p,f.F,st,hd⟩
end
section
variable{A:UG}{Y Y':St}{p:Pt Y}{q:Pt Y'}{E:Value->UE->Prop}{s:UE}{X Z:List Addr}
theorem Nx.keep(n:Nx Z p q){a:Addr}(h:a∈p.κ)(h':a∉Z):a∈q.κ/\q.s.heap.get? a=p.s.heap.get? a:=(n.prv a h).elim (fun g=>SH g h') id
theorem Pt.own_not(p:Pt Y){a:Addr}(h:a∈p.κ):a∉c8 p.ι:=fun g=>(Tj.mp p.r.nodup).2.2 a g a h rfl
noncomputable def ki(p:Pt Y)(h':Heap):List Addr:=p.κ.filter fun b=>(h'.get? b).isSome
theorem BU{p:Pt Y}{h':Heap}{b:Addr}(h:b∈ki p h'):b∈p.κ:=(TK.mp h).1
theorem ut{p:Pt Y}{h':Heap}{b:Addr}{o:Obj}(h:b∈p.κ)(e:h'.get? b=some o):b∈ki p h':=TK.mpr ⟨h,Option.isSome_iff_exists.mpr ⟨o,e⟩⟩
theorem Pt.own_idx(p:Pt Y){b:Addr}(h:b∈c8 p.ι){P:Prop}(k:∀(i:Nat) pr o,p.ι[i]?=some pr->Y[i]?=some o->pr.2=b->P):P:=
 (SY.mp h).elim fun pr h=>(T5.mp h.1).elim fun i hi=>k i pr _ hi (Tu (p.r.len▸(SJ.mp hi).1)) h.2
theorem Pt.turnG(p:Pt Y)(Z:List Addr){h':Heap}{t:Nat}{d:Drawn}{Q:UE->Prop}(hZ:∀ a,a∈Z->a∈p.κ)(hk:∀ a o,a∉Z->a∉c8 p.ι->p.s.heap.get? a=some o->h'.get? a=some o)
  (ho:Wk p.x ⟨p.ι,ki p h',h'⟩->∀(i:Nat) pr o,p.ι[i]?=some pr->Y[i]?=some o->ed ⟨p.ι,ki p h',h'⟩ pr o)
  (k:∀ q:Pt Y,Nx Z p q->q.s.heap=h'->(∀ a o,a∈Z->h'.get? a=some o->a∈q.κ)->(∀ a o,p.s.heap.get? a=none->h'.get? a=some o->fE q.x a o)->Q q.s):Q ⟨h',p.s.gens,d,t,p.s.os⟩:=
 have sub:∀{b:Addr},b∈(Hp.mk p.ι (ki p h') h').F->b∈p.x.F:=fun h=>(S9.mp h).elim (Te _) fun h=>Tq _ (BU h);have wk:Wk p.x ⟨p.ι,ki p h',h'⟩:=⟨id,fun i=>⟨hk _ _ (fun hm=>i.out (Hp.mem_κ (x:=p.x) (hZ _ hm))) (fun hm=>i.out (Te _ hm)) i.h,fun h=>i.out (sub h)⟩⟩
 k ⟨p.ι,ki p h',⟨h',p.s.gens,d,t,p.s.os⟩,p.r.pf,p.r.len,p.r.nodup.sublist (List.Sublist.append_left Ut _),fun b hb=>⟨(p.r.alive b (sub hb)).1,(S9.mp hb).elim (fun h=>p.own_idx h fun i pr o h1 h2 e=>e▸(ho wk i pr o h1 h2).alive)
    fun h=>Option.isSome_iff_exists.mp (TK.mp h).2⟩,fun a o e=>(wk.imm (p.r.base e)).h,ho wk⟩
  ⟨wk,fun b hb=>(Tl (b∈Z)).imp id fun g=>(p.r.alive b (Hp.mem_κ (x:=p.x) hb)).2.elim fun o e=>have e':=hk b o g (p.own_not hb) e;⟨ut hb e',e'.trans e.symm⟩,rfl,rfl⟩ rfl
  (fun a o ha e=>ut (hZ a ha) e) fun a o h1 h2=>⟨h2,fun hm=>p.r.none_not h1 (sub hm)⟩
theorem Pt.turn(p:Pt Y)(Z:List Addr){h':Heap}{t:Nat}{d:Drawn}{Q:UE->Prop}(hZ:∀ a,a∈Z->a∈p.κ)(hk:∀ a o,a∉Z->p.s.heap.get? a=some o->h'.get? a=some o)
  (k:∀ q:Pt Y,Nx Z p q->q.s.heap=h'->(∀ a o,a∈Z->h'.get? a=some o->a∈q.κ)->(∀ a o,p.s.heap.get? a=none->h'.get? a=some o->fE q.x a o)->Q q.s):Q ⟨h',p.s.gens,d,t,p.s.os⟩:=
 p.turnG Z hZ (fun a o g _=>hk a o g) (fun wk i pr o h1 h2=>(p.r.objs i pr o h1 h2).wk wk ((p.r.objs i pr o h1 h2).alive.elim fun o' e=>(hk _ _ (fun hz=>p.own_not (hZ _ hz) (Uk (Tf h1))) e).trans e.symm)) k
theorem Pt.turnHid(p:Pt Y)(Z:List Addr){h':Heap}{t:Nat}{d:Drawn}{Q:UE->Prop}{n:Nat}{a:Addr}(hZ:∀ a,a∈Z->a∈p.κ)(h1:p.ι[n]?=some (a,a))(h2:Y[n]?=some .hid)(hp:∃ u v,h'.get? a=some (bV #[u,v] 0))(hk:∀ b o,b∉a::Z->p.s.heap.get? b=some o->h'.get? b=some o)
  (k:∀ q:Pt Y,Nx Z p q->q.s.heap=h'->(∀ a o,a∈Z->h'.get? a=some o->a∈q.κ)->(∀ a o,p.s.heap.get? a=none->h'.get? a=some o->fE q.x a o)->Q q.s):Q ⟨h',p.s.gens,d,t,p.s.os⟩:=
 have hm:a∈c8 p.ι:=Uk (f:=(·.2)) (Tf h1)
 p.turnG Z hZ (fun b o g gf=>hk b o fun hb=>(SN.mp hb).elim (fun e=>gf (e▸hm)) g) (fun wk i pr o e1 e2=>(Tl (pr.2=a)).elim (fun e=>by
   obtain rfl:=p.r.idx e1 h1 e
   cases h1.symm.trans e1
   cases h2.symm.trans e2
   exact⟨rfl,hp⟩) fun e=>(p.r.objs i pr o e1 e2).wk wk ((p.r.objs i pr o e1 e2).alive.elim fun o' g=>(hk _ _ (fun hz=>(SN.mp hz).elim e fun hz=>p.own_not (hZ _ hz) (Uk (Tf e1))) g).trans g.symm)) k
noncomputable def C8:List String:=["enumerate","zip","dict_itemiterator","dict_reverseitemiterator","odict_iterator","itertools.zip_longest","itertools.pairwise"]
theorem fP{target:Expr}{I:Addr}{w:Value}{o:Obj}{T:String}{Q:Unit->UE->Prop}(ho:s.heap.get? I=some o)(hc:o.cls=.type T)(hT:C8.contains T=false)(hq:Q () s):wpAny M0 A (letOwnedTupleGo target (.ref I) w) Q E s:=by
 have go:∀ a:Addr,wpAny M0 A (do
   let o <- load I
   match o.cls,o.data with
   | .type n,.fields vs=>
    if["enumerate","zip","dict_itemiterator","dict_reverseitemiterator","odict_iterator","itertools.zip_longest","itertools.pairwise"].contains n&&vs[0]?==some (rawInt a) then do
     rule "for.unpacks-the-owned-tuple"
     updateField I 0 .none
    else pure ()
   | _,_=>pure ()) Q E s:=fun a=>by
  refine Sv (wpAny_load ho ?_);rw[hc]
  split
  ·rename_i q _
   cases q
   rw[show(["enumerate","zip","dict_itemiterator","dict_reverseitemiterator","odict_iterator","itertools.zip_longest","itertools.pairwise"]:List String).contains T=false from hT];exact Sw hq
  ·exact Sw hq
 clear ho hc hT
 cases target<;>first | exact Sw hq | skip
 ·cases w<;>first | exact Sw hq | exact go _
 ·cases w<;>first | exact Sw hq | exact go _
structure Dw(I l:Addr)(ws:Array Value)(m:Nat)(vs:List AV)(i:Nat)(x:Hp):Prop where
 own:I∈x.κ
 it:x.h.IsTupleIter I l i
 imm:fE x l (bV ws m)
 vs:ah (ao x) vs ws.toList
theorem dG{I:Addr}{κ:List Addr}(h:I∈κ):∀ a,a∈[I]->a∈κ:=fun a ha=>SO.mp ha▸h
theorem qu{vs:List AV}{ws:Array Value}(r:VL vs p ws.toList):ws[vs.length]?=none:=Uv (SD r.length.symm)
theorem lZ(hh:A.handled=none){I l:Addr}{ws:Array Value}{m:Nat}{vs:List AV}:gT A false (.ref I) [I] vs [] (Dw I l ws m vs) where
 sub st:=dG st.own
 frame st n hZ:=
  have k:=n.keep st.own fun hm=>hZ I hm (.head _)
  ⟨k.1,st.it.imp fun o h=>⟨k.2.trans h.1,h.2⟩,n.wk.imm st.imm,VL.nx st.vs n⟩
 next {target i Y p v E Q} _ hv _ st hQ:=st.vs.get hv fun w hw hr=>wpAny_pyNext_tuple_item st.it ⟨_,st.imm.h,rfl,m,rfl⟩ (Ts▸hw) fun h1 hit1 hs1=>hit1.elim fun o1 ho1=>
  ⟨w,rfl,p.put st.own hs1 ho1.1 fun q n hq ho=>fP ho ho1.2.1 (by decide) (hQ q w n (V.nx hr n) ⟨hq,⟨o1,ho,ho1.2⟩,n.wk.imm st.imm,VL.nx st.vs n⟩)⟩
 done {Y p E Q} _ st hQ:=wpAny_pyNext_tuple_end hh st.it ⟨_,st.imm.h,rfl,m,rfl⟩ (qu (p:=p) st.vs) fun h1 hx=>p.turn [I] (dG st.own) (fun a o ha=>hx a o fun q=>ha (q▸.head _)) fun q n _ _ _=>hQ q n
 self st hQ:=wpAny_pyIter_tupleiter st.it hQ
theorem Bs{r:Nat}{vs:List AV}(h:ic Y [(r,some vs)]=true):ai Y r=some vs:=SF (SL.mp h).1
structure DA(I a:Addr)(r:Nat)(i:Nat)(x:Hp):Prop where
 own:I∈x.κ
 it:x.h.IsListIter I a i
 src:x.ι[r]?=some (a,a)
theorem Pt.lstA(p:Pt Y){a:Addr}{r:Nat}{vs:List AV}(hg:ic Y [(r,some vs)]=true)(hs:p.ι[r]?=some (a,a)){P:Prop}(k:∀ ws n,p.s.heap.get? a=some (gu ws n)->VL vs p ws.toList->P):P:=
 p.lst (Bs hg) fun a' ws n hp' _ hl hv=>by cases hs.symm.trans hp';exact k ws n hl hv
theorem jJ(hh:A.handled=none){I a:Addr}{r:Nat}{vs:List AV}:gT A false (.ref I) [I] vs [(r,some vs)] (DA I a r) where
 sub st:=dG st.own
 frame st n hZ:=
  have k:=n.keep st.own fun hm=>hZ I hm (.head _)
  ⟨k.1,st.it.imp fun o h=>⟨k.2.trans h.1,h.2⟩,n.wk.get st.src⟩
 next {target i Y p v E Q} _ hv hg st hQ:=p.lstA hg st.src fun ws m hl hx=>hx.get hv fun w hw hr=>wpAny_pyNext_list_item st.it (cA hl) (Ts▸hw) fun h1 hit1 hs1=>hit1.elim fun o1 ho1=>
  ⟨w,rfl,p.put st.own hs1 ho1.1 fun q n hq ho=>fP ho ho1.2.1 (by decide) (hQ q w n (V.nx hr n) ⟨hq,⟨o1,ho,ho1.2⟩,n.wk.get st.src⟩)⟩
 done {Y p E Q} hg st hQ:=p.lstA hg st.src fun ws m hl hx=>wpAny_pyNext_list_end hh st.it (cA hl) (qu hx) fun h1 hx=>p.turn [I] (dG st.own) (fun a o ha=>hx a o fun q=>ha (q▸.head _)) fun q n _ _ _=>hQ q n
 self st hQ:=wpAny_pyIter_listiter st.it hQ
structure GP(I:Addr)(St:Nat->Heap->Prop)(i:Nat)(x:Hp):Prop where
 own:I∈x.κ
 st:St i x.h
theorem jI{I:Addr}{vs:List AV}{P:Nat->Value->Prop}{St:Nat->Heap->Prop}{T:String}(Wk:Walks PySem.Challenge.rw_rh0018_01.row.prog w0 A I [I] [I] vs.length P St)(hT:C8.contains T=false)(hobj:∀ i h,St i h->∃ o,h.get? I=some o/\o.cls=.type T)
  (hP:∀ i v w,vs[i]?=some v->P i w->∀ x,ao x v w):gT A false (.ref I) [I] vs [] (GP I St) where
 sub st:=dG st.own
 frame st n hZ:=
  have k:=n.keep st.own fun hm=>hZ I hm (.head _)
  ⟨k.1,Wk.frame _ _ _ st.st fun b hb o' e=>by rw[SO.mp hb] at e ⊢;exact k.2.trans e⟩
 next {target i Y p v E Q} _ hv _ st hQ:=Wk.item i p.s _ _ (SJ.mp hv).1 st.st fun w h' tk hw st' hk=>(hobj _ _ st').elim fun o1 ho1=>
  ⟨w,rfl,p.turn [I] (dG st.own) (fun a o ha e=>hk a o ha e) fun q n e hq _=>fP (e▸ho1.1) ho1.2 hT (hQ q w n (hP i v w hv hw q.x) ⟨hq I o1 (.head _) ho1.1,(show St (i+1) q.s.heap from e.symm▸st')⟩)⟩
 done {Y p E Q} _ st hQ:=Wk.done p.s _ _ st.st fun h' tk hk=>p.turn [I] (dG st.own) (fun a o ha e=>hk a o ha e) fun q n _ _ _=>hQ q n
 self st hQ:=Wk.self _ _ _ _ st.st hQ
end
section
variable{A:UG}{E:Value->UE->Prop}{s:UE}{it l:Addr}{i:Nat}{items:Array Value}
theorem gp{Q:Value->UE->Prop}(hit:s.heap.IsTupleIter it l i)(hl:s.heap.IsTuple l items)(h1:∀ x h',items[i]?=some x->h'.IsTupleIter it l (i+1)->Heap.SameBut it s.heap h'->Q x { s with heap:=h' })
  (h2:items[i]?=none->A.handled=none/\∀ h' e,Heap.ExtBut it s.heap h'->(∃ o,h'.get? e=some o/\o.cls=.type "StopIteration")->E (.ref e) { s with heap:=h' }):wpAny M0 A (Builtin.SmallTypes.nextOf (.ref it)) Q E s:=by
 obtain⟨o,ho,hc,hd⟩:=id hit;obtain⟨ol,hol,_,nl,hdl⟩:=hl;unfold Builtin.SmallTypes.nextOf;refine Sv (wpAny_callSpecial?_slot (name:=Str.ofString "__next__") hit.typeIs PySem.F.slot_tuple_iterator_next
  (TA PySem.F.slot_tuple_iterator_next hit.typeIs PySem.F.entry_tuple_iterator_next ?_ (PySem.F.args_tuple_iterator_next_1 _)))
 refine Sv (m:=field (.ref it) 0) (wpAny_field ho hd (x:=.ref l) rfl ?_);show wpAny _ _ (if(Value.ref l==Value.none)=true then _ else _) _ _ s
 rw[Sz (show ¬((Value.ref l==Value.none)=true) from Tg)];refine Sv (m:=field (.ref it) 1) (wpAny_field ho hd (x:=.int i 0) rfl ?_);refine Sv (m:=seqItems? (.ref l)) (Ud hol hdl ?_)
 cases hx:items[i]? with
 | some x=>
  simp only[Int.toNat_natCast,hx];refine Sv (TT ho hd (T8 _) (Sw ⟨x,rfl,Sw (h1 x _ hx ?_ (Tm ..))⟩));exact⟨_,Tw _ ho (Obj.isFreed_of_fields (Obj.data_mapFields hd _)),(Obj.cls_mapFields ..).trans hc,Obj.data_mapFields hd _⟩
 | none=>
  simp only[Int.toNat_natCast,hx];obtain⟨hh,hE⟩:=h2 hx;clear h1 h2;refine Sv (TD (Sv (TT ho hd (Nat.zero_lt_succ _) ?_)));refine Sv (m:=newExc (.type "StopIteration") []) ?_;unfold newExc newTuple;refine Sv (TR ?_ (by size_fits))
  refine Sv (m:=firstArgMember _ _) (wpAny_of_eq (a:=Value.none) rfl ?_);refine TR ?_ (by size_fits)
  unfold raiseNew;refine Sv (wpAny_handled ?_);rw[show A.in1.handled=none from hh];refine Sv (Sw (wpAny_throw ?_));exact hE _ _ (((Tm ..).extBut.push _).push _) ⟨_,Tb _ rfl,rfl⟩
theorem qx(hh:A.handled=none)(it l:Addr)(hne:l≠it)(items:Array Value) :
  Draws PySem.Challenge.rw_rh0018_01.row.prog w0 A it [it,l] items.size (fun i v=>items[i]?=some v) (fun i h=>h.IsTupleIter it l i/\h.IsTuple l items) where
 live:=fun _ _ st=>st.1.elim fun o h=>⟨o,h.1⟩
 frame:=fun _ _ _ st hk=>⟨st.1.imp fun o h=>⟨hk it (.head _) o h.1,h.2⟩,st.2.imp fun o h=>⟨hk l (.tail _ (.head _)) o h.1,h.2⟩⟩
 item:=fun i s Q E hi st hQ=>gp st.1 st.2 (fun x h' hx hit' hs'=>hQ _ h' s.toks hx ⟨hit',st.2.extBut hs'.extBut hne⟩ hs') fun hx=>nomatch(TL hi).symm.trans hx
 done:=fun s Q E st hE=>gp st.1 st.2 (fun x h' hx=>nomatch(Uv (SE _)).symm.trans hx) fun _=>⟨hh,hE⟩
end
section
variable{A:UG}{Y:St}{p:Pt Y}{E:Value->UE->Prop}{I J:Addr}{vs:List AV}{gd:List (Nat×Option (List AV))}
theorem yu{i:Nat}{v:AV}(h:(lB vs)[i]?=some v):∃ u,vs[i]?=some u/\v=.tup [.int (i:Nat),u]:=by
 rw[lB,Tv,List.getElem?_zipIdx,Option.map_map] at h;exact aH h fun u hu e=>⟨u,hu,by rw[<- e];show AV.tup [.int ((0+i:Nat):Int),u]=_;rw[TZ]⟩
theorem pV:(lB vs).length=vs.length:=by rw[lB,SU,List.length_zipIdx]
structure An(A:UG)(J:Addr)(vs:List AV)(gd:List (Nat×Option (List AV)))(S:Nat->Hp->Prop):Prop where
 own:∀{i:Nat} {x:Hp},S i x->J∈x.κ
 frame:∀{i:Nat} {Y Y':St} {p:Pt Y} {q:Pt Y'} {Z:List Addr},S i p.x->Nx Z p q->(∀ a,a∈Z->a∉[J])->S i q.x
 get:∀{i:Nat} {Y:St} {p:Pt Y},ic Y gd=true->S i p.x->∃ l P St,(∃ o,p.s.heap.get? l=some o/\∃ us n,o.data=.seq us n)/\Draws PySem.Challenge.rw_rh0018_01.row.prog w0 A.in1 J [J,l] vs.length P St/\St i p.s.heap/\(∀ j v w,vs[j]?=some v->P j w->V v p w)/\
  ∀{Z:List Addr} (q:Pt Y),Nx Z p q->J∈q.κ->∀ j,St j q.s.heap->S j q.x
structure Kl(S:Nat->Hp->Prop)(I J:Addr)(i:Nat)(x:Hp):Prop where
 own:I∈x.κ
 ne:I≠J
 en:∃ old,IsEnum x.h I J i old
 src:S i x
theorem m9{κ:List Addr}(h:I∈κ)(h':J∈κ):∀ a,a∈[I,J]->a∈κ:=fun a ha=>(SN.mp ha).elim (fun e=>e▸h) fun ha=>SO.mp ha▸h'
theorem jr{a b c:Addr}(h:c∉[a,b]):c≠a/\c≠b:=⟨fun e=>h (e▸.head _),fun e=>h (e▸.tail _ (.head _))⟩
theorem V.pair{a b:AV}{q:Pt Y}{t:Addr}{u w:Value}(hi:fE q.x t (bV #[u,w] 0))(h1:V a q u)(h2:V b q w):V (.tup [a,b]) q (.ref t):=⟨show 2<=ax by decide,t,_,0,rfl,hi,u,_,rfl,h1,w,_,rfl,h2,rfl⟩
theorem l6{S:Nat->Hp->Prop}(D:An A J vs gd S):gT A true (.ref I) [I,J] (lB vs) gd (Kl S I J) where
 sub st:=m9 st.own (D.own st.src)
 frame st n hZ:=
  have k:=n.keep st.own fun hm=>hZ I hm (.head _)
  ⟨k.1,st.ne,st.en.imp fun _ h=>(show _ from k.2.trans h),D.frame st.src n fun a ha hm=>hZ a ha (.tail _ hm)⟩
 next {target i Y p v E Q} ht hv hg st hQ:=(yu hv).elim fun u hu=>(D.get hg st.src).elim fun l h=>h.elim fun P h=>h.elim fun St h=>st.en.elim fun old he=>(ht rfl).elim fun es h'=>h'.elim fun k h'=>h'.elim fun ps et=>by
  obtain⟨ol,hol,us,n,hd⟩:=h.1;have hlI:I≠l:=fun q=>by subst q;cases hol.symm.trans he;cases hd
  rw[et];refine wpAny_pyNext_enum_itemD h.2.1 he h.2.2.1 (SJ.mp hu.1).1 st.ne (fun hm=>(SN.mp hm).elim st.ne fun hm=>hlI (SO.mp hm)) fun x h1 tk hP ho1 hst1 hT hsz hk=>⟨_,rfl,?_⟩;refine wpAny_letOwnedTupleGo_enum (s:={ p.s with heap:=h1,toks:=tk+1 }) ho1 fun h2 he2 hs2=>?_;refine p.turn (h':=h2) [I,J] (m9 st.own (D.own st.src)) (fun a o ha e=>(hs2.2 a (jr ha).1).trans (hk a o (jr ha).1 (jr ha).2 e)) fun q n e hq hi=>?_;have st2:St (i+1) h2:=h.2.1.frame _ _ _ hst1 fun b hb o eb=>(hs2.2 b fun q=>(SN.mp hb).elim (fun e=>st.ne (q.symm.trans e)) fun hb=>hlI (q.symm.trans (SO.mp hb))).trans eb;refine hQ q _ n ?_ ⟨hq I _ (.head _) he2,st.ne,⟨_,(show q.s.heap.get? I=_ from e.symm▸he2)⟩,h.2.2.2.2 q n ((h.2.1.live _ _ st2).elim fun o ho=>hq J o (.tail _ (.head _)) ho) _ (e.symm▸st2)⟩;rw[hu.2];exact V.pair (hi _ _ (TN (SE _)) ((hs2.2 _ (T0 (Tt he))).trans hT)) ⟨_,rfl⟩ (V.nx (h.2.2.2.1 i u x hu.1 hP) n)
 done {Y p E Q} hg st hQ:=(D.get hg st.src).elim fun l h=>h.elim fun P h=>h.elim fun St h=>st.en.elim fun old he=>wpAny_pyNext_enum_endD h.2.1 he (pV (vs:=vs)▸h.2.2.1) fun h1 hx=>
  p.turn [I,J] (m9 st.own (D.own st.src)) (fun a o ha=>hx a o (jr ha).2) fun q n _ _ _=>hQ q n
 self st hQ:=st.en.elim fun _ he=>wpAny_pyIter_enum he hQ
theorem sT(hh:A.handled=none){a:Addr}{r:Nat}:An A J vs [(r,some vs)] (DA J a r) where
 own st:=st.own
 frame st n hZ:=(jJ (vs:=vs) hh).frame st n hZ
 get {i Y p} hg st:=p.lstA hg st.src fun ws m hl hx=>⟨a,fun j v=>ws[j]?=some v,fun j h=>h.IsListIter J a j/\h.IsList a ws,⟨_,hl,_,_,rfl⟩,(show vs.length=ws.size from hx.length)▸Draws.list (A:=A.in1) hh J a (fun q=>by subst q;exact st.it.elim fun o h=>nomatch h.2.2.symm.trans (Sx Obj.data (SQ (h.1.symm.trans hl)))) ws,
  ⟨st.it,cA hl⟩,fun j v w hv hw=>hx.get hv fun w' hw' hr=>(SQ (hw'.symm.trans (Ts.trans hw)):w'=w)▸hr,fun q n hq j hs=>⟨hq,hs.1,n.wk.get st.src⟩⟩
theorem wu(hh:A.handled=none){l:Addr}{ws:Array Value}{m:Nat}:An A J vs [] (Dw J l ws m vs) where
 own st:=st.own
 frame st n hZ:=(lZ (vs:=vs) hh).frame st n hZ
 get {i Y p} hg st:=⟨l,fun j v=>ws[j]?=some v,fun j h=>h.IsTupleIter J l j/\h.IsTuple l ws,⟨_,st.imm.h,_,_,rfl⟩,(show vs.length=ws.size from st.vs.length)▸qx (A:=A.in1) hh J l (fun q=>by subst q;exact st.it.elim fun o h=>nomatch h.2.2.symm.trans (Sx Obj.data (SQ (h.1.symm.trans st.imm.h)))) ws,
  ⟨st.it,_,st.imm.h,rfl,m,rfl⟩,fun j v w hv hw=>st.vs.get hv fun w' hw' hr=>(SQ (hw'.symm.trans (Ts.trans hw)):w'=w)▸hr,fun q n hq j hs=>⟨hq,hs.1,n.wk.imm st.imm,VL.nx st.vs n⟩⟩
end
section
variable{A:UG}{E:Value->UE->Prop}{s:UE}{z TI TO i1 i2 l1 l2:Addr}{k:Nat}{xs ys:Array Value}{h h':Heap}{a b c:Addr}
theorem Ao(x:h.IsTupleIter a b k)(hs:Heap.SameBut c h h')(hne:a≠c):h'.IsTupleIter a b k:=x.imp fun _ x=>⟨(hs.2 _ hne).trans x.1,x.2⟩
theorem Ko(x:h.IsTuple a xs)(hs:Heap.SameBut c h h')(hne:a≠c):h'.IsTuple a xs:=x.imp fun _ x=>⟨(hs.2 _ hne).trans x.1,x.2⟩
def ZK(z TO i1 i2:Addr)(h h':Heap):Prop:=∀ c o,c≠z->c≠TO->c≠i1->c≠i2->h.get? c=some o->h'.get? c=some o
def DF(A:UG)(s:UE)(E:Value->UE->Prop)(z TI TO i1 i2 l1 l2:Addr)(k:Nat)(xs ys:Array Value)(a b:Value)(Q:PySem.Fin->UE->Prop):Prop:=∀(D:ZipApart z TI TO i1 i2 l1 l2) (hz:IsZip s.heap z TI TO .none) (hTI:IsPair s.heap TI (.ref i1) (.ref i2)) (hTO:IsPair s.heap TO a b) (h1:s.heap.IsTupleIter i1 l1 k) (h2:s.heap.IsTupleIter i2 l2 k) (hl1:s.heap.IsTuple l1 xs) (hl2:s.heap.IsTuple l2 ys) (hQ:∀ x y T h',xs[k]?=some x->ys[k]?=some y->s.heap.get? T=none->IsZip h' z TI TO (rawInt T)->IsPair h' TO x y->h'.IsTupleIter i1 l1 (k+1)->h'.IsTupleIter i2 l2 (k+1)->IsPair h' T x y->
   ZK z TO i1 i2 s.heap h'->Q (.done (.ret (.ref T))) { s with heap:=h' }) (hE:xs[k]?=none\/ys[k]?=none->A.handled=none/\∀ h' e,(∃ a b,IsPair h' TO a b)->ZK z TO i1 i2 s.heap h'->(∃ o,h'.get? e=some o/\o.cls=.type "StopIteration")->E (.ref e) { s with heap:=h' }),wpAny M0 A (Builtin.«zip.__next__» ⟨[.ref z],[]⟩) Q E s
def Hk(a:UG×UE×(Value->UE->Prop)×Addr×Addr×Addr×Addr×Addr×Addr×Addr×Nat×Array Value×Array Value×Value×Value×(PySem.Fin->UE->Prop)):Prop:=DF a.1 a.2.1 a.2.2.1 a.2.2.2.1 a.2.2.2.2.1 a.2.2.2.2.2.1 a.2.2.2.2.2.2.1 a.2.2.2.2.2.2.2.1 a.2.2.2.2.2.2.2.2.1 a.2.2.2.2.2.2.2.2.2.1 a.2.2.2.2.2.2.2.2.2.2.1 a.2.2.2.2.2.2.2.2.2.2.2.1 a.2.2.2.2.2.2.2.2.2.2.2.2.1 a.2.2.2.2.2.2.2.2.2.2.2.2.2.1 a.2.2.2.2.2.2.2.2.2.2.2.2.2.2.1 a.2.2.2.2.2.2.2.2.2.2.2.2.2.2.2
noncomputable def fq:=lK ({},{},default) Hk
noncomputable def OB:=fq.1
noncomputable def G2:=fq.2.1
noncomputable def KJ:=fq.2.2.1
noncomputable def uN:=fq.2.2.2.1
noncomputable def wT:=fq.2.2.2.2.1
noncomputable def k8:=fq.2.2.2.2.2.1
noncomputable def wS:=fq.2.2.2.2.2.2.1
noncomputable def wR:=fq.2.2.2.2.2.2.2.1
noncomputable def KH:=fq.2.2.2.2.2.2.2.2.1
noncomputable def KG:=fq.2.2.2.2.2.2.2.2.2.1
noncomputable def KI:=fq.2.2.2.2.2.2.2.2.2.2.1
noncomputable def Hj:=fq.2.2.2.2.2.2.2.2.2.2.2.1
noncomputable def Hi:=fq.2.2.2.2.2.2.2.2.2.2.2.2.1
noncomputable def OA:=fq.2.2.2.2.2.2.2.2.2.2.2.2.2.1
noncomputable def Oz:=fq.2.2.2.2.2.2.2.2.2.2.2.2.2.2.1
noncomputable def PQ:=fq.2.2.2.2.2.2.2.2.2.2.2.2.2.2.2
theorem KL:DF OB G2 KJ uN wT k8 wS wR KH KG KI Hj Hi OA Oz PQ:=fun D hz hTI hTO h1 h2 hl1 hl2 hQ hE=>by
 have ea:∀{g:Heap} {e:Addr} {u v:Value},(Hj[KI]?=none\/Hi[KI]?=none)->IsPair g k8 u v->IsZip g uN wT k8 .ellipsis->ZK uN k8 wS wR G2.heap g->(∃ o,g.get? e=some o/\o.cls=.type "StopIteration")->wpAny M0 OB (setField (.ref uN) 0 .none) (fun _ s'=>KJ (.ref e) s') KJ { G2 with heap:=g }:=
  fun hx hp hz hk he=>wpAny_setField_rec hz (Nat.succ_pos _) fun g3 _ hs3=>(hE hx).2 g3 _ ⟨_,_,(hs3.2 _ D.TOz).trans hp⟩ (fun c o c1 c2 c3 c4 q=>(hs3.2 _ c1).trans (hk c o c1 c2 c3 c4 q))
   (he.imp fun o h=>⟨(hs3.2 _ fun q=>nomatch(show(Value.type "zip":Value)=.type "StopIteration" from by subst q;cases h.1.symm.trans hz;exact h.2)).trans h.1,h.2⟩)
 refine Sv (m:=field (.ref uN) 2) (wpAny_field hz rfl (x:=.bool false) rfl ?_);refine Sv (m:=field (.ref uN) 3) (wpAny_field hz rfl (x:=.ref wT) rfl (Sv (Ud hTI rfl ?_)));refine Sv (m:=Builtin.SmallTypes.ownedTupleIsFree (.ref uN)) (Sv (wpAny_field hz rfl (x:=.none) rfl (Sw ?_)));refine Sv (m:=rule _) (TD (Sv (wpAny_field hz rfl (x:=.ref k8) rfl (Sv (wpAny_setField_rec hz (Nat.succ_pos _) fun g1 hz1 hs1=>Sv ?_)))));show wpAny _ _ ((Sem.onRaise (Builtin.SmallTypes.nextOf (.ref wS) >>= _) _ >>= _) >>= _) _ _ _;have hTO1:IsPair g1 k8 OA Oz:=(hs1.2 _ D.TOz).trans hTO;have hk1:ZK uN k8 wS wR G2.heap g1:=fun c o c1 c2 c3 c4 e=>(hs1.2 _ c1).trans e;refine Sv (Sv (wpAny_onRaise (Sv (gp (Ao h1 hs1 D.i1z) (Ko hl1 hs1 D.l1z) (fun x g2 hx h1b hs2=>Sw ?_) fun hx=>⟨(hE (.inl hx)).1,fun g2 e hs2 he=>
  ea (.inl hx) (hs2 _ _ D.TOi1 hTO1) (hs2 _ _ D.i1z.symm hz1) (fun c o c1 c2 c3 c4 q=>hs2 _ _ c3 (hk1 c o c1 c2 c3 c4 q)) he⟩))))
 have hTO2:=(hs2.2 _ D.TOi1).trans hTO1;refine Sv (Ud hTO2 rfl (Sv (wpAny_updateSeq_pair hTO2 fun g3 hTO3 hs3=>Sv (wpAny_letGo (Sw ?_)))));show wpAny _ _ ((Sem.onRaise (Builtin.SmallTypes.nextOf (.ref wR) >>= _) _ >>= _) >>= _) _ _ _;have hz3:IsZip g3 uN wT k8 .ellipsis:=(hs3.2 _ D.TOz.symm).trans ((hs2.2 _ D.i1z.symm).trans hz1);have hk3:ZK uN k8 wS wR G2.heap g3:=fun c o c1 c2 c3 c4 e=>(hs3.2 _ c2).trans ((hs2.2 _ c3).trans (hk1 c o c1 c2 c3 c4 e));refine Sv (Sv (wpAny_onRaise (Sv (gp (Ao (Ao (Ao h2 hs1 D.i2z) hs2 D.i12.symm) hs3 D.TOi2.symm) (Ko (Ko (Ko hl2 hs1 D.l2z) hs2 D.l2i1) hs3 D.l2TO) (fun y g4 hy h2b hs4=>Sw ?_) fun hy=>⟨(hE (.inr hy)).1,fun g4 e hs4 he=>
  ea (.inr hy) (hs4 _ _ D.TOi2 hTO3) (hs4 _ _ D.i2z.symm hz3) (fun c o c1 c2 c3 c4 q=>hs4 _ _ c4 (hk3 c o c1 c2 c3 c4 q)) he⟩))))
 have hTO4:=(hs4.2 _ D.TOi2).trans hTO3;refine Sv (Ud hTO4 rfl (Sv (wpAny_updateSeq_pair hTO4 fun g5 hTO5 hs5=>Sv (wpAny_letGo (Sw (Sw (Sv (Ud hTO5 rfl (Sv (wpAny_newTuple (hsz:=SV rfl) ?_))))))))));have hz5:IsZip g5 uN wT k8 .ellipsis:=(hs5.2 _ D.TOz.symm).trans ((hs4.2 _ D.i2z.symm).trans hz3);refine Sv (Sv (wpAny_setField_rec (SW _ hz5) (Nat.succ_pos _) fun g7 hz7 hs7=>wpAny_setField_rec hz7 (Nat.lt_of_sub_eq_succ rfl) fun g8 hz8 hs8=>Sw ?_));have hzlt:=Tt hz5;have up:∀{c o},c≠uN->(g5.push { cls:=.type "tuple",data:=.seq #[x,y] }).get? c=some o->g8.get? c=some o:=fun c1 e=>(hs8.2 _ c1).trans ((hs7.2 _ c1).trans e);have up5:∀{c o},c≠uN->g5.get? c=some o->g8.get? c=some o:=fun c1 e=>up c1 (SW _ e);have sz:g5.objs.size=G2.heap.objs.size:=hs5.1.trans (hs4.1.trans (hs3.1.trans (hs2.1.trans hs1.1)));have hT8:=up (T0 hzlt) (Tb _ rfl);refine hQ x y _ g8 hx hy (TN (SD sz.symm)) hz8 (up5 D.TOz hTO5) (Ao (Ao (Ao h1b hs3 D.TOi1.symm) hs4 D.i12) hs5 D.TOi1.symm |>.imp fun _ q=>⟨up5 D.i1z q.1,q.2⟩) (Ao h2b hs5 D.TOi2.symm |>.imp fun _ q=>⟨up5 D.i2z q.1,q.2⟩) hT8 fun c o c1 c2 c3 c4 e=>up5 c1 ((hs5.2 _ c2).trans ((hs4.2 _ c4).trans (hk3 c o c1 c2 c3 c4 e)))
theorem wW{a b:Value}{Q:PySem.Fin->UE->Prop}:DF A s E z TI TO i1 i2 l1 l2 k xs ys a b Q:=bE Hk KL (A,s,E,z,TI,TO,i1,i2,l1,l2,k,xs,ys,a,b,Q)
end
section
variable{A:UG}{Y Y':St}{p:Pt Y}{q:Pt Y'}{z TI TO i1 i2 l1 l2:Addr}{ws us:Array Value}{n m k:Nat}{xs ys:List AV}
structure CQ(z TI TO i1 i2 l1 l2:Addr)(ws us:Array Value)(n m k:Nat)(xs ys:List AV)(i:Nat)(x:Hp):Prop where
 own:∀ a,a∈[z,TI,i1,i2]->a∈x.κ
 nd:[z,TI,TO,i1,i2].Nodup
 to:x.ι[k]?=some (TO,TO)
 zip:IsZip x.h z TI TO .none
 pair:IsPair x.h TI (.ref i1) (.ref i2)
 it1:x.h.IsTupleIter i1 l1 i
 it2:x.h.IsTupleIter i2 l2 i
 s1:fE x l1 (bV ws n)/\ah (ao x) xs ws.toList
 s2:fE x l2 (bV us m)/\ah (ao x) ys us.toList
theorem CQ.apart{i:Nat}{x:Hp}(st:CQ z TI TO i1 i2 l1 l2 ws us n m k xs ys i x):ZipApart z TI TO i1 i2 l1 l2:=by
 have ne:∀ i j (hj:Nat.blt j 5=true) (h:Nat.blt i j=true),[z,TI,TO,i1,i2][i]'(TU (SV h) (SV hj))≠[z,TI,TO,i1,i2][j]'(SV hj):=fun i j hj h=>List.pairwise_iff_getElem.mp st.nd i j _ _ (SV h);have out:∀{l:Addr} {o:Obj},fE x l o->∀ a,a∈[z,TI,i1,i2]->l≠a:=fun i a ha e=>i.out (Hp.mem_κ (e▸st.own a ha));have outO:∀{l:Addr} {o:Obj},fE x l o->l≠TO:=fun i e=>i.out (e▸Hp.mem_of st.to);have z0:z∈[z,TI,i1,i2]:=.head _;have z1:i1∈[z,TI,i1,i2]:=.tail _ (.tail _ (.head _));have z2:i2∈[z,TI,i1,i2]:=.tail _ (.tail _ (.tail _ (.head _)));exact⟨(ne 0 1 rfl rfl).symm,(ne 0 2 rfl rfl).symm,(ne 0 3 rfl rfl).symm,(ne 0 4 rfl rfl).symm,ne 1 2 rfl rfl,ne 1 3 rfl rfl,ne 1 4 rfl rfl,ne 2 3 rfl rfl,ne 2 4 rfl rfl,ne 3 4 rfl rfl,
  out st.s1.1 _ z0,outO st.s1.1,out st.s1.1 _ z1,out st.s1.1 _ z2,out st.s2.1 _ z0,outO st.s2.1,out st.s2.1 _ z1,out st.s2.1 _ z2⟩
theorem nK(h:ic Y [(k,none)]=true):Y[k]?=some .hid:=by
 have h:=(SL.mp h).1;unfold Iu at h
 cases e:Y[k]? with
 | none=>rw[e] at h;cases h
 | some o=>rw[e] at h;cases o<;>first | rfl | cases h
theorem Au{i:Nat}{v:AV}(h:((xs.zip ys).map fun x=>AV.tup [x.1,x.2])[i]?=some v):∃ a b,xs[i]?=some a/\ys[i]?=some b/\v=.tup [a,b]:=by
 rw[Tv] at h;exact aH h fun u hu e=>⟨u.1,u.2,(List.getElem?_zip_eq_some.mp hu).1,(List.getElem?_zip_eq_some.mp hu).2,e.symm⟩
theorem ZK.keep{h h':Heap}(hk:ZK z TO i1 i2 h h'){b:Addr}{o:Obj}(hb:b∉TO::[z,TI,i1,i2])(e:h.get? b=some o):h'.get? b=some o:=
 hk b o (fun q=>hb (q▸.tail _ (.head _))) (fun q=>hb (q▸.head _)) (fun q=>hb (q▸.tail _ (.tail _ (.tail _ (.head _))))) (fun q=>hb (q▸.tail _ (.tail _ (.tail _ (.tail _ (.head _)))))) e
theorem wV{i:Nat}{E:Value->UE->Prop}{Q:Option Value->UE->Prop}(hh:A.handled=none)(st:CQ z TI TO i1 i2 l1 l2 ws us n m k xs ys i p.x)(hg:ic Y [(k,none)]=true)
  (hi:∀ x y T h',ws[i]?=some x->us[i]?=some y->p.s.heap.get? T=none->IsZip h' z TI TO (rawInt T)->IsPair h' TO x y->h'.IsTupleIter i1 l1 (i+1)->h'.IsTupleIter i2 l2 (i+1)->IsPair h' T x y->ZK z TO i1 i2 p.s.heap h'->Q (some (.ref T)) { p.s with heap:=h' })
  (he:ws[i]?=none\/us[i]?=none->∀ h',(∃ a b,IsPair h' TO a b)->ZK z TO i1 i2 p.s.heap h'->Q none { p.s with heap:=h' }):wpAny M0 A (pyNext (.ref z)) Q E p.s:=
 have hT:p.s.TypeIs (.ref z) "zip":=⟨_,st.zip,rfl⟩
 (p.r.objs k _ _ st.to (nK hg)).2.elim fun a0 h0=>h0.elim fun b0 hTO=>Sv (wpAny_attempt (wpAny_callSpecial?_slot (name:=Str.ofString "__next__") hT PySem.F.slot_zip_next (TA PySem.F.slot_zip_next hT PySem.F.entry_zip_next
   (wW st.apart st.zip st.pair hTO st.it1 st.it2 ⟨_,st.s1.1.h,rfl,n,rfl⟩ ⟨_,st.s2.1.h,rfl,m,rfl⟩ (fun x y T h1 hx hy hn a1 a2 a3 a4 a5 a6=>⟨_,rfl,Sw (hi x y T h1 hx hy hn a1 a2 a3 a4 a5 a6)⟩)
    fun e=>⟨hh,fun h1 e' hp hk ho=>Sv (wpAny_isInstance (T:="StopIteration") (b:=true) ho isSubtype_stop (Sw (he e h1 hp hk)))⟩) (PySem.F.args_zip_next_1 _))))
theorem uR(hh:A.handled=none):gT A true (.ref z) [z,TI,i1,i2] ((xs.zip ys).map fun x=>.tup [x.1,x.2]) [(k,none)] (CQ z TI TO i1 i2 l1 l2 ws us n m k xs ys) where
 sub st:=st.own
 frame {i Y Y' p q Z} st nx hZ:=
  have k:=fun a ha=>nx.keep (st.own a ha) fun hm=>hZ a hm ha;have z1:=k i1 (.tail _ (.tail _ (.head _)));have z2:=k i2 (.tail _ (.tail _ (.tail _ (.head _))))
  ⟨fun a ha=>(k a ha).1,st.nd,nx.wk.get st.to,(k z (.head _)).2.trans st.zip,(k TI (.tail _ (.head _))).2.trans st.pair,st.it1.imp fun _ h=>⟨z1.2.trans h.1,h.2⟩,st.it2.imp fun _ h=>⟨z2.2.trans h.1,h.2⟩,⟨nx.wk.imm st.s1.1,VL.nx st.s1.2 nx⟩,nx.wk.imm st.s2.1,VL.nx st.s2.2 nx⟩
 next {target i Y p v E Q} ht hv hg st hQ:=(ht rfl).elim fun es h=>h.elim fun kk h=>h.elim fun ps et=>(Au hv).elim fun a h=>h.elim fun b h=>st.s1.2.get h.1 fun w1 hw1 r1=>st.s2.2.get h.2.1 fun w2 hw2 r2=>by
  have ev:=h.2.2;subst et ev;have D:=st.apart;refine wV hh st hg (fun x y T h1 hx hy hn a1 a2 a3 a4 a5 a6=>⟨_,rfl,?_⟩) fun e=>e.elim (fun e=>nomatch(Ts▸hw1).symm.trans e) fun e=>nomatch(Ts▸hw2).symm.trans e
  cases(Ts▸hw1:ws[i]?=some w1).symm.trans hx
  cases(Ts▸hw2:us[i]?=some w2).symm.trans hy
  refine wpAny_letOwnedTupleGo_zip (s:={ p.s with heap:=h1 }) a1 fun h2 hz2 hs2=>?_;have hTz:T≠z:=fun q=>nomatch(q▸hn:p.s.heap.get? z=none).symm.trans st.zip
  refine p.turnHid (h':=h2) [z,TI,i1,i2] st.own st.to (nK hg) ⟨w1,w2,(hs2.2 _ D.TOz).trans a2⟩ (fun b o hb e=>(hs2.2 b fun q=>hb (q▸.tail _ (.head _))).trans (a6.keep hb e)) fun q nx e hq hm=>?_;subst e;have same:∀{b o},b∈[z,TI,i1,i2]->q.s.heap.get? b=some o->b∈q.κ:=fun hb e=>hq _ _ hb e;have t1:=Ao a3 hs2 D.i1z;have t2:=Ao a4 hs2 D.i2z;have hp:q.s.heap.get? TI=some (bV #[.ref i1,.ref i2] 0):=(hs2.2 _ D.TIz).trans (a6 _ _ D.TIz D.TITO D.TIi1 D.TIi2 st.pair);exact hQ q _ nx (V.pair (hm _ _ hn ((hs2.2 T hTz).trans a5)) (V.nx r1 nx) (V.nx r2 nx)) ⟨fun a ha=>(show ∃ o,q.s.heap.get? a=some o from(SN.mp ha).elim (fun e=>e▸⟨_,hz2⟩) fun ha=>(SN.mp ha).elim (fun e=>e▸⟨_,hp⟩) fun ha=>(SN.mp ha).elim (fun e=>e▸t1.imp fun _ h=>h.1) fun ha=>SO.mp ha▸t2.imp fun _ h=>h.1).elim fun _ h=>same ha h,st.nd,nx.wk.get st.to,hz2,hp,t1,t2,⟨nx.wk.imm st.s1.1,VL.nx st.s1.2 nx⟩,nx.wk.imm st.s2.1,VL.nx st.s2.2 nx⟩
 done {Y p E Q} hg st hQ:=wV hh st hg (fun x y T h1 hx hy=>by
  have a:=(Uy.mp hx).1;have b:=(Uy.mp hy).1;rw[SU,List.length_zip] at a b;exact SH (Tz (Nat.lt_min.mpr ⟨a,b⟩) (SD (congr (Sx min st.s1.2.length.symm) st.s2.2.length.symm))) (Ui _)) fun _ h1 hp hk=>p.turnHid (h':=h1) [z,TI,i1,i2] st.own st.to (nK hg) hp (fun b o hb e=>hk.keep hb e) fun q nx _ _ _=>hQ q nx
 self st hQ:=wpAny_pyIter_zip st.zip hQ
end
section
variable{A:UG}{Y Y' Y0:St}{p:Pt Y}{p0:Pt Y0}{Er:Value->UE->Prop}{v:AV}{w:Value}{src:wQ}{pt:aw}
theorem ef{k:Nat}{cs:List Nat}(h:f7 k=some cs):cs=[k]/\(au k).cps.all (·<128)=true/\(au k).cps.size=1:=bi h (fun hk e=>by
 have f:∀ k,k<7->1<=k->(au k).cps.all (·<128)=true/\(au k).cps.size=1:=by decide +kernel
 have g:=SL.mp hk;have f:=f k (TV (SV g.2)) (SV g.1);exact⟨(SQ e).symm,f⟩) fun _ e=>nomatch e
def Ai(A:UG)(κ:List Addr)(pt:aw)(src:wQ)(p:Pt Y)(Q:Value->UE->Prop):Prop:=
 ∀(q:Pt Y) tup it X Sta,gT A tup it X src.items src.gd Sta->(tup=true->∃ is,pt=.many is)->Nx [] p q->Sta 0 q.x->(∀ a,a∈X->a∉κ)->Q it q.s
theorem Pt.pushIt(n0:Nx [] p0 p){o:Obj}{Q:Value->UE->Prop}{gd:List (Nat×Option (List AV))}{items:List AV}{Sta:Nat->Hp->Prop}(h:Ai A p0.κ pt ⟨items,gd⟩ p Q)(T:gT A false (.ref p.s.heap.objs.size) [p.s.heap.objs.size] items gd Sta)
  (st:∀ q:Pt Y,Nx [] p q->p.s.heap.objs.size∈q.κ->q.s.heap.get? p.s.heap.objs.size=some o->Sta 0 q.x) (ho:o.isFreed=false:=by rfl):Q (.ref p.s.heap.objs.size) { p.s with heap:=p.s.heap.push o }:=
 have hn:p.s.heap.get? p.s.heap.objs.size=none:=TN (SE _)
 p.grow [p.s.heap.objs.size] (fun _ _ e=>SW o e) (fun a ha=>SO.mp ha▸⟨hn,o,Tb _ ho⟩) (Th.mpr ⟨nofun,.nil⟩) fun q n e hk _=>
  h q false _ _ _ T nofun n (st q n (hk _ (.head _)).1 (e▸Tb _ ho)) fun a ha hm=>(hk a ha).2 (n0.kept hm).1
theorem zx{x:AV}(h:Dn v=some x):v=.enm x:=by cases v<;>first | (cases h;rfl) | exact nomatch(show none=some x from h)
theorem Ar{x:AV×AV}(h:Hh v=some x):v=.zp x.1 x.2:=by cases v<;>first | (cases h;rfl) | exact nomatch(show none=some x from h)
theorem Be{n:Nat}{i:Nat}{v:AV}(h:((List.range n).map fun(i:Nat)=>AV.int i)[i]?=some v):v=.int i:=by
 rw[Tv] at h;exact aH h fun j hj e=>e▸Sx (fun j:Nat=>AV.int j) ((SJ.mp hj).2.symm.trans (List.getElem_range _))
variable{Q:Value->UE->Prop}{k:Nat}{gd:List (Nat×Option (List AV))}{vs us:List AV}{κ:List Addr}
abbrev Aj(A:UG)(p:Pt Y)(w:Value)(Q E:Value->UE->Prop):Prop:=wpAny M0 A (pyIter w) Q E p.s
theorem Fk(hh:A.handled=none)(n0:Nx [] p0 p)(r:V (.tup vs) p w)(h:Ai A p0.κ pt ⟨vs,[]⟩ p Q):Aj A p w Q Er:=
 r.tupE (P:=fun w=>Aj A p w Q Er) fun a ws n hl hi hx=>wpAny_pyIter_tuple ⟨_,hi.h,rfl,n,rfl⟩ (Pt.pushIt n0 h (lZ hh) fun q nx hk ho=>⟨hk,⟨_,ho,rfl,rfl⟩,nx.wk.imm hi,VL.nx hx nx⟩)
theorem Fq(hh:A.handled=none)(n0:Nx [] p0 p)(r:V (.ref k) p w)(hl:ai Y k=some vs)(h:Ai A p0.κ pt ⟨vs,[(k,some vs)]⟩ p Q):Aj A p w Q Er:=
 r.lstE (P:=fun w=>Aj A p w Q Er) hl fun a ws n hι hz ho hx=>wpAny_pyIter_list (cA ho) (Pt.pushIt n0 h (jJ hh (a:=a)) fun q nx hk ho=>⟨hk,⟨_,ho,rfl,rfl⟩,nx.wk.get hι⟩)
theorem xU{i:Nat}{u:AV}{w:Value}{x:Str}(hx:x.cps.size=1)(hu:[AV.sym k][i]?=some u)(hw:SignAt (au k) i w)(hk:k<aS.length)(e:x=au k)(y:Hp):ao y u w:=match i,hu with
 | 0,hu=>hw.elim fun c h=>h.elim fun t h=>by
  cases hu
  subst e;obtain⟨c',hc⟩:=Array.size_eq_one_iff.mp hx;have h1:=h.1;rw[hc] at h1
  cases h1
  exact⟨hk,t,h.2.trans (Sx (Value.str · t) (show Str.mk #[c']=au k from hc▸rfl))⟩
theorem Fn(hh:A.handled=none)(n0:Nx [] p0 p)(r:V (.sym k) p w)(hz:(au k).cps.size=1)(ha:(au k).cps.all (·<128)=true)(h:Ai A p0.κ pt ⟨[.sym k],[]⟩ p Q):Aj A p w Q Er:=
 r.symE (P:=fun w=>Aj A p w Q Er) fun t hk=>wpAny_pyIter_ascii ha (Pt.pushIt n0 h (jI (hz▸Walks.strAscii hh p.s.heap.objs.size (au k) t) (T:="str_ascii_iterator") (by decide) (fun i h st=>st.imp fun o h=>⟨h.1,h.2.1⟩) fun i u w hu hw x=>xU hz hu hw hk rfl x)
  fun q nx hk ho=>⟨hk,_,ho,rfl,rfl⟩)
theorem EC{n:Nat}:Builtin.Range.rangeSize 0 (n:Int) 1=n:=by
 rw[rangeSize_one,Int.sub_zero];exact ite_eq_left_iff.mpr fun h=>(Int.le_antisymm (Uq n) (Int.not_lt.mp h))
theorem Lp{n:Nat}:((List.range n).map fun(i:Nat)=>AV.int i).length=n:=by rw[SU,Uw]
theorem Fp{n:Nat}(hh:A.handled=none)(n0:Nx [] p0 p)(r:V (.rng n) p w)(h:Ai A p0.κ pt ⟨(List.range n).map fun(i:Nat)=>.int i,[]⟩ p Q):Aj A p w Q Er:=
 r.2.elim fun a g=>g.elim fun t g=>g.elim fun u g=>g.elim fun y g=>g.1▸wpAny_pyIter_range g.2.h (small_one (by decide) (by decide) (Int.le_trans (by decide) (Uq n)) (Int.lt_of_le_of_lt (TP.mpr r.1) (by decide)))
  (Pt.pushIt n0 h (jI (Walks.range hh p.s.heap.objs.size 0 1 _) (T:="range_iterator") (by decide) (fun i h st=>⟨_,st,rfl⟩) fun i u w hu hw x=>Be hu▸hw.imp fun t h=>h.trans (by rw[Int.zero_add,Int.mul_one])) fun q nx hk ho=>⟨hk,by
    rw[EC] at ho;rw[Lp];exact(Int.sub_zero (n:Int)).symm▸ho⟩)
theorem yy{a b c:Addr}(ha:a∉κ)(hb:b∉κ)(hc:c∈[a,b]):c∉κ:=(SN.mp hc).elim (fun e=>e▸ha) fun hc=>SO.mp hc▸hb
theorem Fs(hh:A.handled=none)(r:Hf κ p w (.enm (.tup vs)))(hp:∃ is,pt=.many is)(h:Ai A κ pt ⟨lB vs,[]⟩ p Q):Aj A p w Q Er:=
 r.elim fun I r=>r.elim fun J r=>r.elim fun l r=>r.elim fun ws r=>r.elim fun n r=>have t:=r.2;r.1▸wpAny_pyIter_enum t.at_.1 (h p true _ _ _ (l6 (wu hh)) (fun _=>hp) (.refl p) ⟨t.own.1.1,t.own.2.2,⟨_,t.at_.1⟩,⟨t.own.2.1.1,t.at_.2,t.src.2.1,t.src.2.2⟩⟩ fun a=>yy t.own.1.2 t.own.2.1.2)
theorem Ft(hh:A.handled=none)(r:Hf κ p w (.enm (.ref k)))(hp:∃ is,pt=.many is)(h:Ai A κ pt ⟨lB vs,[(k,some vs)]⟩ p Q):Aj A p w Q Er:=
 r.elim fun I r=>r.elim fun J r=>r.elim fun a r=>have t:=r.2;r.1▸wpAny_pyIter_enum t.at_.1 (h p true _ _ _ (l6 (sT hh)) (fun _=>hp) (.refl p) ⟨t.own.1.1,t.own.2.2,⟨_,t.at_.1⟩,⟨t.own.2.1.1,t.at_.2,t.src⟩⟩ fun a=>yy t.own.1.2 t.own.2.1.2)
theorem Jo(hh:A.handled=none)(r:Hf κ p w (.zp (.tup (.ref k::vs)) (.tup us)))(hp:∃ is,pt=.many is)(h:Ai A κ pt ⟨(vs.zip us).map fun x=>.tup [x.1,x.2],[(k,none)]⟩ p Q):Aj A p w Q Er:=
 r.elim fun z r=>r.elim fun TI r=>r.elim fun TO r=>r.elim fun i1 r=>r.elim fun i2 r=>r.elim fun l1 r=>r.elim fun l2 r=>r.elim fun ws r=>r.elim fun ys r=>r.elim fun n r=>r.elim fun m r=>have t:=r.2;r.1▸wpAny_pyIter_zip t.at_.1 (h p true _ _ _ (uR hh) (fun _=>hp) (.refl p) ⟨fun a ha=>(t.own.1 a ha).1,t.own.2,t.to,t.at_.1,t.at_.2.1,t.at_.2.2.2.1,t.at_.2.2.2.2,t.src1.2,t.src2.2⟩ fun a ha=>(t.own.1 a ha).2)
theorem E.vv{u:AV}(e:E κ v p w)(h:v=u)(hu:u.isIt=false):V u p w:=h▸e.val (h▸hu)
theorem E.ii{u:AV}(e:E κ v p w)(h:v=u)(hu:u.isIt=true)(g:Ai A κ pt src p Q){P:Prop}(k:∀ κ',Hf κ' p w u->Ai A κ' pt src p Q->P):P:=by
 subst h;exact(e.it hu).elim fun κ' n=>k κ' n.2 fun q tup it X Sta T ht nx st hX=>g q tup it X Sta T ht nx st fun a ha hm=>hX a ha (n.1 a hm)
theorem sg{u:AV}(hp:dn pt v=true)(h:v=u)(hu:u.isIt=true):∃ is,pt=.many is:=by
 cases pt with
 | one i=>exact nomatch(show true=false from(show(!v.isIt)=true from hp).symm.trans (Sx (! ·) (h▸hu)))
 | many is=>exact⟨is,rfl⟩
theorem JE{a:List AV}{k:AV}(h:a.head?=some k):a=k::a.tail:=by
 cases a with
 | nil=>cases h
 | cons b a=>cases h;rfl
theorem fR(hh:A.handled=none)(n0:Nx [] p0 p)(e:E p0.κ v p w)(hs:cV Y v=some src)(hp:dn pt v=true)(h:Ai A p0.κ pt src p Q):Aj A p w Q Er:=
 bt hs (fun hs=>aH hs fun vs hv es=>Fk hh n0 (e.vv (aB hv) rfl) (es▸h)) fun hs=>bt hs (fun hs=>ae hs fun r hv hs=>aH hs fun vs hl es=>Fq hh n0 (e.vv (ba hv) rfl) hl (es▸h)) fun hs=>
 bt hs (fun hs=>ae hs fun k hv hs=>aH hs fun cs hc es=>Fn hh n0 (e.vv (cw hv) rfl) (ef hc).2.2 (ef hc).2.1 ((ef hc).1▸es▸h)) fun hs=>bt hs (fun hs=>aH hs fun n hv es=>Fp hh n0 (e.vv (pC hv) rfl) (es▸h)) fun hs=>
 bt hs (fun hs=>ae hs fun u hv hs=>have hv:=zx hv;bt hs (fun hs=>aH hs fun vs hu es=>have hv:=hv.trans (Sx AV.enm (aB hu));e.ii hv rfl (es▸h) fun _ r h=>Fs hh r (sg hp hv rfl) h)
  fun hs=>ae hs fun r hu hs=>aH hs fun vs hl es=>have hv:=hv.trans (Sx AV.enm (ba hu));e.ii hv rfl (es▸h) fun _ r h=>Ft hh r (sg hp hv rfl) h) fun hs=>ae hs fun z hv hs=>ae hs fun a ha hs=>ae hs fun b hb hs=>ae hs fun k hk hs=>aH hs fun r hr es=>by
  have hv:=(Ar hv).trans (congr (Sx AV.zp ((aB ha).trans (Sx AV.tup (JE hk)))) (aB hb));rw[ba hr] at hv;exact e.ii hv rfl (es▸h) fun _ r h=>Jo hh r (sg hp hv rfl) h
end
section
variable{c:Cc}
theorem jL{cx:Cx}{t:Expr}{is:List Nat}(h:bC cx t=some (.many is)):∃ es k q,t=.Tuple es k q:=by
 unfold bC at h
 cases hn:j4 cx t with
 | some i=>rw[hn] at h;cases h
 | none=>
  rw[hn] at h;exact ae h fun es h1 _=>⟨es,iI h1⟩
theorem El{t it:Expr}{pt:aw}{x:X}{b:List Stmt}{xb:List S}{pos:Pos}(ht:bC c.cx t=some pt)(nf:∀ env v,foldedSetIterable it env v=pure v)(sx:SX c it x)(sb:Ap c b xb):SS c (.For t it b [] pos) (.for_ pt x xb):=⟨fun{U U' Y Y' p fl} f h=>
 aE h fun v Y1 h1 h=>bi h (fun hok h=>ae h fun src h2 h=>⟨fun g=>wpAny_For ((sx.ev f h1).go fun q w n r=>fR f.R.handled n r h2 hok fun q2 tup itv X Sta Tn htup n2 st fr=>
  wn (f.nx (n.trans n2)) Tn ht (fun e=>(htup e).elim fun is e=>jL (e▸ht)) sb st (fun a ha hm=>fr a ha (f.F.sub hm)) h fun q3 fw n3 k=>g q3 fw (((n.trans n2).weak.trans n3).more fun a ha hk=>(S9.mp ha).elim (fun ha=>SH hk (fr a ha)) id) k) (nf _)⟩) fun _ h=>nomatch h⟩
end
noncomputable abbrev Bd:=(UE->Prop)->(Value->UE->Prop)->UE->Prop
structure tC(A:UG)(e:Expr)(d:Nat)(it acc:Value)(env:Env)(t:Expr)(K:Bd):Prop where
 go:∀{R:Result->UE->Prop} {s:UE} (I:Nat->UE->Prop),(∀ n s,I n s->∀ N:Value->UE->Prop,wpAny M0 A (pyNext it) (fun r s1=>match r with
   | none=>R (.ok .next) s1
   | some v=>wpAny M0 A (letOwnedTupleGo t it v) (fun _ s2=>wpAny M0 A (assign t env v) (fun _ s3=>K (fun s'=>∃ m,m<n/\I m s') N s3) N s2) N s1) N s)->∀ n,I n s->codeAny M0 A (.compLoop e d it acc env) R s
noncomputable def xp(ps:Pos)(t:Expr)(it:Value)(env:Env)(rest:Sem PySem.Fin):Sem PySem.Fin:=do
 standAt ps
 match <- pyNext it with
 | none=>pure (.done .next)
 | some v=>
  letOwnedTupleGo t it v
  assign t env v
  rest
section
variable{A:UG}{e:Expr}{d:Nat}{it acc:Value}{env:Env}{t elt iter t' iter':Expr}{K:Bd}{scope:Scope}{pos:Pos}{ifs:List Expr}
theorem uk{ps:Pos}{rest:Sem PySem.Fin}(hu:A.under (.compLoop e d it acc env)=A)(h:M0.den (.compLoop e d it acc env)=(xp ps t it env rest).onRaise fun x=>do noteFrame x env;theTreesLotGoes x)(hk:∀{P:UE->Prop} {N:Value->UE->Prop} {s:UE},K P N s->wpAny M0 A rest (fun ea s'=>ea=.again (.compLoop e d it acc env)/\P s') N s):tC A e d it acc env t K:=⟨fun{R s} I turn n h0=>
 codeAny_loop rfl I (fun n s hI=>by
  rw[hu,h];refine wpAny_noted (Sv (wpAny_standAt (Sv (Tx (turn n s hI _) (fun r s1 h1=>?_) fun _ _ z=>z))))
  cases r with
  | none=>exact Sw h1
  | some v=>exact Sv (Tx h1 (fun _ s2 h2=>Sv (Tx h2 (fun _ s3 h3=>Tx (hk h3) (fun ea s4 h4=>by obtain⟨rfl,h4⟩:=h4;exact⟨rfl,h4⟩) fun _ _ z=>z) fun _ _ z=>z)) fun _ _ z=>z)) n h0⟩
noncomputable abbrev gZ(env:Env)(ifs:List Expr)(b:Bool):Sem Bool:=forIn ifs b fun c r=>if r=true then do let ok <- isTrue c env (eval c env);pure (ForInStep.yield ok) else pure (ForInStep.yield r)
noncomputable def mA(A:UG)(env:Env)(ifs:List Expr)(elt:Expr)(acc:Value):Bd:=fun P N s=>wpAny M0 A (gZ env ifs true) (fun ok s1=>if ok=true then wpAny M0 A (eval elt env) (fun x s2=>wpAny M0 A (call (.builtin "list.append") [acc,x]) (fun _ s3=>P s3) N s2) N s1 else P s1) N s
noncomputable def Jg(env:Env)(ifs:List Expr)(elt:Expr)(acc:Value)(c:Code):Sem PySem.Fin:=do
 let mut ok:=true
 for c in ifs do
  if ok then ok <- isTrue c env (eval c env)
 if ok then
  (do let _ <- call (.builtin "list.append") [acc,<- eval elt env])
 again c
theorem mz{ps:Pos}(hu:A.under (.compLoop e d it acc env)=A)(h:M0.den (.compLoop e d it acc env)=(xp ps t it env (Jg env ifs elt acc (.compLoop e d it acc env))).onRaise fun x=>do noteFrame x env;theTreesLotGoes x):tC A e d it acc env t (mA A env ifs elt acc):=uk hu h fun hP=>
 Sv (Tx hP (fun ok s1 h1=>match ok,h1 with
  | false,h1=>Sw ⟨rfl,h1⟩
  | true,h1=>Sv (Sv (Tx h1 (fun x s4 h4=>Sv (Tx h4 (fun _ s5 h5=>Sw (Sw ⟨rfl,h5⟩)) fun _ _ z=>z)) fun _ _ z=>z))) fun _ _ z=>z)
theorem yH:tC A (.ListComp elt [⟨t,iter,ifs,0⟩] scope pos) 0 it acc env t (mA A env ifs elt acc):=mz (ps:=iter.pos) rfl (by rfl)
theorem BK:tC A (.ListComp elt [⟨t,iter,[],0⟩,⟨t',iter',[],0⟩] scope pos) 1 it acc env t' (mA A env [] elt acc):=mz (ps:=iter'.pos) rfl (by rfl)
noncomputable def Bm(A:UG)(env:Env)(iter':Expr)(e:Expr)(acc:Value):Bd:=fun P N s=>wpAny M0 A (eval iter' env) (fun x s1=>wpAny M0 A (pyIter x) (fun it' s2=>codeAny M0 A (.compStart e 1 it' acc env) (fun r s3=>∃ f,r=.ok f/\P s3) s2) N s1) N s
theorem yG(hf:∀ v,foldedSetIterable iter' env v=pure v):tC A (.ListComp elt [⟨t,iter,[],0⟩,⟨t',iter',[],0⟩] scope pos) 0 it acc env t (Bm A env iter' (.ListComp elt [⟨t,iter,[],0⟩,⟨t',iter',[],0⟩] scope pos) acc):=
 uk (ps:=iter.pos) (rest:=do
  let x <- eval iter' env
  standAt iter'.pos
  let x <- foldedSetIterable iter' env x
  let _ <- runOwn (.compStart (.ListComp elt [⟨t,iter,[],0⟩,⟨t',iter',[],0⟩] scope pos) 1 (<- holding [x] (pyIter x)) acc env) env
  again (.compLoop (.ListComp elt [⟨t,iter,[],0⟩,⟨t',iter',[],0⟩] scope pos) 0 it acc env)) rfl (by rfl) fun hP=>Sv (Tx hP (fun x s3 h3=>Sv (wpAny_standAt (Sv (wpAny_of_eq (hf x) (Sv (S6 (Tx h3 (fun it' s4 h4=>
   Sv (wpAny_runOwn (codeAny_mono h4 fun r s5 hr=>hr.elim fun f hr=>hr.1▸Sw ⟨rfl,hr.2⟩))) fun _ _ z=>z))))))) fun _ _ z=>z)
theorem xJ{R:Result->UE->Prop}{s:UE}(h0:codeAny M0 A (.compLoop (.ListComp elt [⟨t,iter,[],0⟩,⟨t',iter',[],0⟩] scope pos) 1 it acc env) R s)
  (h:∀ N,wpAny M0 A (pyIter it) (fun it' s'=>codeAny M0 A (.compLoop (.ListComp elt [⟨t,iter,[],0⟩,⟨t',iter',[],0⟩] scope pos) 1 it' acc env) R s') N s) :
  codeAny M0 A (.compStart (.ListComp elt [⟨t,iter,[],0⟩,⟨t',iter',[],0⟩] scope pos) 1 it acc env) R s:=by
 refine codeAny_of_tree ?_;show wpAny _ _ ((compStart (.ListComp elt [⟨t,iter,[],0⟩,⟨t',iter',[],0⟩] scope pos) 1 it acc env).onRaise (fun x=>do noteFrame x env;standAt theWindowsPlace)) _ _ s
 refine wpAny_notedAt ?_;refine Sv (m:=ask) (wpAny_askSetting (wpAny_ite ?_))
 split
 ·exact Sv (Sw (Sw ⟨rfl,h0⟩))
 ·refine Sv (TD ?_);show wpAny _ _ (standAt iter'.pos >>= _) _ _ s;exact Sv (wpAny_standAt (Sv (Tx (h _) (fun it' s' h'=>Sw ⟨rfl,h'⟩) fun _ _ x=>x)))
end
noncomputable def aw.slots:aw->List Nat
 | .one i=>[i]
 | .many is=>is
def Ag(is:List Nat)(U U':En):Prop:=∀ j,j∉is->U' j=U j
theorem fF{is:List Nat}:∀{vs:List AV} {U U0 U':En},eG U is vs=some U'->Ag is U U0->eG U0 is vs=some U'/\Ag is U U':=by
 induction is with
 | nil=>
  refine @fun vs U U0 U' h ha=>?_
  cases vs with
  | nil=>exact SQ h▸⟨Sx some (funext fun j=>ha j nofun),fun _ _=>rfl⟩
  | cons=>exact bY h
 | cons i is ih=>
  refine @fun vs U U0 U' h ha=>?_
  cases vs with
  | nil=>exact bY h
  | cons v vs=>
   have g:=ih (U:=ag U i v) (U0:=ag U0 i v) h fun j hj=>(Tl (j=i)).elim (fun e=>(SI e).trans (SI e).symm) fun e=>(Sz e).trans ((ha j fun hm=>(SN.mp hm).elim e hj).trans (Sz e).symm);exact⟨g.1,fun j hj=>(g.2 j fun hm=>hj (.tail _ hm)).trans (Sz fun e:j=i=>hj (e▸.head _))⟩
section
variable{U U0 U':En}{Y Y':St}{v:AV}{c:Cc}{A:UG}{env:Env}{p:Pt Y}{q:Pt Y'}{Er:Value->UE->Prop}{D:Addr}{vs us:List AV}{w:Value}{cx:Cx}{is:List Nat}
theorem qC{pt:aw}(h:bU pt v U Y=some U')(ha:Ag pt.slots U U0):bU pt v U0 Y=some U'/\Ag pt.slots U U':=match pt,h,ha with
 | .one i,h,ha=>fF (is:=[i]) (vs:=[v]) h ha
 | .many is,h,ha=>ae h fun vs h1 hu=>⟨(show(cO (bw v) ((bF v).bind (ai Y))).bind (eG U0 is)=_ by rw[h1];exact(fF hu ha).1),(fF hu ha).2⟩
structure G1(D:Addr)(vs:List AV)(p:Pt Y):Prop where
 own:D∈p.κ
 ex:∃ ws n,p.s.heap.get? D=some (gu ws n)/\VL vs p ws.toList
theorem G1.nx{Z:List Addr}(a:G1 D vs p)(n:Nx Z p q)(h:D∉Z):G1 D vs q:=
 have k:=n.keep a.own h
 ⟨k.1,a.ex.imp fun _ g=>g.imp fun _ g=>⟨k.2.trans g.1,VL.nx g.2 n⟩⟩
theorem Ae{Q:Value->UE->Prop}(a:G1 D vs p)(r:V v p w)(hl:vs.length+1<=ax)(h:∀ q:Pt Y,Nx [D] p q->G1 D (vs++[v]) q->Q .none q.s):wpAny M0 A (call (.builtin "list.append") [.ref D,w]) Q Er p.s:=
 a.ex.elim fun ws g=>g.elim fun n g=>call_meets F.slot_list_append ⟨_,g.1,rfl⟩ F.entry_list_append (F.args_list_append_2 _ _) (list_append D ws n w (aW (g.2.size▸Nat.le_of_succ_le hl))) ⟨g.1,p.put a.own (Tm ..) (Tw _ g.1 rfl) fun q n hm ho=>
  h q n ⟨hm,_,_,ho,by rw[Um];exact ah.snoc (VL.nx g.2 n) (r.nx n)⟩⟩
inductive Dx (c:Cc):List Expr->List X->Prop
 | nil:Dx c [] []
 | cons {e x es xs}:ST c e x->Dx c es xs->Dx c (e::es) (x::xs)
theorem rj(es:List Expr){Q:Bool->UE->Prop}{s:UE}(h:Q false s):wpAny M0 A (gZ env es false) Q Er s:=by
 induction es with
 | nil=>exact Sw h
 | cons e es ih=>rw[gZ,Uc];exact Sv (Sw ih)
theorem oT{es:List Expr}{xs:List X}(hs:Dx c es xs):∀{Y Y':St} {p:Pt Y} (f:Fm c U p) {b:Bool},Cp c.C xs U Y=some (b,Y')->Aq f.A p (gZ f.env es true) b Y':=by
 induction hs with
 | nil=>exact fun{Y Y' p} f b h=>cW (P:=fun b Y'=>Aq f.A p (gZ f.env [] true) b Y') h (.pure rfl)
 | @cons e x es xs st _ ih=>exact fun{Y Y' p} f b h=>aE h fun t Y1 h1 h=>⟨fun{Er Q} g=>by
   rw[gZ,Uc];refine Sv (Sv ((st.ev f h1).go fun q t' n r=>Sw ?_));subst r
   cases t' with
   | true=>exact(ih (f.nx n) h).go fun q2 b2 n2 r2=>g q2 b2 (n.trans n2) r2
   | false=>cases h;exact rj es (g q _ n rfl)⟩
noncomputable def Dt(cc:En->St->Option (Bool×St))(ee:En->St->Option (List AV×St))(U:En)(Y:St):Option (List AV×St):=cr (cc U Y) fun t Y1=>bif t then ee U Y1 else some ([],Y1)
theorem JU{gd:List (Nat×Option (List AV))}{pt:aw}{cc:En->St->Option (Bool×St)}{ee:En->St->Option (List AV×St)}{zs:List AV}{P:Prop}(h:bx gd pt U cc ee (v::vs) Y=some (zs,Y'))
  (k:∀ U1 xs Y1 ys,ic Y gd=true->bU pt v U Y=some U1->Dt cc ee U1 Y=some (xs,Y1)->bx gd pt U cc ee vs Y1=some (ys,Y')->xs++ys=zs->P):P:=
 bi h (fun hg h=>ae h fun U1 hb h=>aE h fun t Y1 h1 h=>match t,h1,h with
  | true,h1,h=>aE h fun xs Y2 h2 h=>aE h fun ys Y3 h3 h=>by cases h;exact k U1 xs Y2 ys hg hb ((am h1).trans h2) h3 rfl
  | false,h1,h=>k U1 [] Y1 zs hg hb ((am h1).trans rfl) h rfl) fun _ h=>nomatch h
end
structure Cl where
 D:Addr
 env:Env
 cx:Cx
 X:List Addr
 gd:List (Nat×Option (List AV))
 pt:aw
 U:En
 cc:En->St->Option (Bool×St)
 ee:En->St->Option (List AV×St)
noncomputable abbrev Cl.L(l:Cl):List Addr:=[l.env.locals,l.D]
noncomputable abbrev Cl.Z(l:Cl):List Addr:=l.X++l.L
structure Cs(l:Cl)(us:List AV){Y:St}(q:Pt Y):Prop where
 F:∃ U1,FR q.x l.env l.cx U1/\Ag l.pt.slots l.U U1
 acc:G1 l.D us q
structure oI(l:Cl){Y:St}(p:Pt Y)(K:Bd):Prop where
 go:∀{Y1 Y2:St} {q:Pt Y1} {U2:En} {xs us:List AV} {P:UE->Prop} {N:Value->UE->Prop},Nx l.Z p q->FR q.x l.env l.cx U2->Ag l.pt.slots l.U U2->G1 l.D us q->(us++xs).length<=ax->Dt l.cc l.ee U2 Y1=some (xs,Y2)->
  (∀ q':Pt Y2,Nx l.L q q'->Cs l (us++xs) q'->P q'.s)->K P N q.s
structure CI(l:Cl)(items zs:List AV)(Sta:Nat->Hp->Prop){Y:St}(p:Pt Y)(τ:St)(k:Nat)(s:UE):Prop where
 ex:∃ i Y1 us rest,∃ q:Pt Y1,s=q.s/\k=items.length-i/\i<=items.length/\Nx l.Z p q/\Cs l us q/\Sta i q.x/\us++rest=zs/\bx l.gd l.pt l.U l.cc l.ee (items.drop i) Y1=some (rest,τ)
section
variable{l:Cl}{A:UG}{Y τ:St}{p:Pt Y}{e t:Expr}{d:Nat}{it:Value}{K:Bd}{tup:Bool}{items:List AV}{Sta:Nat->Hp->Prop}
theorem kt{acc vs:List AV}{R:Result->UE->Prop}(lp:tC A e d it (.ref l.D) l.env t K)(Tn:gT A tup it l.X items l.gd Sta)(hh:A.handled=none)(hloc:tB true l.cx t)(ht:bC l.cx t=some l.pt)(htt:tup=true->∃ es k q,t=.Tuple es k q)
  (B:oI l p K) (hX:∀ a,a∈l.X->a∉l.L/\a∉cR l.env) (hD:l.D≠l.env.locals) (cs:Cs l acc p) (st:Sta 0 p.x) (hz:(acc++vs).length<=ax) (hd:bx l.gd l.pt l.U l.cc l.ee items Y=some (vs,τ))
  (h:∀ q:Pt τ,Nx l.Z p q->Cs l (acc++vs) q->R (.ok .next) q.s):codeAny M0 A (.compLoop e d it (.ref l.D) l.env) R p.s:=
 lp.go (CI l items (acc++vs) Sta p τ) (fun k s' hI N=>by
  obtain⟨i,Y1,us,rest,q,rfl,rfl,hi,n,cs,st,hus,hf⟩:=hI;have hXD:l.D∉l.X:=fun hm=>(hX _ hm).1 (.tail _ (.head _))
  rcases Nat.lt_or_eq_of_le hi with hlt | rfl
  ·rw[UD hlt] at hf;refine JU hf fun U1 xs Y2 ys hg hb hB hr e=>?_;refine Tx (Tn.next (E:=N) (Q:=fun w s2=>wpAny M0 A (assign t l.env w) (fun _ s3=>K (fun s'=>∃ m,m<items.length-i/\CI l items (acc++vs) Sta p τ m s') N s3) N s2) htt (Tu hlt) hg st fun q2 w n2 r2 st2=>?_) (fun rv s1 hr=>by obtain⟨w,rfl,hw⟩:=hr;exact hw) fun _ _ z=>z
   refine cs.F.elim fun UX F=>?_;have hb:=qC hb F.2;refine(de hh hloc ht (F.1.go n2 fun a ha=>(hX a ha).2) r2 hb.1).go fun q3 _ n3 F3=>?_;have n13:Nx l.Z p q3:=n.trans (n2.left.trans (n3.more fun a ha _=>Tq _ (SO.mp ha▸.head _)));subst e;rw[<- SR] at hus;refine B.go n13 F3 hb.2 ((cs.acc.nx n2 hXD).nx n3 fun hm=>hD (SO.mp hm)) (Sy (Sy (Ty _ ys.length) (SD (SP.symm.trans (Sx List.length hus)))) hz) hB fun q5 n5 cs5=>?_;exact⟨items.length-(i+1),Nat.sub_succ_lt_self _ _ hlt,i+1,Y2,us++xs,ys,q5,rfl,rfl,hlt,n13.trans n5.right,cs5,Tn.frame (Tn.frame st2 n3 fun a ha hm=>(hX a hm).1 (SO.mp ha▸.head _)) n5 fun a ha hm=>(hX a hm).1 ha,hus,hr⟩
  ·rw[List.drop_length] at hf;refine cN hf fun hg e=>?_
   cases e
   rw[Ti] at hus;subst hus;exact Tn.done hg st fun q2 n2=>h q2 (n.trans n2.left) ⟨cs.F.imp fun _ F=>⟨F.1.go n2 fun a ha=>(hX a ha).2,F.2⟩,cs.acc.nx n2 hXD⟩) (items.length-0) ⟨0,Y,acc,vs,p,rfl,rfl,SZ _,.refl p,cs,st,rfl,hd⟩
theorem uo{c:Cc}{ifs:List Expr}{xc:List X}{elt:Expr}{xe:X}(hc:c.cx=l.cx)(R:cg A c.n)(sc:Dx c ifs xc)(se:SX c elt xe)(hD:l.D∉cR l.env)(hcc:l.cc=Cp c.C xc)(hee:l.ee=fun U Y=>one (ar c.C xe U Y)):oI l p (mA A l.env ifs elt (.ref l.D)):=⟨fun{Y1 Y2 q U2 xs us P N} n F ha ac hz hB k=>by
 rw[hcc,hee] at hB
 let f:Fm c U2 q:=⟨A,l.env,R,hc▸F⟩
 refine aE hB fun b Y3 h1 hB=>?_;unfold mA;refine(oT sc f h1).go fun q3 b' n3 e=>?_;subst e;have ac3:=ac.nx n3 nofun
 cases b' with
 | false=>
  cases hB
  rw[Ti] at k;exact k q3 n3.weak ⟨⟨U2,F.nx0 n3,ha⟩,ac3⟩
 | true=>
  refine aE hB fun u Y4 h2 hB=>?_
  cases hB
  refine(se.v (f.nx n3) h2).go fun q4 w n4 r4=>Ae (ac3.nx n4 nofun) r4 (by rw[SP] at hz;exact hz) fun q5 n5 ac5=>?_
  have n35:=n3.trans n4;exact k q5 (n35.weak.trans (n5.more fun a h _=>SO.mp h▸.tail _ (.head _))) ⟨⟨U2,(F.nx0 n35).go n5 fun a h=>SO.mp h▸hD,ha⟩,ac5⟩⟩
end
theorem po{xs:List Str}:∀{n i:Nat} {x:Str},(bn n xs).lookup x=some i->∃ j,i=n+j/\xs[j]?=some x:=by
 induction xs with
 | nil=>exact fun h=>bY h
 | cons y ys ih=>
  refine @fun n i x h=>(Tl (x=y)).elim (fun e=>⟨0,?_,Sx some e.symm⟩) fun e=>?_
  ·exact(SQ ((du (p:=(y,n)) (l:=bn (n+1) ys) e).symm.trans h)).symm
  ·exact(ih ((fO e).symm.trans h)).elim fun j g=>⟨j+1,g.1.trans (Nat.succ_add_eq_add_succ n j),g.2⟩
theorem jP{xs:List Str}:∀{n:Nat} {x:Str},(bn n xs).lookup x=none->x∉xs:=by
 induction xs with
 | nil=>exact fun _=>nofun
 | cons y ys ih=>
  refine @fun n x h hm=>(Tl (x=y)).elim (fun e=>?_) fun e=>?_
  ·exact bY (h.symm.trans (du (p:=(y,n)) (l:=bn (n+1) ys) e))
  ·exact(SN.mp hm).elim e (ih ((fO e).symm.trans h))
theorem cY:∀(xs:List Str) (n:Nat),(bn n xs).length=xs.length
 | [],_=>rfl
 | _::xs,n=>Sx (·+1) (cY xs (n+1))
theorem dq{β:Type}{l:List (Str×β)}{x:Str}{k:β}:(l.map (·.1)).Nodup->(x,k)∈l->l.lookup x=some k:=by
 induction l with
 | nil=>exact fun _ h=>SH h T6
 | cons p l ih=>
  refine fun hn hm=>(SN.mp hm).elim (fun e=>?_) fun hm=>?_
  ·exact(du (Sx Prod.fst e)).trans (Sx (fun p=>some p.2) e).symm
  ·exact(fO fun e=>(Th.mp hn).1 (SY.mpr ⟨(x,k),hm,e⟩)).trans (ih (Th.mp hn).2 hm)
theorem p7{β:Type}{g:Str->β->β}{x:Str}(l:List (Str×β)):(l.map fun p=>(p.1,g p.1 p.2)).lookup x=(l.lookup x).map (g x):=by
 induction l with
 | nil=>rfl
 | cons p l ih=>
  refine(Tl (x=p.1)).elim (fun e=>?_) fun e=>?_
  ·exact(du (p:=(p.1,g p.1 p.2)) e).trans ((Sx (fun y=>some (g y p.2)) e).symm.trans (Sx (Option.map (g x)) (du e)).symm)
  ·exact(fO (p:=(p.1,g p.1 p.2)) e).trans (ih.trans (Sx (Option.map (g x)) (fO e).symm))
def qU(cx:Cx):Prop:=∀ x,cx.sc.lookup x=some .cell->∃ i,cx.sl.lookup x=some i
structure cE(cx:Cx)(sc:Scope):Prop where
 kind:sc.kind=.function
 nodup:(sc.names.map (·.1)).Nodup
 all:∀{x k},(x,k)∈sc.names->k=.local\/k=.globalImplicit\/(k=.free/\cx.sc.lookup x=some .cell)
theorem jA{cx:Cx}{sc:Scope}(h:eo cx sc=true):cE cx sc:=
 have h:=SL.mp h;have g:=SL.mp h.1
 ⟨SF g.1,SF g.2,fun{x k} hm=>(TX.mp (Un.mp h.2 (x,k) hm)).elim (fun e=>(TX.mp e).elim (fun e=>.inl (SF e)) fun e=>.inr (.inl (SF e)))
  fun e=>have e:=SL.mp e;.inr (.inr ⟨SF e.1,SF e.2⟩)⟩
section
variable{cx:Cx}{sc:Scope}{env:Env}{x y:Hp}{U:En}{cl:List (Str×Addr)}{n:Str}{i:Nat}
theorem cE.free(ok:cE cx sc)(h:sc.names.lookup n=some .free):cx.sc.lookup n=some .cell:=(ok.all (aD h)).elim (fun e=>nomatch e) fun e=>e.elim (fun e=>nomatch e) And.right
theorem cE.noCell(ok:cE cx sc)(h:(n,.cell)∈sc.names):False:=(ok.all h).elim (fun e=>nomatch e) fun e=>e.elim (fun e=>nomatch e) fun e=>nomatch e.1
theorem cE.own(ok:cE cx sc)(h:n∈aL sc.names):sc.names.lookup n=some .local:=(SY.mp h).elim fun q h=>by
 obtain⟨⟨m,k⟩,h⟩:∃ r,r=q:=⟨q,rfl⟩;subst h;have hm:=TK.mp h.1
 cases(show m=n from h.2)
 refine(TX.mp hm.2).elim (fun e=>?_) fun e=>?_
 ·cases eq_of_beq e;exact dq ok.nodup hm.1
 ·cases eq_of_beq e;exact(ok.noCell hm.1).elim
theorem d9(h:(cx.inner sc).sl.lookup n=some i):(∃ j,i=cx.sl.length+j/\(aL sc.names)[j]?=some n)\/(n∉aL sc.names/\cx.sl.lookup n=some i):=by
 have h:(bn cx.sl.length (aL sc.names)++cx.sl).lookup n=some i:=h;rw[List.lookup_append] at h
 cases e:(bn cx.sl.length (aL sc.names)).lookup n with
 | some j=>rw[e] at h;cases h;exact .inl (po e)
 | none=>rw[e] at h;exact .inr ⟨jP e,h⟩
structure oG(sc:Scope)(env:Env)(cl:List (Str×Addr)):Prop where
 eq:closureFor sc env=pure cl
 sub:∀{x c},cl.lookup x=some c->env.cells.lookup x=some c
 has:∀{x},(x,.free)∈sc.names->∃ c,cl.lookup x=some c
theorem dO{β:Type}{l:List (Str×β)}{x:Str}{c:β}:(x,c)∈l->∃ d,l.lookup x=some d:=by
 induction l with
 | nil=>exact fun h=>SH h T6
 | cons p l ih=>
  refine fun h=>(Tl (x=p.1)).elim (fun e=>⟨p.2,du e⟩) fun e=>?_;exact(SN.mp h).elim (fun g=>SH (Sx Prod.fst g) e) fun h=>(ih h).imp fun d h=>(fO e).trans h
noncomputable abbrev PM(env:Env)(names:List (Str×NameKind))(acc:List (Str×Addr)):Sem (List (Str×Addr)):=forIn names acc fun p cs=>match p with
 | (name,kind)=>if(kind==.free)=true then do let c <- cellOf env name;pure (ForInStep.yield ((name,c)::cs)) else pure (ForInStep.yield cs)
theorem wB{env:Env}{y:Str}{c:Addr}(h:env.cells.lookup y=some c):cellOf env y=pure c:=by unfold cellOf;rw[h]
theorem sX(env:Env)(names:List (Str×NameKind)):∀(acc:List (Str×Addr)),(∀ x,(x,.free)∈names->∃ c,env.cells.lookup x=some c)->(∀ p∈acc,env.cells.lookup p.1=some p.2)->
  ∃ cl,PM env names acc=pure cl/\(∀ p∈cl,env.cells.lookup p.1=some p.2)/\(∀ x,(x,.free)∈names\/(∃ c,(x,c)∈acc)->∃ c,(x,c)∈cl):=by
 induction names with
 | nil=>exact fun acc _ ha=>⟨acc,rfl,ha,fun x hx=>hx.elim (fun h=>SH h T6) id⟩
 | cons p names ih=>
  refine fun acc hf ha=>(Tl (p.2=.free)).elim (fun hk=>?_) fun hk=>?_
  ·have hp:(p.1,.free)=p:=hk▸rfl;refine(hf p.1 (hp▸.head _)).elim fun c hc=>(ih ((p.1,c)::acc) (fun x hx=>hf x (.tail _ hx)) fun p hp=>(SN.mp hp).elim (fun e=>e▸hc) (ha p)).imp fun cl g=>⟨?_,g.2.1,fun x hx=>g.2.2 x (hx.elim (fun hx=>(SN.mp hx).elim (fun e=>.inr ⟨c,Sx Prod.fst e▸.head _⟩) .inl) fun hx=>.inr (hx.imp fun _ h=>.tail _ h))⟩;exact(Uc ..).trans ((Sx (· >>= _) ((SI (beq_iff_eq.mpr hk)).trans (Sx (· >>= _) (wB hc)))).trans g.1)
  ·refine(ih acc (fun x hx=>hf x (.tail _ hx)) ha).imp fun cl g=>⟨?_,g.2.1,fun x hx=>g.2.2 x (hx.imp (fun hx=>(SN.mp hx).elim (fun e=>SH (Sx Prod.snd e).symm hk) id) id)⟩;exact(Uc ..).trans ((Sx (· >>= _) (Sz fun e=>hk (eq_of_beq e))).trans g.1)
theorem FZ(ok:cE cx sc)(hcx:qU cx)(F:FR x env cx U):∃ cl,oG sc env cl:=
 (sX env sc.names [] (fun n hn=>have e:=ok.free (dq ok.nodup hn);(hcx n e).elim fun i hi=>(F.cells n i (.inl e) hi).elim fun c h=>h.elim fun _ h=>⟨c,h.1⟩) nofun).imp fun cl g=>
  ⟨show(PM env sc.names [] >>= fun cs=>pure cs)=_ by rw[g.1];rfl,fun h=>g.2.1 _ (aD h),fun h=>(g.2.2 _ (.inl h)).elim fun c h=>dO h⟩
theorem km{Ca a:Addr}(cls:oG sc env cl)(ha:a∈cR (compEnvC sc cl Ca env)):a=Ca\/a∈cR env:=(jY ha).imp id fun h=>h.elim fun n h=>fc (cls.sub h)
theorem fT{k:NameKind}{Ca:Addr}(h:sc.names.lookup n=some k):(compEnvC sc cl Ca env).kindOf n=some (if(k==.free&&env.scope.kind==.function&&env.kindOf n==some .cell)=true then .cell else k):=by
 have e:=p7 (g:=fun n k=>if(k==.free&&env.scope.kind==.function&&env.kindOf n==some .cell)=true then .cell else k) (x:=n) sc.names
 rw[h] at e;refine Eq.trans (Sx (List.lookup n) (TF fun q _=>?_)) e;obtain⟨a,b⟩:=q;exact(apply_ite (Prod.mk a) _ _ _).symm
theorem qh{Ca:Addr}{m:Str->Option Value}(ok:cE cx sc)(cls:oG sc env cl)(F:FR x env cx U)(hn:x.h.Ns Ca m)(hC:Ca∈x.κ):FR x (compEnvC sc cl Ca env) (cx.inner sc) U where
 st:=⟨ok.kind,F.st.glob,F.st.blt,fun n=>⟨fT,fun h=>(ok.noCell (aD h)).elim,fun h=>by rw[fT h,F.st.kind,(F.st.sc n).2.1 (ok.free h)];rfl,fT⟩,
  fun a b i ha hb=>(d9 ha).elim (fun g=>(d9 hb).elim (fun h=>g.elim fun j g=>h.elim fun j' h=>SQ (g.2.symm.trans ((Nat.add_left_cancel (g.1.symm.trans h.1))▸h.2)))
    fun h=>g.elim fun j g=>SH (F.st.slots b i h.2) (g.1▸Nat.not_lt.mpr (Ty _ _)))
   fun g=>(d9 hb).elim (fun h=>h.elim fun j h=>SH (F.st.slots a i g.2) (h.1▸Nat.not_lt.mpr (Ty _ _))) fun h=>F.st.inj a b i g.2 h.2,
  fun a b c ha hb=>F.st.apart a b c (cls.sub ha) (cls.sub hb),fun a i h=>by
   show i<(bn cx.sl.length (aL sc.names)++cx.sl).length;rw[SP,cY,Nat.add_comm];exact(d9 h).elim (fun g=>g.elim fun j g=>g.1▸Nat.add_lt_add_left (SJ.mp g.2).1 _) fun g=>Tz (F.st.slots a i g.2) (Ty _ _)⟩
 ownL:=hC
 ownC y c h:=F.ownC y c (cls.sub h)
 ns:=⟨m,hn,fun y i v hy hi hv=>(d9 hi).elim (fun g=>g.elim fun j g=>nomatch(F.top i (g.1▸Ty _ _)).symm.trans hv) fun g=>SH (SY.mpr ⟨(y,.local),TK.mpr ⟨aD hy,rfl⟩,rfl⟩) g.1⟩
 cells y i hy hi:=hy.elim (fun h=>(ok.noCell (aD h)).elim) fun hf=>(d9 hi).elim (fun g=>g.elim fun j g=>nomatch(ok.own (Tf g.2)).symm.trans hf)
  fun g=>(F.cells y i (.inl (ok.free hf)) g.2).imp fun c h=>h.imp fun cv h=>⟨(cls.has (aD hf)).elim fun d hd=>hd.trans ((cls.sub hd).symm.trans h.1),h.2⟩
 top i hi:=F.top i (Sy (show cx.sl.length<=(bn cx.sl.length (aL sc.names)++cx.sl).length by rw[SP];exact Nat.le_add_left _ _) hi)
theorem qg(ok:cE cx sc):qU (cx.inner sc):=fun n h=>(ok.noCell (aD h)).elim
end
section
variable{c:Cc}{U:En}{Y Y1 Y2:St}{p:Pt Y}{Er Q:Value->UE->Prop}{v:AV}{src:wQ}{vs:List AV}{x x' xe:X}{pt pt':aw}{elt t it t' it':Expr}{ifs:List Expr}{rest:List Comprehension}{sc:Scope}{pos pos':Pos}{xc:List X}{use:Option (Value->Sem Unit)}
theorem y5{cx:Cx}{tup:Bool}(ht:bC cx t=some pt)(h:tup=true->∃ is,pt=.many is):tup=true->∃ es k q,t=.Tuple es k q:=fun e=>(h e).elim fun _ e=>jL (e▸ht)
def qV(A:UG)(p:Pt Y)(Y2:St)(vs:List AV)(use:Option (Value->Sem Unit))(E Q:Value->UE->Prop):Prop:=
 ∀(r:Pt (Y2++[.list vs])) (D Ca:Addr),Nx [] p r->V (.ref Y2.length) r (.ref D)->Ca∈r.κ->Ca∉p.κ->(∃ m,r.s.heap.Ns Ca m)->compPost M0 A E use Q (.ref D) Ca (.ok .next) r.s
structure Km(env:Env)(sc:Scope)(p:Pt Y){Y':St}(q:Pt Y')(D Ca:Addr)(X:List Addr)(cl:List (Str×Addr)):Prop where
 cls:oG sc env cl
 n:Nx [] p q
 ne:D≠Ca
 out:∀ a,a∈X++[Ca,D]->a∉p.κ
theorem Km.D{env:Env}{cx:Cx}{Y':St}{q:Pt Y'}{D Ca:Addr}{X:List Addr}{cl:List (Str×Addr)}(K:Km env sc p q D Ca X cl)(F:FR p.x env cx U):D∉cR (compEnvC sc cl Ca env):=fun hm=>
 (km K.cls hm).elim K.ne fun hm=>K.out D (Tq _ (.tail _ (.head _))) (F.sub hm)
theorem mM(hcx:qU c.cx)(hok:eo c.cx sc=true)(nf:∀ env v,foldedSetIterable it env v=pure v)(ht:bC (c.cx.inner sc) t=some pt)(hloc:dt sc.names t=true)(sx:SX c it x)(f:Fm c U p)(h1:ar c.C x U Y=some (v,Y1))(hp:dn pt v=true)(h2:cV Y1 v=some src)
  {cc:En->St->Option (Bool×St)} {ee:En->St->Option (List AV×St)} (h3:bx src.gd pt U cc ee src.items Y1=some (vs,Y2)) (hl:vs.length<=ax) (K:Addr->Env->Bd) (lp:∀ itv D env,tC f.A (.ListComp elt (⟨t,it,ifs,0⟩::rest) sc pos) 0 itv (.ref D) env t (K D env))
  (B:∀{Y':St} {q:Pt Y'} {D Ca X cl},Km f.env sc p q D Ca X cl->oI ⟨D,compEnvC sc cl Ca f.env,c.cx.inner sc,X,src.gd,pt,U,cc,ee⟩ q (K D (compEnvC sc cl Ca f.env))) (k:qV f.A p Y2 vs use Er Q) :
  wpAny M0 f.A (comprehension (.ListComp elt (⟨t,it,ifs,0⟩::rest) sc pos) sc f.env pos' (newList []) false (eval it f.env) use) Q Er p.s:=
 have ok:=jA hok
 (FZ ok hcx f.F).elim fun cl cls=>wpAny_comprehension_free (use:=use) rfl (nf _) cls.eq ok.kind (fun y hy hk=>dq ok.nodup (hk▸hy)) ((sx.ev f h1).go fun q1 w n1 r1=>fR f.R.handled n1 r1 h2 hp fun q2 tup itv X Sta Tn htup n2 st fr=>by
  have n12:=n1.trans n2;refine TR (wpAny_newFunctionEnv (fun y hy e=>ok.noCell (n:=y.1) (by rw[<- e];exact hy)) nofun (fun h4 hns hsb=>?_) ok.kind)
  have hz:=Ue q2.s.heap { cls:=.type "list",dict:=none,data:=.seq ([]:List Value).toArray };have h4k:∀ b o,b<q2.s.heap.objs.size+1->(q2.s.heap.push { cls:=.type "list",dict:=none,data:=.seq ([]:List Value).toArray }).get? b=some o->h4.get? b=some o:=fun b o hb e=>(hsb.2 b (hz▸S7 hb)).trans (SW _ e);have hold:∀ b o,q2.s.heap.get? b=some o->h4.get? b=some o:=fun b o e=>h4k b o (TC (Tt e)) (SW _ e);have hD:=h4k _ _ (T8 _) (Tb q2.s.heap rfl);have aV:∀{a},q2.s.heap.objs.size<=a->q2.s.heap.get? a=none:=fun h=>TN h;rw[hz] at hns ⊢;refine q2.grow (Q:=fun s=>codeAny M0 f.A _ _ s) [q2.s.heap.objs.size,q2.s.heap.objs.size+1] hold (fun a ha=>(SN.mp ha).elim (fun e=>e▸⟨aV (SE _),_,hD⟩) fun ha=>SO.mp ha▸⟨aV (TS _),hns.imp fun o h=>h.elim fun _ h=>h.elim fun _ h=>h.1⟩)
   (Th.mpr ⟨fun h=>S7 (T8 _) (SO.mp h),Th.mpr ⟨T6,.nil⟩⟩) fun q4 n4 e4 hκ _=>?_
  have kD:=hκ _ (.head _);have kC:=hκ _ (.tail _ (.head _));generalize q2.s.heap.objs.size=D at *;have n14:=n12.trans n4;have out:∀ a,a∈X++[D+1,D]->a∉p.κ:=fun a ha=>(S9.mp ha).elim (fr a) fun ha hm=>(SN.mp ha).elim (fun e=>kC.2 (e▸(n12.kept hm).1)) fun ha=>kD.2 (SO.mp ha▸(n12.kept hm).1)
  let l:Cl:=⟨D,compEnvC sc cl (D+1) f.env,c.cx.inner sc,X,src.gd,pt,U,cc,ee⟩
  have KK:Km f.env sc p q4 D (D+1) X cl:=⟨cls,n14,S7 (T8 _),out⟩;have st4:=Tn.frame st n4 fun _ h _=>SH h T6;have hX:∀ a,a∈X->a∉l.L/\a∉cR l.env:=fun a ha=>⟨fun hm=>(SN.mp hm).elim (fun e:a=D+1=>kC.2 (e▸Tn.sub st a ha)) fun hm=>kD.2 ((SO.mp hm:a=D)▸Tn.sub st a ha),fun hm=>(km cls hm).elim (fun e=>kC.2 (e▸Tn.sub st a ha)) fun hm=>fr a ha (f.F.sub hm)⟩;have ie:=kt (l:=l) (R:=compPost M0 f.A Er use Q (.ref D) (D+1)) (lp itv D l.env) Tn f.R.handled (fun _=>hloc) ht (y5 ht htup) (B KK) hX KK.ne ⟨⟨U,qh ok cls (f.F.nx0 n14) (e4▸hns) kC.1,fun _ _=>rfl⟩,kD.1,#[],0,e4▸hD,.nil⟩ st4 (by rw[List.nil_append];exact hl) h3 fun q5 n5 cs5=>by
   have n15:Nx [] p q5:=(n14.weak.trans n5).more fun a h hκ=>SH hκ (out a h);have oC:=out (D+1) (Tq _ (.head _));refine cs5.F.elim fun U1 F=>cs5.acc.ex.elim fun ws h=>h.elim fun n h=>?_;refine p.adopt (Q:=compPost M0 f.A Er use Q (.ref D) (D+1) (.ok .next)) q5 n15 (L:=(D+1)::p.κ) (fun a h=>(SN.mp h).elim (fun e=>e▸F.1.ownL) fun h=>(n15.kept h).1) (Th.mpr ⟨oC,(Tj.mp p.r.nodup).2.1⟩) (fun a h=>.tail _ h) (o:=.list vs) cs5.acc.own (fun h=>(SN.mp h).elim KK.ne (out D (Tq _ (.tail _ (.head _)))))
    (fun wk=>⟨rfl,hl,ws,n,h.1,h.2.mono (ao.wk wk)⟩) fun r n6 wk hι hκ hs=>k r D (D+1) n6 ⟨(D,D),hι,rfl⟩ (hκ▸.head _) oC (hs▸F.1.ns.imp fun _ h=>h.1)
  exact codeAny_compStart_list ie (Tn.self st4 ie))
noncomputable abbrev Cc.inner(c:Cc)(sc:Scope):Cc:=⟨c.n,c.C,c.cx.inner sc,c.ok⟩
noncomputable abbrev Jt(C:Calls)(x':X)(pt':aw)(xe:X)(U':En)(Y':St):Option (List AV×St):=cr (ar C x' U' Y') fun u Y3=>bif dn pt' u then(cV Y3 u).bind fun s'=>bx s'.gd pt' U' (fun _ Y'=>some (true,Y')) (fun U'' Y'=>one (ar C xe U'' Y')) s'.items Y3 else none
theorem EJ{Y':St}{q:Pt Y'}{D Ca:Addr}{X:List Addr}{cl:List (Str×Addr)}{gd:List (Nat×Option (List AV))}{f:Fm c U p}(K:Km f.env sc p q D Ca X cl)(ok:cE c.cx sc)(sx':SX (c.inner sc) it' x')(se:SX (c.inner sc) elt xe)(ht':bC (c.cx.inner sc) t'=some pt')(hloc':dt sc.names t'=true) :
  oI ⟨D,compEnvC sc cl Ca f.env,c.cx.inner sc,X,gd,pt,U,fun _ Y=>some (true,Y),Jt c.C x' pt' xe⟩ q (Bm f.A (compEnvC sc cl Ca f.env) it' (.ListComp elt [⟨t,it,[],0⟩,⟨t',it',[],0⟩] sc pos) (.ref D)):=⟨fun{Y1 Y2 q1 U2 xs us P N} n F ha ac hz hB kk=>by
 refine aE (show Jt c.C x' pt' xe U2 Y1=_ from hB) fun u Y3 h1 hB=>bi hB (fun hop hB=>ae hB fun src hs hcn=>?_) fun _ h=>nomatch h
 unfold Bm;refine(sx'.ev (c:=c.inner sc) ⟨f.A,compEnvC sc cl Ca f.env,f.R,F⟩ h1).go fun q3 w n3 r3=>fR f.R.handled n3 r3 hs hop fun q5 tup itv X' Sta Tn htup n5 st fr=>?_;have n35:=n3.trans n5
 let l:Cl:=⟨D,compEnvC sc cl Ca f.env,c.cx.inner sc,X',src.gd,pt',U2,fun _ Y=>some (true,Y),fun U Y=>one (ar c.C xe U Y)⟩
 have hX:∀ a,a∈X'->a∉l.L/\a∉cR l.env:=fun a ha=>⟨fun hm=>(SN.mp hm).elim (fun e=>fr a ha (e▸F.ownL)) fun hm=>fr a ha (SO.mp hm▸ac.own),fun hm=>fr a ha (F.sub hm)⟩;have inner:=kt (l:=l) (R:=fun r s=>∃ f,r=.ok f/\P s) (BK (t:=t) (iter:=it) (iter':=it') (scope:=sc) (pos:=pos)) Tn f.R.handled (fun _=>hloc') ht' (y5 ht' htup) (uo (c:=c.inner sc) rfl f.R .nil se (K.D f.F) rfl rfl) hX K.ne ⟨⟨U2,F.nx0 n35,fun _ _=>rfl⟩,ac.nx n35 nofun⟩ st hz hcn fun q6 n6 cs6=>by
  have n16:Nx [Ca,D] q1 q6:=(n35.weak.trans n6).more fun a ha hk=>(S9.mp ha).elim (fun ha=>SH hk (fr a ha)) id;have Fo:FR q6.x f.env c.cx U:=f.F.go ((K.n.weak.trans n).trans n16.right) fun a ha hm=>K.out a ha (f.F.sub hm);exact cs6.F.elim fun U1 F1=>F1.1.ns.elim fun m hm=>⟨.next,rfl,kk q6 n16 ⟨⟨U,qh ok K.cls Fo hm.1 F1.1.ownL,fun _ _=>rfl⟩,cs6.acc⟩⟩
 exact xJ inner fun N'=>Tn.self st inner⟩
structure SG(c:Cc)(e:Expr)(sc:Scope)(it:Expr)(x:X):Prop where
 go:∀{U:En} {Y Y':St} {p:Pt Y} (f:Fm c U p) {v:AV},ar c.C x U Y=some (v,Y')->∀{use:Option (Value->Sem Unit)} {pos':Pos} {E Q:Value->UE->Prop},(∀ Y2 vs,v=.ref Y2.length->Y'=Y2++[.list vs]->qV f.A p Y2 vs use E Q)->
  wpAny M0 f.A (comprehension e sc f.env pos' (newList []) false (eval it f.env) use) Q E p.s
variable(hcx:qU c.cx)(hok:eo c.cx sc=true)(nf:∀ env v,foldedSetIterable it env v=pure v)(ht:bC (c.cx.inner sc) t=some pt)(hloc:dt sc.names t=true)(sx:SX c it x)(se:SX (c.inner sc) elt xe)
include hcx hok nf ht hloc sx se
theorem A4(sc':Dx (c.inner sc) ifs xc):SG c (.ListComp elt [⟨t,it,ifs,0⟩] sc pos) sc it (.comp xe pt x xc):=⟨fun{U Y Y' p} f v hd {use pos' E Q} k=>aE hd fun u Y1 h1 hd=>bi hd (fun hp hd=>ae hd fun src h2 hd=>aE hd fun vs Y2 h3 hd=>cN hd fun hl e=>
 mM hcx hok nf ht hloc sx f h1 hp h2 h3 (SF hl) (fun D env=>mA f.A env ifs elt (.ref D)) (fun _ _ _=>yH) (fun K=>uo (c:=c.inner sc) rfl f.R sc' se (K.D f.F) rfl rfl) (k Y2 vs (Sx Prod.fst e).symm (Sx Prod.snd e).symm)) fun _ h=>nomatch h⟩
theorem xV(nf':∀ env v,foldedSetIterable it' env v=pure v)(ht':bC (c.cx.inner sc) t'=some pt')(hloc':dt sc.names t'=true)(sx':SX (c.inner sc) it' x'):SG c (.ListComp elt [⟨t,it,[],0⟩,⟨t',it',[],0⟩] sc pos) sc it (.comp2 xe pt x pt' x'):=
 ⟨fun{U Y Y' p} f v hd {use pos' E Q} k=>aE hd fun u Y1 h1 hd=>bi hd (fun hp hd=>ae hd fun src h2 hd=>aE hd fun vs Y2 h3 hd=>cN hd fun hl e=>
 mM hcx hok nf ht hloc sx f h1 hp h2 h3 (SF hl) (fun D env=>Bm f.A env it' (.ListComp elt [⟨t,it,[],0⟩,⟨t',it',[],0⟩] sc pos) (.ref D)) (fun _ _ env=>yG (nf' env)) (fun K=>EJ K (jA hok) sx' se ht' hloc') (k Y2 vs (Sx Prod.fst e).symm (Sx Prod.snd e).symm)) fun _ h=>nomatch h⟩
omit hcx hok nf ht hloc sx se
theorem qV.go{A:UG}{a:Addr}(h:a∈p.κ){h':Heap}{P:UE->Prop}(hs:Heap.SameBut a p.s.heap h')(k:∀ q:Pt Y,Nx [a] p q->P q.s):P { p.s with heap:=h' }:=p.turn [a] (dG h) (fun b o hb e=>(hs.2 b fun q=>hb (q▸.head _)).trans e) fun q n _ _ _=>k q n
theorem ni{gens:List Comprehension}(hi:∀ env,firstIter gens env=eval it env)(ha:firstAsync gens=false)(S:SG c (.ListComp elt gens sc pos) sc it x):SX c (.ListComp elt gens sc pos) x:=.of fun{U Y Y' p} f v h=>⟨fun{E Q} g=>by
 rw[eval_ListComp,hi,ha];exact S.go f h fun Y2 vs hv hY r D Ca n e hC hp hm=>hm.imp fun m hm=>⟨hm,fun h' hs=>qV.go (A:=f.A) hC hs fun q n2=>by
  subst hv hY;exact g q _ ((n.weak.trans n2).more fun a h hk=>SH (SO.mp h▸hk) hp) (e.nx n2)⟩⟩
end
section
variable{c:Cc}{cx:Cx}{A:UG}{env:Env}{U U':En}{Y Y' Y1:St}{p:Pt Y}{v:AV}{w:Value}{pt:aw}{t e:Expr}{x:X}{pos:Pos}{Er:Value->UE->Prop}
theorem nO{f:Expr->Option Str}(hf:∀ x p,f (.Name x p)=some x\/f (.Name x p)=none){es:List Expr}{is:List Nat}(hn:ah (dT false cx) es is):(es.filterMap f).length=es.length->es.filterMap f=es.map vL:=
 (ah.ind (P:=fun es _=>(es.filterMap f).length<=es.length/\((es.filterMap f).length=es.length->es.filterMap f=es.map vL)) ⟨SE _,fun _=>rfl⟩ (fun{e i es is} h _ ih=>by
  obtain⟨x,ps,rfl,_⟩:=h.ex;refine(hf x ps).elim (fun q=>?_) fun q=>?_
  ·rw[List.filterMap_cons_some q];exact⟨T1 ih.1,fun e=>Sx (x::·) (ih.2 (Nat.succ.inj e))⟩
  ·rw[List.filterMap_cons_none q];exact⟨Nat.le_succ_of_le ih.1,fun e=>SH (e▸ih.1) (Nat.not_succ_le_self _)⟩) hn).2
theorem ld(hok:dm t e=true)(ht:bC cx t=some pt):swappedStores [t] e env=pure none\/∃ es k q,t=.Tuple es k q/\swappedStores [t] e env=pure (some (es.map vL)):=
 jM (loc:=false) (P:=fun t _=>dm t e=true->swappedStores [t] e env=pure none\/∃ es k q,t=.Tuple es k q/\swappedStores [t] e env=pure (some (es.map vL))) nofun ht (fun _ _ _ _ _ _ _=>.inl rfl) (fun es k ps is hn hok=>by
  cases e<;>first | exact .inl rfl | skip
  rename_i vs k' pos';unfold swappedStores;dsimp only
  split
  ·exact .inl rfl
  split
  ·exact .inl rfl
  generalize (es.head?.map (·.pos.line)).getD 0=line;have hfl:=nO (cx:=cx) (f:=fun | .Name id pos=>if(env.kindOf id==some .local&&pos.line==line)=true then some id else none | _=>none) (fun x p=>by dsimp only;split<;>first | exact .inl rfl | exact .inr rfl) hn
  generalize es.filterMap (fun | .Name id pos=>if(env.kindOf id==some .local&&pos.line==line)=true then some id else none | _=>none)=names at hfl
  split
  ·exact .inl rfl
  rename_i hc
  split
  ·exact .inl rfl
  rename_i hv
  split
  ·rename_i hv2;exact(TX.mp hok).elim (fun q=>SH q hv) fun q=>by rw[hv2] at q;cases q
  ·exact .inr ⟨es,k,ps,rfl,by rw[hfl (by simpa using(Bool.or_eq_false_iff.mp (Bool.eq_false_iff.mpr hc)).1)]⟩) hok
theorem kP(ht:bC cx t=some pt):(assignEach [t] env).map (·.2)=[assign t env]:=jM (loc:=false) (P:=fun t _=>(assignEach [t] env).map (·.2)=[assign t env]) nofun ht (fun _ _ _ _ _ _=>rfl) fun _ _ _ _ _=>rfl
abbrev Sp(env:Env)(cx:Cx)(U':En)(A:UG)(p:Pt Y)(m:Sem Flow):Prop:=Oy (Y':=Y) (cR env) (fun q fw=>FR q.x env cx U'/\fw=.next) A p m
theorem vd(hh:A.handled=none)(hok:dm t e=true)(hnd:aw.nodup pt=true)(ht:bC cx t=some pt)(F:FR p.x env cx U)(r:V v p w)(hb:bU pt v U Y=some U'):Sp env cx U' A p (swappedStores [t] e env >>= fun sw=>assignStores env w sw [assign t env]):=⟨fun{E Q} g=>by
 refine(ld (env:=env) hok ht).elim (fun hs=>?_) fun⟨es,k,ps,et,hs⟩=>?_
 ·rw[hs];exact Sv (Sw (Sv ((de (loc:=false) hh nofun ht F r hb).go fun q _ n F=>Sw (g q _ n ⟨F,rfl⟩))))
 ·rw[hs];subst et;refine jM (loc:=false) (P:=fun t pt=>t=.Tuple es k ps->aw.nodup pt=true->bU pt v U Y=some U'->wpAny M0 A _ _ _ p.s) nofun ht (fun _ _ _ _ _ _ e=>nomatch e) (fun es' _ _ is hn e hnd hb=>?_) rfl hnd hb
  cases e
  refine(kE hh r hb).elim fun vs h=>?_;refine Sv (Sw (Sv (TD (Sv ?_))));rw[SU,hn.length];exact h.2.go fun q ws n hx=>Sv ((gb (loc:=false) (dT.binds hn) (F.nx0 n) (hx.reverse) (m7 (SF hnd) h.1)).go fun q2 _ n2 F2=>Sw (g q2 _ (n.weak.trans n2) ⟨F2,rfl⟩))⟩
theorem z8(hsw:swapsWithSole [t] e pos.line env=pure false)(hok:dm t e=true)(hnd:aw.nodup pt=true)(ht:bC c.cx t=some pt)(sx:SX c e x)(f:Fm c U p)(he:f.env=env){fl:Fl}(h:dS c.C (.asg pt x) U Y=some (fl,U',Y')):Am f.env c.cx f.A p (exec (.Assign [t] e pos) f.env) fl U' Y':=aE h fun v Y1 h1 h=>BE (P:=fun fl U' Y'=>Am f.env c.cx f.A p (exec (.Assign [t] e pos) f.env) fl U' Y') h fun U1 hb=>⟨fun{E Q} g=>by
 rw[exec_Assign_arm,he,hsw,kP ht,<- he];exact Sv (wpAny_standAt (Sv (Sw (Sv ((sx.v f h1).go fun q w n r=>(vd f.R.handled hok hnd ht (f.F.nx0 n) r hb).go fun q2 fw n2 k=>g q2 fw (n.weak.trans n2) ⟨k.1,k.2⟩)))))⟩
theorem Em(hp:Ah e)(hok:dm t e=true)(hnd:aw.nodup pt=true)(ht:bC c.cx t=some pt)(sx:SX c e x):SS c (.Assign [t] e pos) (.asg pt x):=⟨fun f h=>z8 (hp.sw _ _ _) hok hnd ht sx f rfl h⟩
theorem pi{elt it:Expr}{gens:List Comprehension}{sc:Scope}{cp:Pos}(hi:∀ env,firstIter gens env=eval it env)(ha:firstAsync gens=false)(hok:dm t (.ListComp elt gens sc cp)=true)(hnd:aw.nodup pt=true)(ht:bC c.cx t=some pt)(S:SG c (.ListComp elt gens sc cp) sc it x) :
  SS c (.Assign [t] (.ListComp elt gens sc cp) pos) (.asg pt x):=⟨fun{U U' Y Y' p fl} f h=>by
 have hb:∃ b,swapsWithSole [t] (.ListComp elt gens sc cp) pos.line f.env=pure b:=jM (loc:=false) (P:=fun t _=>∃ b,swapsWithSole [t] (.ListComp elt gens sc cp) pos.line f.env=pure b) nofun ht (fun _ _ _ _ _ _=>⟨_,rfl⟩) fun _ _ _ _ _=>⟨_,rfl⟩
 obtain⟨b,hb⟩:=hb
 cases b with
 | false=>exact z8 hb hok hnd ht (ni hi ha S) f rfl h
 | true=>
  refine aE h fun v Y1 h1 h=>BE (P:=fun fl U' Y'=>Am f.env c.cx f.A p (exec (.Assign [t] (.ListComp elt gens sc cp) pos) f.env) fl U' Y') h fun U1 hbp=>⟨fun{E Q} g=>?_⟩;rw[exec_Assign_arm,hb,kP ht];refine Sv (wpAny_standAt (Sv (Sw (Sv ?_))));show wpAny _ _ (comprehension _ sc f.env _ (newList []) (firstAsync gens) (firstIter gens f.env) _ >>= fun _=>pure ()) _ _ _;rw[hi,ha];refine Sv (S.go (Q:=fun _ s=>wpAny M0 f.A (pure ()) (fun _ s=>wpAny M0 f.A (pure Flow.next) Q E s) E s) f (Kw h1).1 fun Y2 vs hv hY r D Ca n r' hC hp hm=>?_);subst hv hY;refine(de (loc:=false) f.R.handled nofun ht (f.F.nx0 n) r' hbp).go fun q2 _ n2 F2=>?_
  have kC:=n2.keep hC fun hm=>hp (f.F.sub hm);exact hm.imp fun m hm=>⟨hm.imp fun o h=>h.imp fun es h=>h.imp fun ep h=>⟨kC.2.trans h.1,h.2⟩,fun h' hs=>qV.go (A:=f.A) kC.1 hs fun q3 n3=>Sw (Sw (g q3 _ ((Nx.right (X:=[Ca]) (YY:=cR f.env) (n.weak.trans n2)).trans n3.left |>.more fun a h hk=>(S9.mp h).elim (fun h=>SH (SO.mp h▸hk) hp) id)
   ⟨F2.go n3 fun a h hm=>hp (f.F.sub (SO.mp h▸hm)),rfl⟩))⟩⟩
end
section
variable{c:Cc}{A:UG}{env:Env}{U U':En}{Y Y':St}{p:Pt Y}{u v k:AV}{w:Value}{Er:Value->UE->Prop}{e o i:Expr}{x xo xi:X}{pos:Pos}
theorem zh{fs:List (Nat×AV)}{a:Nat}:∀{i:Nat},(fs.map (·.1)).Nodup->At fs a i->fs.findIdx? (fun e=>a==e.1)=some i:=by
 induction fs with
 | nil=>exact fun _ h=>nomatch h
 | cons e fs ih=>
  intro i nd h;rw[List.findIdx?_cons]
  cases i with
  | zero=>rw[show(a==e.1)=true from beq_iff_eq.mpr (SQ h).symm];rfl
  | succ i=>
   have nd:=jv nd;rw[show(a==e.1)=false from beq_eq_false_iff_ne.mpr fun q=>nd.1 (q▸At.mem h),ih nd.2 h];rfl
theorem FE.find{y:Hp}{fs:List (Nat×AV)}{ds:List UH}{a:Nat}(ha:a<bO.length)(h:ah (FE y) fs ds):ds.findIdx? (·.key.isStr (dU a))=fs.findIdx? fun e=>a==e.1:=
 h.ind (P:=fun fs ds=>ds.findIdx? (·.key.isStr (dU a))=fs.findIdx? fun e=>a==e.1) rfl fun{e d fs ds} h _ ih=>by rw[List.findIdx?_cons,List.findIdx?_cons,h.isStr ha,ih]
theorem sN{y:Hp}{fs:List (Nat×AV)}{ds:Array UH}{a m:Nat}{hsh:Int}{tk:Tok}(ha:a<bO.length)(nd:(fs.map (·.1)).Nodup)(h:ah (FE y) fs ds.toList)(rv:ao y v w) :
  ∃ ds' m',Obj.putName (dU a) hsh (.str (dU a) tk) w (bS ds m)=bS ds' m'/\ah (FE y) (aT fs a v) ds'.toList:=by
 rw[Obj.putName_eq];show ∃ ds' m',(match ds.findIdx? fun d=>d.key.isStr (dU a) with | some i=>bS (ds.modify i fun d=>{ d with val:=w }) m | none=>bS (ds.push ⟨hsh,.str (dU a) tk,w⟩) (m+1))=_/\_
 rw[show ds.findIdx? (fun d=>d.key.isStr (dU a))=ds.toList.findIdx? (fun d=>d.key.isStr (dU a)) by cases ds;exact List.findIdx?_toArray _ _,FE.find ha h]
 refine On (k:=a) nd (fun hn=>?_) fun i hi=>?_
 ·rw[cM hn,List.findIdx?_eq_none_iff.mpr fun e he=>beq_eq_false_iff_ne.mpr (Ne.symm (j0 hn e he))];exact⟨_,_,rfl,by rw[Um];exact h.snoc ⟨ha,⟨tk,rfl⟩,rv⟩⟩
 ·rw[gF nd hi,zh nd hi];exact⟨_,_,rfl,by rw[Array.toList_modify];exact h.modify i fun a b _ g=>⟨g.lt,g.key,rv⟩⟩
abbrev Hg(A:UG)(p:Pt Y)(m:Sem Unit)(Y':St):Prop:=Ev (Y':=Y') (fun _ _=>True) A p m
theorem lq{a:Nat}(ha:a<27)(ru:V u p w){w':Value}(rv:V v p w')(h:A7 Y u a v=some Y'):Hg A p (setAttr w (dU a) w') Y':=
 lu ru h fun r ru h=>ae h fun q hi h=>cN h fun hl e=>ru.insE (P:=fun w=>Hg A p (setAttr w (dU a) w') Y') hi fun pr hp o=>o.ex.elim fun ds hd=>hd.elim fun m hd=>by
  subst e;have hal:a<bO.length:=Tz ha (by decide)
  have F:=p.r.pf.clss q.1 o.lt;refine⟨fun{E Q} g=>set_plain p.kin (jy o.obj.h hd.1) F.sa (osa_open (s:={ p.s with toks:=p.s.toks+1 }) p.kin (jy o.obj.h hd.1) F.plain (F.taker a ha) fun b=>?_)⟩;obtain⟨cd,hcd,hdd⟩:=any_some F.hasDict;refine Sv (Sw (Sv (Sv (wpAny_loadPart o.obj.h (Sv (Looks.here (s:={ p.s with toks:=p.s.toks+1 }) (looks_clsIn p.kin hcd) ?_))))));rw[hdd];refine Sw (a:=some pr.2) (Sv (Sw (Sv ?_)));unfold nsSet;refine Sv (Sv (wpAny_askSetting (Sw (Sv (wpAny_mkText (Sv (wpAny_loadPart hd.1 ?_)))))));dsimp only;have hnr:ds.toList.any (·.refKey)=false:=hd.2.ind (P:=fun _ ds=>ds.any (·.refKey)=false) rfl fun{e d es ds} h _ ih=>by rw[List.any_cons,ih,show d.refKey=false from h.key.elim fun t q=>by unfold DictEntry.refKey;rw[q]];rfl
  rw[aRefKeyMayBeTheName_at,show(!ds.any (·.key.isStr (dU a))&&ds.any (·.refKey))=false by rw[<- Array.any_toList (p:=fun e:UH=>e.refKey),hnr,Bool.and_false]]
  refine wpAny_updatePart hd.1 ?_;refine(sN (m:=m) (hsh:=PyData.keyHash w0.params (dU a)) (tk:=p.s.toks+1) hal o.nodup hd.2 rv).elim fun ds' h'=>h'.elim fun m' h'=>?_;have hg:(p.s.heap.update pr.2 (Obj.putName (dU a) (PyData.keyHash w0.params (dU a)) (.str (dU a) (p.s.toks+1)) w')).get? pr.2=some (bS ds' m'):=(Tw _ hd.1 (by rw[h'.1];rfl)).trans (Sx some h'.1)
  refine Sv (wpAny_lookBehind (o:=bS ds' m') hg (pastItsLine_dict (by rw[sizeLine_eq,show ds'.size=_ from h'.2.length.symm];exact Sy (SF hl) (by decide))) (Sw ?_))
  exact p.set hp (Tm ..) (o:=.inst q.1 (aT q.2 a v)) (fun wk=>⟨o.lt,SF hl,eB o.nodup,wk.imm o.obj,ds',m',hg,h'.2.mono (FE.wk wk)⟩) fun q n=>g q () n trivial
theorem rz{nm:Str}{apos:Pos}{a:Nat}(hsw:∀ env,swapsWith e (some (.Attribute o nm apos)) pos.line env=pure false)(so:SX c o xo)(sx:SX c e x)(hn:bd bO nm=some a)(ha:a<27):SS c (.Assign [.Attribute o nm apos] e pos) (.setAttr xo a x):=⟨fun{U U' Y Y' p fl} f h=>
 aE h fun v Y1 h1 h=>aE h fun u Y2 h2 h=>BE (P:=fun fl U' Y'=>Am f.env c.cx f.A p (exec (.Assign [.Attribute o nm apos] e pos) f.env) fl U' Y') h fun Y3 h3=>⟨fun{E Q} g=>by
  rw[(er hn).2] at hsw ⊢;exact plainObj_wpAny_Assign_Attribute ((sx.v f h1).go fun q w n r=>(so.v (f.nx n) h2).go fun q2 w2 n2 r2=>(lq ha r2 (r.nx n2) h3).go fun q3 _ n3 _=>
   have n13:=(n.trans n2).trans n3
   g q3 _ n13.weak ⟨f.F.nx0 n13,rfl⟩) (hsw _)⟩⟩
theorem rG(hu:A.units+20<cLine){w' k':Value}(ru:V u p w)(rk:V k p k')(rv:V v p w')(h:xX Y u k v=some Y'):Hg A p (setItem w k' w') Y':=
 lu ru h fun r ru h=>bt h (fun h=>ae h fun vs hr h=>ae h fun j hj h=>cN h fun hc e=>ru.lstE (P:=fun w=>Hg A p (setItem w k' w') Y') hr fun a ws m hp hl ho hx=>V.int (P:=fun k'=>Hg A p (setItem (.ref a) k' w') Y') (bp hj▸rk) fun t=>by
   have hc:=SL.mp hc;have h0:=SF hc.1;have hlt:j.toNat<ws.size:=hx.size.symm▸SF hc.2;have hj:j<(ws.size:Int):=(Int.toNat_lt h0).mp hlt;subst e;exact⟨fun g=>PySem.W.ki_setAt ho h0 (Int.lt_trans (Int.lt_of_lt_of_le hj (TP.mpr (hx.size▸hl))) (by decide)) hj (p.setL hp (Tm ..) (Tw _ ho rfl) (by rw[Ul];exact hl)
    (by rw[Array.toList_setIfInBounds];exact ah.set _ hx rv) fun q n=>g q () n trivial)⟩)
  fun h=>ae h fun es hr h=>cN h fun hc e=>ru.dctE (P:=fun w=>Hg A p (setItem w k' w') Y') hr fun a ds m hp hl nd ho hx=>by
   have hc:=SL.mp hc;have hT:p.s.TypeIs (.ref a) "dict":=⟨_,ho,rfl⟩;subst e;refine⟨fun{E Q} g=>?_⟩;unfold setItem;refine S6 (Sv (wpAny_sequenceKey hT (by decide) ?_))
   refine Sv (wpAny_callSpecial?_slot (name:=Str.ofString "__setitem__") hT slot_dict_setitem (TA slot_dict_setitem hT entry_dict_setitem ?_ (args_dict_setitem _ _ _)));show wpAny _ _ (Builtin.Dict.notOrdered "__setitem__" ⟨[.ref a,k',w'],[]⟩ >>= _) _ _ p.s;refine Sv (Uu hT ?_);show wpAny _ _ (dictSet a k' w' >>= _) _ _ p.s;exact Sv ((sP p hp (Tc (show A.units+1+6<=A.units+20 from Tp (by decide:1+6<=20) A.units) hu) ho hx nd hc.1 rk rv hl (SF hc.2)).go fun q _ n _=>Sw ⟨.none,rfl,Sw (g q () n trivial)⟩)
theorem ve{spos:Pos}(hsw:∀ env,swapsWith e (some (.Subscript o i spos)) pos.line env=pure false)(so:SX c o xo)(si:SX c i xi)(sx:SX c e x):SS c (.Assign [.Subscript o i spos] e pos) (.setSub xo xi x):=⟨fun{U U' Y Y' p fl} f h=>
 aE h fun v Y1 h1 h=>aE h fun u Y2 h2 h=>aE h fun k Y3 h3 h=>BE (P:=fun fl U' Y'=>Am f.env c.cx f.A p (exec (.Assign [.Subscript o i spos] e pos) f.env) fl U' Y') h fun Y4 h4=>⟨fun{E Q} g=>
  wpAny_Assign_Subscript ((sx.v f h1).go fun q w n r=>(so.v (f.nx n) h2).go fun q2 w2 n2 r2=>(si.v ((f.nx n).nx n2) h3).go fun q3 w3 n3 r3=>(rG (Tc (show f.A.units+20<=f.A.units+90 from Tp (by decide) _) f.R.six) (r2.nx n3) r3 ((r.nx n2).nx n3) h4).go fun q4 _ n4 _=>
   have n14:=((n.trans n2).trans n3).trans n4
   g q4 _ n14.weak ⟨f.F.nx0 n14,rfl⟩) (hsw _)⟩⟩
end
noncomputable abbrev Cc.on(c:Cc)(cx:Cx):Cc:=⟨c.n,c.C,cx,c.ok⟩
structure WX(c:Cc)(e:Expr)(x:X):Prop where
 sx:SX c e x
 st:ST c e x
 nf:∀ env v,foldedSetIterable e env v=pure v
 nm:∀ op,behindInMarks op e=false
 ns:∀ o k,subscripted e false o k=operate [o,k] (getItem o k)
 su:Ah e\/∃ elt gens sc cp it,e=.ListComp elt gens sc cp/\(∀ env,firstIter gens env=eval it env)/\firstAsync gens=false/\SG c (.ListComp elt gens sc cp) sc it x
def Gd(c:Cc)(e:Expr):Prop:=∀ ⦃cx:Cx⦄ ⦃x:X⦄,qU cx->tr TB cx e=some x->WX (c.on cx) e x
section
variable{c:Cc}{cx:Cx}{x:X}{e:Expr}{p:Pos}
theorem WX.of(sx:SX c e x)(he:∀ env whole,isTrue e env whole=(do let v <- whole;standAt e.pos;holding [v] (truthy v)))(nf:∀ env v,foldedSetIterable e env v=pure v:=by intros;rfl)(nm:∀ op,behindInMarks op e=false:=by intros;rfl)
  (ns:∀ o k,subscripted e false o k=operate [o,k] (getItem o k):=by intros;rfl) (su:∀ t l env,swapsWith e t l env=pure false:=by intros;rfl):WX c e x:=⟨sx,pd sx he,nf,nm,ns,.inl ⟨su⟩⟩
theorem WX.of'(sx:SX c e x)(st:ST c e x)(nf:∀ env v,foldedSetIterable e env v=pure v:=by intros;rfl)(nm:∀ op,behindInMarks op e=false:=by intros;rfl)
  (ns:∀ o k,subscripted e false o k=operate [o,k] (getItem o k):=by intros;rfl) (su:∀ t l env,swapsWith e t l env=pure false:=by intros;rfl):WX c e x:=⟨sx,st,nf,nm,ns,.inl ⟨su⟩⟩
theorem dD(hc:qU cx){es:List Expr}:∀{xs:List X},(∀ e∈es,Gd c e)->uU TB cx es=some xs->ah (WX (c.on cx)) es xs:=by
 induction es with
 | nil=>exact fun _ h=>SQ h▸.nil
 | cons e es ih=>exact fun g h=>ae h fun a h1 h=>aH h fun as h2 e=>e▸.cons (g _ (.head _) hc h1) (ih (fun e he=>g e (.tail _ he)) h2)
theorem WX.sxs{es:List Expr}{xs:List X}(h:ah (WX c) es xs):oJ c es xs:=h.mono WX.sx
theorem WX.sts{es:List Expr}{xs:List X}(h:ah (WX c) es xs):Dx c es xs:=h.ind (P:=Dx c) .nil fun h _ t=>.cons h.st t
theorem ri{y:Str}{q:Pos}{es:List Expr}{xs:List X}(hg:dy (c.cx.sc.lookup y)=true)(sx:oJ c es xs)(h:gX TB y xs=some x):SX c (.Call (.Name y q) es [] p) x:=by
 have hnd:∀{t:List String} {i:Nat},(∀ u∈t,(Str.ofString u==("__debug__":Str))=false)->bd t y=some i->(y==("__debug__":Str))=false:=fun hu e=>(ch e).elim fun u h=>h.2.1▸hu u (Tf h.1);have hs:=oS h;unfold gX at h
 cases hb:mO y with
 | some b=>
  rw[hb] at h
  cases h
  exact D8 hs hg hb (kB hb▸by cases b<;>decide +kernel) sx
 | none=>
  rw[hb] at h
  cases hf:bd TB.fns y with
  | some f=>rw[hf] at h;cases h;exact AK hs hg hf (hnd (by decide +kernel) hf) sx
  | none=>rw[hf] at h;exact aH h fun k hk e=>e▸DV hs hg hk (hnd (by decide +kernel) hk) sx
theorem Aw{k:Const}{n:Nat}(h:OF k=some x):WX c (.Constant k n p) x:=by
 cases k with
 | none=>cases h;exact .of AG fun _ _=>rfl
 | bool b=>cases h;exact .of AL fun _ _=>rfl
 | int i=>cases h;exact .of DZ fun _ _=>rfl
 | str s=>exact aH h fun i hi e=>e▸.of (DS hi) fun _ _=>rfl
 | _=>exact nomatch(show none=some x from h)
theorem DG{y:Str}(h:xu TB c.cx y=some x):WX c (.Name y p) x:=
 bi h (fun _ h=>nomatch h) fun hd h=>bi h (fun ho h=>aH h fun i hi e=>e▸.of (xG hd ho hi) fun _ _=>rfl) fun _ h=>
  bi h (fun hg h=>aH h fun i hi e=>e▸.of (AI hd hg hi) fun _ _=>rfl) fun _ h=>nomatch h
theorem DK{nm:Str}(g:Gd c e):Gd c (.Attribute e nm p):=fun cx x hc h=>ae h fun a h1 h=>ae h fun k h2 h=>cN h fun hk e=>e▸.of (AM (g hc h1).sx h2 (SF hk)) fun _ _=>rfl
theorem uV{i:Expr}{k:Sl}(h:HK i=some k):∃ l u st q,i=.Slice l u st q/\fY l u st=some k:=by
 exact vn (C:=fun i=>∃ l u st q,i=.Slice l u st q/\fY l u st=some k) h bY (fun _ _=>bY) (fun _ _ _=>bY) (fun _ _ _=>bY) (fun _ _ _=>bY) (fun _ _ _ _ h=>⟨_,_,_,_,rfl,h⟩) (fun _ _ _=>bY) (fun _ _ _=>bY) bY
theorem Hs{i:Expr}(g:Gd c e)(g2:Gd c i):Gd c (.Subscript e i p):=fun cx x hc h=>ae h fun a h1 h=>bt h (fun h=>aH h fun k hk e=>by
   obtain⟨l,u,st,q,rfl,h3⟩:=uV hk;exact e▸.of (DT h3 (g hc h1).sx) fun _ _=>rfl)
  fun h=>aH h fun b h2 e=>e▸.of (DR (g2 hc h2).ns (g hc h1).sx (g2 hc h2).sx) fun _ _=>rfl
theorem KN{op:UnaryOp}(g:Gd c e):Gd c (.UnaryOp op e p):=fun cx x hc h=>ae h fun a h1 h=>match op,h with
 | .USub,h=>by cases h;exact .of (DW (g hc h1).sx) fun _ _=>rfl
 | .Not,h=>by cases h;exact .of' (DU (g hc h1).sx) (Ee (g hc h1).st)
theorem Hx{op:Operator}{l r:Expr}(g:Gd c l)(g2:Gd c r):Gd c (.BinOp l op r p):=fun cx x hc h=>
 ae h fun a h1 h=>ae h fun o h2 h=>aH h fun b h3 e=>e▸.of (D9 h2 (g hc h1).sx (g2 hc h3).sx) fun _ _=>rfl
theorem tX{R:Expr->X->Prop}{b:X}:∀{es:List Expr},ah R es [b]->∃ r,es=[r]/\R r b
 | [_],h=>h.elim fun _ h=>h.elim fun _ h=>by cases h.1;exact⟨_,rfl,h.2.1⟩
 | _::_::_,h=>h.elim fun _ h=>h.elim fun _ h=>by cases h.1;exact h.2.2.elim fun _ h=>h.elim fun _ h=>nomatch h.1
theorem xn{R:Expr->X->Prop}{b d:X}:∀{es:List Expr},ah R es [b,d]->∃ r s,es=[r,s]/\R r b/\R s d
 | e::es,h=>h.elim fun _ h=>h.elim fun _ h=>by cases h.1;exact(tX h.2.2).elim fun r g=>⟨e,r,Sx _ g.1,h.2.1,g.2⟩
theorem Hw{l:Expr}{ops:List CmpOp}{rs:List Expr}(g:Gd c l)(g2:∀ e∈rs,Gd c e):Gd c (.Compare l ops rs p):=fun cx x hc h=>ae h fun a h1 h=>ae h fun bs h2 h=>
 have w1:=g hc h1;have w:=dD hc g2 h2
 bt h (fun h=>gS h fun op ho h=>gS h fun b hb h=>aH h fun o h4 e=>(tX (hb▸w)).elim fun r w=>by
   subst ho e;rw[w.1];exact .of' (D7 h4 (w.2.nm _) w1.sx w.2.sx) (Eg h4 (w.2.nm _) w1.sx w.2.sx))
  fun h=>kQ h fun op op' ho h=>kQ h fun b d hb h=>ae h fun o h4 h=>aH h fun o' h5 e=>(xn (hb▸w)).elim fun r w=>w.elim fun s w=>by
   subst ho e;rw[w.1];exact .of' (AJ h4 h5 (w.2.2.nm _) w1.sx w.2.1.sx w.2.2.sx) (AU h4 h5 (w.2.2.nm _) w1.sx w.2.1.sx w.2.2.sx)
theorem DJ{op:BoolOp}{es:List Expr}(g:∀ e∈es,Gd c e):Gd c (.BoolOp op es p):=fun cx x hc h=>ae h fun bs h2 h=>kQ h fun a b hb h=>(xn (hb▸dD hc g h2)).elim fun r w=>w.elim fun s w=>by
 rw[w.1]
 cases op with
 | And=>cases h;exact .of' (Ea w.2.1.sx w.2.2.sx) (Eh w.2.1.st w.2.2.st)
 | Or=>cases h;exact .of' (HN w.2.1.sx w.2.2.sx) (HP w.2.1.st w.2.2.st)
theorem Hu{d a b:Expr}(g:Gd c d)(g1:Gd c a)(g2:Gd c b):Gd c (.IfExp d a b p):=fun cx x hc h=>
 ae h fun d h1 h=>ae h fun a h2 h=>aH h fun b h3 e=>e▸.of' (DY (g hc h1).st (g1 hc h2).sx (g2 hc h3).sx) (Ef (g hc h1).st (g1 hc h2).st (g2 hc h3).st)
theorem Hv{ks:List (Option Expr)}{vs:List Expr}(g:∀ e∈vs,Gd c e):Gd c (.Dict ks vs p):=fun cx x hc h=>
 ae h fun k h1 h=>ae h fun v h2 h=>cN h fun hl e=>have w:=dD hc g h2;e▸.of (D6 h1 ((SF hl).trans w.length.symm) (WX.sxs w)) fun _ _=>rfl
theorem Hr{es:List Expr}{k:Nat}(g:∀ e∈es,Gd c e):Gd c (.Tuple es k p):=fun cx x hc h=>aH h fun a h1 e=>e▸.of (DQ (WX.sxs (dD hc g h1)).sxs) fun _ _=>rfl
theorem Ht{es:List Expr}(g:∀ e∈es,Gd c e):Gd c (.List es p):=fun cx x hc h=>aH h fun a h1 e=>e▸.of (DX (WX.sxs (dD hc g h1)).sxs) fun _ _=>rfl
theorem Ay{y:Str}{q:Pos}{es:List Expr}(g:∀ e∈es,Gd c e):Gd c (.Call (.Name y q) es [] p):=fun cx x hc h=>
 bi (x:=(uU TB cx es).bind (gX TB y)) (y:=none) h (fun hg h=>ae h fun as h1 h=>.of (ri (c:=c.on cx) hg (WX.sxs (dD hc g h1)) h) fun _ _=>rfl) fun _ h=>nomatch h
theorem Az{o:Expr}{m:Str}{ap:Pos}{es:List Expr}(go:Gd c o)(g:∀ e∈es,Gd c e):Gd c (.Call (.Attribute o m ap) es [] p):=fun cx x hc h=>
 bi (c:=decide (ap.endLine=p.line)&&decide (es.length<30)) (x:=(tr TB cx o).bind fun a=>(bd bO m).bind fun k=>(uU TB cx es).map (X.meth a k)) (y:=none) h (fun hg h=>ae h fun a h1 h=>ae h fun k h2 h=>aH h fun as h3 e=>e▸
  .of (AH (SF (SL.mp hg).1) (SF (SL.mp hg).2) h2 (go hc h1).sx (WX.sxs (dD hc g h3))) fun _ _=>rfl) fun _ h=>nomatch h
theorem WX.comp{elt it:Expr}{gens:List Comprehension}{sc:Scope}(hi:∀ env,firstIter gens env=eval it env)(ha:firstAsync gens=false)(S:SG c (.ListComp elt gens sc p) sc it x):WX c (.ListComp elt gens sc p) x:=
 ⟨ni hi ha S,pd (ni hi ha S) (by intros;rfl),by intros;rfl,by intros;rfl,by intros;rfl,.inr ⟨_,_,_,_,it,rfl,hi,ha,S⟩⟩
theorem DH{t it:Expr}{cs:List Expr}{z:Int}{sc:Scope}(ge:Gd c e)(gi:Gd c it)(gc:∀ e∈cs,Gd c e):Gd c (.ListComp e [⟨t,it,cs,z⟩] sc p):=fun cx x hc h=>
 bi (c:=decide (z=0)&&(eo cx sc&&dt sc.names t)) (x:=(tr TB cx it).bind fun i=>(bC (cx.inner sc) t).bind fun p=>(uU TB (cx.inner sc) cs).bind fun c=>(tr TB (cx.inner sc) e).map fun a=>X.comp a p i c) (y:=none) h (fun hg h=>ae h fun i h1 h=>ae h fun q h2 h=>ae h fun d h3 h=>aH h fun a h4 e=>by
  have k0:=SL.mp hg;have hz:=SF k0.1;have k1:=SL.mp k0.2;subst e hz;have hc':=qg (jA k1.1);exact .comp (fun _=>rfl) rfl (A4 hc k1.1 (gi hc h1).nf h2 k1.2 (gi hc h1).sx (ge hc' h4).sx (WX.sts (dD hc' gc h3)))) fun _ h=>nomatch h
theorem Ax{t it t' it':Expr}{cs cs':List Expr}{z z':Int}{sc:Scope}(ge:Gd c e)(gi:Gd c it)(gi':Gd c it'):Gd c (.ListComp e [⟨t,it,cs,z⟩,⟨t',it',cs',z'⟩] sc p):=fun cx x hc h=>
 bi (c:=decide (z=0)&&decide (z'=0)&&cs.isEmpty&&cs'.isEmpty&&(eo cx sc&&dt sc.names t&&dt sc.names t')) (x:=(tr TB cx it).bind fun i=>(bC (cx.inner sc) t).bind fun p=>(tr TB (cx.inner sc) it').bind fun i'=>(bC (cx.inner sc) t').bind fun p'=>(tr TB (cx.inner sc) e).map fun a=>X.comp2 a p i p' i') (y:=none) h (fun hg h=>ae h fun i h1 h=>ae h fun q h2 h=>ae h fun i' h3 h=>ae h fun q' h4 h=>aH h fun a h5 e=>by
  have h9:=SL.mp hg;have h6:=SL.mp h9.1;have h7:=SL.mp h6.1;have h8:=SL.mp h7.1;have hl:=SL.mp h9.2;have hk:=SL.mp hl.1;have z1:=SF h8.1;have z2:=SF h8.2;have e1:=List.isEmpty_iff.mp h6.2;have e2:=List.isEmpty_iff.mp h7.2;subst e z1 z2 e1 e2;have hc':=qg (jA hk.1);exact .comp (fun _=>rfl) rfl (xV hc hk.1 (gi hc h1).nf h2 hk.2 (gi hc h1).sx (ge hc' h5).sx (gi' hc' h3).nf h4 hl.2 (gi' hc' h3).sx)) fun _ h=>nomatch h
def GO(c:Cc)(e:Expr):Prop:=A8 True (fun _=>True) (fun _=>True) (fun _=>True) (fun _ _=>True) (fun _ _ _=>True) (fun o _=>Gd c o) (fun _ _=>True) True e
set_option smartUnfolding false in
theorem DI{f:Expr}{es:List Expr}{kws:List Keyword}(go:GO c f)(g:∀ e∈es,Gd c e):Gd c (.Call f es kws p):=fun cx x hc h=>by
 cases kws with
 | cons a b=>exact nomatch(show none=some x from h)
 | nil=>
  cases f with
  | Name y q=>exact Ay g hc h
  | Attribute o m ap=>exact Az go g hc h
  | _=>exact nomatch(show none=some x from h)
def GG(c:Cc)(g:Comprehension):Prop:=Gd c g.iter/\∀ e∈g.ifs,Gd c e
theorem KO{gs:List Comprehension}{sc:Scope}(ge:Gd c e)(gg:∀ g∈gs,GG c g):Gd c (.ListComp e gs sc p):=fun cx x hc h=>by
 match gs,gg,h with
 | [⟨t,it,cs,z⟩],gg,h=>exact DH ge (gg _ (.head _)).1 (gg _ (.head _)).2 hc h
 | [⟨t,it,cs,z⟩,⟨t',it',cs',z'⟩],gg,h=>exact Ax ge (gg _ (.head _)).1 (gg _ (.tail _ (.head _))).1 hc h
 | [],_,h=>exact nomatch(show none=some x from h)
 | ⟨_,_,_,_⟩::⟨_,_,_,_⟩::_::_,_,h=>exact nomatch(show none=some x from h)
end
theorem Nu{c:Cc}{e:Expr}(h:∀ cx,tr TB cx e=none):Gd c e:=fun cx x _ q=>nomatch(h cx).symm.trans q
mutual
theorem bX(c:Cc):∀ e:Expr,Gd c e/\GO c e
 | .Constant ..=>⟨fun _ _ _ h=>Aw h,trivial⟩
 | .Name ..=>⟨fun _ _ _ h=>DG h,trivial⟩
 | .Attribute e _ _=>⟨DK (bX c e).1,(bX c e).1⟩
 | .Subscript e i _=>⟨Hs (bX c e).1 (bX c i).1,trivial⟩
 | .UnaryOp _ e _=>⟨KN (bX c e).1,trivial⟩
 | .BinOp l _ r _=>⟨Hx (bX c l).1 (bX c r).1,trivial⟩
 | .Compare l _ rs _=>⟨Hw (bX c l).1 (cQ c rs),trivial⟩
 | .BoolOp _ es _=>⟨DJ (cQ c es),trivial⟩
 | .IfExp d a b _=>⟨Hu (bX c d).1 (bX c a).1 (bX c b).1,trivial⟩
 | .Tuple es _ _=>⟨Hr (cQ c es),trivial⟩
 | .List es _=>⟨Ht (cQ c es),trivial⟩
 | .Dict _ vs _=>⟨Hv (cQ c vs),trivial⟩
 | .Call f es kws _=>⟨DI (bX c f).2 (cQ c es),trivial⟩
 | .ListComp e gs sc _=>⟨KO (bX c e).1 (qm c gs),trivial⟩
 | .NamedExpr .. | .Lambda .. | .Set .. | .SetComp .. | .DictComp .. | .GeneratorExp .. | .Await .. | .Yield .. | .YieldFrom .. | .FormattedValue .. | .JoinedStr .. | .Starred .. | .Slice ..=>⟨Nu fun _=>rfl,trivial⟩
theorem cQ(c:Cc):∀ es:List Expr,∀ e∈es,Gd c e
 | [],_,h=>nomatch h
 | e::es,e',h=>(SN.mp h).elim (fun h=>h▸(bX c e).1) (cQ c es e')
theorem qm(c:Cc):∀ gs:List Comprehension,∀ g∈gs,GG c g
 | [],_,h=>nomatch h
 | g::gs,g',h=>(SN.mp h).elim (fun h=>h▸Cb c g) (qm c gs g')
theorem Cb(c:Cc):∀ g:Comprehension,GG c g
 | ⟨_,it,cs,_⟩=>⟨(bX c it).1,cQ c cs⟩
end
section
variable{c:Cc}{x:S}{p:Pos}(hc:qU c.cx)
include hc
theorem bB{e:Expr}{x:X}(h:tr TB c.cx e=some x):WX c e x:=(bX c e).1 hc h
def GS(c:Cc)(st:Stmt):Prop:=∀ ⦃x:S⦄,KU TB c.cx st=some x->SS c st x
omit hc in
theorem JF{sts:List Stmt}(g:∀ st∈sts,GS c st){xs:List S}(h:trSs TB c.cx sts=some xs):Ap c sts xs:=by
 induction sts generalizing xs with
 | nil=>cases h;exact Ej
 | cons st sts ih=>exact ae h fun a h1 h=>aH h fun as h2 e=>e▸AX (g _ (.head _) h1) (ih (fun s hs=>g s (.tail _ hs)) h2)
omit hc in
theorem WX.tgt{e t:Expr}{b:X}(w:WX c e b)(ht:∀ elt gens sc cp env,swapsWith (.ListComp elt gens sc cp) (some t) p.line env=pure false)(env:Env):swapsWith e (some t) p.line env=pure false:=w.su.elim (fun h=>h.sw _ _ _) fun h=>h.elim fun _ h=>h.elim fun _ h=>h.elim fun _ h=>h.elim fun _ h=>h.elim fun _ h=>h.1▸ht _ _ _ _ _
theorem Id{e t:Expr}{b:X}(w:WX c e b)(h:CW TB c.cx t b=some x):SS c (.Assign [t] e p) x:=by
 exact vn (C:=fun t=>SS c (.Assign [t] e p) x) h bY (fun _ _=>bY) (fun _ _ _=>bY) (fun _ _ _=>bY) (fun _ _ _=>bY) (fun _ _ _ _=>bY) (fun o nm q h=>ae h fun a h2 h=>ae h fun k h3 h=>cN h fun hk e=>e▸rz (w.tgt fun _ _ _ _ _=>rfl) (bB hc h2).sx w.sx h3 (SF hk)) (fun o i q h=>ae h fun a h2 h=>aH h fun k h3 e=>e▸ve (w.tgt fun _ _ _ _ _=>rfl) (bB hc h2).sx (bB hc h3).sx w.sx) bY
theorem Ij{ts:List Expr}{e:Expr}:GS c (.Assign ts e p):=fun x h=>gS h fun t et h=>ae h fun b h1 h=>et▸bt h (Id hc (bB hc h1)) fun h=>bi h (fun hok h=>ae h fun q h2 h=>cN h fun hn hx=>hx▸
 (bB hc h1).su.elim (fun hp=>Em hp hok hn h2 (bB hc h1).sx) fun h=>h.elim fun _ h=>h.elim fun _ h=>h.elim fun _ h=>h.elim fun _ h=>h.elim fun _ h=>h.1▸pi h.2.1 h.2.2.1 (h.1▸hok) hn h2 h.2.2.2) fun _ h=>nomatch h
theorem Ez{v:Option Expr}:GS c (.Return v p):=fun x h=>match v,h with
 | none,h=>by cases h;exact rA
 | some e,h=>aH h fun a h1 e=>e▸Ei (bB hc h1).sx
theorem Ba{d:Expr}{b z:List Stmt}(g:∀ st∈b,GS c st):GS c (.While d b z p):=fun x h=>match z,h with
 | [],h=>ae h fun a h1 h=>aH h fun as h2 e=>e▸xO (bB hc h1).st (JF g h2)
theorem Ii{t it:Expr}{b z:List Stmt}(g:∀ st∈b,GS c st):GS c (.For t it b z p):=fun x h=>match z,h with
 | [],h=>ae h fun a h1 h=>ae h fun i h2 h=>aH h fun as h3 e=>e▸El h1 (bB hc h2).nf (bB hc h2).sx (JF g h3)
omit hc in
theorem Nv{st:Stmt}(h:KU TB c.cx st=none):GS c st:=fun x q=>nomatch h.symm.trans q
mutual
theorem AC:∀ st:Stmt,GS c st
 | .Expr e _=>fun _ h=>bi h (fun hn h=>aH h fun a h1 e=>e▸AW ((bB hc h1).su.resolve_right fun h=>h.elim fun _ h=>h.elim fun _ h=>h.elim fun _ h=>h.elim fun _ h=>h.elim fun _ h=>Tg (h.1▸hn:ud (.ListComp ..)=true)) (bB hc h1).sx) fun _ h=>nomatch h
 | .Return ..=>Ez hc
 | .Assign ..=>Ij hc
 | .If d a b _=>fun _ h=>ae h fun c h1 h=>ae h fun a' h2 h=>aH h fun b' h3 e=>e▸Ek (bB hc h1).st (JF (dX a) h2) (JF (dX b) h3)
 | .While _ b _ _=>Ba hc (dX b)
 | .For _ _ b _ _=>Ii hc (dX b)
 | .Raise ..=>fun _ h=>by cases h;exact xP
 | .FunctionDef .. | .AsyncFunctionDef .. | .ClassDef .. | .Delete .. | .TypeAlias .. | .AugAssign .. | .AnnAssign .. | .AsyncFor .. | .With .. | .AsyncWith .. | .Match .. | .Try .. | .TryStar .. | .Assert .. | .Import .. | .ImportFrom .. | .Global .. | .Nonlocal .. | .Pass .. | .Break .. | .Continue ..=>Nv rfl
theorem dX:∀ sts:List Stmt,∀ st∈sts,GS c st
 | [],_,h=>nomatch h
 | s::sts,s',h=>(SN.mp h).elim (fun h=>h▸AC s) (dX sts s')
end
theorem rh{sts:List Stmt}{xs:List S}(h:trSs TB c.cx sts=some xs):Ap c sts xs:=JF (dX hc sts) h
end
section
variable{kindOf:Str->Option NameKind}{x:Str}{w:Value}
theorem qD{ns:List Str}:∀{ws:List Value} {m:Str->Option Value},x∉ns->bindL kindOf (ns.zip ws) m x=m x:=by
 induction ns with
 | nil=>exact fun _=>rfl
 | cons y ns ih=>
  refine @fun ws m h=>?_
  cases ws with
  | nil=>rfl
  | cons w ws=>exact(ih (m:=if kindOf y=some .local then fun z=>if z=y then some w else m z else m) fun q=>h (.tail _ q)).trans ((Tl (kindOf y=some .local)).elim (fun q=>(congrFun (SI q) x).trans (Sz fun q:x=y=>h (q▸.head _))) fun q=>congrFun (Sz q) x)
theorem qE{ns:List Str}:∀{ws:List Value} {m:Str->Option Value},x∉ns->bindC kindOf (ns.zip ws) m x=m x:=by
 induction ns with
 | nil=>exact fun _=>rfl
 | cons y ns ih=>
  refine @fun ws m h=>?_
  cases ws with
  | nil=>rfl
  | cons w ws=>exact(ih (m:=if kindOf y=some .local then m else fun z=>if z=y then some w else m z) fun q=>h (.tail _ q)).trans ((Tl (kindOf y=some .local)).elim (fun q=>congrFun (SI q) x) fun q=>(congrFun (Sz q) x).trans (Sz fun q:x=y=>h (q▸.head _)))
theorem zV(hk:kindOf x=some .local){ns:List Str}:∀{ws:List Value} {m:Str->Option Value} {i:Nat},ns.Nodup->ns[i]?=some x->ws[i]?=some w->bindL kindOf (ns.zip ws) m x=some w:=by
 induction ns with
 | nil=>exact fun _ h=>bY h
 | cons y ns ih=>
  refine @fun ws m i hn h1 h2=>?_
  cases ws with
  | nil=>exact bY h2
  | cons u ws=>
   cases i with
   | zero=>
    have e:y=x:=SQ h1;exact(qD (m:=if kindOf y=some .local then fun z=>if z=y then some u else m z else m) (e▸(Th.mp hn).1)).trans ((congrFun (SI (e▸hk)) x).trans ((SI e.symm).trans h2))
   | succ i=>exact ih (m:=if kindOf y=some .local then fun z=>if z=y then some u else m z else m) (Th.mp hn).2 h1 h2
theorem zW(hk:¬kindOf x=some .local){ns:List Str}:∀{ws:List Value} {m:Str->Option Value} {i:Nat},ns.Nodup->ns[i]?=some x->ws[i]?=some w->bindC kindOf (ns.zip ws) m x=some w:=by
 induction ns with
 | nil=>exact fun _ h=>bY h
 | cons y ns ih=>
  refine @fun ws m i hn h1 h2=>?_
  cases ws with
  | nil=>exact bY h2
  | cons u ws=>
   cases i with
   | zero=>
    have e:y=x:=SQ h1;exact(qE (m:=if kindOf y=some .local then m else fun z=>if z=y then some u else m z) (e▸(Th.mp hn).1)).trans ((congrFun (Sz (e▸hk)) x).trans ((SI e.symm).trans h2))
   | succ i=>exact ih (m:=if kindOf y=some .local then m else fun z=>if z=y then some u else m z) (Th.mp hn).2 h1 h2
theorem F7{p:Str×NameKind}{ns:List (Str×NameKind)}{n:Nat}{acc:List (Str×Addr)}(h:p.2=.cell):cellsFrom n (p::ns) acc=cellsFrom (n+1) ns ((p.1,n)::acc):=SI (beq_iff_eq.mpr h)
theorem F8{p:Str×NameKind}{ns:List (Str×NameKind)}{n:Nat}{acc:List (Str×Addr)}(h:p.2≠.cell):cellsFrom n (p::ns) acc=cellsFrom n ns acc:=Sz fun e=>h (eq_of_beq e)
theorem fC{ns:List (Str×NameKind)}:∀{n:Nat} {acc:List (Str×Addr)},((x,NameKind.cell)∈ns\/∃ c,(x,c)∈acc)->∃ c,(x,c)∈cellsFrom n ns acc:=by
 induction ns with
 | nil=>exact fun h=>h.elim (fun h=>SH h T6) id
 | cons p ns ih=>
  refine @fun n acc h=>(Tl (p.2=.cell)).elim (fun hk=>?_) fun hk=>?_
  ·rw[F7 hk];exact ih (h.elim (fun h=>(SN.mp h).elim (fun e=>.inr ⟨n,Sx Prod.fst e▸.head _⟩) .inl) fun h=>.inr (h.imp fun _ h=>.tail _ h))
  ·rw[F8 hk];exact ih (h.imp (fun h=>(SN.mp h).elim (fun e=>SH (Sx Prod.snd e).symm hk) id) id)
end
theorem yx:∀{b:Bool},(!b)=true->b=false
 | false,_=>rfl
structure mW(sc:Scope):Prop where
 kind:sc.kind=.function
 gen:sc.isGenerator=false
 co:sc.isCoroutine=false
 nodup:(sc.names.map (·.1)).Nodup
 all:∀{x k},(x,k)∈sc.names->k=.local\/k=.globalImplicit\/k=.cell
theorem JR{sc:Scope}(h:yn sc=true):mW sc:=
 have h1:=SL.mp h;have h2:=SL.mp h1.1;have h3:=SL.mp h2.1;have h4:=SL.mp h3.1
 ⟨SF h4.1,yx h4.2,yx h3.2,SF h2.2,fun{x k} hm=>(TX.mp (Un.mp h1.2 (x,k) hm)).elim (fun e=>(TX.mp e).imp SF fun e=>.inl (SF e)) fun e=>.inr (.inr (SF e))⟩
section
variable{sc:Scope}{n:Str}{i k:Nat}{Y Y':St}{p:Pt Y}{A:UG}
theorem p8(h:(n,.local)∈sc.names\/(n,.cell)∈sc.names):n∈aL sc.names:=h.elim (fun h=>SY.mpr ⟨_,TK.mpr ⟨h,rfl⟩,rfl⟩) fun h=>SY.mpr ⟨_,TK.mpr ⟨h,rfl⟩,rfl⟩
theorem mW.own(ok:mW sc)(h:n∈aL sc.names):sc.names.lookup n=some .local\/sc.names.lookup n=some .cell:=(SY.mp h).elim fun q h=>by
 obtain⟨⟨m,k⟩,h⟩:∃ r,r=q:=⟨q,rfl⟩;subst h;have hm:=TK.mp h.1
 cases(show m=n from h.2)
 exact(TX.mp hm.2).imp (fun e=>by cases eq_of_beq e;exact dq ok.nodup hm.1) fun e=>by cases eq_of_beq e;exact dq ok.nodup hm.1
theorem mW.free(ok:mW sc)(h:sc.names.lookup n=some .free):False:=(ok.all (aD h)).elim (fun e=>nomatch e) fun e=>e.elim (fun e=>nomatch e) fun e=>nomatch e
theorem og(h:(iY sc).sl.lookup n=some i):(aL sc.names)[i]?=some n:=(po h).elim fun j g=>by rw[g.1,TZ];exact g.2
theorem FP:qU (iY sc):=fun x hx=>by
 cases h:(iY sc).sl.lookup x with
 | some i=>exact⟨i,rfl⟩
 | none=>exact SH (p8 (.inr (aD hx))) (jP h)
theorem FQ{a:Addr}{vs:List AV}{ws:List Value}{fd:FuncData}{s1:UE}{Q:UE->Prop}(ok:mW fd.scope)(hg:fd.globals=mainGlobals)(hb:fd.builtins=builtinsNs)(hk:k<=(aL fd.scope.names).length)(hvl:vs.length=k)(e:VL vs p ws)
  (x:InCallC p.s (callEnvC fd p.s.heap.objs.size a).locals (bindL (callEnvC fd p.s.heap.objs.size a).kindOf (((aL fd.scope.names).take k).zip ws) fun _=>none) (callEnvC fd p.s.heap.objs.size a).cells (bindC (callEnvC fd p.s.heap.objs.size a).kindOf (((aL fd.scope.names).take k).zip ws) fun _=>none) s1)
  (g:∀ q:Pt Y,Nx [] p q->FR q.x (callEnvC fd p.s.heap.objs.size a) (iY fd.scope) (fun i=>vs[i]?)->(∀ b,b∈cR (callEnvC fd p.s.heap.objs.size a)->b∉p.κ)->Q q.s):Q s1:=by
 obtain⟨h1,t1,rfl⟩:=x.toInCall.same;have hnd:(aL fd.scope.names).Nodup:=(Ut.map _).nodup ok.nodup;have htn:=(List.take_sublist k _).nodup hnd;have here:∀ b,b∈cR (callEnvC fd p.s.heap.objs.size a)->p.s.heap.get? b=none/\∃ o,h1.get? b=some o:=fun b hb=>(jY hb).elim (fun e=>e▸⟨TN (SE _),x.toInCall.ns.imp fun o h=>h.elim fun _ h=>h.elim fun _ h=>h.1⟩)
  fun h=>h.elim fun y h=>⟨TN (TM (x.above y b (aD h))),(x.cell y b h).imp fun o h=>h.1⟩
 refine p.grow ((List.range h1.objs.size).filter fun b=>decide (b∈cR (callEnvC fd p.s.heap.objs.size a))) x.toInCall.keep (fun b hb=>here b (SF (TK.mp hb).2)) (Ut.nodup List.nodup_range) fun q nx eh hκ _=>?_;have own:∀ b,b∈cR (callEnvC fd p.s.heap.objs.size a)->b∈q.κ/\b∉p.κ:=fun b hb=>hκ b (TK.mpr ⟨List.mem_range.mpr ((here b hb).2.elim fun o h=>Tt h),SM hb⟩);have arg:∀{y i v},(iY fd.scope).sl.lookup y=some i->vs[i]?=some v->∃ w,((aL fd.scope.names).take k)[i]?=some y/\ws[i]?=some w/\ao q.x v w:=fun{y i v} hy hv=>(VL.nx e nx).get hv fun w h1 h2=>⟨w,(List.getElem?_take_of_lt (hvl▸(SJ.mp hv).1)).trans (og hy),h1,h2⟩;refine g q nx ⟨⟨ok.kind,hg,hb,fun y=>⟨id,id,fun hy=>(ok.free hy).elim,id⟩,fun y z i hy hz=>SQ ((og hy).symm.trans (og hz)),fun y z c hy hz=>name_of_addr x.apart (aD hy) (aD hz),fun y i hy=>?_⟩,(own _ (.head _)).1,fun y b hy=>(own b (fc hy)).1,
  ⟨_,eh▸x.toInCall.ns,fun y i v hy hi hv=>?_⟩,fun y i hy hi=>?_,fun i hi=>?_⟩ fun b hb=>(own b hb).2
 ·rw[show(iY fd.scope).sl.length=_ from cY _ _];exact(SJ.mp (og hy)).1
 ·exact(arg hi hv).imp fun w h=>⟨zV hy htn h.1 h.2.1,h.2.2⟩
 ·have hy:fd.scope.names.lookup y=some .cell:=hy.resolve_right fun h=>ok.free h;refine(fC (n:=p.s.heap.objs.size+1) (acc:=[]) (.inl (aD hy))).elim fun c hc=>(dO hc).imp fun d hd=>⟨_,hd,eh▸x.cell y d hd,fun v hv=>(arg hi hv).imp fun w h=>⟨zW (fun q=>nomatch hy.symm.trans (show fd.scope.names.lookup y=some .local from q)) htn h.1 h.2.1,h.2.2⟩⟩
 ·rw[show(iY fd.scope).sl.length=_ from cY _ _] at hi;exact List.getElem?_eq_none (hvl▸Sy hk hi)
abbrev Kh(n f:Nat)(vs:List AV)(Y Y':St)(v:AV):Prop:=∀{A:UG} {p:Pt Y} {ws:List Value} {R:Result->UE->Prop},kW A n->VL vs p ws->(∀(q:Pt Y') w,Nx [] p q->V v q w->R (.ok (.ret w)) q.s)->codeAny M0 A (.call (.ref (bv f)) ⟨ws,[]⟩) R p.s
theorem Bc{n f k:Nat}{b:List S}{vs:List AV}{fl:Fl}{U':En}(P:PF)(ih:fm n ⟨ay aj n⟩)(F:tD f k b)(hvl:vs.length=k)(hr:bm ⟨ay aj n⟩ b (fun i=>vs[i]?) Y=some (fl,U',Y')):Kh (n+1) f vs Y Y' (fl.getD .none):=fun{A p ws R} rm ev hR=>by
 obtain⟨nm,qual,params,body,sc,dV,kV,doc,pm,cdv,ct,an,fo,ho,hd,hcd,hok,hpar,hlen,hbind,htr⟩:=F.ex;have ok:=JR hok;have hX:=p.r.keep;have hkl:k<=(aL sc.names).length:=by
  have:=Sx List.length hpar;rw[SU,hlen,List.length_take] at this;exact this▸Nat.min_le_right _ _
 refine codeAny_call_function (fd:=fnX nm qual params body sc [] dV kV doc pm an cdv ct) (body:=body) (Tc (Sy (Ty _ _) (Ty _ _)) rm.depth) (hX _ _ ho) hd ok.co ok.gen rfl (hcd.keeps hX) ?_;refine hbind p.s ws (ev.length.symm.trans hvl) _ _ _ _ ?_;rw[hpar];refine wpAny_newFunctionEnv_cells ok.kind (fun y hy=>(ok.own (List.mem_of_mem_take (List.of_mem_zip hy).1)).imp id fun q=>⟨q,(fC (n:=p.s.heap.objs.size+1) (acc:=[]) (.inl (aD q))).elim fun c hc=>(dO hc).elim fun d hd=>by rw[hd];rfl⟩) fun env he s1 x=>?_
 subst he;exact⟨(P.nolimit.keeps hX).keeps x.toInCall.keep,codeAny_func (FQ (a:=bv f) (fd:=fnX nm qual params body sc [] dV kV doc pm an cdv ct) (Q:=fun s=>wpAny M0 _ _ _ _ s) ok rfl rfl hkl hvl ev x fun q nx F hown=>
  ((rh (c:=⟨n,⟨ay aj n⟩,iY sc,ih⟩) FP htr).ev ⟨_,_,rm.body _,F⟩ hr).go fun q2 fw n2 k2=>
   have n12:Nx [] p q2:=(nx.weak.trans n2).more fun a ha hk=>SH hk (hown a ha)
   match fl,k2.fl with
   | none,h=>by cases(show fw=.next from h);exact hR q2 _ n12 rfl
   | some u,h=>h.elim fun w h=>by cases h.1;exact hR q2 w n12 h.2)⟩
theorem x5{n f:Nat}{vs:List AV}{v:AV}(P:PF)(ih:fm n ⟨ay aj n⟩)(h:ay aj (n+1) f vs Y=some (v,Y')):keepIn K0 (.ref (bv f))=true/\Kh (n+1) f vs Y Y' v:=ae h fun kb hp h=>bi h (fun hvl h=>aH h fun r hr e=>by
 have F:=P.fns f kb.1 kb.2 hp
 cases e
 exact⟨F.keep,Bc P ih F (SF hvl) hr⟩) fun _ h=>nomatch h
theorem zM(P:PF)(n:Nat):fm n ⟨ay aj n⟩:=by
 induction n with
 | zero=>exact⟨nofun,nofun⟩
 | succ n ih=>exact⟨fun h=>(x5 P ih h).1,fun h=>(x5 P ih h).2⟩
end
theorem ej{n:Nat}{q:Nat->Bool}(h:(List.range n).all q=true){i:Nat}(hi:i<n):q i=true:=Un.mp h i (List.mem_range.mpr hi)
theorem bN{a b:Bool}{P:Prop}(h:(a&&b)=true)(k:a=true->b=true->P):P:=(SL.mp h).elim k
theorem we{o:Option Obj}(h:sH o=true):∃ oc od sl,o=some ⟨oc,od,.func (JN o),sl⟩:=by
 unfold sH at h
 split at h
 ·exact⟨_,_,_,rfl⟩
 ·cases h
theorem vt{vs:List Value}:(List.range vs.length).map (fun i=>vs.getD i .none)=vs:=List.ext_getElem (by rw[SU,Uw]) fun i h1 h2=>by
 rw[List.getElem_map,List.getElem_range,UB,Tu h2];rfl
theorem Cy{b:FuncBody}(h:nU b=true):b=.stmts (ix b):=by
 cases b with
 | stmts=>rfl
 | _=>exact nomatch h
theorem JM:∀{fd:FuncData},nU fd.body=true->fd.globals=mainGlobals->fd.closure=[]->fd.builtins=builtinsNs->fd=fnX fd.name fd.qualname fd.params (ix fd.body) fd.scope [] fd.defaults fd.kwdefaults fd.doc fd.pyModule fd.annotations fd.code fd.closureTuple:=fun{fd} h h1 h2 h3=>by
 have e:fd={ fd with globals:=mainGlobals,closure:=[],builtins:=builtinsNs,body:=.stmts (ix fd.body) }:=by rw[<- h1,<- h2,<- h3,<- Cy h]
 exact e
theorem JJ(X:K0.In H0){f k:Nat}{b:List S}{r:Nat×List String}(hf:bv f=r.1)(hk:r.2.length=k)(h:JK K0 r (iX K0 r.1)=true)(htr:trSs TB (iY (iX K0 r.1).scope) (ix (iX K0 r.1).body)=some b)
  (hb:∀ g:Nat->Value,bindArgs (iX K0 r.1) ⟨(List.range r.2.length).map g,[]⟩=pure ((r.2.map Str.ofString).zip ((List.range r.2.length).map g))):tD f k b:=
 bN h fun h h1=>bN h fun h h11=>bN h fun h h9=>bN h fun h h8=>bN h fun h h7=>bN h fun h h6=>bN h fun h h5=>bN h fun h h4=>bN h fun h2 h3=>(we h1).elim fun oc h=>h.elim fun od h=>h.elim fun sl ho=>
 have e:=JM h2 (SF h3) (SF h4) (SF h5);have h9:=SF h9
 ⟨⟨_,_,_,_,_,_,_,_,_,_,_,_,⟨oc,od,.func (iX K0 r.1),sl⟩,(Sx H0.get? hf).trans (X _ _ ho),Sx Data.func e,codeRec_of X h6,h7,hk▸SF h8,hk▸(SU _).symm.trans ((Sx List.length h9).trans (SU _)),
  fun s vs hv=>BindsTo.of_eq ((Sx (bindArgs · _) e.symm).trans (h9▸by have:=hb fun i=>vs.getD i .none;rwa [hk,<- hv,vt] at this)),htr⟩,hf▸h11⟩
theorem ui{C:Addr}{n:Str}{f:Nat}(h:sv K0 C n (some f)=true):findIn K0 (.ref C) n=some (some (.ref (bv f)))/\typeIn K0 (.ref (bv f))=some (.type "function"):=bN h fun a b=>⟨SF a,SF b⟩
theorem tm{α:Type}{p:α->Bool}:∀{o:Option α},o.any p=true->∃ a,o=some a/\p a=true
 | some a,h=>⟨a,rfl,h⟩
theorem FY{c:Nat}(h:Dq K0 c (aZ c)=true):uM c:=bN h fun h ha=>bN h fun h hm=>bN h fun h h8=>bN h fun h h7=>bN h fun h h6=>bN h fun h h5=>bN h fun h h4=>bN h fun h h3=>bN h fun h h2=>bN h fun h1 hi=>
 ⟨h1,(Option.isSome_iff_exists.mp hi).imp fun f e=>⟨e,ui (e▸h2)⟩,SF h3,SF h4,SF h5,h6,h7,h8,fun m f e hl=>ui (e▸ej hm hl),fun a hl=>bN (ej ha hl) fun h _=>tm h,fun a hl=>bN (ej ha hl) fun _ h=>SF h⟩
theorem xA{k:Nat}{w:Value}(h:xB k w=true):∃ t,w=.str (au k) t:=by
 cases w with
 | str x t=>exact⟨t,by rw[show x=au k from SF h]⟩
 | _=>exact nomatch(show false=true from h)
theorem xY{d:Data}{r:Array Value×Nat}(h:CZ d=some r):d=.seq r.1 r.2:=by
 cases d with
 | seq ws n=>cases h;rfl
 | _=>cases h
theorem wG{v:Value}{a:Addr}(h:z9 v=some a):v=.ref a:=by
 cases v with
 | ref b=>cases h;rfl
 | _=>cases h
theorem EM:∀{o:Obj} {c:Value} {d:Data},o.cls=c->o.dict=none->o.slots=#[]->o.data=d->o={ cls:=c,data:=d }:=fun{o c d} h1 h2 h3 h4=>by rw[<- h1,<- h4];exact(Sx (fun d=>{ o with dict:=d }:_->Obj) h2).trans (Sx (fun d=>{ o with dict:=none,slots:=d }:_->Obj) h3)
theorem xq{w:Value}{r:Array Value×Nat}(h:xr K0 w=some r):∃ a,w=.ref a/\K0.lookup a=some (bV r.1 r.2):=
 (Option.bind_eq_some_iff.mp h).elim fun a h=>(Option.bind_eq_some_iff.mp h.2).elim fun o g=>⟨a,wG h.1,g.1.trans (bi g.2 (fun c h=>bN c fun h1 c=>bN c fun h2 h3=>Sx some (EM (SF h1) (Option.isNone_iff_eq_none.mp h2) (Array.isEmpty_iff.mp h3) (xY h))) fun _ h=>nomatch h)⟩
mutual
theorem oM(X:K0.In H0):∀{v:AV} {w:Value},tI K0 v w=true->ao ⟨[],[],H0⟩ v w
 | .sym k,w,h=>bN (show(decide (k<aS.length)&&xB k w)=true from h) fun a b=>⟨SF a,xA b⟩
 | .tup vs,w,h=>bN (show(decide (vs.length<=ax)&&(xr K0 w).any fun r=>jG K0 vs r.1.toList)=true from h) fun a b=>⟨SF a,(tm b).elim fun r h=>(xq h.1).imp fun a g=>⟨r.1,r.2,g.1,⟨X _ _ g.2,T6⟩,lW X h.2⟩⟩
 | .none,_,h | .bool _,_,h | .int _,_,h | .ref _,_,h | .frz _,_,h | .fset _,_,h | .view _,_,h | .rng _,_,h | .enm _,_,h | .zp _ _,_,h=>nomatch(show false=true from h)
theorem lW(X:K0.In H0):∀{vs:List AV} {ws:List Value},jG K0 vs ws=true->bP ⟨[],[],H0⟩ vs ws
 | [],[],_=>rfl
 | [],_::_,h=>nomatch(show false=true from h)
 | _::_,[],h=>nomatch(show false=true from h)
 | v::vs,w::ws,h=>bN (show(tI K0 v w&&jG K0 vs ws)=true from h) fun a b=>⟨w,ws,rfl,oM X a,lW X b⟩
end
theorem rq{l:List String}{i:Nat}{x:String}(h:l[i]?=some x):l.getD i ""=x/\i<l.length:=⟨by rw[UB,h];rfl,(SJ.mp h).1⟩
theorem EW{α β γ:Type}{F:α->γ}{G:β->γ}{as:List α}{bs:List β}{i:Nat}{b:β}(e:as.map F=bs.map G)(h:bs[i]?=some b):∃ a,as[i]?=some a/\F a=G b:=by
 have:=Sx (·[i]?) e;rw[Tv,Tv,h] at this;exact Uj.mp this
theorem BD{α β:Type}{F G:α->β}:∀{as:List α} {a:α},as.map F=as.map G->a∈as->F a=G a:=fun e h=>List.map_inj_left.mp e _ h
theorem Ip(X:K0.In H0)(e:iQ K0=iq)(lim:H0.NoLimit)(hsys:∃ o,H0.get? sysModules=some o){mg mb:Str->Option Value}(G:H0.Ns mainGlobals mg)(B:H0.Ns builtinsNs mb)(hb:∀ x:Str,x≠"__name__"->mb x=bootBuiltins x):PF:=
 bN (Sx Prod.fst e) fun h _=>bN h fun h hB=>bN h fun h hG=>bN h fun h hC=>bN h fun h hF=>bN h fun hN hK=>
 have nsO:∀{x:String} {v:Value},yw K0 x v=true->mg (Str.ofString x)=some v:=fun h=>mg_of X G (SF h)
 {kin:=X
  nolimit:=lim
  sysm:=hsys
  ns:=⟨mg,mb,G,B,fun i x h=>have g:=rq h;g.1▸nsO (ej hF g.2),fun i x h=>have g:=rq h;g.1▸nsO (ej hC g.2),
   fun i x h=>have g:=rq h;(tm (ej hG g.2)).elim fun av q=>bN q.2 fun a b=>⟨_,av,g.1▸nsO a,q.1,g.1▸oM X b⟩,
   fun b=>bN (Un.mp hB b (by cases b<;>decide)) fun h3 h4=>bN h3 fun h1 h2=>⟨mg_none_of X G (SF h1),(hb _ (of_decide_eq_false (yx h4))).trans (SF h2)⟩⟩
  fns:=fun f k b h=>(EW (F:=fun r:Nat×List String=>(r.2.length,trSs TB (iY (iX K0 r.1).scope) (ix (iX K0 r.1).body))) (G:=fun b=>(b.1,some b.2)) (Sx (fun x=>x.2.1) e) h).elim fun r q=>JJ X (by unfold bv;rw[UB,q.1];rfl) (Sx Prod.fst q.2)
   (Un.mp hN r (Tf q.1)) (Sx Prod.snd q.2) fun g=>BD (F:=fun r:Nat×List String=>bindArgs (iX K0 r.1) ⟨(List.range r.2.length).map g,[]⟩) (G:=fun r=>pure ((r.2.map Str.ofString).zip ((List.range r.2.length).map g))) (congrFun (Sx (fun x=>x.2.2) e) g) (Tf q.1)
  clss:=fun c h=>FY (ej hK h) }
theorem yW{x:Hp}{ws:List Value}{is:List Int}(hI:IntsAre ws is):bP x (is.map .int) ws:=by
 induction hI with
 | nil=>rfl
 | cons n t _ ih=>exact⟨_,_,rfl,⟨t,rfl⟩,ih⟩
theorem HW{s t:UE}(h1:t.gens=s.gens)(h2:t.os=s.os):{ s with heap:=t.heap,toks:=t.toks,drawn:=t.drawn }=t:=by cases t;cases h1;cases h2;rfl
theorem Jj(P:PF){n:Nat}(rm:kW callerA n){s:UE}{script:Addr}{ws:List Value}{is:List Int}{R:Result->UE->Prop}{Y':St}(hs:s.heap=H0)(hL:H0.IsList script ws.toArray)(hI:IntsAre ws is)(hlen:is.length<=63)(hr:ay aj n 11 [.frz (is.map .int)] []=some (.bool true,Y'))
  (hR:∀ h' t' d',(∀ b o,H0.get? b=some o->h'.get? b=some o)->R (.ok (.ret (.bool true))) { s with heap:=h',toks:=t',drawn:=d' }):codeAny M0 callerA (.call (.ref (bv 11)) ⟨[.ref script],[]⟩) R s:=by
 obtain⟨o,ho,hc,k,hd⟩:=hL;have r0:iG ⟨[],[],s.heap⟩ []:={ pf:=P,len:=rfl,nodup:=T7,alive:=fun _ h=>(nomatch(show _∈([]:List Addr) from h)),keep:=fun a o h=>hs▸h,objs:=fun i p o h _=>nomatch(show none=some p from h) }
 have hv:VL [.frz (is.map .int)] ⟨[],[],s,r0⟩ [.ref script]:=.cons ⟨by rw[SU];exact Sy hlen (by decide),script,ws.toArray,k,o,rfl,⟨ho,hc,hd⟩,⟨(Sx (·.get? script) hs).trans ho,nofun⟩,yW hI⟩ .nil
 refine(zM P n).go (show(⟨ay aj n⟩:Calls).fn 11 [.frz (is.map .int)] []=some (.bool true,Y') from hr) rm hv fun q w nx e=>?_
 cases(show w=.bool true from e)
 exact HW nx.gens nx.os▸hR q.s.heap q.s.toks q.s.drawn q.r.keep
theorem yP:qT w0 H0 K0:=fun X e lim hsys mg mb G B hb s script ws is R hs hL hI hlen hrun hR=>hrun.elim fun Y' hr=>Jj (n:=30) (Ip X e lim hsys G B hb) ⟨by decide,by decide,rfl⟩ hs hL hI hlen hr hR
theorem E9{K:Frag}(h:iQ K=iq):nsIn K mainGlobals (Str.ofString "law")=some (some (.ref 641)):=bN (Sx Prod.fst h) fun _ h=>SF h
theorem yO:Fa.1.name=Str.ofString "law":=by kernel_rfl
theorem top(H:∀ is:List Int,∃ Y',ay aj 30 11 [.frz (is.map .int)] []=some (.bool true,Y')):RR.Holds:=KW (by
 intro w s₀ s₁ mg mb G YY fa o pm cd doc dV kV ho hd hcd hD hmg hg args vals as hpre hlay hrd hwl hlo;have KX:(Dh (Ya w)).In s₁.heap:=fun a o e=>YY a o (Fi _ a o e);refine Ground.open G ?_;intro T B D TE TW
 wrow_args hpre hlay hrd hwl hlo
 refine enter_call ?_
 w_top on
 try refine codeAny_mono ?_ (fun _ _ g=>GoodW.toG g)
 rw[yO] at hmg
 cases(mg_of KX T.g (E9 (oL w))).symm.trans hmg
 have LA:=BQ yP w s₁.heap (Dh (Ya w)) KX (oL w) T.nolimit;refine LA ?_ T.g T.b T.builtins rfl (by assumption) (by assumption) (TP.mp (Int.not_lt.mp ‹_›)) (H _) ?_
 ·obtain⟨mm,⟨o,es,ep,ho,_⟩,_⟩:=(T.seer (by kernel_rfl)).mods
  exact⟨o,ho⟩
 ·intro h' t' d' hk;refine⟨.inl ⟨_,_,_,rfl,(fun _=>rfl),.bool true,?_,(fun h=>⟨T7,(fun _ h=>nomatch h)⟩)⟩,hk,rfl,hg⟩
  kernel_rfl)
end
section
open PySem
noncomputable abbrev aa(k:Nat):AV:=.int (k:Int)
noncomputable abbrev Nd:=Nat×List Nat
noncomputable def aI(d:Nd):AV:=.tup (.sym d.1::d.2.map aa)
structure Fx where
 raw:List AV
 cells:List AV
 ato:Int
 nodes:List AV
 numbers:List (AV×AV)
 weights:List AV
 depths:List AV
 up:List AV
 lots:List AV
 merged:List AV
 edges:List AV
 forest:List AV
 known:List (AV×AV)
 above:List (AV×AV)
 waiting:List AV
 world:List AV
noncomputable abbrev Fx.t2(F:Fx)(a:Int):Fx:={ F with ato:=a }
noncomputable abbrev Fx.t5(F:Fx)(l:List AV):Fx:={ F with nodes:=l }
noncomputable abbrev Fx.t7(F:Fx)(l:List AV):Fx:={ F with weights:=l }
noncomputable abbrev Fx.t8(F:Fx)(l:List AV):Fx:={ F with depths:=l }
noncomputable abbrev Fx.t10(F:Fx)(l:List AV):Fx:={ F with up:=l }
noncomputable abbrev Fx.t11(F:Fx)(l:List AV):Fx:={ F with lots:=l }
noncomputable abbrev Fx.t12(F:Fx)(l:List AV):Fx:={ F with merged:=l }
noncomputable abbrev Fx.t13(F:Fx)(l:List AV):Fx:={ F with edges:=l }
noncomputable abbrev Fx.t14(F:Fx)(l:List AV):Fx:={ F with forest:=l }
noncomputable abbrev Fx.t17(F:Fx)(l:List AV):Fx:={ F with waiting:=l }
noncomputable abbrev Fx.t18(F:Fx)(l:List AV):Fx:={ F with world:=l }
noncomputable abbrev Fx.t6(F:Fx)(l:List (AV×AV)):Fx:={ F with numbers:=l }
noncomputable abbrev Fx.t15(F:Fx)(l:List (AV×AV)):Fx:={ F with known:=l }
noncomputable abbrev Fx.t16(F:Fx)(l:List (AV×AV)):Fx:={ F with above:=l }
noncomputable def Fx.st(F:Fx)(rest:St):St:=
 .list F.raw::.list F.cells::.dict [(.sym 23,.ref 1),(.sym 24,.int F.ato)]::.inst 2 [(7,.ref 4),(8,.ref 9),(9,.ref 13),(10,.ref 14),(11,.ref 15),(4,.ref 16),(12,.ref 17),(13,.int 0)] ::
 .inst 0 [(0,.ref 5),(1,.ref 6),(2,.ref 7),(3,.ref 8)]::.list F.nodes::.dict F.numbers::.list F.weights::.list F.depths ::
 .inst 1 [(4,.ref 10),(5,.ref 11),(6,.ref 12)]::.list F.up::.list F.lots::.list F.merged::.list F.edges::.list F.forest ::
 .dict F.known::.dict F.above::.list F.waiting::.list F.world::rest
section
variable(F:Fx)(rest:St)
theorem sr(j:Nat)(o:AO):(F.st rest).set (j+19) o=F.st (rest.set j o):=rfl
theorem sa(l:St):F.st rest++l=F.st (rest++l):=rfl
theorem sl:(F.st rest).length=rest.length+19:=rfl
end
theorem cZ(d:Nd):(aI d).pur=true:=by
 obtain⟨a,l⟩:=d;simp[aI,AV.pur,AV.purD,AV.purF]
theorem bM{α:Type}(l m:List α)(a:α):(l++a::m)[l.length]?=some a:=by simp
theorem iW{α:Type}(l m:List α)(a b:α):(l++a::b::m)[l.length+1]?=some b:=by rw[TJ (o0)];simp
theorem zd{α:Type}(l m:List α)(a b c:α):(l++a::b::c::m)[l.length+2]?=some c:=by rw[TJ (o1)];simp
theorem N3{α:Type}(l m:List α)(a b c d:α):(l++a::b::c::d::m)[l.length+3]?=some d:=by rw[TJ (o2)];simp
noncomputable def ea(r:RS):Rs:=r.map fun r=>(r.1.getD .none,r.2.2)
def Ok(k f:Nat)(vs:List AV)(Y:St)(v:AV)(Y':St):Prop:=∀ n,k<=n->ay aj n f vs Y=some (v,Y')
theorem Ok.up{k k' f:Nat}{vs:List AV}{Y Y':St}{v:AV}(h:Ok k f vs Y v Y')(hk:k<=k'):Ok k' f vs Y v Y':=fun n hn=>h n (Sy hk hn)
theorem Ok.mk{k f a:Nat}{b:List S}{vs:List AV}{Y Y':St}{v:AV}(hp:aj[f]?=some (a,b))(ha:vs.length=a)(h:∀ n,k<=n->ea (bm ⟨ay aj n⟩ b (fun i=>vs[i]?) Y)=some (v,Y')):Ok (k+1) f vs Y v Y'
 | 0,hn=>SH hn (S0 k)
 | n+1,hn=>by
  show(aj[f]?.bind _)=_;rw[hp];show(bif decide (vs.length=a) then _ else _)=_;rw[SM ha];exact h n (Nat.le_of_succ_le_succ hn)
section
variable{α β:Type}{x y:Option α}{a:α}{c:Bool}
theorem ak{f:α->Option β}(h:x=some a):x.bind f=f a:=h▸rfl
theorem aP{f:α->β}(h:x=some a):x.map f=some (f a):=h▸rfl
theorem ce(h:x=some a):cO x y=some a:=by subst h;rfl
theorem bc(h:c=true):dc c a=some a:=h▸rfl
theorem dI(h:c=true):(bif c then x else y)=x:=h▸rfl
theorem eF{a b:Bool}(h:a=true)(g:b=true):(a&&b)=true:=by subst h g;rfl
end
noncomputable def Fv(C:Calls)(e:X)(p':aw)(it':X):En->St->Option (List AV×St):=fun U' Y'=>cr (ar C it' U' Y') fun u Y3=>
 bif dn p' u then(cV Y3 u).bind fun s'=>bx s'.gd p' U' (fun _ Y'=>some (true,Y')) (fun U'' Y'=>one (ar C e U'' Y')) s'.items Y3 else none
section
variable{C:Calls}{U U1:En}{Y Y1 Y2:St}
theorem seq{s:S}{r:List S}(h:dS C s U Y=some (none,U1,Y1)):bm C (s::r) U Y=bm C r U1 Y1:=ak h
theorem H7{s:S}{r:List S}{v:AV}(h:dS C s U Y=some (some v,U1,Y1)):bm C (s::r) U Y=some (some v,U1,Y1):=(ak h).trans h
theorem cX{p:aw}{it:X}{b:List S}{v:AV}{s:wQ}(h:ar C it U Y=some (v,Y1))(hp:dn p v=true)(hs:cV Y1 v=some s):dS C (.for_ p it b) U Y=dQ s.gd p (bm C b) s.items U Y1:=
 (am h).trans ((dI hp).trans (ak hs))
theorem zy(c:X)(b:List S):dS C (.whl c b) U Y=dL (fun U Y=>jK (ar C c U Y)) (bm C b) bA U Y:=rfl
theorem zI{e:X}{p:aw}{it:X}{cs:List X}{v:AV}{s:wQ}{vs:List AV}(h:ar C it U Y=some (v,Y1))(hp:dn p v=true)(hs:cV Y1 v=some s)
  (hc:bx s.gd p U (Cp C cs) (fun U' Y'=>one (ar C e U' Y')) s.items Y1=some (vs,Y2)) (hl:vs.length<=ax):ar C (.comp e p it cs) U Y=some (.ref Y2.length,Y2++[.list vs]):=
 (am h).trans ((dI hp).trans ((ak hs).trans ((am hc).trans (bc (SM hl)))))
theorem Cq{e:X}{p p':aw}{it it':X}{v:AV}{s:wQ}{vs:List AV}(h:ar C it U Y=some (v,Y1))(hp:dn p v=true)(hs:cV Y1 v=some s)
  (hc:bx s.gd p U (fun _ Y'=>some (true,Y')) (Fv C e p' it') s.items Y1=some (vs,Y2)) (hl:vs.length<=ax):ar C (.comp2 e p it p' it') U Y=some (.ref Y2.length,Y2++[.list vs]):=
 (am h).trans ((dI hp).trans ((ak hs).trans ((am hc).trans (bc (SM hl)))))
end
section
variable{C:Calls}{U U' U1:En}{Y Y1 Y2 Y3 Y4 τ:St}{kk:Nat}{v u w:AV}{e e1 e2:X}{r z:Rs}{t b:Bool}{vs ws:List AV}
theorem Df{i:Nat}:ag U i v i=some v:=SI rfl
theorem Fb{i j:Nat}(h:j≠i)(g:U j=some v):ag U i w j=some v:=(Sz h).trans g
theorem aF{i:Nat}(h:U i=some v):ar C (.loc i) U Y=some (v,Y):=fH h
theorem KQ:ar C (.cst .none) U Y=some (.none,Y):=rfl
theorem KR:ar C (.cst (.bool b)) U Y=some (.bool b,Y):=rfl
theorem AA{i:Int}:ar C (.cst (.int i)) U Y=some (.int i,Y):=rfl
theorem HF{i:Nat}:ar C (.cst (.sym i)) U Y=some (.sym i,Y):=rfl
theorem DL{k:Nat}(h:ql k=some v):ar C (.glob k) U Y=some (v,Y):=fH h
theorem jo(hi:v.isIt=false)(h:r=some (v,Y)):nv r=some (v,Y):=(am h).trans (by rw[hi];rfl)
theorem jH{a:Nat}(h:ar C e U Y=some (v,Y1))(hi:v.isIt=false)(g:wm Y1 v a=some u):ar C (.attr e a) U Y=some (u,Y1):=(am (jo hi h)).trans (fH g)
theorem oO(h:ar C e U Y=some (v,Y1))(hi:v.isIt=false)(h2:ar C e1 U Y1=some (u,Y2))(hi2:u.isIt=false)(g:oZ Y2 v u=some w):ar C (.sub e e1) U Y=some (w,Y2):=(am (jo hi h)).trans ((am (jo hi2 h2)).trans (fH g))
theorem lX{k:Sl}(h:ar C e U Y=some (v,Y1))(hi:v.isIt=false)(g:nj Y1 v k=z):ar C (.slc e k) U Y=z:=(am (jo hi h)).trans g
theorem HC{i:Int}(h:ar C e U Y=some (.int i,Y1)):ar C (.neg e) U Y=some (.int (-i),Y1):=am h
theorem xh{op:cP}(h:ar C e U Y=some (v,Y1))(hi:v.isIt=false)(h2:ar C e1 U Y1=some (u,Y2))(hi2:u.isIt=false)(g:i0 op Y2 v u=z):ar C (.bin op e e1) U Y=z:=(am (jo hi h)).trans ((am (jo hi2 h2)).trans g)
theorem lY{op:aR}(h:ar C e U Y=some (v,Y1))(hi:v.isIt=false)(h2:ar C e1 U Y1=some (u,Y2))(hi2:u.isIt=false)(g:bh op Y2 v u=some t):ar C (.cmp op e e1) U Y=some (.bool t,Y2):=(am (jo hi h)).trans ((am (jo hi2 h2)).trans (fH (aP g)))
noncomputable def Og(t:Bool)(op:aR)(u:AV)(x:Rs)(Y:St):Rs:=bif t then cr (nv x) fun w Y3=>ret ((bh op Y3 u w).map .bool) Y3 else some (.bool false,Y)
noncomputable def Gs(t:Bool)(x:Rs)(Y:St):Rs:=bif t then cr (jK x) fun t Y2=>some (.bool t,Y2) else some (.bool false,Y)
noncomputable def Ls(t:Bool)(x:Rs)(Y:St):Rs:=bif t then some (.bool true,Y) else cr (jK x) fun t Y2=>some (.bool t,Y2)
theorem g9(h:r=some (.bool t,Y)):jK r=some (t,Y):=am h
theorem DM{op op':aR}(h:ar C e U Y=some (v,Y1))(hi:v.isIt=false)(h2:ar C e1 U Y1=some (u,Y2))(hi2:u.isIt=false)(g:bh op Y2 v u=some t)(k:Og t op' u (ar C e2 U Y2) Y2=z):ar C (.cmp2 op op' e e1 e2) U Y=z:=(am (jo hi h)).trans ((am (jo hi2 h2)).trans ((ak g).trans k))
theorem Sa{op:aR}{r:Rs}(ht:t=true)(h:r=some (w,Y3))(hi:w.isIt=false)(g:bh op Y3 u w=some b):Og t op u r Y=some (.bool b,Y3):=ht▸(am (jo hi h)).trans (fH (aP g))
theorem Sb{op:aR}{r:Rs}(ht:t=false):Og t op u r Y=some (.bool false,Y):=by subst ht;rfl
theorem CU(h:ar C e U Y=some (.bool t,Y1))(k:Gs t (ar C e1 U Y1) Y1=z):ar C (.and e e1) U Y=z:=(am (g9 h)).trans k
theorem Oo{r:Rs}(ht:t=true)(h:r=some (.bool b,Y1)):Gs t r Y=some (.bool b,Y1):=ht▸am (g9 h)
theorem J9{r:Rs}(ht:t=false):Gs t r Y=some (.bool false,Y):=by subst ht;rfl
theorem Hz(h:ar C e U Y=some (.bool t,Y1))(k:Ls t (ar C e1 U Y1) Y1=z):ar C (.or e e1) U Y=z:=(am (g9 h)).trans k
theorem OV{r:Rs}(ht:t=false)(h:r=some (.bool b,Y1)):Ls t r Y=some (.bool b,Y1):=ht▸am (g9 h)
theorem QC{r:Rs}(ht:t=true):Ls t r Y=some (.bool true,Y):=by subst ht;rfl
theorem HB(h:ar C e U Y=some (.bool t,Y1)):ar C (.not e) U Y=some (.bool (!t),Y1):=am (g9 h)
noncomputable def v9{α:Type}(t:Bool)(x y:α):α:=match t with | true=>x | false=>y
theorem kT{α:Type}{x y z:α}(ht:t=true)(h:x=z):v9 t x y=z:=by subst ht;exact h
theorem kF{α:Type}{x y z:α}(ht:t=false)(h:y=z):v9 t x y=z:=by subst ht;exact h
theorem HE(h:ar C e U Y=some (.bool t,Y1))(g:v9 t (ar C e1 U Y1) (ar C e2 U Y1)=some (v,Y2))(hi:v.isIt=false):ar C (.ite e e1 e2) U Y=some (v,Y2):=(am (g9 h)).trans (by cases t<;>exact jo hi g)
theorem cI:cT C [] U Y=some ([],Y):=rfl
theorem bz{es:List X}(h:ar C e U Y=some (v,Y1))(hi:v.isIt=false)(h2:cT C es U Y1=some (vs,Y2)):cT C (e::es) U Y=some (v::vs,Y2):=(am (jo hi h)).trans (am h2)
theorem oN{es:List X}(h:cT C es U Y=some (vs,Y1))(hl:vs.length<=50):ar C (.tup es) U Y=some (.tup vs,Y1):=(am h).trans (bc (SM hl))
theorem HD{es:List X}(h:cT C es U Y=some (vs,Y1))(hl:vs.length<=50)(hn:Y1.length=kk)(hs:Y1++[.list vs]=τ):ar C (.lst es) U Y=some (.ref kk,τ):=hn▸hs▸(am h).trans (bc (SM hl))
theorem CT{ks:List Nat}{es:List X}(h:cT C es U Y=some (vs,Y1))(h1:decide ks.Nodup=true)(h2:ks.length=vs.length)(h3:vs.length<=10)(hn:Y1.length=kk)(hs:Y1++[.dict ((ks.map .sym).zip vs)]=τ):ar C (.dct ks es) U Y=some (.ref kk,τ):=hn▸hs▸(am h).trans (bc (eF (eF h1 (SM h2)) (SM h3)))
theorem mZ{f:Nat}{es:List X}(h:cT C es U Y=some (vs,Y1))(g:C.fn f vs Y1=z):ar C (.call f es) U Y=z:=(am h).trans g
theorem CS{c f:Nat}{es:List X}(h:cT C es U Y=some (vs,Y1))(hm:dp c 1000=some f)(hn:Y1.length=kk)(hs:Y1++[.inst c []]=τ)(g:C.fn f (.ref kk::vs) τ=some (.none,Y2)):ar C (.new c es) U Y=some (.ref kk,Y2):=by subst hn hs;exact(am h).trans ((ak hm).trans (am g))
theorem xf{m:Nat}{es:List X}{k:oH}(h:ar C e U Y=some (v,Y1))(hi:v.isIt=false)(hk:fj Y1 v m=some k)(h2:cT C es U Y1=some (vs,Y2))(g:ky C k v m vs Y2=z):ar C (.meth e m es) U Y=z:=(am (jo hi h)).trans ((ak hk).trans ((am h2).trans g))
theorem Oi{f m:Nat}(g:C.fn f (v::vs) Y=z):ky C (.fn f) v m vs Y=z:=g
theorem F9{i m:Nat}(g:kf i m vs Y=z):ky C .list (.ref i) m vs Y=z:=g
theorem Ga{i m:Nat}(g:kw i m vs Y=z):ky C .dict (.ref i) m vs Y=z:=g
theorem JW{s:Nat}(g:eH s=some b):ky C .sym (.sym s) 33 [] Y=some (.bool b,Y):=fH (aP g)
theorem xg{b:aN}{es:List X}(h:cT C es U Y=some (vs,Y1))(g:cn b vs Y1=z):ar C (.blt b es) U Y=z:=(am h).trans g
theorem aJ{i:Nat}{l:List AV}(h:Y[i]?=some (.list l)):ai Y i=some l:=ak h
theorem iE{i:Nat}{l:List (AV×AV)}(h:Y[i]?=some (.dict l)):aM Y i=some l:=ak h
theorem tA{i c:Nat}{fs:List (Nat×AV)}(h:Y[i]?=some (.inst c fs)):dP Y i=some (c,fs):=ak h
theorem GA{i:Nat}{l:List AV}(h:Y[i]?=some (.list l)):dP Y i=none:=ak h
theorem Gz{i:Nat}{l:List (AV×AV)}(h:Y[i]?=some (.dict l)):dP Y i=none:=ak h
theorem oB{i:Nat}{l:List (AV×AV)}(h:Y[i]?=some (.dict l)):ai Y i=none:=ak h
theorem GK{i:Nat}{l:List AV}(h:Y[i]?=some (.list l)):aM Y i=none:=ak h
theorem bg{α:Type}{x y z:Option α}(h:x=none)(g:y=z):cO x y=z:=h▸g
theorem iy{α β:Type}{x:Option α}{f:α->Option β}(h:x=none):x.bind f=none:=h▸rfl
theorem I4{α β:Type}{x:Option α}{f:α->β}(h:x=none):x.map f=none:=h▸rfl
theorem Fg{i m c f:Nat}{fs:List (Nat×AV)}(h:Y[i]?=some (.inst c fs))(h2:fs.lookup m=none)(h3:dp c m=some f):fj Y (.ref i) m=some (.fn f):=ce ((ce ((ak (tA h)).trans ((dI (by rw[h2];rfl)).trans (aP h3)))))
theorem Ff{i m:Nat}{l:List AV}(h:Y[i]?=some (.list l)):fj Y (.ref i) m=some .list:=ce (bg (iy (GA h)) (ce (aP (aJ h))))
theorem Fh{i m:Nat}{l:List (AV×AV)}(h:Y[i]?=some (.dict l)):fj Y (.ref i) m=some .dict:=ce (bg (iy (Gz h)) (bg (I4 (oB h)) (aP (iE h))))
theorem GL{i a c:Nat}{fs:List (Nat×AV)}(h:Y[i]?=some (.inst c fs))(g:fs.lookup a=some v):wm Y (.ref i) a=some v:=(ak (tA h)).trans g
theorem cF{F:Fx}{rest:St}{j:Nat}{o:AO}(h:rest[j]?=some o):(F.st rest)[j+19]?=some o:=h
theorem Kf{i:Nat}{o:AO}{l:St}(h:Y[i]?=some o):(Y++l)[i]?=some o:=by rw[S8 (SJ.mp h).1];exact h
theorem GJ{o:AO}{l m:St}:(l++o::m)[l.length]?=some o:=bM l m o
theorem GI{o o1:AO}{l m:St}:(l++o1::o::m)[l.length+1]?=some o:=iW l m o1 o
theorem GH{o o1 o2:AO}{l m:St}:(l++o1::o2::o::m)[l.length+2]?=some o:=zd l m o1 o2 o
theorem GF{o a b c:AO}{l m:St}:(l++a::b::c::o::m)[l.length+3]?=some o:=(TJ (Ty _ _)).trans (Sx (fun i=>(a::b::c::o::m)[i]?) (Ux ..))
theorem GE{o a b c d:AO}{l m:St}:(l++a::b::c::d::o::m)[l.length+4]?=some o:=(TJ (Ty _ _)).trans (Sx (fun i=>(a::b::c::d::o::m)[i]?) (Ux ..))
theorem GD{o a b c d e:AO}{l m:St}:(l++a::b::c::d::e::o::m)[l.length+5]?=some o:=(TJ (Ty _ _)).trans (Sx (fun i=>(a::b::c::d::e::o::m)[i]?) (Ux ..))
theorem GC{o a b c d e f:AO}{l m:St}:(l++a::b::c::d::e::f::o::m)[l.length+6]?=some o:=(TJ (Ty _ _)).trans (Sx (fun x=>(a::b::c::d::e::f::o::m)[x]?) (Ux ..))
theorem GB{o a b c d e f g h:AO}{l m:St}:(l++a::b::c::d::e::f::g::h::o::m)[l.length+8]?=some o:=(TJ (Ty _ _)).trans (Sx (fun x=>(a::b::c::d::e::f::g::h::o::m)[x]?) (Ux ..))
theorem Ke{i j:Nat}{o o':AO}(h:i≠j)(g:Y[j]?=some o):(Y.set i o')[j]?=some o:=(Tk h).trans g
theorem Iq{i:Nat}{is:List Nat}{l:List AV}(h:ai Y i=some l)(g:eG U is l=some U1):bU (.many is) (.ref i) U Y=some U1:=(ak (bg (y:=ai Y i) rfl h)).trans g
theorem Gy{o:AO}:(Y++[o])[Y.length]?=some o:=UA
theorem np{i:Nat}{k:Int}{l:List AV}(h:ai Y i=some l)(g:Bv l k=some v):oZ Y (.ref i) (.int k)=some v:=bg rfl (bg rfl (ce ((ak h).trans g)))
theorem EA{i:Nat}{l:List (AV×AV)}(h:Y[i]?=some (.dict l))(hk:u.pur=true)(g:az l u=some v):oZ Y (.ref i) u=some v:=bg rfl (bg rfl (bg (iy (oB h)) ((ak (iE h)).trans ((dI hk).trans g))))
theorem Ie{s j:Nat}{k:Int}(h:oX s k=some j):oZ Y (.sym s) (.int k)=some (.sym j):=bg rfl (ce (aP h))
theorem d7{l:List AV}{j:Nat}(h:l[j]?=some v):Bv l (j:Int)=some v:=(dI (SM (Uq j))).trans h
theorem I9{i:Nat}{l:List AV}(h:ai Y i=some l)(hl:l.length+1<=ax)(hs:Y.set i (.list (l++[v]))=τ):kf i 27 [v] Y=some (.none,τ):=by subst hs;exact(ak h).trans (bc (SM hl))
theorem I8{i j:Nat}{l m:List AV}(h:ai Y i=some l)(h2:ai Y j=some m)(hn:i≠j)(hl:(l++m).length<=ax)(hs:Y.set i (.list (l++m))=τ):kf i 28 [.ref j] Y=some (.none,τ):=by subst hs;exact(ak h).trans ((ak h2).trans (bc (eF (SM hn) (SM hl))))
theorem I5{i:Nat}{l:List AV}(h:ai Y i=some l)(hl:l.getLast?=some v)(hs:Y.set i (.list l.dropLast)=τ):kf i 29 [] Y=some (v,τ):=by subst hs;exact(ak h).trans (aP hl)
theorem I6{i k:Nat}{l:List AV}(h:ai Y i=some l)(hp:(u.pur&&AV.purs l)=true)(hf:l.findIdx? (fun x=>decide (x=u))=some k):kf i 30 [u] Y=some (.int k,Y):=(ak h).trans ((dI hp).trans (aP hf))
theorem I7{i:Nat}{l:List (AV×AV)}(h:aM Y i=some l)(hk:u.pur=true)(g:(az l u).getD w=v):kw i 31 [u,w] Y=some (v,Y):=by subst g;exact(ak h).trans (bc hk)
noncomputable def Ll(x:Option AV)(w:AV)(l:List (AV×AV))(u:AV)(i:Nat)(Y:St):Rs:=cO (x.map fun v=>(v,Y)) (dc (decide (l.length+1<=ax)&&x.isNone) (w,Y.set i (.dict (l++[(u,w)]))))
theorem Ny{i:Nat}{l:List (AV×AV)}{x:Option AV}(h:aM Y i=some l)(hk:u.pur=true)(g:az l u=x)(k:Ll x w l u i Y=z):kw i 32 [u,w] Y=z:=by subst g;exact(ak h).trans ((dI hk).trans k)
theorem QA{i:Nat}{l:List (AV×AV)}:Ll (some v) w l u i Y=some (v,Y):=rfl
theorem QB{i:Nat}{l:List (AV×AV)}(hl:l.length+1<=ax)(hs:Y.set i (.dict (l++[(u,w)]))=τ):Ll none w l u i Y=some (w,τ):=by subst hs;exact bc (eF (SM hl) rfl)
theorem EZ{i:Nat}{l:List (AV×AV)}(h:aM Y i=some l)(hk:u.pur=true)(g:az l u=some v)(hs:Y.set i (.dict (eS l u))=τ):kw i 29 [u] Y=some (v,τ):=by subst hs;exact(ak h).trans ((dI hk).trans (aP g))
theorem BG{i:Nat}{l:List (AV×AV)}(h:aM Y i=some l):kw i 34 [] Y=some (.view i,Y):=ak h
theorem kU{i:Nat}{l:List AV}(h:ai Y i=some l):cS Y (.ref i)=some l:=h
theorem Gn{i:Nat}{l:List AV}(h:ai Y i=some l)(g:l.length=kk):cn .len [.ref i] Y=some (.int kk,Y):=by subst g;exact aP (kU h)
theorem Gm(g:vs.length=kk):cn .len [.tup vs] Y=some (.int kk,Y):=by subst g;rfl
theorem Go:cn .len [.fset vs] Y=some (.int vs.length,Y):=rfl
theorem J7:cn .int [.bool b] Y=some (.int (if b then 1 else 0),Y):=by cases b<;>rfl
theorem J5{i:Nat}{k:Int}{l:List AV}{is:List Int}(h:ai Y i=some l)(g:cB l=some (k::is)):cn .max [.ref i] Y=some (.int (is.foldl max k),Y):=(ak (kU h)).trans (ak g)
theorem J1{i:Nat}{l:List AV}{is:List Int}(h:ai Y i=some l)(g:cB l=some is):cn .sum [.ref i] Y=some (.int is.sum,Y):=(ak (kU h)).trans (aP g)
theorem CM{i:Nat}{l:List (AV×AV)}(h:aM Y i=some l)(hl:l.length<=8)(ha:l.all (fun e=>e.1.isSym)=true)(hn:Y.length=kk)(hs:Y++[.dict l]=τ):cn .dict [.ref i] Y=some (.ref kk,τ):=by subst hn hs;exact ce ((ak h).trans (bc (eF (SM hl) ha)))
theorem CL{ps:List (AV×AV)}(h:fb vs=some ps)(hl:ps.length<=8)(hn:Y.length=kk)(hs:Y++[.dict (ps.foldl (fun es p=>aT es p.1 p.2) [])]=τ):cn .dict [.tup vs] Y=some (.ref kk,τ):=by subst hn hs;exact bg rfl ((ak h).trans (bc (SM hl)))
theorem zZ{i:Nat}{l:List AV}(h:Y[i]?=some (.list l))(g:bZ l=some ws)(hn:Y.length=kk)(hs:Y++[.list ws]=τ):cn .sorted [.ref i] Y=some (.ref kk,τ):=by subst hn hs;exact ce ((ak (kU (aJ h))).trans (aP g))
theorem z5{i:Nat}{l:List (AV×AV)}(h:Y[i]?=some (.dict l))(g:bZ (l.map (·.1))=some ws)(hn:Y.length=kk)(hs:Y++[.list ws]=τ):cn .sorted [.ref i] Y=some (.ref kk,τ):=by subst hn hs;exact bg (iy (oB h)) (bg rfl (ce ((ak (iE h)).trans (aP g))))
theorem Gg(g:bZ vs=some ws)(hn:Y.length=kk)(hs:Y++[.list ws]=τ):cn .sorted [.fset vs] Y=some (.ref kk,τ):=by subst hn hs;exact ce (aP g)
theorem Gf{i:Nat}{l:List (AV×AV)}(h:aM Y i=some l)(hl:l.all (fun e=>e.1.isSym)=true)(g:bZ (l.map fun(e:AV×AV)=>.tup [e.1,e.2])=some ws)(hn:Y.length=kk)(hs:Y++[.list ws]=τ):cn .sorted [.view i] Y=some (.ref kk,τ):=by subst hn hs;exact bg rfl (bg rfl (bg rfl ((ak h).trans ((dI hl).trans (aP g)))))
theorem J2{i:Nat}{l:List AV}(h:ai Y i=some l)(g:ln l=some ws):cn .set [.ref i] Y=some (.fset ws,Y):=(ak (kU h)).trans (aP g)
theorem Gj(hn:Y.length=kk)(hs:Y++[.list vs]=τ):cn .listOf [.tup vs] Y=some (.ref kk,τ):=by subst hn hs;rfl
theorem z7{i:Nat}{l:List AV}(h:ai Y i=some l)(hn:Y.length=kk)(hs:Y++[.list l]=τ):cn .listOf [.ref i] Y=some (.ref kk,τ):=by subst hn hs;exact ce (aP (kU h))
theorem Gk{n:Nat}(hn:Y.length=kk)(hs:Y++[.list ((List.range n).map fun(i:Nat)=>.int i)]=τ):cn .listOf [.rng n] Y=some (.ref kk,τ):=by subst hn hs;exact(rfl)
theorem Gb:cn .tupleOf [.tup vs] Y=some (.tup vs,Y):=rfl
theorem Gc{i:Nat}{l:List AV}(h:ai Y i=some l):cn .tupleOf [.ref i] Y=some (.tup l,Y):=aP (bg rfl (kU h))
theorem Dv{n:Nat}(h:n<=50000):cn .range [.int n] Y=some (.rng n,Y):=bc (eF (SM (Uq n)) (SM (o3 h)))
theorem J8:cn .enum [.tup vs] Y=some (.enm (.tup vs),Y):=rfl
theorem Du(hn:Y.length=kk)(hs:Y++[.hid]=τ):cn .zip [.tup vs,.tup ws] Y=some (.zp (.tup (.ref kk::vs)) (.tup ws),τ):=by subst hn hs;rfl
theorem nM(h:((v::vs)++ws).length<=ax):i0 .add Y (.tup (v::vs)) (.tup ws)=some (.tup ((v::vs)++ws),Y):=ce (bc (SM h))
theorem yr{i j:Nat}{l m:List AV}(h:ai Y i=some l)(h2:ai Y j=some m)(hl:(l++m).length<=ax)(hn:Y.length=kk)(hs:Y++[.list (l++m)]=τ):i0 .add Y (.ref i) (.ref j)=some (.ref kk,τ):=by subst hn hs;exact bg rfl (bg rfl ((ak h).trans ((ak h2).trans (bc (SM hl)))))
theorem ID{n:Nat}:i0 .sub Y (.int ((n+1:Nat):Int)) (.int 1)=some (.int n,Y):=Sx (fun x=>some (AV.int x,Y)) (Int.add_sub_cancel (n:Int) 1)
theorem EO{i:Nat}{j:Int}{x:AV}(h:ai Y i=some [x])(hj:j=1)(hn:Y.length=kk)(hs:Y++[.list [x]]=τ):i0 .mul Y (.ref i) (.int j)=some (.ref kk,τ):=by subst hn hs hj;exact bg rfl (ak h)
theorem IB{i j:Int}(h:i.natAbs<2^31/\j.natAbs<2^31):i0 .mul Y (.int i) (.int j)=some (.int (i*j),Y):=ce (bc (eF (SM h.1) (SM h.2)))
theorem IC{i j:Int}(h:0<j):i0 .mod Y (.int i) (.int j)=some (.int (i%j),Y):=bc (SM h)
theorem JY{i:Nat}{l:List (AV×AV)}(h:Y[i]?=some (.dict l))(hk:u.pur=true)(g:(az l u).isSome=t):bh .isIn Y u (.ref i)=some t:=by subst g;exact ce (ce ((ak (iE h)).trans (bc hk)))
theorem Ds{i:Nat}{l:List AV}(h:Y[i]?=some (.list l))(hk:(u.pur&&AV.purs l)=true)(g:decide (u∈l)=t):bh .isIn Y u (.ref i)=some t:=by subst g;exact ce (bg (iy (GK h)) ((ak (aJ h)).trans (bc hk)))
theorem Dr(h:bh .isIn Y v u=some t):bh .notIn Y v u=some !t:=Sx (Option.map (!·)) h
theorem zQ(h:bh .eq Y v u=some t):bh .ne Y v u=some !t:=Sx (Option.map (!·)) h
theorem JZ{i j:Nat}{l m:List AV}(h:ai Y i=some l)(h2:ai Y j=some m)(hp:(AV.purs l&&AV.purs m)=true)(g:decide (l=m)=t):bh .eq Y (.ref i) (.ref j)=some t:=by subst g;exact bg rfl (bg rfl ((ak h).trans ((ak h2).trans (bc hp))))
theorem jF:nj Y (.tup (v::vs)) .tail=some (.tup vs,Y):=rfl
theorem Ho:nj Y (.tup (v::vs)) .first=some (.tup [v],Y):=rfl
theorem Hl{s j:Nat}(h:eJ s=some j):nj Y (.sym s) .first=some (.sym j,Y):=ce (aP h)
theorem Hm{i:Nat}{l:List AV}(h:ai Y i=some l)(hn:Y.length=kk)(hs:Y++[.list l.reverse]=τ):nj Y (.ref i) .rev=some (.ref kk,τ):=by subst hn hs;exact aP h
theorem Hn{i:Nat}{l:List AV}(h:ai Y i=some l)(hn:Y.length=kk)(hs:Y++[.list (l.take 1)]=τ):nj Y (.ref i) .first=some (.ref kk,τ):=by subst hn hs;exact bg rfl (bg rfl (aP h))
theorem Hq(hn:Y.length=kk)(hs:Y++[.list (vs.take 30)]=τ):nj Y (.frz vs) .first30=some (.ref kk,τ):=by subst hn hs;rfl
theorem bl{p:aw}{it:X}{cs:List X}{s:wQ}(h:ar C it U Y=some (v,Y1))(hp:dn p v=true)(hq:cV Y1 v=some s)
  (hc:bx s.gd p U (Cp C cs) (fun U' Y'=>one (ar C e U' Y')) s.items Y1=some (vs,Y2)) (hl:vs.length<=ax) (hn:Y2.length=kk) (hs:Y2++[.list vs]=τ):ar C (.comp e p it cs) U Y=some (.ref kk,τ):=by subst hn hs;exact zI h hp hq hc hl
theorem mX{p p':aw}{it it':X}{s:wQ}(h:ar C it U Y=some (v,Y1))(hp:dn p v=true)(hq:cV Y1 v=some s)
  (hc:bx s.gd p U (fun _ Y'=>some (true,Y')) (Fv C e p' it') s.items Y1=some (vs,Y2)) (hl:vs.length<=ax) (hn:Y2.length=kk) (hs:Y2++[.list vs]=τ):ar C (.comp2 e p it p' it') U Y=some (.ref kk,τ):=by subst hn hs;exact Cq h hp hq hc hl
theorem EF(h:ar C e U Y=some (v,Y1))(hi:v.isIt=false):dS C (.expr e) U Y=some (none,U,Y1):=am (jo hi h)
theorem yd{p:aw}(h:ar C e U Y=some (v,Y1))(hi:v.isIt=false)(g:bU p v U Y1=some U1):dS C (.asg p e) U Y=some (none,U1,Y1):=(am (jo hi h)).trans (aP g)
theorem hJ{i:Nat}(h:ar C e U Y=some (v,Y1))(hi:v.isIt=false):dS C (.asg (.one i) e) U Y=some (none,ag U i v,Y1):=yd h hi rfl
theorem EE{a:Nat}(h:ar C e U Y=some (v,Y1))(hi:v.isIt=false)(h2:ar C e1 U Y1=some (u,Y2))(hi2:u.isIt=false)(g:A7 Y2 u a v=some Y3):dS C (.setAttr e1 a e) U Y=some (none,U,Y3):=(am (jo hi h)).trans ((am (jo hi2 h2)).trans (aP g))
theorem ED(h:ar C e U Y=some (v,Y1))(hi:v.isIt=false)(h2:ar C e1 U Y1=some (u,Y2))(hi2:u.isIt=false)(h3:ar C e2 U Y2=some (w,Y3))(hi3:w.isIt=false)(g:xX Y3 u w v=some Y4):dS C (.setSub e1 e2 e) U Y=some (none,U,Y4):=(am (jo hi h)).trans ((am (jo hi2 h2)).trans ((am (jo hi3 h3)).trans (aP g)))
theorem yZ{i j:Nat}{l:List AV}(h:Y[i]?=some (.list l))(hl:j<l.length)(hs:Y.set i (.list (l.set j v))=τ):xX Y (.ref i) (.int j) v=some (τ):=by subst hs;exact ce ((ak (aJ h)).trans (bc (eF (SM (Uq j)) (SM hl))))
theorem y0{i:Nat}{l:List (AV×AV)}(h:Y[i]?=some (.dict l))(hk:u.pur=true)(hl:(aT l u v).length<=ax)(hs:Y.set i (.dict (aT l u v))=τ):xX Y (.ref i) u v=some (τ):=by subst hs;exact bg (iy (oB h)) ((ak (iE h)).trans (bc (eF hk (SM hl))))
theorem y4{i a c:Nat}{fs:List (Nat×AV)}(h:Y[i]?=some (.inst c fs))(hl:(aT fs a v).length<=100)(hs:Y.set i (.inst c (aT fs a v))=τ):A7 Y (.ref i) a v=some τ:=by subst hs;exact(ak (tA h)).trans (bc (SM hl))
variable{y z':RS}{s:S}{p q k:List S}
theorem Ig:bm C [] U Y=some (none,U,Y):=rfl
theorem C1(h:ar C e U Y=some (v,Y1))(hi:v.isIt=false):bm C (.ret e::k) U Y=some (some v,U,Y1):=H7 (am (jo hi h))
theorem bJ(h:dS C s U Y=some (none,U1,Y1))(g:bm C k U1 Y1=y):bm C (s::k) U Y=y:=(seq h).trans g
noncomputable def Hb(C:Calls)(y:RS)(k:List S):RS:=vm y (bm C k)
theorem Ol(g:bm C k U Y=y):Hb C (some (none,U,Y)) k=y:=g
theorem Oj:Hb C (some (some v,U,Y)) k=some (some v,U,Y):=rfl
theorem Om{x:RS}(h:x=z')(g:Hb C z' k=y):Hb C x k=y:=h▸g
theorem Ih(h:ar C e U Y=some (.bool t,Y1))(g:v9 t (Hb C (bm C p U Y1) k) (Hb C (bm C q U Y1) k)=y):bm C (.ite e p q::k) U Y=y:=by subst g;exact(Sx (vm · (bm C k)) ((am (g9 h)).trans (by cases t<;>rfl:_=v9 t (bm C p U Y1) (bm C q U Y1)))).trans (by cases t<;>rfl)
theorem Im(h:ar C e U Y=some (.bool t,Y1))(g:v9 t (bm C p U Y1) (bm C q U Y1)=y):dS C (.ite e p q) U Y=y:=(am (g9 h)).trans (by cases t<;>exact g)
theorem qY{tt:En->St->Option (Bool×St)}{bb:En->St->RS}{m:Nat}(h:tt U Y=some (false,Y1)):dL tt bb (m+1) U Y=some (none,U,Y1):=(am h).trans rfl
theorem Av{tt:En->St->Option (Bool×St)}{bb:En->St->RS}{m:Nat}(h:tt U Y=some (true,Y1))(h2:bb U Y1=some (none,U1,Y2))(g:dL tt bb m U1 Y2=y):dL tt bb (m+1) U Y=y:=(am h).trans ((ak h2).trans g)
theorem JO(h:bm C k U Y=y)(g:ea y=z):ea (bm C k U Y)=z:=h▸g
theorem hYY(h:r=some (v,Y))(hi:v.isIt=false):one r=some ([v],Y):=am (jo hi h)
theorem oV(h:ar C e U Y=some (.bool t,Y1)):Cp C [e] U Y=some (t,Y1):=(am (g9 h)).trans (by cases t<;>rfl)
end
theorem Sc{Y:St}{i j:Int}{b:Bool}(h:decide (AV.int i=.int j)=b):bh .eq Y (.int i) (.int j)=some b:=Sx some h
theorem JX{Y:St}{i j:Int}{b:Bool}(h:decide (AV.int i=.int j)=b):bh .ne Y (.int i) (.int j)=some !b:=Sx (fun x=>some !x) h
theorem vV{a:AV}{l:List AV}(h:l.length<=99999):([a]++l).length<=ax:=by rw[SP];exact Tp h 1
theorem vU{α β:Type}{f:α->β}{l:List α}(h:l.length<=99999):(l.map f).length<=99999:=by rw[SU];exact h
theorem Jh{n:Nat}(h:n<=50):n<=99999:=Sy h (SV rfl)
section
variable{Y:St}{a b:Nat}
theorem ms:(AV.int (a:Int)=.int (b:Int))↔a=b:=⟨fun q=>Int.ofNat.inj (AV.int.inj q),fun q=>q▸rfl⟩
theorem fB(h:a=b):bh .eq Y (.int a) (.int b)=some true:=Sx some (SM (ms.mpr h))
theorem iL(h:a≠b):bh .eq Y (.int a) (.int b)=some false:=Sx some (Td fun q=>h (ms.mp q))
theorem Dc(h:a≠b):bh .ne Y (.int a) (.int b)=some true:=zQ (iL h)
theorem ug(h:a=b):bh .ne Y (.int a) (.int b)=some false:=zQ (fB h)
theorem Dd(h:a<b):bh .lt Y (.int a) (.int b)=some true:=Sx some (SM (Int.ofNat_lt.mpr h))
theorem De(h:b<=a):bh .lt Y (.int a) (.int b)=some false:=Sx some (Td (Int.not_lt.mpr (TP.mpr h)))
theorem IY(h:a<=b):bh .le Y (.int a) (.int b)=some true:=Sx some (SM (TP.mpr h))
theorem Pm(h:b<a):bh .le Y (.int a) (.int b)=some false:=Sx some (Td (Int.not_le.mpr (Int.ofNat_lt.mpr h)))
theorem IZ(h:b<a):bh .gt Y (.int a) (.int b)=some true:=Sx some (SM (Int.ofNat_lt.mpr h))
theorem I0(h:a<=b):bh .gt Y (.int a) (.int b)=some false:=Sx some (Td (Int.not_lt.mpr (TP.mpr h)))
theorem AY(h:a<=b):bZ [.int a,.int b]=some [.int a,.int b]:=(aP (f:=fun t=>bif t then[AV.int b,.int a] else[AV.int a,.int b]) (x:=BJ (.int b) (.int a)) (a:=false) (Sx some (Td (Int.not_lt.mpr (TP.mpr h)))))
theorem Eo(h:b<a):bZ [.int a,.int b]=some [.int b,.int a]:=(aP (f:=fun t=>bif t then[AV.int b,.int a] else[AV.int a,.int b]) (x:=BJ (.int b) (.int a)) (a:=true) (Sx some (SM (Int.ofNat_lt.mpr h))))
end
section
variable{F:Fx}{rest:St}{o a b c d e f g h i j:AO}
theorem Sk:F.st rest++[o]=F.st (rest++[o]):=rfl
theorem RP:(F.st rest).length=rest.length+19:=rfl
theorem KF:F.st (rest++[a])++[o]=F.st (rest++[a,o]):=Sx F.st (SR rest [a] [o])
theorem ND:(F.st (rest++[a])).length=rest.length+1+19:=Sx (·+19) (SP (as:=rest) (bs:=[a]))
theorem Kc:F.st (rest++[a,b])++[o]=F.st (rest++[a,b,o]):=Sx F.st (SR rest [a,b] [o])
theorem Kx:(F.st (rest++[a,b])).length=rest.length+2+19:=Sx (·+19) (SP (as:=rest) (bs:=[a,b]))
theorem PN:F.st (rest++[a,b,c])++[o]=F.st (rest++[a,b,c,o]):=Sx F.st (SR rest [a,b,c] [o])
theorem Po:(F.st (rest++[a,b,c])).length=rest.length+3+19:=Sx (·+19) (SP (as:=rest) (bs:=[a,b,c]))
theorem Sj:F.st (rest++[a,b,c,d])++[o]=F.st (rest++[a,b,c,d,o]):=Sx F.st (SR rest [a,b,c,d] [o])
theorem RO:(F.st (rest++[a,b,c,d])).length=rest.length+4+19:=Sx (·+19) (SP (as:=rest) (bs:=[a,b,c,d]))
theorem Si:F.st (rest++[a,b,c,d,e])++[o]=F.st (rest++[a,b,c,d,e,o]):=Sx F.st (SR rest [a,b,c,d,e] [o])
theorem RN:(F.st (rest++[a,b,c,d,e])).length=rest.length+5+19:=Sx (·+19) (SP (as:=rest) (bs:=[a,b,c,d,e]))
theorem Sh:F.st (rest++[a,b,c,d,e,f])++[o]=F.st (rest++[a,b,c,d,e,f,o]):=Sx F.st (SR rest [a,b,c,d,e,f] [o])
theorem RM:(F.st (rest++[a,b,c,d,e,f])).length=rest.length+6+19:=Sx (·+19) (SP (as:=rest) (bs:=[a,b,c,d,e,f]))
theorem Sg:F.st (rest++[a,b,c,d,e,f,g])++[o]=F.st (rest++[a,b,c,d,e,f,g,o]):=Sx F.st (SR rest [a,b,c,d,e,f,g] [o])
theorem RL:(F.st (rest++[a,b,c,d,e,f,g])).length=rest.length+7+19:=Sx (·+19) (SP (as:=rest) (bs:=[a,b,c,d,e,f,g]))
theorem Sf:F.st (rest++[a,b,c,d,e,f,g,h])++[o]=F.st (rest++[a,b,c,d,e,f,g,h,o]):=Sx F.st (SR rest [a,b,c,d,e,f,g,h] [o])
theorem RK:(F.st (rest++[a,b,c,d,e,f,g,h])).length=rest.length+8+19:=Sx (·+19) (SP (as:=rest) (bs:=[a,b,c,d,e,f,g,h]))
theorem Se:F.st (rest++[a,b,c,d,e,f,g,h,i])++[o]=F.st (rest++[a,b,c,d,e,f,g,h,i,o]):=Sx F.st (SR rest [a,b,c,d,e,f,g,h,i] [o])
theorem RJ:(F.st (rest++[a,b,c,d,e,f,g,h,i])).length=rest.length+9+19:=Sx (·+19) (SP (as:=rest) (bs:=[a,b,c,d,e,f,g,h,i]))
end
theorem Jr{i:Nat}{o:AO}(h:False):([]:St)[i]?=some o:=h.elim
theorem Bx{i j:Nat}(h:i≠j):i+19≠j+19:=fun q=>h (Nat.add_right_cancel q)
section
variable(F:Fx)(rest:St)
theorem t5{l:List AV}:(F.st rest).set 5 (.list l)=(F.t5 l).st rest:=rfl
theorem t7{l:List AV}:(F.st rest).set 7 (.list l)=(F.t7 l).st rest:=rfl
theorem t8{l:List AV}:(F.st rest).set 8 (.list l)=(F.t8 l).st rest:=rfl
theorem Qm{l:List AV}:(F.st rest).set 10 (.list l)=(F.t10 l).st rest:=rfl
theorem Ql{l:List AV}:(F.st rest).set 11 (.list l)=(F.t11 l).st rest:=rfl
theorem Qk{l:List AV}:(F.st rest).set 12 (.list l)=(F.t12 l).st rest:=rfl
theorem Qj{l:List AV}:(F.st rest).set 13 (.list l)=(F.t13 l).st rest:=rfl
theorem Qg{l:List AV}:(F.st rest).set 17 (.list l)=(F.t17 l).st rest:=rfl
theorem Qf{l:List AV}:(F.st rest).set 18 (.list l)=(F.t18 l).st rest:=rfl
theorem Qi{l:List (AV×AV)}:(F.st rest).set 15 (.dict l)=(F.t15 l).st rest:=rfl
theorem Qh{l:List (AV×AV)}:(F.st rest).set 16 (.dict l)=(F.t16 l).st rest:=rfl
end
theorem Pj{t:Bool}(h:t=false):(!t)=true:=h▸rfl
theorem Pk{t:Bool}(h:t=true):(!t)=false:=h▸rfl
theorem KY{a b:Nat}(h:a=b):decide (AV.sym a=.sym b)=true:=SM (h▸rfl)
theorem AE{a b:Nat}(h:a≠b):decide (AV.sym a=.sym b)=false:=Td fun q=>h (AV.sym.inj q)
theorem NC{F:Fx}{rest:St}{a b o:AO}{j:Nat}:(F.st ((rest++[a,b]).set j o)).length=rest.length+2+19:=Sx (·+19) (Ul.trans SP)
theorem Je{α β:Type}{f:α->AV}{g:β->AV}{x:List α}{y:List β}(h:x.length+y.length<=ax):(x.map f++y.map g).length<=ax:=by rw[SP,SU,SU];exact h
theorem NE{l:List AV}{β:Type}{g:β->AV}{y:List β}(h:l.length+y.length<=ax):(l++y.map g).length<=ax:=by rw[SP,SU];exact h
section
variable{gd:List (Nat×Option (List AV))}{p:aw}{U U1 U2:En}{cc:En->St->Option (Bool×St)}{ee:En->St->Option (List AV×St)}{b:En->St->RS}{v:AV}{vs xs ys:List AV}{Y Y1 Y2 Y3:St}{z:Option (List AV×St)}{y:RS}
theorem cf(hg:ic Y gd=true):bx gd p U cc ee [] Y=some ([],Y):=bc hg
noncomputable def Oc(t:Bool)(e:Option (List AV×St))(k:St->Option (List AV×St))(Y:St):Option (List AV×St):=Dp t k e Y
theorem iR{t:Bool}(hg:ic Y gd=true)(hb:bU p v U Y=some U1)(hc:cc U1 Y=some (t,Y1))(k:Oc t (ee U1 Y1) (bx gd p U cc ee vs) Y1=z):bx gd p U cc ee (v::vs) Y=z:=
 (dI hg).trans ((ak hb).trans ((am hc).trans k))
theorem Ct(hg:ic Y gd=true)(hb:bU p v U Y=some U1)(hc:cc U1 Y=some (false,Y1))(k:bx gd p U cc ee vs Y1=z):bx gd p U cc ee (v::vs) Y=z:=iR hg hb hc k
theorem uD(hg:ic Y gd=true)(hb:bU p v U Y=some U1)(hc:cc U1 Y=some (true,Y1))(he:ee U1 Y1=some (xs,Y2))(k:bx gd p U cc ee vs Y2=some (ys,Y3)):bx gd p U cc ee (v::vs) Y=some (xs++ys,Y3):=
 iR hg hb hc ((am he).trans (am k))
theorem JT{t:Bool}{e:Option (List AV×St)}{k:St->Option (List AV×St)}{zs:List AV}(ht:t=true)(he:e=some (xs,Y2))(h:k Y2=some (ys,Y3))(hx:xs++ys=zs):Oc t e k Y=some (zs,Y3):=by subst ht hx;exact(am he).trans (am h)
theorem PD{t:Bool}{e:Option (List AV×St)}{k:St->Option (List AV×St)}(ht:t=false)(h:k Y=z):Oc t e k Y=z:=by subst ht;exact h
theorem bT(hg:ic Y gd=true):dQ gd p b [] U Y=some (none,U,Y):=bc hg
theorem ck(hg:ic Y gd=true)(hb:bU p v U Y=some U1)(h:b U1 Y=some (none,U2,Y2))(k:dQ gd p b vs U2 Y2=y):dQ gd p b (v::vs) U Y=y:=(dI hg).trans ((ak hb).trans ((ak h).trans k))
end
theorem NM{α:Type}{l:List α}{n:Nat}{x:α}(h:l.length=n):(l++[x]).length=n+1:=by rw[SP,h];rfl
theorem tQ{Y:St}{i:Nat}{l:List AV}(h:ai Y i=some l):cV Y (.enm (.ref i))=some ⟨lB l,[(i,some l)]⟩:=bg rfl (bg rfl (bg rfl (bg rfl (ce (bg rfl (aP h))))))
theorem aU{Y:St}{i:Nat}{l:List AV}(h:ai Y i=some l):cV Y (.ref i)=some ⟨l,[(i,some l)]⟩:=bg rfl (ce (aP h))
theorem bu{F:Fx}{rest:St}{j:Nat}{l:List AV}(h:rest[j]?=some (.list l)):ic (F.st rest) [(j+19,some l)]=true:=eF (SM (aJ (cF h))) rfl
theorem mq{F:Fx}{rest:St}(l:List AV)(h:F.world=l):ic (F.st rest) [(18,some l)]=true:=by subst h;exact eF (SM rfl) rfl
theorem uG{C:Calls}{U U1:En}{Y Y1:St}{s:S}{k:List S}{z:Rs}(h:dS C s U Y=some (none,U1,Y1))(g:ea (bm C k U1 Y1)=z):ea (bm C (s::k) U Y)=z:=(Sx ea (seq h)).trans g
theorem je{a b:Bool}(h:a=true)(g:b=true):(a&&b)=true:=by rw[h,g];rfl
theorem yX{C:Calls}{e it:X}{p:aw}{U:En}{Y Y1:St}{v:AV}{s:wQ}{z:Option (List AV×St)}(h:ar C it U Y=some (v,Y1))(hp:dn p v=true)(hq:cV Y1 v=some s)
  (hc:bx s.gd p U (fun _ Y'=>some (true,Y')) (fun U'' Y'=>one (ar C e U'' Y')) s.items Y1=z):Fv C e p it U Y=z:=(am h).trans ((dI hp).trans ((ak hq).trans hc))
theorem Qo{F:Fx}{rest l:St}{a o:AO}:(F.st (rest++a::l)).set (rest.length+19) o=F.st (rest++o::l):=Sx F.st (show(rest++a::l).set rest.length o=rest++o::l by rw[List.set_append_right _ _ (SE _),Nat.sub_self];rfl)
theorem It{F:Fx}{rest:St}{j:Nat}(h:rest[j]?=some .hid):ic (F.st rest) [(j+19,none)]=true:=eF (by show((F.st rest)[j+19]?.map AO.isHid).getD false=true;rw[cF h];rfl) rfl
theorem yU{C:Calls}{f:Nat}{vs:List AV}{Y:St}{z:Rs}(h:C.fn f vs Y=z):C.fn f vs Y=z:=h
theorem Pi{a b:Nat}(h:a=b):decide (AV.int (a:Int)=.int (b:Int))=true:=SM (ms.mpr h)
theorem Nt{a b:Nat}(h:a≠b):decide (AV.int (a:Int)=.int (b:Int))=false:=Td fun q=>h (ms.mp q)
theorem R2{a b:Bool}(h:a=b):a=b:=h
theorem RW{a b:Nat}(h:a<=b):a<=b:=h
theorem RZ{Y:St}{i:Nat}{o:AO}(h:Y[i]?=some o):Y[i]?=some o:=h
theorem R1{C:Calls}{e:X}{U:En}{Y:St}{z:Rs}(h:ar C e U Y=z):ar C e U Y=z:=h
theorem RV{b:aN}{vs:List AV}{Y:St}{z:Rs}(h:cn b vs Y=z):cn b vs Y=z:=h
theorem R0{U:En}{i:Nat}{v:AV}(h:U i=some v):U i=some v:=h
theorem RX{fs:List (Nat×AV)}{i:Nat}{v:Option AV}(h:fs.lookup i=v):fs.lookup i=v:=h
theorem R3{Y:St}{u v:AV}{a:Nat}(h:wm Y u a=some v):wm Y u a=some v:=h
theorem RY{Y:St}{i:Nat}{l:List AV}(h:ai Y i=some l):ai Y i=some l:=h
set_option compiler.extract_closed false
theorem isPr {p : Prop} (h : p) : p := h
theorem leB {m n : Nat} (h : m.ble n = true) : m <= n := Nat.le_of_ble_eq_true h
def mU (l : List Lean.Syntax) : Lean.Syntax := .node .none `null l.toArray
def mN (k a : String) (l : List Lean.Syntax) : Lean.Syntax := .node .none (.str `Lean.Parser.Tactic k) (.mk (if a = "" then l else .atom .none a :: l))
def mI (s : String) : Lean.Syntax := .ident .none s.toRawSubstring (.str .anonymous s) []
def mQ (l : List Lean.Syntax) : Lean.Syntax := mN "tacticSeq" "" [mN "tacticSeq1Indented" "" [mU l]]
def mF (G F X : Lean.Syntax) (s : List Lean.Syntax) (t : String) : List Lean.Syntax :=
  let x := s.headD G
  let r := s.tail
  let w := (t.drop 1).toString
  let c := t.front
  let o (x : Lean.Syntax) := mN "group" "|" [mQ [x]]
  if c = '*' then o (mN "apply" "apply" [mI w]) :: s
  else if c = '+' then o (mN "apply" "apply" [.node .none `Lean.Parser.Term.app #[mI w, mU [.node .none `Lean.Parser.Term.syntheticHole #[.atom .none "?", mI "hQ"]]]]) :: s
  else if c = '|' then o x :: r
  else if c = 'W' then mN "withReducible" "with_reducible" [mQ [x]] :: r
  else if c = 'Q' then mN "failIfSuccess" "fail_if_success" [mQ [x]] :: r
  else if c = '<' then mN "tactic_<;>_" "" [x, .atom .none "<;>", G] :: r
  else if c = ';' then mN "paren" "(" [mQ [r.headD x, .atom .none ";", x], .atom .none ")"] :: r.tail
  else if c = 'H' then mN "case" "case" [mU [mN "caseArg" "" [.node .none `Lean.binderIdent #[mI "hQ"], mU []]], .atom .none "=>", mQ [x]] :: r
  else if c = 'R' then mN "exact" "exact" [mI "rfl"] :: s
  else if c = '=' then mN w w [] :: s
  else if c = 'G' then G :: s
  else if c = 'F' then F :: s
  else if c = 'X' then X :: s
  else mN "first" "first" [mU (s.take t.toNat!).reverse] :: s.drop t.toNat!
def mG (G F X : Lean.Syntax) : List String -> List Lean.Syntax -> Lean.Syntax
  | [], s => s.headD G
  | t :: l, s => mG G F X l (mF G F X s t)
local macro_rules | `(tactic| exists $es,*) => do
  let xs := es.getElems
  let G <- `(tactic| exists $es,*)
  let F <- `(tactic| first $[| exact $xs]*)
  let X <- `(tactic| (simp only[$[$xs:term],*]; done))
  return mG G F X ("*aF *AA *HF *KQ *KR *cI *bz 7 W < | F W | *R3 *RY 2 W Q Q R | =assumption | +GL +aJ 2 W G =done ; H ; < | F | =skip | 5 ; | *R2 *R0 *RX 3 W Q Q R | =assumption | F | =skip | 4 ; | *RW 1 W Q Q =assumption | *leB 1 W R ; | F | =skip | 4 ; | *Jr 1 W Q Q | *yU 1 W F ; | *yU 1 W Q Q | *RZ 1 W Q Q *Gy *GJ *GI *GH *GF *GE *GD *GC *GB 9 W | R | =assumption | +Kf +Ke 2 W G =done ; H ; < | *cF 1 W < | F | =skip | 7 ; | *R1 1 W Q Q *jH *oO *xf *xg *mZ *oN *HD *CT *lY *xh *lX *CU *Hz *HB *HE *DM *HC *DL *CS 19 W < ; | *RV 1 W Q Q *Gg *Gf *CL *CM *z7 *Gm *Gn *Go *J7 *Gj *Gk *Gb *J8 *Du 14 W < | +y4 +yZ +zZ 3 W G =done ; H ; < | +y0 +z5 2 W G =done ; H ; < | *Gc *J1 *J5 *J2 *Dv 5 W < | 4 ; | +bJ 1 W F W H ; < | *EF *hJ *yd *EE *ED *Im *JO *Ih *C1 *Ig *bJ *Ol *Oj *Om *KF *Kc *PN *Sj *Si *Sh *Sg *Sf *Se *Sk *ND *Kx *Po *RO *RN *RM *RL *RK *RJ *RP *s2 *t5 *t7 *t8 *Qm *Ql *Qk *Qj *Qi *Qh *Qg *Qf *Qo *sr *yr *EO *I9 *I8 *I5 *EZ *BG *Hm *Hn *jF *Ho *Hq *cf *iR *g9 *hYY *oV *I7 *Ny *QA *QB *Dr *zQ *Oi *F9 *Ga *JW *ID 76 W < | +JT +kT +Oo +OV +Sa 5 W R | =assumption | F | *Pj *Pk 2 W R | =assumption | F | 3 ; | X | 5 H ; < | +PD +kF +J9 +QC +Sb 5 W R | =assumption | F | *Pj *Pk 2 W R | =assumption | F | 3 ; | X | 5 H ; < | +y4 +yZ +zZ 3 W G =done ; H ; < | +y0 +z5 2 W G =done ; H ; < | R | *isPr 1 W Q Q =assumption ; | *I6 *Ie *JZ *nM *IB *IC *Iq *Hl 8 W < | +Fg +np +JY 3 W G =done ; H ; < | +Ff +iE +EA +Ds 4 W G =done ; H ; < | +Fh +d7 2 W G =done ; H ; < | F | =skip | 25".splitOn " ") []
section
variable{F:Fx}{rest:St}
theorem nH:Ok 1 13 [.ref 4] (F.st rest) (aa F.nodes.length) (F.st rest):=by
 refine .mk rfl rfl fun n _=>?_;exists trivial
theorem ek:Ok 2 26 [.ref 3] (F.st rest) (aa F.nodes.length) (F.st rest):=by
 refine .mk rfl rfl fun n hn=>?_;have h:=nH (F:=F) (rest:=rest) n hn;exists h
theorem eM:Ok 1 20 [.ref 9] (F.st rest) (aa F.up.length) (F.st rest):=by
 refine .mk rfl rfl fun n _=>?_;exists trivial
theorem sd{i op:Nat}{ks:List Nat}(h:F.nodes[i]?=some (aI (op,ks))):Ok 1 16 [.ref 4,aa i] (F.st rest) (.sym op) (F.st rest):=by
 refine .mk rfl rfl fun n _=>?_;exists d7 h
theorem nI{i op:Nat}{ks:List Nat}(h:F.nodes[i]?=some (aI (op,ks))):Ok 1 17 [.ref 4,aa i] (F.st rest) (.tup (ks.map aa)) (F.st rest):=by
 refine .mk rfl rfl fun n _=>?_;exists d7 h
theorem nG{cl:Nat->Nat}{up:List Nat}(hu:F.up=up.map aa)(h:∀ a,a<up.length->∃ b,up[a]?=some b/\b<=a/\cl b=cl a/\(b=a->cl a=a)){C:Calls}:∀(m a:Nat) (U:En),U 0=some (.ref 9)->U 1=some (aa a)->a<m->a<up.length->
  ∀(G:Prop),(∀ U',dL (fun U Y=>jK (ar C (.cmp .ne (.sub (.attr (.loc 0) 4) (.loc 1)) (.loc 1)) U Y)) (bm C [.asg (.one 1) (.sub (.attr (.loc 0) 4) (.loc 1))]) m U (F.st rest)=some (none,U',F.st rest)->U' 1=some (aa (cl a))->G)->G:=by
 intro m;induction m with
 | zero=>exact fun _ _ _ _ h=>SH h o4
 | succ m ih=>
  intro a U h0 h1 hm ha G kk;obtain⟨b,e1,e2,e3,e4⟩:=h a ha;have hx:F.up[a]?=some (aa b):=by rw[hu,Tv,e1];rfl
  have hs:ar C (.sub (.attr (.loc 0) 4) (.loc 1)) U (F.st rest)=some (aa b,F.st rest):=oO (jH (aF h0) rfl rfl) rfl (aF h1) rfl (np (aJ rfl) (d7 hx))
  by_cases hb:b=a
  ·refine kk U (qY (g9 (lY hs rfl (aF h1) rfl ?_))) (by rw[h1,e4 hb])
   subst hb;exact JX (SM rfl)
  ·refine ih b (ag U 1 (aa b)) (Fb (by decide) h0) Df (o5 hm e2 hb) (Tc e2 ha) _ fun U' i1 i2=>?_
   exact kk U' (Av (g9 (lY hs rfl (aF h1) rfl (JX (Td fun q=>hb (Int.ofNat.inj (AV.int.inj q)))))) (bJ (hJ hs rfl) rfl) i1) (i2.trans (Sx _ (Sx _ e3)))
end
theorem cD{α:Type}{gd:List (Nat×Option (List AV))}{p:aw}{U:En}{conds:En->St->Option (Bool×St)}{elt:En->St->Option (List AV×St)}{Y:St}(hg:ic Y gd=true){i o:α->AV}{vs:List α} :
  (∀ v∈vs,∃ U',bU p (i v) U Y=some U'/\conds U' Y=some (true,Y)/\elt U' Y=some ([o v],Y))->bx gd p U conds elt (vs.map i) Y=some (vs.map o,Y):=by
 induction vs with
 | nil=>exact fun _=>cf hg
 | cons v vs ih=>exact fun h=>(h v (.head _)).elim fun U' e=>uD hg e.1 e.2.1 e.2.2 (ih fun u hu=>h u (.tail _ hu))
theorem wz{α:Type}{gd:List (Nat×Option (List AV))}{p:aw}{U:En}{conds:En->St->Option (Bool×St)}{elt:En->St->Option (List AV×St)}{Y:St}(hg:ic Y gd=true){i o:α->AV}{c:α->Bool}{vs:List α} :
  (∀ v∈vs,∃ U',bU p (i v) U Y=some U'/\conds U' Y=some (c v,Y)/\(c v=true->elt U' Y=some ([o v],Y)))->bx gd p U conds elt (vs.map i) Y=some ((vs.filter c).map o,Y):=by
 induction vs with
 | nil=>exact fun _=>cf hg
 | cons v vs ih=>
  refine fun h=>(h v (.head _)).elim fun U' e=>iR hg e.1 e.2.1 ?_;have ih:=ih fun u hu=>h u (.tail _ hu);rw[List.filter_cons]
  cases hc:c v with
  | false=>exact ih
  | true=>exact JT rfl (e.2.2 hc) ih rfl
structure UF(up:List Nat)(cl:Nat->Nat):Prop where
 step:∀ a,a<up.length->∃ b,up[a]?=some b/\b<=a/\cl b=cl a/\(b=a->cl a=a)
 le:∀ a,cl a<=a
 idem:∀ a,cl (cl a)=cl a
 out:∀ a,up.length<=a->cl a=a
theorem ju{d e:Nd}(h:aI d=aI e):d=e:=by
 obtain⟨a,l⟩:=d;obtain⟨b,m⟩:=e;simp only[aI,AV.tup.injEq,List.cons.injEq,AV.sym.injEq] at h;obtain⟨rfl,h⟩:=h;have:∀{l m:List Nat},l.map aa=m.map aa->l=m:=by
  intro l
  induction l with
  | nil=>intro m h;cases m with
   | nil=>rfl
   | cons=>simp at h
  | cons x l ih=>intro m h;cases m with
   | nil=>simp at h
   | cons y m=>simp at h;obtain⟨h1,h2⟩:=h;rw[ih (by simpa using h2)];congr 1;exact o6 h1
 rw[this h]
section
variable{F:Fx}{rest:St}{cl:Nat->Nat}{up:List Nat}
theorem ua(hu:F.up=up.map aa)(UU:UF up cl){a:Nat}(ha:a<up.length)(hz:up.length<=100):Ok 1 21 [.ref 9,aa a] (F.st rest) (aa (cl a)) (F.st rest):=by
 refine .mk rfl rfl fun n _=>?_;refine nG (F:=F) (rest:=rest) hu UU.step (C:=⟨ay aj n⟩) bA a (fun i=>[AV.ref 9,aa a][i]?) rfl rfl (by unfold bA;exact o7 ha hz) ha _ fun U' e1 e2=>?_
 show ea (bm _ [.whl _ _,.ret _] _ _)=_;rw[seq ((zy ..).trans e1)];exists e2
theorem jZ(hu:F.up=up.map aa)(UU:UF up cl){a:Nat}(ha:a<up.length)(hz:up.length<=100):Ok 2 30 [.ref 3,aa a] (F.st rest) (aa (cl a)) (F.st rest):=by
 refine .mk rfl rfl fun n hn=>?_;exists ua (rest:=rest) hu UU ha hz n hn
theorem Bq(hu:F.up=up.map aa)(UU:UF up cl){i op:Nat}{ks:List Nat}(hk:∀ k∈ks,k<up.length)(hz:up.length<=100)(hl:ks.length<=50)(h:F.nodes[i]?=some (aI (op,ks))) :
  Ok 3 27 [.ref 3,aa i] (F.st rest) (aI (op,ks.map cl)) (F.st (rest++[.list ((ks.map cl).map aa)])):=by
 refine .mk rfl rfl fun n hn=>?_;have h1:=sd (F:=F) (rest:=rest) h n (Sy (by decide) hn)
 have h2:=nI (F:=F) (rest:=rest) h n (Sy (by decide) hn)
 have h3:ar ⟨ay aj n⟩ (.comp (.meth (.loc 0) 41 [.loc 3]) (.one 3) (.meth (.attr (.loc 0) 7) 39 [.loc 1]) []) (fun j=>[AV.ref 3,aa i][j]?) (F.st rest)=some (.ref (rest.length+19),F.st (rest++[.list ((ks.map cl).map aa)])):=by
  refine(zI (v:=.tup (ks.map aa)) (s:=⟨ks.map aa,[]⟩) (Y1:=F.st rest) (Y2:=F.st rest) (vs:=ks.map fun k=>aa (cl k)) ?_ rfl rfl (cD rfl fun k hk'=>⟨_,rfl,rfl,?_⟩) (by simp;unfold ax;exact Sy hl (by decide))).trans (by simp[sl,sa,Function.comp_def])
  ·exists h2
  ·have h4:=jZ (F:=F) (rest:=rest) hu UU (hk k hk') hz n (hn);exists h4
 exists h1,h3,vV (vU (vU (Jh hl)))
end
noncomputable def lk{α:Type}[DecidableEq α](es:List (α×Nat))(k:α):Option Nat:=(es.find? fun e=>decide (e.1=k)).map (·.2)
theorem qq{α β:Type}(f:α->β)(p:β->Bool)(l:List α):(l.map f).find? p=(l.find? (fun x=>p (f x))).map f:=List.find?_map
theorem p9(es:List (Nd×Nat))(d:Nd)(g:Nat->AV):az (es.map fun x=>(aI x.1,g x.2)) (aI d)=(lk es d).map g:=by
 unfold az lk;rw[qq];have:(fun x:Nd×Nat=>decide ((aI x.1,g x.2).1=aI d))=fun e=>decide (e.1=d):=by
  funext e;exact decide_eq_decide.mpr ⟨fun h=>ju h,fun h=>by rw[h]⟩
 rw[this];cases List.find? (fun e=>decide (e.1=d)) es<;>rfl
theorem jq{a b:Nat}:aa a=aa b↔a=b:=by simp[aa];exact o8
theorem nR(es:List (Nat×Nat))(k:Nat)(g:Nat->AV):az (es.map fun x=>(aa x.1,g x.2)) (aa k)=(lk es k).map g:=by
 unfold az lk;rw[qq];have:(fun x:Nat×Nat=>decide ((aa x.1,g x.2).1=aa k))=fun e=>decide (e.1=k):=by
  funext e;exact decide_eq_decide.mpr jq
 rw[this];cases List.find? (fun e=>decide (e.1=k)) es<;>rfl
theorem ff{α:Type}[DecidableEq α]{es:List (α×Nat)}{k:α}{j:Nat}(h:lk es k=some j):(k,j)∈es:=by
 unfold lk at h;obtain⟨e,h1,rfl⟩:=Uj.mp h;have:=List.find?_some h1;simp at this;subst this;exact List.mem_of_find?_eq_some h1
theorem Dk{α:Type}{p:α×Nat}{es:List (α×Nat)}{k:α}{j:Nat}(hn:((p::es).map (·.1)).Nodup)(h:(k,j)∈es):p.1≠k:=fun q=>(Th.mp hn).1 (SY.mpr ⟨(k,j),h,q.symm⟩)
theorem nS{α:Type}[DecidableEq α]{es:List (α×Nat)}{k:α}{j:Nat}:(es.map (·.1)).Nodup->(k,j)∈es->lk es k=some j:=by
 induction es with
 | nil=>exact fun _ h=>SH h T6
 | cons p es ih=>
  refine fun hn h=>(SN.mp h).elim (fun e=>?_) fun h=>?_
  ·rw[<- e,lk,List.find?_cons_of_pos (p:=fun x:α×Nat=>decide (x.1=k)) (SM rfl)];rfl
  ·exact(Sx (Option.map Prod.snd) (List.find?_cons_of_neg (p:=fun x:α×Nat=>decide (x.1=k)) fun q=>Dk hn h (SF q))).trans (ih (Th.mp hn).2 h)
theorem dh{f:Nat×Nat->Nat}{es:List (Nat×Nat)}{k j:Nat}:(es.map (·.1)).Nodup->(k,j)∈es->(es.map f).sum=f (k,j)+((es.filter fun e=>!decide (e.1=k)).map f).sum:=by
 induction es with
 | nil=>exact fun _ h=>SH h T6
 | cons p es ih=>
  refine fun hn h=>(SN.mp h).elim (fun e=>?_) fun h=>?_
  ·have h1:(p::es).filter (fun e=>!decide (e.1=k))=es:=by
    rw[List.filter_cons_of_neg (by rw[SM (Sx Prod.fst e).symm];decide)]
    exact List.filter_eq_self.mpr fun x hx=>by rw[Td fun q=>(Th.mp hn).1 (SY.mpr ⟨x,hx,q.trans (Sx Prod.fst e)⟩)];rfl
   rw[h1,e];rfl
  ·rw[List.filter_cons_of_pos (by rw[Td (Dk hn h)];rfl),List.map_cons,List.map_cons,List.sum_cons,List.sum_cons,ih (Th.mp hn).2 h]
   exact Nat.add_left_comm ..
structure Fr(D D':List Nat)(r r':St):Prop where
 len:r.length<=r'.length
 same:∀ j,j<r.length->j∉D->r'[j]?=r[j]?
 new:∀ j∈D',j∈D\/r.length<=j
theorem Fr.refl(D:List Nat)(r:St):Fr D D r r:=⟨SE _,fun _ _ _=>rfl,fun _ h=>.inl h⟩
theorem Fr.grow(D:List Nat)(r l:St):Fr D D r (r++l):=⟨by simp,fun j hj _=>S8 hj,fun _ h=>.inl h⟩
theorem Fr.trans{D D' D'':List Nat}{r r' r'':St}(x:Fr D D' r r')(y:Fr D' D'' r' r''):Fr D D'' r r'':=by
 refine⟨Sy x.len y.len,fun j hj hn=>?_,fun j hj=>?_⟩
 ·rw[y.same j (Tz hj x.len) fun h=>?_,x.same j hj hn]
  rcases x.new j h with h | h
  ·exact hn h
  ·exact Uo h hj
 ·rcases y.new j hj with h | h
  ·exact x.new j h
  ·exact .inr (Sy x.len h)
theorem Fr.at{D D':List Nat}{r r':St}(x:Fr D D' r r'){j:Nat}{o:AO}(h:r[j]?=some o)(hn:j∉D):r'[j]?=some o:=by
 rw[x.same j (SJ.mp h).1 hn,h]
def eU(F F':Fx):Prop:=F'.raw=F.raw/\F'.cells=F.cells/\F'.ato=F.ato/\F'.world=F.world
theorem eU.refl(F:Fx):eU F F:=⟨rfl,rfl,rfl,rfl⟩
theorem eU.trans{F F' F'':Fx}(a:eU F F')(b:eU F' F''):eU F F'':=⟨b.1.trans a.1,b.2.1.trans a.2.1,b.2.2.1.trans a.2.2.1,b.2.2.2.trans a.2.2.2⟩
structure HS where
 ns:List Nd
 cl:Nat->Nat
 kn:List (Nd×Nat)
 ab:List (Nat×Nat)
 av:Nat->List Nat
 lt:Nat->List AV
 wt:List Nat
 up:List Nat
 lr:List Nat
 ex:List Nat
 bud:Nat
noncomputable def G8:HS:=⟨[],id,[],[],fun _=>[],fun _=>[],[],[],[],[],0⟩
noncomputable def Dl:Fx:=⟨[],[],0,[],[],[],[],[],[],[],[],[],[],[],[],[]⟩
noncomputable def HS.D(h:HS):List Nat:=h.lr++h.ab.map (·.2)
structure HI(F:Fx)(rest:St)(h:HS):Prop where
 nodes:F.nodes=h.ns.map aI
 numbers:F.numbers=h.ns.zipIdx.map fun x=>(aI x.1,aa x.2)
 nd:h.ns.Nodup
 kids:∀(i op:Nat) (ks:List Nat),h.ns[i]?=some (op,ks)->(∀ k∈ks,k<i)/\ks.length<=2
 size:h.ns.length<=20
 wts:∃ ws:List Int,F.weights=ws.map .int/\ws.length=h.ns.length
 dps:∃ ws:List Int,F.depths=ws.map .int/\ws.length=h.ns.length
 up:F.up=h.up.map aa
 upl:h.up.length=h.ns.length
 uf:UF h.up h.cl
 lots:F.lots=h.lr.map fun j=>.ref (j+19)
 lrl:h.lr.length=h.ns.length
 lotAt:∀(a j:Nat),h.lr[a]?=some j->rest[j]?=some (AO.list (h.lt a))
 above:F.above=h.ab.map fun x=>(aa x.1,.ref (x.2+19))
 keys:(h.ab.map (·.1)).Nodup
 roots:∀ k,(∃ j,(k,j)∈h.ab)↔k<h.ns.length/\h.cl k=k
 abAt:∀ x∈h.ab,rest[x.2]?=some (AO.list ((h.av x.1).map aa))
 refs:h.D.Nodup
 known:F.known=h.kn.map fun x=>(aI x.1,aa x.2)
 wait:F.waiting=h.wt.map aa
 inK:∀ x∈h.kn,∃(op:Nat) (ks:List Nat),h.ns[x.2]?=some (op,ks)/\x.1.1=op/\x.1.2.map h.cl=ks.map h.cl
 kid:∀(i op:Nat) (ks:List Nat),h.ns[i]?=some (op,ks)->∀ k∈ks,i∈h.av (h.cl k)
 avlt:∀ x∈h.ab,∀ i∈h.av x.1,i<h.ns.length
 wtlt:∀ i∈h.wt,i<h.ns.length
 J:∀(i op:Nat) (ks:List Nat),h.ns[i]?=some (op,ks)->i∈h.wt\/i∈h.ex\/∃ m,lk h.kn (op,ks.map h.cl)=some m/\h.cl m=h.cl i
 sumA:(h.ab.map fun x=>(h.av x.1).length).sum<=2*h.ns.length
 sumL:(h.ab.map fun x=>(h.lt x.1).length).sum<=h.ns.length
 budW:h.kn.length+h.ex.length+h.wt.length+41*h.ab.length<=43*h.ns.length
 budE:F.edges.length+h.ab.length<=h.ns.length+h.bud
 budF:F.forest.length<=F.edges.length
 budM:F.merged.length<=F.edges.length
 bud:h.bud<=200
section
variable{F:Fx}{rest:St}{h:HS}
theorem HI.upz(H:HI F rest h):h.up.length<=100:=by have:=H.size;have:=H.upl;exact RH ‹_› this
theorem HI.clt(H:HI F rest h){a:Nat}(ha:a<h.ns.length):h.cl a<h.ns.length:=Tc (H.uf.le a) ha
theorem HI.rootAt(H:HI F rest h){a:Nat}(ha:a<h.ns.length):∃ j,(h.cl a,j)∈h.ab:=(H.roots _).mpr ⟨H.clt ha,H.uf.idem a⟩
theorem HI.find(H:HI F rest h){a:Nat}(ha:a<h.ns.length):Ok 1 21 [.ref 9,aa a] (F.st rest) (aa (h.cl a)) (F.st rest):=ua H.up H.uf (by rw[H.upl];exact ha) H.upz
theorem HI.hfind(H:HI F rest h){a:Nat}(ha:a<h.ns.length):Ok 2 30 [.ref 3,aa a] (F.st rest) (aa (h.cl a)) (F.st rest):=jZ H.up H.uf (by rw[H.upl];exact ha) H.upz
theorem lv(H:HI F rest h){a b:Nat}(ha:a<h.ns.length)(hb:b<h.ns.length)(e:h.cl a=h.cl b) :
  Ok 2 22 [.ref 9,aa a,aa b] (F.st rest) .none (F.st (rest++[.list [aa (h.cl a),aa (h.cl b)],.list [aa (h.cl a),aa (h.cl b)]])):=by
 refine .mk rfl rfl fun n hn=>?_;have h1:=H.find ha n (hn);have h2:=H.find hb n (hn);exists h1,h2,AY (SD e),fB e
theorem lx(H:HI F rest h){a b k g jk jg:Nat}{lk' lg:List AV}(ha:a<h.ns.length)(hb:b<h.ns.length)(e:(h.cl a<h.cl b/\k=h.cl a/\g=h.cl b)\/(h.cl b<h.cl a/\k=h.cl b/\g=h.cl a))
  (hk:F.lots[k]?=some (AV.ref (jk+19))) (hg:F.lots[g]?=some (AV.ref (jg+19))) (hk':rest[jk]?=some (AO.list lk')) (hg':rest[jg]?=some (AO.list lg)) (hne:jk≠jg) (hl:(lk'++lg).length<=ax) (hm:F.merged.length+1<=ax) (hgu:g<F.up.length) :
  Ok 2 22 [.ref 9,aa a,aa b] (F.st rest) (.tup [aa k,aa g]) (((F.t10 (F.up.set g (aa k))).t12 (F.merged++[.tup [aa k,aa g]])).st ((rest++[AO.list [aa (h.cl a),aa (h.cl b)],AO.list [aa k,aa g]]).set jk (.list (lk'++lg)))):=by
 refine .mk rfl rfl fun n hn=>?_;have h1:=H.find ha n (hn);have h2:=H.find hb n (hn);have hj1:=(SJ.mp hk').1;have hj2:=(SJ.mp hg').1
 rcases e with⟨e,rfl,rfl⟩ | ⟨e,rfl,rfl⟩
 ·exists h1,h2,AY (TM e),iL (S7 e),hk,hg,Bx hne,hl,hm,hgu
 ·exists h1,h2,Eo e,iL (S7 e),hk,hg,Bx hne,hl,hm,hgu
end
section
variable{F:Fx}{rest:St}{h:HS}
theorem HI.frame(H:HI F rest h){rest':St}(e:∀ j∈h.D,rest'[j]?=rest[j]?):HI F rest' h:=by
 refine{ H with lotAt:=fun a j hj=>?_,abAt:=fun x hx=>?_ }
 ·rw[e j (Te _ (Tf hj))];exact H.lotAt a j hj
 ·rw[e x.2 (Tq _ (SY.mpr ⟨x,hx,rfl⟩))];exact H.abAt x hx
theorem HI.inr(H:HI F rest h){j:Nat}(hj:j∈h.D):j<rest.length:=by
 rcases S9.mp hj with hj | hj
 ·obtain⟨a,ha⟩:=T5.mp hj;exact(SJ.mp (H.lotAt a j ha)).1
 ·obtain⟨x,hx,rfl⟩:=SY.mp hj;exact(SJ.mp (H.abAt x hx)).1
theorem HI.grow(H:HI F rest h)(l:St):HI F (rest++l) h:=H.frame fun j hj=>S8 (H.inr hj)
theorem HI.lotat(H:HI F rest h){a j:Nat}(e:h.lr[a]?=some j):F.lots[a]?=some (AV.ref (j+19))/\rest[j]?=some (AO.list (h.lt a)):=
 ⟨by rw[H.lots,Tv,e];rfl,H.lotAt a j e⟩
theorem HI.lotref(H:HI F rest h){a:Nat}(ha:a<h.ns.length){G:Prop}(kk:∀ j,h.lr[a]?=some j->F.lots[a]?=some (AV.ref (j+19))->rest[j]?=some (AO.list (h.lt a))->G):G:=
 have e:=Tu (H.lrl▸ha:a<h.lr.length)
 kk _ e (H.lotat e).1 (H.lotat e).2
noncomputable def HS.abj(h:HS)(k g new:Nat):List (Nat×Nat):=(h.ab.filter fun x=>!decide (x.1=g)).map fun x=>if x.1=k then(k,new) else x
theorem zB{es:List (Nat×Nat)}{k:Nat}{v:AV}{g:Nat->AV}(hk:∃ j,(k,j)∈es):aT (es.map fun x=>(aa x.1,g x.2)) (aa k) v=es.map fun x=>if x.1=k then(aa x.1,v) else(aa x.1,g x.2):=by
 obtain⟨j,hj⟩:=hk;unfold aT;rw[SI (by simp only[List.any_map,List.any_eq_true];exact⟨_,hj,by simp⟩),TG]
 apply TF;intro x _;simp only[Function.comp,jq]
theorem zF{es:List (Nat×Nat)}{k:Nat}{g:Nat->AV}:eS (es.map fun x=>(aa x.1,g x.2)) (aa k)=(es.filter fun x=>!decide (x.1=k)).map fun x=>(aa x.1,g x.2):=by
 unfold eS;rw[List.filter_map];congr 1;apply List.filter_congr;intro x _;simp only[Function.comp,jq]
theorem CP{k g new:Nat}:((h.ab.filter fun x=>!decide (x.1=g)).map fun x=>if x.1=k then(aa x.1,AV.ref (new+19)) else(aa x.1,AV.ref (x.2+19)))=(h.abj k g new).map fun x=>(aa x.1,AV.ref (x.2+19)):=by
 unfold HS.abj;rw[TG];apply TF;intro x _;simp only[Function.comp]
 split
 ·rename_i e;rw[e]
 ·rfl
noncomputable def ew(cl:Nat->Nat)(k g:Nat):Nat->Nat:=fun x=>if cl x=g then k else cl x
noncomputable def HS.joined(h:HS)(k g new:Nat):HS:=
 {h with cl:=ew h.cl k g,ab:=h.abj k g new,av:=fun x=>if x=k then h.av k++h.av g else h.av x,lt:=fun x=>if x=k then h.lt k++h.lt g else h.lt x,wt:=h.wt++h.av g,up:=h.up.set g k }
theorem dK{k g new:Nat}{x:Nat×Nat}:x∈h.abj k g new↔∃ y∈h.ab,y.1≠g/\x=if y.1=k then(k,new) else y:=by
 unfold HS.abj;simp only[List.mem_map,List.mem_filter,Bool.not_eq_true',decide_eq_false_iff_not]
 constructor
 ·rintro⟨y,⟨h1,h2⟩,rfl⟩;exact⟨y,h1,h2,rfl⟩
 ·rintro⟨y,h1,h2,rfl⟩;exact⟨y,⟨h1,h2⟩,rfl⟩
theorem qS{k g new:Nat}:(h.abj k g new).map (·.1)=(h.ab.filter fun x=>!decide (x.1=g)).map (·.1):=by
 unfold HS.abj;rw[TG];apply TF;intro x _;simp only[Function.comp]
 split
 ·rename_i e;exact e.symm
 ·rfl
theorem uJ(hn:(h.ab.map (·.1)).Nodup){k g new ik ig:Nat}{f:Nat->Nat}(hkg:k≠g)(hk:(k,ik)∈h.ab)(hg:(g,ig)∈h.ab):((h.abj k g new).map fun x=>if x.1=k then f k+f g else f x.1).sum=(h.ab.map fun x=>f x.1).sum:=by
 have e1:=dh (f:=fun x=>f x.1) hn hg;have hn2:((h.ab.filter fun e=>!decide (e.1=g)).map (·.1)).Nodup:=(List.Sublist.map _ Ut).nodup hn;have hk2:(k,ik)∈h.ab.filter fun e=>!decide (e.1=g):=by simp[hk,hkg]
 have e2:=dh (f:=fun x=>f x.1) hn2 hk2;have hn3:((h.abj k g new).map (·.1)).Nodup:=by rw[qS];exact hn2
 have hk3:(k,new)∈h.abj k g new:=dK.mpr ⟨(k,ik),hk,hkg,by simp⟩
 have e3:=dh (f:=fun x=>if x.1=k then f k+f g else f x.1) hn3 hk3
 have e4:(((h.abj k g new).filter fun e=>!decide (e.1=k)).map fun x=>if x.1=k then f k+f g else f x.1)=((h.ab.filter fun e=>!decide (e.1=g)).filter fun e=>!decide (e.1=k)).map fun x=>f x.1:=by
  unfold HS.abj;rw[List.filter_map,TG];have:(List.filter ((fun e:Nat×Nat=>!decide (e.1=k))∘fun x=>if x.1=k then(k,new) else x) (h.ab.filter fun x=>!decide (x.1=g)))=(h.ab.filter fun e=>!decide (e.1=g)).filter fun e=>!decide (e.1=k):=by
   apply List.filter_congr;intro x _;simp only[Function.comp]
   split
   ·rename_i e;simp[e]
   ·rfl
  rw[this];apply TF;intro x hx;have:x.1≠k:=by simp only[List.mem_filter,Bool.not_eq_true',decide_eq_false_iff_not] at hx;exact hx.2
  simp[this]
 rw[e3,e4,e1,e2];simp only[if_true];exact RG
theorem jD(hn:(h.ab.map (·.1)).Nodup){k g new ig:Nat}(hg:(g,ig)∈h.ab):(h.abj k g new).length+1=h.ab.length:=by
 have:=dh (f:=fun _=>1) hn hg;have e:∀ l:List (Nat×Nat),(l.map fun _=>1).sum=l.length:=by
  intro l;induction l with
  | nil=>rfl
  | cons a l ih=>simp[ih];exact RE
 rw[e,e] at this;unfold HS.abj;rw[SU];exact RD this
end
theorem UF.merge{up:List Nat}{cl:Nat->Nat}(UU:UF up cl){k g:Nat}(hk:cl k=k)(hg:cl g=g)(kg:k<g)(hl:g<up.length):UF (up.set g k) (ew cl k g):=by
 refine⟨fun a ha=>?_,fun a=>?_,fun a=>?_,fun a ha=>?_⟩
 ·rw[Ul] at ha
  by_cases e:a=g
  ·subst e;refine⟨k,by simp[hl],TM kg,?_,fun q=>RC kg q⟩
   unfold ew;rw[Sz (MO hk kg),SI hg,hk]
  ·obtain⟨b,e1,e2,e3,e4⟩:=UU.step a ha;refine⟨b,by rw[Tk (RB e)];exact e1,e2,by unfold ew;rw[e3],fun q=>?_⟩
   unfold ew;rw[e4 q,Sz e]
 ·unfold ew
  split
  ·have:=UU.le a;exact Ph kg ‹_› this
  ·exact UU.le a
 ·unfold ew
  split
  ·rw[Sz (MO hk kg),hk]
  ·rename_i q;rw[UU.idem,Sz q]
 ·rw[Ul] at ha;unfold ew;rw[UU.out a ha,Sz (Pg hl ha)]
section
variable{F F':Fx}{rest:St}{h:HS}
theorem Db{α:Type}{l:List α}{i j:Nat}{x:α}(h:l.Nodup)(a:l[i]?=some x)(b:l[j]?=some x):i=j:=
 (List.getElem_inj h).mp ((SJ.mp a).2.trans (SJ.mp b).2.symm)
theorem HI.refD(H:HI F rest h){a b i j:Nat}(ha:h.lr[a]?=some i)(hb:h.lr[b]?=some j)(e:i=j):a=b:=by
 exact Db (Tj.mp H.refs).1 ha (e▸hb)
theorem HI.avle(H:HI F rest h){g ig:Nat}(hg:(g,ig)∈h.ab):(h.av g).length<=40:=by
 have:=dh (f:=fun x=>(h.av x.1).length) H.keys hg;dsimp only at this;have h1:=H.sumA;have h2:=H.size;exact RA this h1 h2
theorem HI.ltle(H:HI F rest h){g ig:Nat}(hg:(g,ig)∈h.ab):(h.lt g).length<=20:=by
 have:=dh (f:=fun x=>(h.lt x.1).length) H.keys hg;dsimp only at this;have h1:=H.sumL;have h2:=H.size;exact Rz this h1 h2
def Fw(F:Fx)(h:HS)(l1 l2:AO)(a1 a2 a3:AV)(rest:St)(k g jk jg ik ig:Nat):Prop:=∀{F':Fx} (H:HI F rest h) (kg:k<g) (hk:(k,ik)∈h.ab) (hg:(g,ig)∈h.ab) (hjk:h.lr[k]?=some jk) (hjg:h.lr[g]?=some jg) (hF:F'=((((((F.t10 (F.up.set g (aa k))).t12 (F.merged++[a1])).t13 (F.edges++[a2])).t14 (F.forest++[a3])).t17 (F.waiting++(h.av g).map aa)).t16 ((h.abj k g (rest.length+2)).map fun x=>(aa x.1,.ref (x.2+19))))),HI F' ((rest++[l1,l2]).set jk (.list (h.lt k++h.lt g))++[.list ((h.av k++h.av g).map aa)]) (h.joined k g (rest.length+2))/\
  Fr h.D (h.joined k g (rest.length+2)).D rest ((rest++[l1,l2]).set jk (.list (h.lt k++h.lt g))++[.list ((h.av k++h.av g).map aa)])
def Jy(a:Fx×HS×AO×AO×AV×AV×AV×St×Nat×Nat×Nat×Nat×Nat×Nat):Prop:=Fw a.1 a.2.1 a.2.2.1 a.2.2.2.1 a.2.2.2.2.1 a.2.2.2.2.2.1 a.2.2.2.2.2.2.1 a.2.2.2.2.2.2.2.1 a.2.2.2.2.2.2.2.2.1 a.2.2.2.2.2.2.2.2.2.1 a.2.2.2.2.2.2.2.2.2.2.1 a.2.2.2.2.2.2.2.2.2.2.2.1 a.2.2.2.2.2.2.2.2.2.2.2.2.1 a.2.2.2.2.2.2.2.2.2.2.2.2.2
noncomputable def gy:=lK (Dl,G8,.list [],.list [],.none,.none,.none,default) Jy
noncomputable def Di:=gy.1
noncomputable def bk:=gy.2.1
noncomputable def B3:=gy.2.2.1
noncomputable def B2:=gy.2.2.2.1
noncomputable def Jx:=gy.2.2.2.2.1
noncomputable def B4:=gy.2.2.2.2.2.1
noncomputable def Jw:=gy.2.2.2.2.2.2.1
noncomputable def bD:=gy.2.2.2.2.2.2.2.1
noncomputable def bR:=gy.2.2.2.2.2.2.2.2.1
noncomputable def cK:=gy.2.2.2.2.2.2.2.2.2.1
noncomputable def nY:=gy.2.2.2.2.2.2.2.2.2.2.1
noncomputable def NT:=gy.2.2.2.2.2.2.2.2.2.2.2.1
noncomputable def Ju:=gy.2.2.2.2.2.2.2.2.2.2.2.2.1
noncomputable def Jv:=gy.2.2.2.2.2.2.2.2.2.2.2.2.2
theorem NU:Fw Di bk B3 B2 Jx B4 Jw bD bR cK nY NT Ju Jv:=fun{F'} H kg hk hg hjk hjg hF=>by
 subst hF;have rk:=(H.roots bR).mp ⟨Ju,hk⟩;have rg:=(H.roots cK).mp ⟨Jv,hg⟩;have hjkl:=H.inr (Te _ (Tf hjk));have low:∀ j,j<bD.length->j≠nY->((bD++[B3,B2]).set nY (.list (bk.lt bR++bk.lt cK))++[.list ((bk.av bR++bk.av cK).map aa)])[j]?=bD[j]?:=fun j hj hne=>by
  rw[S8 (by simp;exact Ug _ hj),Tk (Ry hne),S8 hj]
 have hset:((bD++[B3,B2]).set nY (.list (bk.lt bR++bk.lt cK))++[.list ((bk.av bR++bk.av cK).map aa)])[nY]?=some (.list (bk.lt bR++bk.lt cK)):=by
  rw[S8 (by simp;exact Ug _ hjkl),TQ (by simp;exact Ug _ hjkl)]
 have hnew:((bD++[B3,B2]).set nY (.list (bk.lt bR++bk.lt cK))++[.list ((bk.av bR++bk.av cK).map aa)])[bD.length+2]?=some (.list ((bk.av bR++bk.av cK).map aa)):=by
  rw[TJ (by simp)];simp
 have hclk:∀ c,ew bk.cl bR cK c=if bk.cl c=cK then bR else bk.cl c:=fun _=>rfl
 have hmap:∀ l:List Nat,l.map (ew bk.cl bR cK)=(l.map bk.cl).map fun c=>if c=cK then bR else c:=fun l=>by rw[TG];rfl
 have hrefs:=Tj.mp H.refs;have hjkab:∀ x∈bk.ab,x.2≠nY:=fun x hx e=>hrefs.2.2 nY (Tf hjk) x.2 (SY.mpr ⟨x,hx,rfl⟩) e.symm;have habl:∀ x∈bk.ab,x.2<bD.length:=fun x hx=>H.inr (Tq _ (SY.mpr ⟨x,hx,rfl⟩));have hD:∀ j∈(bk.joined bR cK (bD.length+2)).D,j∈bk.D\/bD.length<=j:=fun j hj=>by
  rcases S9.mp hj with hj | hj
  ·exact .inl (Te _ hj)
  ·obtain⟨x,hx,rfl⟩:=SY.mp hj;obtain⟨y,hy,hyg,rfl⟩:=dK.mp hx
   split
   ·exact .inr (by simp)
   ·exact .inl (Tq _ (SY.mpr ⟨y,hy,rfl⟩))
 refine⟨⟨H.nodes,H.numbers,H.nd,H.kids,H.size,H.wts,H.dps,?_,?_,H.uf.merge rk.2 rg.2 kg (by rw[H.upl];exact rg.1),H.lots,H.lrl,fun a j hj=>?_,rfl,?_,fun k0=>?_,fun x hx=>?_,?_,H.known,?_,fun x hx=>?_,fun i op ks hi c hc=>?_,fun x hx i hi=>?_,fun i hi=>?_,fun i op ks hi=>?_,?_,?_,?_,?_,?_,?_,H.bud⟩,⟨by simp;exact Rx,fun j hj hn=>low j hj (fun e=>hn (e▸Te _ (Tf hjk))),hD⟩⟩
 ·show Di.up.set cK (aa bR)=(bk.up.set cK bR).map aa;rw[H.up,List.map_set]
 ·show(bk.up.set cK bR).length=_;rw[Ul];exact H.upl
 ·by_cases e:j=nY
  ·subst e;obtain rfl:=H.refD hj hjk rfl;rw[hset];show _=some (AO.list (if bR=bR then _ else _));rw[SI rfl]
  ·rw[low j (H.inr (Te _ (Tf hj))) e,H.lotAt a j hj];have:a≠bR:=fun q=>by subst q;exact e (SQ ((show bk.lr[bR]?=some j from hj).symm.trans hjk))
   show _=some (AO.list (if a=bR then _ else _));rw[Sz this]
 ·show((bk.abj bR cK _).map (·.1)).Nodup;rw[qS];exact(List.Sublist.map _ Ut).nodup H.keys
 ·show(∃ j,(k0,j)∈bk.abj bR cK _)↔_/\ew bk.cl bR cK k0=k0
  constructor
  ·rintro⟨j,hj⟩
   obtain⟨y,hy,hyg,e⟩:=dK.mp hj;have hk0:k0=y.1:=by split at e<;>(rename_i q;cases e)<;>first | exact q.symm | rfl
   obtain⟨r1,r2⟩:=(H.roots y.1).mp ⟨y.2,hy⟩;rw[hk0];exact⟨r1,by rw[hclk,r2,Sz hyg]⟩
  ·rintro⟨r1,r2⟩
   rw[hclk] at r2
   split at r2
   ·rename_i q;subst r2;rw[rk.2] at q;exact(Rw kg q).elim
   ·rename_i q;obtain⟨j,hj⟩:=(H.roots k0).mpr ⟨r1,r2⟩;rw[r2] at q
    by_cases e:k0=bR
    ·exact⟨_,dK.mpr ⟨(k0,j),hj,q,by simp[e];rfl⟩⟩
    ·exact⟨j,dK.mpr ⟨(k0,j),hj,q,by simp[e]⟩⟩
 ·obtain⟨y,hy,hyg,rfl⟩:=dK.mp hx
  by_cases e:y.1=bR
  ·rw[SI e];rw[hnew];show _=some (AO.list ((if bR=bR then _ else _:List Nat).map aa));rw[SI rfl]
  ·rw[Sz e,low y.2 (habl y hy) (hjkab y hy),H.abAt y hy];show _=some (AO.list ((if y.1=bR then _ else _:List Nat).map aa));rw[Sz e]
 ·refine Tj.mpr ⟨hrefs.1,?_,fun a ha b hb' e=>?_⟩
  ·show(List.map (·.2) (bk.abj bR cK _)).Nodup;unfold HS.abj;rw[TG];refine List.pairwise_map.mpr ?_;have p1:=List.pairwise_map.mp H.keys;have p2:=List.pairwise_map.mp hrefs.2.1;refine(((p1.and p2).filter (fun x=>!decide (x.1=cK))).imp_of_mem fun{x y} hx hy q=>?_);have hx':=habl x ((TK.mp hx).1);have hy':=habl y ((TK.mp hy).1);obtain⟨q1,q2⟩:=q;simp only[Function.comp]
   split
   ·rename_i e1
    split
    ·rename_i e2;exact SH (e1.trans e2.symm) q1
    ·show bD.length+2≠y.2;exact Rv hy'
   ·split
    ·show x.2≠bD.length+2;exact Ru hx'
    ·exact q2
  ·obtain⟨x,hx,rfl⟩:=SY.mp hb';obtain⟨y,hy,hyg,rfl⟩:=dK.mp hx;have ha':=H.inr (Te _ ha)
   by_cases q:y.1=bR
   ·rw[SI q] at e;simp at e;exact Rt e ha'
   ·rw[Sz q] at e;exact hrefs.2.2 a ha y.2 (SY.mpr ⟨y,hy,rfl⟩) e
 ·show Di.waiting++_=(bk.wt++bk.av cK).map aa;rw[H.wait,Ta]
 ·obtain⟨op,ks,e1,e2,e3⟩:=H.inK x hx;exact⟨op,ks,e1,e2,by show List.map (ew bk.cl bR cK) _=List.map (ew bk.cl bR cK) _;rw[hmap,hmap,e3]⟩
 ·have:=H.kid i op ks hi c hc;show i∈(if ew bk.cl bR cK c=bR then bk.av bR++bk.av cK else bk.av (ew bk.cl bR cK c))
  rw[hclk]
  by_cases e:bk.cl c=cK
  ·rw[SI e,SI rfl];rw[e] at this;exact Tq _ this
  ·rw[Sz e]
   split
   ·rename_i q;rw[q] at this;exact Te _ this
   ·exact this
 ·obtain⟨y,hy,hyg,rfl⟩:=dK.mp hx
  by_cases e:y.1=bR
  ·rw[SI e] at hi;have hi:i∈(if bR=bR then bk.av bR++bk.av cK else _):=hi
   rw[SI rfl] at hi
   rcases S9.mp hi with hi | hi
   ·exact H.avlt _ hk i hi
   ·exact H.avlt _ hg i hi
  ·rw[Sz e] at hi;have hi:i∈(if y.1=bR then bk.av bR++bk.av cK else bk.av y.1):=hi
   rw[Sz e] at hi;exact H.avlt y hy i hi
 ·rcases S9.mp hi with hi | hi
  ·exact H.wtlt i hi
  ·exact H.avlt _ hg i hi
 ·show i∈bk.wt++bk.av cK\/_
  by_cases e:∃ c∈ks,bk.cl c=cK
  ·obtain⟨c,hc,e⟩:=e;have:=H.kid i op ks hi c hc;rw[e] at this;exact .inl (Tq _ this)
  ·rcases H.J i op ks hi with q | q | ⟨m,q1,q2⟩
   ·exact .inl (Te _ q)
   ·exact .inr (.inl q)
   ·refine .inr (.inr ⟨m,?_,?_⟩)
    ·show lk bk.kn (op,ks.map (ew bk.cl bR cK))=_;have:ks.map (ew bk.cl bR cK)=ks.map bk.cl:=by
      apply TF;intro c hc;rw[hclk,Sz fun q=>e ⟨c,hc,q⟩]
     rw[this];exact q1
    ·show ew bk.cl bR cK m=ew bk.cl bR cK i;rw[hclk,hclk,q2]
 ·have:=uJ (new:=bD.length+2) H.keys (f:=fun a=>(bk.av a).length) (S7 kg:bR≠cK) hk hg;have h2:=H.sumA;show((bk.abj bR cK _).map fun x=>(if x.1=bR then bk.av bR++bk.av cK else bk.av x.1).length).sum<=_
  have e:((bk.abj bR cK (bD.length+2)).map fun x=>(if x.1=bR then bk.av bR++bk.av cK else bk.av x.1).length)=(bk.abj bR cK (bD.length+2)).map fun x=>if x.1=bR then(bk.av bR).length+(bk.av cK).length else(bk.av x.1).length:=by
   apply TF;intro x _
   split<;>simp
  rw[e,this];exact h2
 ·have:=uJ (new:=bD.length+2) H.keys (f:=fun a=>(bk.lt a).length) (S7 kg:bR≠cK) hk hg;have h2:=H.sumL;show((bk.abj bR cK _).map fun x=>(if x.1=bR then bk.lt bR++bk.lt cK else bk.lt x.1).length).sum<=_
  have e:((bk.abj bR cK (bD.length+2)).map fun x=>(if x.1=bR then bk.lt bR++bk.lt cK else bk.lt x.1).length)=(bk.abj bR cK (bD.length+2)).map fun x=>if x.1=bR then(bk.lt bR).length+(bk.lt cK).length else(bk.lt x.1).length:=by
   apply TF;intro x _
   split<;>simp
  rw[e,this];exact h2
 ·have h1:=jD (k:=bR) (new:=bD.length+2) H.keys hg;have h2:=H.avle hg;have h3:=H.budW;show bk.kn.length+bk.ex.length+(bk.wt++bk.av cK).length+41*(bk.abj bR cK _).length<=43*bk.ns.length;rw[SP];exact Rr h1 h2 h3
 ·have h1:=jD (k:=bR) (new:=bD.length+2) H.keys hg;have h3:=H.budE;show(Di.edges++[B4]).length+(bk.abj bR cK _).length<=bk.ns.length+bk.bud;simp;exact Rq h1 h3
 ·show(Di.forest++[Jw]).length<=(Di.edges++[B4]).length;have:=H.budF;simp;exact this
 ·show(Di.merged++[Jx]).length<=(Di.edges++[B4]).length;have:=H.budM;simp;exact this
theorem HI.joined{k g jk jg ik ig:Nat}{l1 l2:AO}{a1 a2 a3:AV}:Fw F h l1 l2 a1 a2 a3 rest k g jk jg ik ig:=bE Jy NU (F,h,l1,l2,a1,a2,a3,rest,k,g,jk,jg,ik,ig)
end
section
variable{F F':Fx}{rest:St}{h:HS}
noncomputable def Fx.edge(F:Fx)(e:AV):Fx:=(F.t13 (F.edges++[e]))
theorem HI.edge(H:HI F rest h)(e:AV)(hb:h.bud+1<=200):HI (F.edge e) rest { h with bud:=h.bud+1 }:=
 {H with
  budE:=by have:=H.budE;show(F.edges++[e]).length+_<=h.ns.length+(h.bud+1);simp;exact Rp this
  budF:=by have:=H.budF;show F.forest.length<=(F.edges++[e]).length;simp;exact Nat.le_succ_of_le this
  budM:=by have:=H.budM;show F.merged.length<=(F.edges++[e]).length;simp;exact Nat.le_succ_of_le this
  bud:=hb }
theorem HI.elen(H:HI F rest h):F.edges.length<=220:=by have:=H.budE;have:=H.bud;have:=H.size;exact Ro ‹_› ‹_› this
theorem nE(H:HI F rest h){a b:Nat}{rs:List AV}(ha:a<h.ns.length)(hb:b<h.ns.length)(e:h.cl a=h.cl b)(hbud:h.bud+1<=200) :
  Ok 3 32 [.ref 3,aa a,aa b,.tup rs] (F.st rest) (.bool false) ((F.edge (.tup [aa a,aa b,.tup rs])).st (rest++[AO.list [aa (h.cl a),aa (h.cl b)],AO.list [aa (h.cl a),aa (h.cl b)]])):=by
 refine .mk rfl rfl fun n hn=>?_;have h1:=lv (H.edge (.tup [aa a,aa b,.tup rs]) hbud) ha hb e n (hn);have h2:F.edges.length+1<=ax:=by have:=H.elen;unfold ax;exact Pf this
 simp only[Fx.edge] at h1;exists Fx.edge,h2,h1
theorem nF(H:HI F rest h){a b k g jk jg ik ig:Nat}{rs:List AV}(ha:a<h.ns.length)(hb:b<h.ns.length)(e:(h.cl a<h.cl b/\k=h.cl a/\g=h.cl b)\/(h.cl b<h.cl a/\k=h.cl b/\g=h.cl a))
  (hik:(k,ik)∈h.ab) (hig:(g,ig)∈h.ab) (hjk:h.lr[k]?=some jk) (hjg:h.lr[g]?=some jg) (hbud:h.bud+1<=200) :
  Ok 3 32 [.ref 3,aa a,aa b,.tup rs] (F.st rest) (.bool true) (((((((F.t10 (F.up.set g (aa k))).t12 (F.merged++[.tup [aa k,aa g]])).t13 (F.edges++[.tup [aa a,aa b,.tup rs]])).t14 (F.forest++[.int ((F.edges.length:Int)+1-1)])).t17 (F.waiting++(h.av g).map aa)).t16 ((h.abj k g (rest.length+2)).map fun x=>(aa x.1,.ref (x.2+19)))).st
   ((rest++[AO.list [aa (h.cl a),aa (h.cl b)],AO.list [aa k,aa g]]).set jk (AO.list (h.lt k++h.lt g))++[AO.list ((h.av k++h.av g).map aa)])):=by
 refine .mk rfl rfl fun n hn=>?_;have kg:k<g:=IP e;have H1:=H.edge (.tup [aa a,aa b,.tup rs]) hbud;have rk:=(H.roots k).mp ⟨ik,hik⟩;have rg:=(H.roots g).mp ⟨ig,hig⟩;have r1:=H1.lotat hjk;have r2:=H1.lotat hjg;have hne:jk≠jg:=fun q=>S7 kg (H.refD hjk hjg q);have hlt:(h.lt k++h.lt g).length<=ax:=by have:=H.ltle hik;have:=H.ltle hig;rw[SP];unfold ax;exact Rn ‹_› this
 have hm:(F.edge (.tup [aa a,aa b,.tup rs])).merged.length+1<=ax:=by have:=H.elen;have:=H.budM;show F.merged.length+1<=_;unfold ax;exact Pe ‹_› this
 have h1:=lx H1 ha hb e r1.1 r2.1 r1.2 r2.2 hne hlt hm (by show g<F.up.length;rw[H.up,SU,H.upl];exact rg.1) n hn
 have h2:F.edges.length+1<=ax:=by have:=H.elen;unfold ax;exact Pf this
 have h3:F.forest.length+1<=ax:=by have:=H.elen;have:=H.budF;unfold ax;exact Pe ‹_› this
 have hav:(h.av g).length<=40:=H.avle hig;have hak:(h.av k).length<=40:=H.avle hik;have hw:F.waiting.length<=860:=by have:=H.budW;have:=H.size;rw[H.wait,SU];exact Rm ‹_› this
 have h4:F.waiting.length+(h.av g).length<=ax:=by unfold ax;exact Rl hav hw
 have h5:(h.av k).length+(h.av g).length<=ax:=by unfold ax;exact Rj hav hak
 have dg:az F.above (aa g)=some (.ref (ig+19)):=by rw[H.above,nR h.ab g fun j=>.ref (j+19),nS H.keys hig];rfl
 have dk:az F.above (aa k)=some (.ref (ik+19)):=by rw[H.above,nR h.ab k fun j=>.ref (j+19),nS H.keys hik];rfl
 have habx:∀ x∈h.ab,x.2≠jk/\x.2<rest.length:=fun x hx=>⟨fun q=>(Tj.mp H.refs).2.2 jk (Tf hjk) x.2 (SY.mpr ⟨x,hx,rfl⟩) q.symm,H.inr (Tq _ (SY.mpr ⟨x,hx,rfl⟩))⟩;have rat:∀ x∈h.ab,((rest++[AO.list [aa (h.cl a),aa (h.cl b)],AO.list [aa k,aa g]]).set jk (AO.list (h.lt k++h.lt g)))[x.2]?=some (AO.list ((h.av x.1).map aa)):=fun x hx=>by
  obtain⟨q1,q2⟩:=habx x hx;rw[Tk (Ne.symm q1),S8 q2,H.abAt x hx]
 have rg':=rat _ hig;have rk':=rat _ hik;dsimp only at rg' rk';have hdel:eS F.above (aa g)=(h.ab.filter fun x=>!decide (x.1=g)).map fun x=>(aa x.1,.ref (x.2+19)):=by rw[H.above];exact zF (g:=fun j=>AV.ref (j+19))
 have hput:aT ((h.ab.filter fun x=>!decide (x.1=g)).map fun x=>(aa x.1,AV.ref (x.2+19))) (aa k) (.ref (rest.length+2+19))=(h.abj k g (rest.length+2)).map fun x=>(aa x.1,.ref (x.2+19)):=by
  have hin:∃ j,(k,j)∈h.ab.filter fun x=>!decide (x.1=g):=⟨ik,by simp[hik];exact S7 kg⟩
  exact(zB (g:=fun j=>AV.ref (j+19)) hin).trans CP
 have hpl:(h.abj k g (rest.length+2)).length<=ax:=by
  have:=jD (k:=k) (new:=rest.length+2) H.keys hig;have:=H.budW;have:=H.size;unfold ax;exact Ri ‹_› ‹_› this
 simp only[Fx.edge] at h1;have hp2:aT (eS F.above (aa g)) (aa k) (.ref (rest.length+2+19))=(h.abj k g (rest.length+2)).map fun x=>(aa x.1,.ref (x.2+19)):=by rw[hdel];exact hput
 have hp3:∀{F':Fx} {R:St},(F'.st R).set 16 (.dict (aT (eS F.above (aa g)) (aa k) (.ref (rest.length+2+19))))=(F'.t16 ((h.abj k g (rest.length+2)).map fun x=>(aa x.1,.ref (x.2+19)))).st R:=by intro F' R;rw[hp2];rfl
 have hp4:(aT (eS F.above (aa g)) (aa k) (.ref (rest.length+2+19))).length<=ax:=by rw[hp2,SU];exact hpl
 have hp5:∀{F':Fx} {R:St},F'.st R++[.list ((h.av k).map aa++(h.av g).map aa)]=F'.st (R++[.list ((h.av k++h.av g).map aa)]):=by intro F' R;rw[Ta];rfl
 have hf:∀{F':Fx} {R:St},(F'.st R).set 14 (.list (F.forest++[AV.int (((F.edges++[AV.tup [aa a,aa b,AV.tup rs]]).length:Nat)-1)]))=(F'.t14 (F.forest++[.int ((F.edges.length:Int)+1-1)])).st R:=by intro F' R;rw[SP];rfl
 exists hf,h2,h1,h3,NE h4,dg,dk,rg',rk',Je h5,NC,hp3,hp4,hp5,(Rh:17≠ig+19)
structure Jn(h h':HS)(a b:Nat):Prop where
 ns:h'.ns=h.ns
 kn:h'.kn=h.kn
 ex:h'.ex=h.ex
 wt:∀ i∈h.wt,i∈h'.wt
 meas:h'.wt.length+41*h'.ab.length<=h.wt.length+41*h.ab.length
 tch:∀(i op:Nat) (ks:List Nat),h.ns[i]?=some (op,ks)->i∈h'.wt\/ks.map h'.cl=ks.map h.cl
 bud:h'.bud<=h.bud+1
 budd:h.cl a≠h.cl b->h'.bud=h.bud
 cl:∀ x y,h'.cl x=h'.cl y↔h.cl x=h.cl y\/(h.cl x=h.cl a/\h.cl y=h.cl b)\/(h.cl x=h.cl b/\h.cl y=h.cl a)
theorem uh{cl:Nat->Nat}{k g a b:Nat}(e:(cl a<cl b/\k=cl a/\g=cl b)\/(cl b<cl a/\k=cl b/\g=cl a))(x y:Nat):ew cl k g x=ew cl k g y↔cl x=cl y\/(cl x=cl a/\cl y=cl b)\/(cl x=cl b/\cl y=cl a):=by
 rcases e with⟨e,rfl,rfl⟩ | ⟨e,rfl,rfl⟩
 ·exact rn
 ·exact rn.trans (or_congr Iff.rfl or_comm)
theorem FC{k:Nat->Nat}{ab:List (Nat×Nat)}{n a b:Nat}(e:¬k a=k b)(r:∀{a:Nat},a<n->∃ i,(k a,i)∈ab)(ha:a<n)(hb:b<n){G:Prop}
  (kk:∀ x y,(k a<k b/\x=k a/\y=k b)\/(k b<k a/\x=k b/\y=k a)->x<y->∀ i,(x,i)∈ab->∀ j,(y,j)∈ab->G):G:=
 (Ua e).elim (fun q=>(r ha).elim fun i hi=>(r hb).elim fun j hj=>kk _ _ (.inl ⟨q,rfl,rfl⟩) q i hi j hj)
  fun q=>(r hb).elim fun i hi=>(r ha).elim fun j hj=>kk _ _ (.inr ⟨q,rfl,rfl⟩) q i hi j hj
theorem t9(H:HI F rest h){a b:Nat}{rs:List AV}(ha:a<h.ns.length)(hb:b<h.ns.length)(hbud:h.bud+1<=200){G:Prop}
  (kk:∀ F' rest' h',Ok 3 32 [.ref 3,aa a,aa b,.tup rs] (F.st rest) (.bool (decide (h.cl a≠h.cl b))) (F'.st rest')->HI F' rest' h'->Fr h.D h'.D rest rest'->eU F F'->Jn h h' a b->G):G:=by
 by_cases e:h.cl a=h.cl b
 ·rw[Td fun q=>q e] at kk;exact kk _ _ _ (nE H ha hb e hbud) ((H.edge _ hbud).grow _) (Fr.grow _ _ _) (eU.refl _) ⟨rfl,rfl,rfl,fun _ q=>q,SE _,fun _ _ _ _=>.inr rfl,SE _,fun q=>SH e q,fun x y=>⟨.inl,fun q=>q.elim id fun q=>q.elim (fun q=>q.1.trans (e.trans q.2.symm)) fun q=>q.1.trans (e.symm.trans q.2.symm)⟩⟩
 ·refine FC (k:=h.cl) e H.rootAt ha hb fun k g hkg kg ik hik ig hig=>?_;refine H.lotref ((H.roots k).mp ⟨ik,hik⟩).1 fun jk hjk _ _=>?_;refine H.lotref ((H.roots g).mp ⟨ig,hig⟩).1 fun jg hjg _ _=>?_;have HJ:=H.joined (l1:=AO.list [aa (h.cl a),aa (h.cl b)]) (l2:=AO.list [aa k,aa g]) (a1:=.tup [aa k,aa g]) (a2:=.tup [aa a,aa b,.tup rs]) (a3:=.int ((F.edges.length:Int)+1-1)) kg hik hig hjk hjg rfl;have O:=nF H ha hb hkg hik hig hjk hjg hbud (rs:=rs);rw[SM e] at kk;refine kk _ _ _ O HJ.1 HJ.2 (eU.refl _) ⟨rfl,rfl,rfl,fun i q=>Te _ q,?_,fun i op ks hi=>?_,TS _,fun _=>rfl,uh hkg⟩;have h1:=jD (k:=k) (new:=rest.length+2) H.keys hig;have h2:=H.avle hig
  ·show(h.wt++h.av g).length+41*(h.abj k g _).length<=_;rw[SP];exact Rg h1 h2
  ·by_cases q:∃ c∈ks,h.cl c=g
   ·obtain⟨c,hc,q⟩:=q;have:=H.kid i op ks hi c hc;rw[q] at this;exact .inl (Tq _ this)
   ·refine .inr (TF fun c hc=>?_);show ew h.cl k g c=_;unfold ew;rw[Sz fun r=>q ⟨c,hc,r⟩]
end
theorem io{α:Type}[DecidableEq α](es:List (α×Nat))(k k':α)(n:Nat):lk (es++[(k',n)]) k=match lk es k with | some m=>some m | none=>if k'=k then some n else none:=by
 unfold lk;rw[List.find?_append]
 cases es.find? fun e=>decide (e.1=k) with
 | some e=>rfl
 | none=>
  by_cases q:k'=k
  ·simp[q]
  ·simp[q]
section
variable{F F':Fx}{rest:St}{h:HS}
structure He(h h':HS)(n op:Nat)(ks:List Nat):Prop where
 ns:h'.ns=h.ns
 ex:h'.ex=[]
 meas:h'.wt.length+41*h'.ab.length<=h.wt.length+41*h.ab.length
 bud:h'.bud=h.bud
 kn:h'.kn=h.kn\/h'.kn=h.kn++[((op,ks.map h.cl),n)]
 cl:(h'.cl=h.cl/\h'.wt=h.wt/\h'.lt=h.lt)\/∃ m,lk h.kn (op,ks.map h.cl)=some m/\∀ x y,h'.cl x=h'.cl y↔h.cl x=h.cl y\/(h.cl x=h.cl m/\h.cl y=h.cl n)\/(h.cl x=h.cl n/\h.cl y=h.cl m)
 hit:∀ m,lk h.kn (op,ks.map h.cl)=some m->h'.cl m=h'.cl n
theorem He.lk{h h':HS}{n op:Nat}{ks:List Nat}(L:He h h' n op ks){d:Nd}{m:Nat}(e:lk h.kn d=some m):lk h'.kn d=some m:=by
 rcases L.kn with q | q
 ·rw[q];exact e
 ·rw[q,io,e]
theorem HI.nodeAt(H:HI F rest h){n op:Nat}{ks:List Nat}(hn:h.ns[n]?=some (op,ks)):F.nodes[n]?=some (aI (op,ks)):=by
 rw[H.nodes,Tv,hn];rfl
theorem HI.kidlt(H:HI F rest h){n op:Nat}{ks:List Nat}(hn:h.ns[n]?=some (op,ks)):∀ k∈ks,k<h.ns.length:=fun k hk=>by
 have:=(H.kids n op ks hn).1 k hk;have:=(SJ.mp hn).1;exact TU ‹_› this
theorem HI.node(H:HI F rest h){n op:Nat}{ks:List Nat}(hn:h.ns[n]?=some (op,ks)):Ok 3 27 [.ref 3,aa n] (F.st rest) (aI (op,ks.map h.cl)) (F.st (rest++[.list ((ks.map h.cl).map aa)])):=
 Bq H.up H.uf (fun k hk=>by rw[H.upl];exact H.kidlt hn k hk) H.upz (by have:=(H.kids n op ks hn).2;exact Sy this (by decide)) (H.nodeAt hn)
theorem HI.knlt(H:HI F rest h){d:Nd}{m:Nat}(e:lk h.kn d=some m):m<h.ns.length:=by
 obtain⟨op,ks,h1,_⟩:=H.inK _ (ff e);exact(SJ.mp h1).1
def E8(F:Fx)(h:HS)(rest:St)(n op:Nat)(ks:List Nat)(G:Prop):Prop:=∀(H:HI F rest h) (hn:h.ns[n]?=some (op,ks)) (hex:h.ex=[n]) (hbud:h.bud+1<=200) (kk:∀ F' rest' h',Ok 4 29 [.ref 3,aa n] (F.st rest) .none (F'.st rest')->HI F' rest' h'->Fr h.D h'.D rest rest'->eU F F'->He h h' n op ks->G),G
def Jd(a:Fx×HS×St×Nat×Nat×List Nat×Prop):Prop:=E8 a.1 a.2.1 a.2.2.1 a.2.2.2.1 a.2.2.2.2.1 a.2.2.2.2.2.1 a.2.2.2.2.2.2
noncomputable def sC:=lK (Dl,G8,default) Jd
noncomputable def E7:=sC.1
noncomputable def gv:=sC.2.1
noncomputable def sB:=sC.2.2.1
noncomputable def BL:=sC.2.2.2.1
noncomputable def ie:=sC.2.2.2.2.1
noncomputable def fN:=sC.2.2.2.2.2.1
noncomputable def RI:=sC.2.2.2.2.2.2
theorem NA:E8 E7 gv sB BL ie fN RI:=fun H hn hex hbud kk=>by
 have hnl:=(SJ.mp hn).1;have hd:az E7.known (aI (ie,fN.map gv.cl))=(lk gv.kn (ie,fN.map gv.cl)).map aa:=by rw[H.known];exact p9 gv.kn _ aa
 have hidem:(fN.map gv.cl).map gv.cl=fN.map gv.cl:=by rw[TG];exact TF fun c _=>H.uf.idem c
 have hkl:E7.known.length+1<=ax:=by have:=H.budW;have:=H.size;rw[H.known,SU];unfold ax;exact Rf ‹_› this
 have pn:=cZ (ie,fN.map gv.cl);have hG:=H.grow [.list ((fN.map gv.cl).map aa)]
 cases hl:lk gv.kn (ie,fN.map gv.cl) with
 | none=>
  have H':HI (E7.t15 (E7.known++[(aI (ie,fN.map gv.cl),aa BL)])) (sB++[.list ((fN.map gv.cl).map aa)]) { gv with kn:=gv.kn++[((ie,fN.map gv.cl),BL)],ex:=[] }:=
   {hG with
    known:=by show E7.known++_=_;rw[H.known,Ta];rfl
    inK:=fun x hx=>by
     rcases S9.mp hx with hx | hx
     ·exact H.inK x hx
     ·rw[SO.mp hx];exact⟨ie,fN,hn,rfl,hidem⟩
    J:=fun i op' ks' hi=>by
     rcases H.J i op' ks' hi with q | q | ⟨m,q1,q2⟩
     ·exact .inl q
     ·rw[hex] at q;obtain rfl:=SO.mp q;rw[hn] at hi;cases hi
      exact .inr (.inr ⟨BL,by show lk (gv.kn++_) _=_;rw[io,hl];simp,rfl⟩)
     ·exact .inr (.inr ⟨m,by show lk (gv.kn++_) _=_;rw[io,q1],q2⟩)
    budW:=by
     have:=H.budW;rw[hex] at this;show(gv.kn++[_]).length+0+_+_<=_;simp at this ⊢;exact this }
  refine kk _ _ _ ?_ H' (Fr.grow _ _ _) (eU.refl _) ⟨rfl,rfl,SE _,rfl,.inr rfl,.inl ⟨rfl,rfl,rfl⟩,fun m' q=>nomatch hl.symm.trans q⟩
  refine .mk rfl rfl fun k hk=>?_;have h1:=H.node hn k (hk);have h2:=H'.hfind hnl k (Sy (by decide) hk)
  rw[hl,Option.map_none] at hd;exists h1,hd,hkl,pn,h2,ug rfl
 | some m=>
  have hm:=H.knlt hl;rw[hl,Option.map_some] at hd
  by_cases e:gv.cl m=gv.cl BL
  ·have H':HI E7 (sB++[.list ((fN.map gv.cl).map aa)]) { gv with ex:=[] }:=
    {hG with
     J:=fun i op' ks' hi=>by
      rcases H.J i op' ks' hi with q | q | ⟨m,q1,q2⟩
      ·exact .inl q
      ·rw[hex] at q;obtain rfl:=SO.mp q;rw[hn] at hi;cases hi
       exact .inr (.inr ⟨m,hl,e⟩)
      ·exact .inr (.inr ⟨m,q1,q2⟩)
     budW:=by have:=H.budW;show gv.kn.length+0+gv.wt.length+41*gv.ab.length<=43*gv.ns.length;exact Pd this }
   refine kk _ _ _ ?_ H' (Fr.grow _ _ _) (eU.refl _) ⟨rfl,rfl,SE _,rfl,.inl rfl,.inl ⟨rfl,rfl,rfl⟩,fun m' q=>SQ (hl.symm.trans q)▸e⟩;refine .mk rfl rfl fun k hk=>?_;have h1:=H.node hn k (hk);have h2:=hG.hfind hnl k (Sy (by decide) hk)
   have h3:=hG.hfind hm k (Sy (by decide) hk)
   exists h1,hd,pn,h2,h3,ug e
  ·refine t9 hG (a:=m) (b:=BL) (rs:=[.sym 14]) hm hnl hbud fun F' rest' h' O H' fr lw jn=>?_;have H'':HI F' rest' { h' with ex:=[] }:=
    {H' with
     J:=fun i op' ks' hi=>by
      have hi':gv.ns[i]?=some (op',ks'):=by rw[<- jn.ns];exact hi
      rcases H'.J i op' ks' hi with q | q | q
      ·exact .inl q
      ·rw[jn.ex,hex] at q;obtain rfl:=SO.mp q;rw[hn] at hi';cases hi'
       rcases jn.tch BL ie fN hn with q | q
       ·exact .inl q
       ·refine .inr (.inr ⟨m,?_,(jn.cl m BL).mpr (.inr (.inl ⟨rfl,rfl⟩))⟩);show lk h'.kn (ie,fN.map h'.cl)=_;rw[jn.kn,q];exact hl
      ·exact .inr (.inr q)
     budW:=by have:=H'.budW;show h'.kn.length+0+h'.wt.length+41*h'.ab.length<=43*h'.ns.length;exact Pd this }
   refine kk _ _ _ ?_ H'' ((Fr.grow _ _ _).trans fr) lw ⟨jn.ns,rfl,jn.meas,jn.budd e,.inl jn.kn,.inr ⟨m,hl,jn.cl⟩,fun m' q=>SQ (hl.symm.trans q)▸(jn.cl m BL).mpr (.inr (.inl ⟨rfl,rfl⟩))⟩;refine .mk rfl rfl fun k hk=>?_;have h1:=H.node hn k (hk);have h2:=hG.hfind hnl k (Sy (by decide) hk)
   have h3:=hG.hfind hm k (Sy (by decide) hk)
   have h4:=O k (hk);exists h1,hd,pn,h2,h3,Dc e,h4
theorem tZ{n op:Nat}{ks:List Nat}{G:Prop}:E8 F h rest n op ks G:=bE Jd NA (F,h,rest,n,op,ks,G)
end
structure bL(ns:List Nd)(R:Nat->Nat->Prop):Prop where
 refl:∀ x,R x x
 symm:∀ x y,R x y->R y x
 trans:∀ x y z,R x y->R y z->R x z
 cong:∀(i j op:Nat) (ks ks':List Nat),ns[i]?=some (op,ks)->ns[j]?=some (op,ks')->ks.length=ks'.length->(∀(t a b:Nat),ks[t]?=some a->ks'[t]?=some b->R a b)->R i j
theorem bL.mrg{ns:List Nd}{R:Nat->Nat->Prop}(C:bL ns R){f:Nat->Nat}{a b x y:Nat}(h:R a b)(S:∀ x y,f x=f y->R x y)(e:f x=f y\/(f x=f a/\f y=f b)\/(f x=f b/\f y=f a)):R x y:=
 e.elim (S x y) fun e=>e.elim (fun e=>C.trans _ _ _ (S x a e.1) (C.trans _ _ _ h (S b y e.2.symm))) fun e=>C.trans _ _ _ (S x b e.1) (C.trans _ _ _ (C.symm _ _ h) (S a y e.2.symm))
def wH(h:HS)(R:Nat->Nat->Prop):Prop:=∀ x y,h.cl x=h.cl y->R x y
section
variable{F F':Fx}{rest:St}{h h':HS}{R:Nat->Nat->Prop}
theorem wH.look(S:wH h R)(H:HI F rest h){n op:Nat}{ks:List Nat}(hn:h.ns[n]?=some (op,ks))(L:He h h' n op ks)(C:bL h.ns R):wH h' R:=by
 intro x y e
 rcases L.cl with⟨q,_⟩ | ⟨m,q1,q2⟩
 ·exact S x y (by rw[q] at e;exact e)
 ·have hmn:R m n:=by
   obtain⟨op',ks',e1,e2,e3⟩:=H.inK _ (ff q1);dsimp only at e1 e2 e3;subst e2;have hidem:(ks.map h.cl).map h.cl=ks.map h.cl:=by rw[TG];exact TF fun c _=>H.uf.idem c
   rw[hidem] at e3;have hl:ks'.length=ks.length:=by have:=Sx List.length e3;simpa using this.symm
   refine C.cong m n _ ks' ks e1 hn hl fun t a b ha hb=>S a b ?_;have:=Sx (·[t]?) e3;simp only[List.getElem?_map,ha,hb,Option.map_some,Option.some.injEq] at this;exact this.symm
  exact C.mrg hmn S ((q2 x y).mp e)
theorem He.mono{n op:Nat}{ks:List Nat}(L:He h h' n op ks){x y:Nat}(e:h.cl x=h.cl y):h'.cl x=h'.cl y:=by
 rcases L.cl with⟨q,_⟩ | ⟨m,q1,q2⟩
 ·rw[q];exact e
 ·exact(q2 x y).mpr (.inl e)
structure Os(h h':HS):Prop where
 ns:h'.ns=h.ns
 ex:h'.ex=[]
 wt:h'.wt=[]
 bud:h'.bud=h.bud
 kn:∀ d m,lk h.kn d=some m->lk h'.kn d=some m
 mono:∀ x y,h.cl x=h.cl y->h'.cl x=h'.cl y
 snd:∀ R,bL h.ns R->wH h R->wH h' R
theorem pz:∀(m:Nat) {F:Fx} {rest:St} {h:HS},HI F rest h->h.ex=[]->h.bud+1<=200->h.wt.length+41*h.ab.length<m->
  ∀(G:Prop),(∀ F' rest' h',(∀(k:Nat) (U:En),4<=k->U 0=some (.ref 3)->dL (fun U Y=>jK (ar ⟨ay aj k⟩ (.cmp .gt (.blt .len [.attr (.loc 0) 12]) (.cst (.int 0))) U Y)) (bm ⟨ay aj k⟩ [.expr (.meth (.loc 0) 47 [.meth (.attr (.loc 0) 12) 29 []])]) m U (F.st rest)=some (none,U,F'.st rest'))->HI F' rest' h'->Fr h.D h'.D rest rest'->eU F F'->Os h h'->G)->G
 :=by
 intro m;induction m with
 | zero=>exact fun _ _ _ hm=>SH hm Re
 | succ m ih=>
  intro F rest h H hex hb hm G kk
  rcases List.eq_nil_or_concat h.wt with hw | ⟨wt,n,hw⟩
  ·refine kk F rest h (fun k U hk h0=>?_) H (Fr.refl _ _) (eU.refl _) ⟨rfl,hex,hw,rfl,fun _ _ e=>e,fun _ _ e=>e,fun _ _ s=>s⟩;have hF:F.waiting.length=0:=by rw[H.wait,hw];rfl
   exact qY (by exists h0,I0 (SD hF))
  ·rw[List.concat_eq_append] at hw;have hnl:n<h.ns.length:=H.wtlt n (by rw[hw];simp)
   obtain⟨⟨op,ks⟩,hn⟩:∃ d,h.ns[n]?=some d:=⟨_,Tu hnl⟩;have hF:F.waiting=wt.map aa++[aa n]:=by rw[H.wait,hw,Ta];rfl
   have H1:HI (F.t17 (wt.map aa)) rest { h with wt:=wt,ex:=[n] }:=
    {H with
     wait:=rfl
     wtlt:=fun i hi=>H.wtlt i (by rw[hw];exact Te _ hi)
     J:=fun i op' ks' hi=>by
      rcases H.J i op' ks' hi with q | q | q
      ·rw[hw] at q
       rcases S9.mp q with q | q
       ·exact .inl q
       ·exact .inr (.inl q)
      ·rw[hex] at q;cases q
      ·exact .inr (.inr q)
     budW:=by
      have:=H.budW;rw[hw,hex] at this;show h.kn.length+1+wt.length+41*h.ab.length<=43*h.ns.length;simp at this;exact Rd this }
   refine tZ H1 hn rfl hb fun F2 rest2 h2 O H2 fr2 lw2 L=>?_;have hmeas:=L.meas;have hwl:h.wt.length=wt.length+1:=by rw[hw];simp
   refine ih H2 L.ex (by rw[L.bud];exact hb) (by dsimp only at hmeas;exact Rc hm hmeas hwl) _ fun F3 rest3 h3 e3 H3 fr3 lw3 st=>?_
   refine kk F3 rest3 h3 (fun k U hk h0=>?_) H3 (fr2.trans fr3) (eU.trans (F':=F2) lw2 lw3) ⟨st.ns.trans L.ns,st.ex,st.wt,st.bud.trans L.bud,fun d m e=>st.kn d m (L.lk e),fun x y e=>st.mono x y (L.mono (h:={ h with wt:=wt,ex:=[n] }) e),fun R C S=>st.snd R (by rw[L.ns];exact C) (wH.look (h:={ h with wt:=wt,ex:=[n] }) S H1 hn L C)⟩
   have hO:=O k hk;have hbody:bm ⟨ay aj k⟩ [.expr (.meth (.loc 0) 47 [.meth (.attr (.loc 0) 12) 29 []])] U (F.st rest)=some (none,U,F2.st rest2):=by
    have g1:F.waiting.getLast?=some (aa n):=by rw[hF];exact List.getLast?_concat
    have g2:∀{F':Fx} {R:St},(F'.st R).set 17 (.list F.waiting.dropLast)=(F'.t17 (wt.map aa)).st R:=by intro F' R;rw[hF,List.dropLast_concat];rfl
    exists h0,g1,g2,hO
   have hcond:jK (ar ⟨ay aj k⟩ (.cmp .gt (.blt .len [.attr (.loc 0) 12]) (.cst (.int 0))) U (F.st rest))=some (true,F.st rest):=by
    exists h0,IZ (b:=0) (by rw[hF,SP];exact Nat.succ_pos _)
   exact Av hcond hbody (e3 k U hk h0)
theorem mo(H:HI F rest h)(hex:h.ex=[])(hb:h.bud+1<=200){G:Prop}
  (kk:∀ F' rest' h',Ok 5 33 [.ref 3] (F.st rest) .none (F'.st rest')->HI F' rest' h'->Fr h.D h'.D rest rest'->eU F F'->Os h h'->G):G:=by
 have hm:h.wt.length+41*h.ab.length<bA:=by have:=H.budW;have:=H.size;unfold bA;exact Rb ‹_› this
 refine pz bA H hex hb hm _ fun F' rest' h' e H' fr lw st=>?_;refine kk F' rest' h' ?_ H' fr lw st;refine .mk rfl rfl fun k hk=>?_;show ea (bm _ [.whl _ _] _ _)=_;rw[seq ((zy ..).trans (e k _ hk rfl))];rfl
end
theorem wY{α:Type}(l:List α):l.zipIdx.map (·.1)=l:=by simp
theorem sD{ns:List Nd}(hn:ns.Nodup){i:Nat}{d:Nd}(h:ns[i]?=some d):lk ns.zipIdx d=some i:=by
 refine nS (by rw[wY];exact hn) ?_
 rw[List.mk_mem_zipIdx_iff_getElem?];exact h
theorem iM{ns:List Nd}{d:Nd}(h:d∉ns):lk ns.zipIdx d=none:=by
 cases e:lk ns.zipIdx d with
 | none=>rfl
 | some j=>
  have:=ff e;rw[List.mk_mem_zipIdx_iff_getElem?] at this;exact SH (Tf this) h
theorem kl(l:List Int):cB (l.map .int)=some l:=by
 induction l with
 | nil=>rfl
 | cons a l ih=>exact Sx (Option.map (a::·)) ih
section
variable{F F':Fx}{rest:St}{h h':HS}
def KV(rest:St)(kv:AV)(ks:List Nat):Prop:=kv=.tup (ks.map aa)\/∃ j,kv=.ref (j+19)/\rest[j]?=some (AO.list (ks.map aa))
theorem pM(H:HI F rest h){i op:Nat}{ks:List Nat}{kv:AV}(hi:h.ns[i]?=some (op,ks))(hk:KV rest kv ks)(hl:ks.length<=50):Ok 1 14 [.ref 4,.sym op,kv] (F.st rest) (aa i) (F.st rest):=by
 refine .mk rfl rfl fun n _=>?_;have hd:az F.numbers (AV.tup ([AV.sym op]++ks.map aa))=some (aa i):=by
  rw[H.numbers];exact(p9 h.ns.zipIdx (op,ks) aa).trans (by rw[sD H.nd hi];rfl)
 have hp:(AV.tup ([AV.sym op]++ks.map aa)).pur=true:=cZ (op,ks);have h5:=vV (a:=.sym op) (vU (f:=aa) (Jh hl));have h6:=Sx Option.isSome hd
 rcases hk with rfl | ⟨j,rfl,hj⟩
 ·exists h5,hd,hp,h6
 ·exists h5,hd,hp,h6,hj
theorem OW:∀ op,op<7->1<=op->f7 op=some [op]/\eH op=some false/\xD op 25=some false/\oX op 0=some op:=by decide
theorem yk{op:Nat}(ho:1<=op/\op<=6):Ok 1 0 [.sym op] (F.st rest) (.bool true) (F.st (rest++[.list [],.list []])):=by
 refine .mk rfl rfl fun n _=>?_;obtain⟨hc,h1,h2,_⟩:=OW op (TV ho.2) ho.1;have h3:ar ⟨ay aj n⟩ (.comp (.loc 2) (.one 2) (.loc 0) [.or (.meth (.loc 2) 33 []) (.cmp .isIn (.loc 2) (.cst (.sym 25)))]) (fun j=>[AV.sym op][j]?) (F.st rest)=some (.ref (rest.length+19),F.st (rest++[.list []])):=by
  refine bl (v:=.sym op) (s:=⟨[.sym op],[]⟩) (Y1:=F.st rest) (Y2:=F.st rest) (vs:=[]) (aF rfl) rfl (by show cO (Option.map _ (f7 op)) _=_;rw[hc];rfl) ?_ (SV rfl) rfl rfl
  exact Ct rfl rfl (oV (Hz (xf (aF rfl) rfl rfl cI (JW h1)) (OV rfl (lY (aF rfl) rfl HF rfl h2)))) (cf rfl)
 exists h3,AE (T0 ho.1)
theorem rT{op:Nat}(ho:1<=op/\op<=6):Ok 2 15 [.ref 4,.sym op] (F.st rest) .none (F.st (rest++[.list [],.list []])):=by
 refine .mk rfl rfl fun n hn=>?_;have h1:=yk (F:=F) (rest:=rest) ho n (hn);have hs:=(OW op (TV ho.2) ho.1).2.2.2;exists h1,hs,AE (Pc ho:op≠9)
theorem zf{p:aw}{b:En->St->RS}{U:En}{Y:St}{α:Type}{i:α->AV}:∀{vs:List α} {U:En},(∀ v∈vs,∀ U:En,U 0=some (.ref 4)->∃ U',bU p (i v) U Y=some U'/\U' 0=some (.ref 4)/\U' 3=U 3/\b U' Y=some (none,U',Y))->U 0=some (.ref 4)->
  ∀(G:Prop),(∀ U',dQ [] p b (vs.map i) U Y=some (none,U',Y)->U' 0=some (.ref 4)->U' 3=U 3->G)->G:=by
 intro vs;induction vs with
 | nil=>exact fun _ h0 _ kk=>kk _ (bT rfl) h0 rfl
 | cons v vs ih=>exact fun h h0 _ kk=>(h v (.head _) _ h0).elim fun U1 e=>ih (fun u hu=>h u (.tail _ hu)) e.2.1 _ fun U2 q1 q2 q3=>kk U2 (ck rfl e.1 e.2.2.2 q1) q2 (q3.trans e.2.2.1)
end
theorem N0{α:Type}(l m:List α)(k:Nat):(l++m)[l.length+k]?=m[k]?:=by rw[TJ (Ra)];congr 1;exact Q9
theorem qz{es:List (AV×AV)}{k v:AV}(h:az es k=none):aT es k v=es++[(k,v)]:=by
 unfold aT;rw[Sz];intro q;simp only[List.any_eq_true,decide_eq_true_eq] at q;obtain⟨e,he,q⟩:=q;unfold az at h;simp at h;exact h _ _ he q
noncomputable abbrev xx:List S:=[.ite (.not (.cmp2 .le .lt (.cst (.int 0)) (.loc 4) (.blt .len [.attr (.loc 0) 0]))) [.raise] []]
theorem uW{F:Fx}{rest:St}{n op:Nat}{ks:List Nat}{U:En}(h0:U 0=some (.ref 4))(h3:U 3=some (aI (op,ks)))(hks:∀ k∈ks,k<F.nodes.length){G:Prop}
  (kk:∀ U',dS ⟨ay aj n⟩ (.for_ (.one 4) (.slc (.loc 3) .tail) xx) U (F.st rest)=some (none,U',F.st rest)->U' 0=some (.ref 4)->U' 3=some (aI (op,ks))->G):G:=by
 have hstep:∀ k∈ks,∀ U:En,U 0=some (.ref 4)->∃ U',bU (.one 4) (aa k) U (F.st rest)=some U'/\U' 0=some (.ref 4)/\U' 3=U 3/\bm ⟨ay aj n⟩ xx U' (F.st rest)=some (none,U',F.st rest):=
  fun k hk U h0=>⟨ag U 4 (aa k),rfl,h0,rfl,by exists(show ag U 4 (aa k) 0=_ from h0),IY (a:=0) (SZ k),Dd (hks k hk)⟩
 refine zf (p:=.one 4) (b:=bm ⟨ay aj n⟩ xx) (Y:=F.st rest) (i:=aa) (vs:=ks) (U:=U) hstep h0 _ fun U' q1 q2 q3=>?_;exact kk U' ((cX (s:=⟨ks.map aa,[]⟩) (lX (aF h3) rfl jF) rfl rfl).trans q1) q2 (q3.trans h3)
section
variable{F F':Fx}{rest:St}{h h':HS}
theorem ma{n a:Nat}{ks:List Nat}{fs:List AV}{ws:List Int}{op:Nat}{U:En}{F1:Fx}{r1 τ:St}{kk:Nat}(h0:U 0=some (.ref 4))(h3:U 3=some (aI (op,ks)))(ha:∀ U':En,U' 0=some (.ref 4)->∃ i,ar ⟨ay aj n⟩ (.attr (.loc 0) a) U' (F1.st r1)=some (.ref i,F1.st r1)/\ai (F1.st r1) i=some fs)
  (hw:fs=ws.map .int) (hl:∀ k∈ks,k<ws.length) (hz:ks.length<=2) (hn:(F1.st r1).length=kk) (hs:F1.st r1++[.list ((ks.map fun k=>ws.getD k 0).map .int)]=τ) :
  ar ⟨ay aj n⟩ (.comp (.sub (.attr (.loc 0) a) (.loc 6)) (.one 6) (.slc (.loc 3) .tail) []) U (F1.st r1)=some (.ref kk,τ):=by
 refine bl (v:=.tup (ks.map aa)) (s:=⟨ks.map aa,[]⟩) (Y1:=F1.st r1) (Y2:=F1.st r1) (vs:=ks.map fun k=>.int (ws.getD k 0)) (lX (aF h3) rfl jF) rfl rfl (cD rfl fun k hk=>⟨_,rfl,rfl,?_⟩) (by rw[SU];exact Sy hz (SV rfl)) hn (by rw[<- hs,TG];rfl)
 obtain⟨i,e1,e2⟩:=ha (ag U 6 (aa k)) h0;have:fs[k]?=some (.int (ws.getD k 0)):=by
  rw[hw,Tv,Tu (hl k hk),UB,Tu (hl k hk)];rfl
 exact hYY (oO e1 rfl (aF rfl) rfl (np e2 (d7 this))) rfl
theorem pN(H:HI F rest h){op:Nat}{ks:List Nat}{kv:AV}(ho:1<=op/\op<=6)(hi:(op,ks)∉h.ns)(hk:KV rest kv ks)(hks:∀ k∈ks,k<h.ns.length)(hl:ks.length<=2){G:Prop}
  (kk:∀(l:St) (w d:Int),Ok 3 14 [.ref 4,.sym op,kv] (F.st rest) (aa h.ns.length)
   (((((F.t6 (F.numbers++[(aI (op,ks),aa h.ns.length)])).t5 (F.nodes++[aI (op,ks)])).t7 (F.weights++[.int w])).t8 (F.depths++[.int d])).st (rest++l))->G):G:=by
 obtain⟨ws,hw,hwl⟩:=H.wts;obtain⟨ds,hdp,hdl⟩:=H.dps;have hns:F.nodes.length=h.ns.length:=by rw[H.nodes,SU]
 have hL:h.ns.length+1<=ax:=Sy (Nat.add_le_add_right H.size 1) (SV rfl);have hnl2:F.weights.length+1<=ax:=by rw[hw,SU,hwl];exact hL
 have hnl3:F.depths.length+1<=ax:=by rw[hdp,SU,hdl];exact hL
 have hnu:F.numbers.length+1<=ax:=by rw[H.numbers,SU,List.length_zipIdx];exact hL
 have hdg:az F.numbers (aI (op,ks))=none:=by
  rw[H.numbers];exact(p9 h.ns.zipIdx (op,ks) aa).trans (by rw[iM hi];rfl)
 have hpt:aT F.numbers (aI (op,ks)) (.int F.nodes.length)=F.numbers++[(aI (op,ks),aa h.ns.length)]:=by rw[hns];exact qz hdg
 let wl:List Int:=ks.map fun k=>ws.getD k 0
 let dl:List Int:=ks.map fun k=>ds.getD k 0
 obtain⟨m1,m2,hdc⟩:=List.exists_cons_of_ne_nil (l:=dl++[0]) (List.append_ne_nil_of_right_ne_nil _ nofun)
 refine kk [.list [],.list [],.list (wl.map .int),.list (dl.map .int),.list [.int 0],.list (dl.map .int++[.int 0])] (1+wl.sum) (1+m2.foldl max m1) ?_;refine .mk rfl rfl fun n hn=>?_;have hq:=rT (F:=F) (rest:=rest) ho n (Sy (by decide) hn)
 have h5:=vV (a:=.sym op) (vU (f:=aa) (Sy hl (SV rfl):ks.length<=99999));have hA:ar ⟨ay aj n⟩ (.bin .add (.tup [.loc 1]) (.blt .tupleOf [.loc 2])) (fun i=>[AV.ref 4,.sym op,kv][i]?) (F.st rest)=some (aI (op,ks),F.st rest):=by
  rcases hk with rfl | ⟨j,rfl,hj⟩
  ·exists nM h5
  ·exists nM h5,hj
 refine uW (n:=n) (F:=F) (rest:=rest++[.list [],.list []]) (op:=op) (ks:=ks) (U:=ag (fun i=>[AV.ref 4,.sym op,kv][i]?) 3 (aI (op,ks))) rfl rfl (by rw[hns];exact hks) fun U' q1 q2 r3=>?_
 have ti:∀{F1:Fx} {r1 τ:St} {kk:Nat},F1.weights=F.weights->(F1.st r1).length=kk->F1.st r1++[.list (wl.map .int)]=τ->ar ⟨ay aj n⟩ (.comp (.sub (.attr (.loc 0) 2) (.loc 6)) (.one 6) (.slc (.loc 3) .tail) []) U' (F1.st r1)=some (.ref kk,τ):=
  fun e hn hs=>ma q2 r3 (fun U' h0=>⟨7,jH (aF h0) rfl rfl,Sx some e⟩) hw (fun k hk=>hwl▸hks k hk) hl hn hs
 have ad':∀{F1:Fx} {r1 τ:St} {kk:Nat},F1.depths=F.depths->(F1.st r1).length=kk->F1.st r1++[.list (dl.map .int)]=τ->ar ⟨ay aj n⟩ (.comp (.sub (.attr (.loc 0) 3) (.loc 6)) (.one 6) (.slc (.loc 3) .tail) []) U' (F1.st r1)=some (.ref kk,τ):=
  fun e hn hs=>ma q2 r3 (fun U' h0=>⟨8,jH (aF h0) rfl rfl,Sx some e⟩) hdp (fun k hk=>hdl▸hks k hk) hl hn hs
 have i1:cB (wl.map .int)=some wl:=kl wl;have i2:cB (dl.map .int++[.int 0])=some (m1::m2):=by rw[<- hdc,<- kl (dl++[0]),Ta];rfl
 have hs6:∀{R:St},(F.st R).set 6 (.dict (aT F.numbers (aI (op,ks)) (.int F.nodes.length)))=(F.t6 (F.numbers++[(aI (op,ks),aa h.ns.length)])).st R:=by intro R;rw[hpt];rfl
 have hl6:(aT F.numbers (aI (op,ks)) (.int F.nodes.length)).length<=ax:=by rw[hpt,SP];exact hnu
 have h7:(dl.map AV.int++[AV.int 0]).length<=ax:=by rw[SP,SU,SU];exact Sy (Nat.add_le_add_right hl 1) (SV rfl)
 have hR:∀{Y:St},i0 .sub Y (.int (F.nodes++[aI (op,ks)]).length) (.int 1)=some (aa h.ns.length,Y):=by intro Y;rw[SP,hns];show some (AV.int ((h.ns.length:Int)+1-1),Y)=_;rw[Int.add_sub_cancel]
 exists hA,cZ _,Sx Option.isSome hdg,hq,q1,q2,r3,hs6,hl6,(hns▸hL:F.nodes.length+1<=ax),ti rfl Kx Kc,ad' rfl Po PN,hnl2,hnl3,i1,i2,h7,hR
end
noncomputable def dd:List Nat->List Nat
 | []=>[]
 | [a]=>[a]
 | [a,b]=>if a=b then[a] else if b<a then[b,a] else[a,b]
 | _=>[]
theorem oh{l:List Nat}(hl:l.length<=2)(x:Nat):x∈dd l↔x∈l:=by
 match l,hl with
 | [],_=>simp[dd]
 | [a],_=>simp[dd]
 | [a,b],_=>
  simp only[dd]
  split
  ·rename_i e;subst e;simp
  ·split<;>simp<;>try (constructor<;>(intro q;rcases q with q | q<;>simp[q]))
theorem zG{l:List Nat}(hl:l.length<=2):(dd l).Nodup:=by
 match l,hl with
 | [],_=>simp[dd]
 | [a],_=>simp[dd]
 | [a,b],_=>
  simp only[dd]
  split
  ·simp
  ·rename_i e
   split<;>simp<;>intro q
   ·exact e q.symm
   ·exact e q
theorem zH{l:List Nat}(hl:l.length<=2):(dd l).length<=2:=by
 match l,hl with
 | [],_=>simp[dd]
 | [a],_=>simp[dd]
 | [a,b],_=>
  simp only[dd]
  split
  ·simp
  ·split<;>simp
theorem yz{α β:Type}{f:α->β}:∀{l:List α} {x y:α},(l.map f).Nodup->x∈l->y∈l->f x=f y->x=y:=by
 intro l;induction l with
 | nil=>exact fun _ h=>nomatch h
 | cons a l ih=>
  intro x y hn hx hy e;have hn:=Th.mp hn;exact(SN.mp hx).elim (fun p=>(SN.mp hy).elim (fun q=>p.trans q.symm) fun q=>SH (SY.mpr ⟨y,q,e.symm.trans (Sx f p)⟩) hn.1)
   fun p=>(SN.mp hy).elim (fun q=>SH (SY.mpr ⟨x,p,e.trans (Sx f q)⟩) hn.1) fun q=>ih hn.2 p q e
theorem FT{l:List Nat}(hl:l.length<=2):∃ ys,ln (l.map aa)=some ys/\bZ ys=some ((dd l).map aa):=by
 match l,hl with
 | [],_=>exact⟨[],rfl,rfl⟩
 | [a],_=>exact⟨_,rfl,rfl⟩
 | [a,b],_=>
  by_cases e:a=b
  ·subst e;exact⟨[aa a],by show some (bif decide (aa a=aa a) then _ else _)=_;rw[SM rfl];rfl,by rw[dd,SI rfl];rfl⟩
  ·refine⟨[aa a,aa b],by show some (bif decide (aa a=aa b) then _ else _)=_;rw[Td fun q=>e (jq.mp q)];rfl,?_⟩
   by_cases q:b<a
   ·rw[dd,Sz e,SI q];exact Eo q
   ·rw[dd,Sz e,Sz q];exact AY (Nat.le_of_not_lt q)
section
variable{F:Fx}
noncomputable abbrev Gx:List S:=[.expr (.meth (.sub (.attr (.loc 0) 4) (.loc 4)) 27 [.loc 3])]
theorem Ac{N jl:Nat}{ab:List (Nat×Nat)}{items:List AV}(hF:F.above=ab.map fun x=>(aa x.1,.ref (x.2+19)))(hk:(ab.map (·.1)).Nodup)(hr:(ab.map (·.2)).Nodup)(hjl:jl∉ab.map (·.2)):∀(cs:List Nat) (r:St) (av:Nat->List Nat),cs.Nodup->
  (∀ c∈cs,∃ j,(c,j)∈ab)->r[jl]?=some (AO.list items)->(∀ x∈ab,r[x.2]?=some (AO.list ((av x.1).map aa))/\(av x.1).length+cs.length<=1000)->
  ∀(G:Prop),(∀ r',(∀(n:Nat) (U:En),U 0=some (.ref 3)->U 3=some (aa N)->∃ U',dQ [(jl+19,some items)] (.one 4) (bm ⟨ay aj n⟩ Gx) (cs.map aa) U (F.st r)=some (none,U',F.st r')/\U' 0=some (.ref 3)/\U' 3=some (aa N))->r'.length=r.length->(∀ j,j∉ab.map (·.2)->r'[j]?=r[j]?)->(∀ x∈ab,r'[x.2]?=some (AO.list ((if x.1∈cs then av x.1++[N] else av x.1).map aa)))->G)->G:=by
 intro cs;induction cs with
 | nil=>exact fun r av _ _ hj ha _ kk=>kk r (fun n U h0 h3=>⟨U,bT (bu hj),h0,h3⟩) rfl (fun _ _=>rfl) fun x hx=>(ha x hx).1
 | cons c cs ih=>
  intro r av hn hc hj ha G kk;obtain⟨jc,hjc⟩:=hc c (.head _);obtain⟨hn1,hn2⟩:=Th.mp hn;have hd:az F.above (aa c)=some (.ref (jc+19)):=by rw[hF];exact(nR ab c fun j=>.ref (j+19)).trans (by rw[nS hk hjc];rfl)
  obtain⟨a1,a2⟩:=ha _ hjc;dsimp only at a1 a2;have hlen:jc<r.length:=(SJ.mp a1).1;have hne:jc≠jl:=fun e=>hjl (e▸SY.mpr ⟨_,hjc,rfl⟩);have hLIM:(av c).length+1<=ax:=by simp only[List.length_cons] at a2;unfold ax;exact Lx a2
  have hb:∀(n:Nat) (U:En),U 0=some (.ref 3)->U 3=some (aa N)->bm ⟨ay aj n⟩ Gx (ag U 4 (aa c)) (F.st r)=some (none,ag U 4 (aa c),F.st (r.set jc (.list ((av c).map aa++[aa N])))):=fun n U h0 h3=>by
   exists(show ag U 4 (aa c) 0=_ from h0),(show ag U 4 (aa c) 3=_ from h3),hd,a1,(by rw[SU];exact hLIM:((av c).map aa).length+1<=ax)
  have same:∀ x∈ab,x.2=jc->x.1=c:=fun x hx e=>by
   exact Sx (·.1) (yz hr hx hjc e)
  have samek:∀ x∈ab,x.1=c->x.2=jc:=fun x hx e=>Sx (·.2) (yz hk hx hjc e);refine ih (r.set jc (.list ((av c).map aa++[aa N]))) (fun x=>if x=c then av c++[N] else av x) hn2 (fun d hd=>hc d (.tail _ hd)) (by rw[Tk hne];exact hj)
   (fun x hx=>by
    by_cases e:x.2=jc
    ·have:=same x hx e;rw[e,TQ hlen,this];simp only[List.length_cons] at a2;refine⟨by simp,by simp;exact Q8 a2⟩
    ·have e':x.1≠c:=fun q=>e (samek x hx q);rw[Tk (fun q=>e q.symm)];simp only[e',if_false];refine⟨(ha x hx).1,?_⟩;have:=(ha x hx).2;simp only[List.length_cons] at this;exact Q7 this) _ fun r' q q4 q5 q6=>?_
  refine kk r' (fun n U h0 h3=>?_) (q4.trans Ul) (fun j hj'=>?_) fun x hx=>?_
  ·obtain⟨U',q1,q2,q3⟩:=q n (ag U 4 (aa c)) h0 h3;refine⟨U',?_,q2,q3⟩;exact ck (bu hj) rfl (hb n U h0 h3) q1
  ·rw[q5 j hj',Tk];intro e;exact hj' (e▸SY.mpr ⟨_,hjc,rfl⟩)
  ·rw[q6 x hx]
   by_cases e:x.1=c
   ·rw[e];simp[hn1]
   ·simp[e]
end
theorem be{α:Type}{P:α->Prop}{a:α}{l:List α}(h:P a)(t:∀ x∈l,P x):∀ x∈a::l,P x:=List.forall_mem_cons.mpr ⟨h,t⟩
section
variable{α:Type}{a b c d e f g:α}{l:List α}
theorem m1:b∈a::b::l:=.tail _ (.head _)
theorem m2:c∈a::b::c::l:=.tail _ m1
theorem m3:d∈a::b::c::d::l:=.tail _ m2
theorem m4:e∈a::b::c::d::e::l:=.tail _ m3
theorem m5:f∈a::b::c::d::e::f::l:=.tail _ m4
theorem m6:g∈a::b::c::d::e::f::g::l:=.tail _ m5
end
theorem ro{es:List (Nat×Nat)}{f g:Nat×Nat->Nat}(h:∀ x∈es,f x<=g x):(es.map f).sum<=(es.map g).sum:=by
 induction es with
 | nil=>exact SE _
 | cons a l ih=>
  have h1:=h a (.head _);have h2:=ih fun x hx=>h x (.tail _ hx);simp only[List.map_cons,List.sum_cons];exact T9 h1 h2
theorem tO{es:List (Nat×Nat)}{f g:Nat×Nat->Nat}:(es.map fun x=>f x+g x).sum=(es.map f).sum+(es.map g).sum:=by
 induction es with
 | nil=>rfl
 | cons a l ih=>simp only[List.map_cons,List.sum_cons,ih];exact Q6
theorem xH(es:List (Nat×Nat)):(es.map fun _=>0).sum=0:=by
 induction es with
 | nil=>rfl
 | cons a l ih=>exact(TZ _).trans ih
theorem AN{es:List (Nat×Nat)}(hn:(es.map (·.1)).Nodup)(c:Nat):(es.map fun x=>if x.1=c then 1 else 0).sum<=1:=by
 induction es with
 | nil=>simp
 | cons a l ih=>
  obtain⟨h1,h2⟩:=Th.mp hn;have:=ih h2;simp only[List.map_cons,List.sum_cons]
  split
  ·rename_i e;have z:(l.map fun x=>if x.1=c then 1 else 0).sum=0:=by
    have:∀ x∈l,x.1≠c:=fun x hx q=>h1 (SY.mpr ⟨x,hx,q.trans e.symm⟩);have:(l.map fun x=>if x.1=c then 1 else 0)=l.map fun _=>0:=TF fun x hx=>by rw[Sz (this x hx)]
    rw[this];exact xH l
   rw[z];exact SE _
  ·rw[TZ];exact this
theorem tN{es:List (Nat×Nat)}(hn:(es.map (·.1)).Nodup):∀ cs:List Nat,(es.map fun x=>if x.1∈cs then 1 else 0).sum<=cs.length
 | []=>by
  simp only[List.not_mem_nil,if_false];clear hn;induction es with
  | nil=>simp
  | cons a l ih=>simpa using ih
 | c::cs=>by
  have h1:=AN hn c;have h2:=tN hn cs;have h3:(es.map fun x=>if x.1∈c::cs then 1 else 0).sum<=(es.map fun x=>(if x.1=c then 1 else 0)+(if x.1∈cs then 1 else 0)).sum:=by
   apply ro;intro x _
   by_cases q1:x.1=c<;>by_cases q2:x.1∈cs<;>simp[q1,q2]
  rw[tO] at h3;simp only[List.length_cons];exact Q5 h1 h2 h3
section
variable{F F':Fx}{rest r4:St}{h:HS}
noncomputable def HS.grown(h:HS)(op:Nat)(ks:List Nat)(jt jn:Nat):HS:=
 {h with
  ns:=h.ns++[(op,ks)]
  ab:=h.ab++[(h.ns.length,jn)]
  av:=fun x=>if x∈dd (ks.map h.cl) then(if x=h.ns.length then[] else h.av x)++[h.ns.length] else(if x=h.ns.length then[] else h.av x)
  lt:=fun x=>if x=h.ns.length then[aa h.ns.length] else h.lt x
  up:=h.up++[h.ns.length]
  lr:=h.lr++[jt]
  ex:=[h.ns.length] }
theorem fW{α:Type}{l:List α}{i:Nat}{a x:α}(h:(l++[a])[i]?=some x):(i<l.length/\l[i]?=some x)\/(i=l.length/\x=a):=by
 rcases Nat.lt_or_ge i l.length with q | q
 ·rw[S8 q] at h;exact .inl ⟨q,h⟩
 ·rw[TJ q] at h
  cases e:i-l.length with
  | zero=>rw[e] at h;exact .inr ⟨Pb q e,(SQ h).symm⟩
  | succ k=>rw[e] at h;cases h
def FF(F:Fx)(h:HS)(rest r4:St)(op:Nat)(ks:List Nat)(jt jn:Nat)(w d:Int):Prop:=∀{F':Fx} (H:HI F rest h) (hi:(op,ks)∉h.ns) (hks:∀ k∈ks,k<h.ns.length) (hl:ks.length<=2) (hsz:h.ns.length+1<=20) (hex:h.ex=[]) (hF:F'=(((((((F.t6 (F.numbers++[(aI (op,ks),aa h.ns.length)])).t5 (F.nodes++[aI (op,ks)])).t7 (F.weights++[.int w])).t8 (F.depths++[.int d])).t10 (F.up++[aa h.ns.length])).t11 (F.lots++[.ref (jt+19)])).t16 (F.above++[(aa h.ns.length,.ref (jn+19))]))) (ht:rest.length<=jt) (hn:rest.length<=jn) (htn:jt≠jn) (hlr:∀ j∈h.lr,r4[j]?=rest[j]?) (hjt:r4[jt]?=some (AO.list [aa h.ns.length])) (hab:∀ x∈(h.grown op ks jt jn).ab,r4[x.2]?=some (AO.list (((h.grown op ks jt jn).av x.1).map aa))),HI F' r4 (h.grown op ks jt jn)
def JC(a:Fx×HS×St×St×Nat×List Nat×Nat×Nat×Int×Int):Prop:=FF a.1 a.2.1 a.2.2.1 a.2.2.2.1 a.2.2.2.2.1 a.2.2.2.2.2.1 a.2.2.2.2.2.2.1 a.2.2.2.2.2.2.2.1 a.2.2.2.2.2.2.2.2.1 a.2.2.2.2.2.2.2.2.2
noncomputable def lG:=lK (Dl,G8,default) JC
noncomputable def B6:=lG.1
noncomputable def aX:=lG.2.1
noncomputable def sL:=lG.2.2.1
noncomputable def JB:=lG.2.2.2.1
noncomputable def NY:=lG.2.2.2.2.1
noncomputable def lF:=lG.2.2.2.2.2.1
noncomputable def FD:=lG.2.2.2.2.2.2.1
noncomputable def qk:=lG.2.2.2.2.2.2.2.1
noncomputable def KA:=lG.2.2.2.2.2.2.2.2.1
noncomputable def Pv:=lG.2.2.2.2.2.2.2.2.2
theorem NZ:FF B6 aX sL JB NY lF FD qk KA Pv:=fun{F'} H hi hks hl hsz hex hF ht hn htn hlr hjt hab=>by
 subst hF;have hcs:∀ x∈dd (lF.map aX.cl),x<aX.ns.length:=fun x hx=>by
  rw[oh (by simpa using hl)] at hx
  obtain⟨k,hk,rfl⟩:=SY.mp hx;exact H.clt (hks k hk)
 have hrt:∀ k j,(k,j)∈aX.ab->k<aX.ns.length:=fun k j hk=>((H.roots k).mp ⟨j,hk⟩).1;have hN:aX.cl aX.ns.length=aX.ns.length:=H.uf.out _ (by rw[H.upl];exact SE _)
 have hD:=Tj.mp H.refs;refine⟨?_,?_,?_,fun i op' ks' hi'=>?_,by show(aX.ns++[_]).length<=20;simp;exact Q4 hsz,?_,?_,?_,?_,?_,?_,?_,fun a j hj=>?_,?_,?_,fun k=>?_,hab,?_,H.known,H.wait,fun x hx=>?_,fun i op' ks' hi' k hk=>?_,fun x hx i hi'=>?_,fun i hi'=>?_,fun i op' ks' hi'=>?_,?_,?_,?_,?_,H.budF,H.budM,H.bud⟩
 ·show B6.nodes++_=(aX.ns++[_]).map aI;rw[H.nodes,Ta];rfl
 ·show B6.numbers++_=(aX.ns++[_]).zipIdx.map _;rw[H.numbers,List.zipIdx_append,Ta];simp
 ·show(aX.ns++[_]).Nodup;refine Tj.mpr ⟨H.nd,by simp,fun a ha b hb e=>?_⟩
  rw[SO.mp hb] at e;subst e;exact hi ha
 ·rcases fW hi' with⟨q,q'⟩ | ⟨rfl,e⟩
  ·exact H.kids i op' ks' q'
  ·cases e;exact⟨hks,hl⟩
 ·obtain⟨ws,e1,e2⟩:=H.wts;exact⟨ws++[KA],by show B6.weights++_=_;rw[e1,Ta];rfl,by show _=(aX.ns++[_]).length;simp[e2]⟩
 ·obtain⟨ws,e1,e2⟩:=H.dps;exact⟨ws++[Pv],by show B6.depths++_=_;rw[e1,Ta];rfl,by show _=(aX.ns++[_]).length;simp[e2]⟩
 ·show B6.up++_=(aX.up++[_]).map aa;rw[H.up,Ta];rfl
 ·show(aX.up++[_]).length=(aX.ns++[_]).length;simp[H.upl]
 ·show UF (aX.up++[_]) aX.cl;refine⟨fun a ha=>?_,H.uf.le,H.uf.idem,fun a ha=>H.uf.out a (by simp at ha;exact Nat.le_of_succ_le ha)⟩
  rcases Nat.lt_or_ge a aX.up.length with q | q
  ·obtain⟨b,e1,e2⟩:=H.uf.step a q;exact⟨b,by rw[S8 q];exact e1,e2⟩
  ·have:a=aX.up.length:=by simp at ha;exact Pa q ha
   subst this;refine⟨aX.ns.length,by simp,by rw[H.upl];exact SE _,by rw[H.upl],fun _=>?_⟩
   rw[H.upl];exact hN
 ·show B6.lots++_=(aX.lr++[_]).map _;rw[H.lots,Ta];rfl
 ·show(aX.lr++[_]).length=(aX.ns++[_]).length;simp[H.lrl]
 ·show JB[j]?=some (AO.list (if a=aX.ns.length then _ else _))
  have hj:(aX.lr++[FD])[a]?=some j:=hj
  rcases Nat.lt_or_ge a aX.lr.length with q | q
  ·rw[S8 q] at hj;have q':=H.lrl;rw[Sz (Q3 q q'),hlr j (Tf hj),H.lotAt a j hj]
  ·rw[TJ q] at hj;have e:a-aX.lr.length=0:=by
    have:=(SJ.mp hj).1;simp at this;exact this
   rw[e] at hj;cases hj
   have q':=H.lrl;rw[SI (Q2 q e q'),hjt]
 ·show B6.above++_=(aX.ab++[_]).map _;rw[H.above,Ta];rfl
 ·show((aX.ab++[(aX.ns.length,qk)]).map (·.1)).Nodup;rw[Ta];refine Tj.mpr ⟨H.keys,by simp,fun a ha b hb e=>?_⟩
  simp at hb;subst hb e;obtain⟨x,hx,e⟩:=SY.mp ha;have h1:=hrt x.1 x.2 hx;have h2:x.1=aX.ns.length:=e;exact O9 e h1
 ·show(∃ j,(k,j)∈aX.ab++[(aX.ns.length,qk)])↔k<(aX.ns++[_]).length/\aX.cl k=k
  constructor
  ·rintro⟨j,hj⟩
   rcases S9.mp hj with hj | hj
   ·have:=(H.roots k).mp ⟨j,hj⟩;exact⟨by simp;exact Q1 this,this.2⟩
   ·simp at hj;obtain⟨rfl,rfl⟩:=hj;exact⟨by simp,hN⟩
  ·rintro⟨r1,r2⟩
   simp at r1
   rcases Nat.lt_or_ge k aX.ns.length with q | q
   ·obtain⟨j,hj⟩:=(H.roots k).mpr ⟨q,r2⟩;exact⟨j,Te _ hj⟩
   ·have:k=aX.ns.length:=Q0 r1 q;subst this;exact⟨qk,by simp⟩
 ·show((aX.lr++[FD])++(aX.ab++[(aX.ns.length,qk)]).map (·.2)).Nodup;rw[Ta];have b1:∀ j∈aX.lr,j<sL.length:=fun j hj=>H.inr (Te _ hj);have b2:∀ j∈aX.ab.map (·.2),j<sL.length:=fun j hj=>H.inr (Tq _ hj);refine Tj.mpr ⟨Tj.mpr ⟨hD.1,by simp,fun a ha b hb e=>?_⟩,Tj.mpr ⟨hD.2.1,by simp,fun a ha b hb e=>?_⟩,fun a ha b hb e=>?_⟩
  ·simp at hb;have:=b1 a ha;exact O8 ht e hb this
  ·simp at hb;have:=b2 a ha;exact O8 hn e hb this
  ·subst e
   rcases S9.mp ha with ha | ha<;>rcases S9.mp hb with hb | hb
   ·exact hD.2.2 a ha a hb rfl
   ·simp at hb;have:=b1 a ha;exact Lw hn hb this
   ·simp at ha;have:=b2 a hb;exact Lw ht ha this
   ·simp at ha hb;exact QZ htn ha hb
 ·obtain⟨op',ks',e1,e2,e3⟩:=H.inK x hx;exact⟨op',ks',by show(aX.ns++[_])[_]?=_;rw[S8 (SJ.mp e1).1];exact e1,e2,e3⟩
 ·show i∈(if aX.cl k∈dd (lF.map aX.cl) then(if aX.cl k=aX.ns.length then[] else aX.av (aX.cl k))++[aX.ns.length] else(if aX.cl k=aX.ns.length then[] else aX.av (aX.cl k)))
  rcases fW hi' with⟨q,q'⟩ | ⟨rfl,e⟩
  ·have h1:=H.kid i op' ks' q' k hk;have h2:aX.cl k≠aX.ns.length:=by
    have:=(H.kids i op' ks' q').1 k hk;have:=H.uf.le k;exact QY q ‹_› this
   rw[Sz h2]
   split
   ·exact Te _ h1
   ·exact h1
  ·cases e
   rw[SI ((oh (by simpa using hl) _).mpr (SY.mpr ⟨k,hk,rfl⟩))]
   simp
 ·show i<(aX.ns++[_]).length;have hi':i∈(if x.1∈dd (lF.map aX.cl) then(if x.1=aX.ns.length then[] else aX.av x.1)++[aX.ns.length] else(if x.1=aX.ns.length then[] else aX.av x.1)):=hi'
  have hx:x∈aX.ab++[(aX.ns.length,qk)]:=hx;have key:∀ i∈(if x.1=aX.ns.length then[] else aX.av x.1),i<aX.ns.length:=fun i hi=>by
   split at hi
   ·cases hi
   ·rename_i q
    rcases S9.mp hx with hx | hx
    ·exact H.avlt x hx i hi
    ·simp at hx;subst hx;exact SH rfl q
  rw[SP,List.length_singleton]
  split at hi'
  ·rcases S9.mp hi' with q | q
   ·have:=key i q;exact TC this
   ·simp at q;exact QX q
  ·have:=key i hi';exact TC this
 ·show i<(aX.ns++[_]).length;have:=H.wtlt i hi';simp;exact TC this
 ·rcases fW hi' with⟨q,q'⟩ | ⟨rfl,e⟩
  ·rcases H.J i op' ks' q' with r | r | r
   ·exact .inl r
   ·rw[hex] at r;cases r
   ·exact .inr (.inr r)
  ·exact .inr (.inl (by show _∈[_];simp))
 ·show((aX.ab++[(aX.ns.length,qk)]).map fun x=>(if x.1∈dd (lF.map aX.cl) then(if x.1=aX.ns.length then[] else aX.av x.1)++[aX.ns.length] else(if x.1=aX.ns.length then[] else aX.av x.1)).length).sum<=2*(aX.ns++[_]).length
  have h1:=H.sumA;have h2:=tN H.keys (dd (lF.map aX.cl));have h3:=zH (l:=lF.map aX.cl) (by simpa using hl)
  have h4:(aX.ab.map fun x=>(if x.1∈dd (lF.map aX.cl) then(if x.1=aX.ns.length then[] else aX.av x.1)++[aX.ns.length] else(if x.1=aX.ns.length then[] else aX.av x.1)).length).sum<=(aX.ab.map fun x=>(aX.av x.1).length+if x.1∈dd (lF.map aX.cl) then 1 else 0).sum:=by
   apply ro;intro x hx;have:=hrt x.1 x.2 hx;rw[Sz (show ¬x.1=aX.ns.length from S7 this)]
   split<;>simp
  rw[tO] at h4;have h5:aX.ns.length∉dd (lF.map aX.cl):=fun q=>by have:=hcs _ q;exact Ui _ this
  rw[Ta,List.sum_append];simp[h5] at h1 h2 h4 ⊢;exact QW h1 h2 h3 h4
 ·show((aX.ab++[(aX.ns.length,qk)]).map fun x=>(if x.1=aX.ns.length then[aa aX.ns.length] else aX.lt x.1).length).sum<=(aX.ns++[_]).length
  have h1:=H.sumL;have h4:(aX.ab.map fun x=>(if x.1=aX.ns.length then[aa aX.ns.length] else aX.lt x.1).length).sum<=(aX.ab.map fun x=>(aX.lt x.1).length).sum:=by
   apply ro;intro x hx;have:=hrt x.1 x.2 hx;rw[Sz (S7 this)];exact SE _
  rw[Ta,List.sum_append];simp at h1 h4 ⊢;exact Sy h4 h1
 ·have:=H.budW;rw[hex] at this;show aX.kn.length+1+aX.wt.length+41*(aX.ab++[_]).length<=43*(aX.ns++[_]).length;simp at this ⊢;exact QV this
 ·have:=H.budE;show B6.edges.length+(aX.ab++[_]).length<=(aX.ns++[_]).length+aX.bud;simp;exact QU this
theorem HI.grown{op:Nat}{ks:List Nat}{jt jn:Nat}{w d:Int}:FF F h rest r4 op ks jt jn w d:=bE JC NZ (F,h,rest,r4,op,ks,jt,jn,w,d)
end
section
variable{F F':Fx}{rest r4:St}{h:HS}
theorem Br{N:Nat}(hu:F.up.length=N)(hl:F.lots.length=N)(hN:N<=100):Ok 1 19 [.ref 9] (F.st rest) (aa N) (((F.t10 (F.up++[aa N])).t11 (F.lots++[.ref (rest.length+19)])).st (rest++[.list [aa N]])):=by
 refine .mk rfl rfl fun n _=>?_;have h1:N+1<=ax:=by unfold ax;exact O7 hN
 exists hu,hl,NM hu,(hu▸h1:F.up.length+1<=ax),(hl▸h1:F.lots.length+1<=ax)
theorem KV.isIt{r:St}{kv:AV}{ks:List Nat}(h:KV r kv ks):kv.isIt=false:=by
 rcases h with rfl | ⟨j,rfl,_⟩<;>rfl
theorem KV.grow{r:St}{kv:AV}{ks:List Nat}(h:KV r kv ks)(l:St):KV (r++l) kv ks:=by
 rcases h with rfl | ⟨j,rfl,hj⟩
 ·exact .inl rfl
 ·exact .inr ⟨j,rfl,by rw[S8 (SJ.mp hj).1];exact hj⟩
theorem oi{C:Calls}{U:En}{r:St}{kv:AV}{ks:List Nat}{e it:X}{p:Nat}{g:Nat->AV}(hkv:KV r kv ks)(hit:ar C it U (F.st r)=some (kv,F.st r))
  (he:∀ k∈ks,one (ar C e (ag U p (aa k)) (F.st r))=some ([g k],F.st r)) (hl:ks.length<=ax):ar C (.comp e (.one p) it []) U (F.st r)=some (.ref (r.length+19),F.st (r++[.list (ks.map g)])):=by
 rcases hkv with rfl | ⟨j,rfl,hj⟩
 ·exact bl (s:=⟨ks.map aa,[]⟩) (Y2:=F.st r) hit rfl rfl (cD rfl fun k hk=>⟨_,rfl,rfl,he k hk⟩) (by rw[SU];exact hl) rfl rfl
 ·have hg:ic (F.st r) [(j+19,some (ks.map aa))]=true:=bu hj;exact bl (s:=⟨ks.map aa,[(j+19,some (ks.map aa))]⟩) (Y2:=F.st r) hit rfl (aU (aJ (cF hj))) (cD hg fun k hk=>⟨_,rfl,rfl,he k hk⟩) (by rw[SU];exact hl) rfl rfl
theorem UF.grow{up:List Nat}{cl:Nat->Nat}(UU:UF up cl):UF (up++[up.length]) cl:=by
 refine⟨fun a ha=>?_,UU.le,UU.idem,fun a ha=>UU.out a (by simp at ha;exact Nat.le_of_succ_le ha)⟩
 rcases Nat.lt_or_ge a up.length with q | q
 ·obtain⟨b,e1,e2⟩:=UU.step a q;exact⟨b,by rw[S8 q];exact e1,e2⟩
 ·have:a=up.length:=by simp at ha;exact Pa q ha
  subst this;exact⟨up.length,by simp,SE _,rfl,fun _=>UU.out _ (SE _)⟩
theorem fI(H:HI F rest h){i op:Nat}{ks:List Nat}{kv:AV}(hi:h.ns[i]?=some (op,ks))(hk:KV rest kv ks)(hl:ks.length<=50):Ok 2 28 [.ref 3,.sym op,kv] (F.st rest) (aa i) (F.st rest):=by
 refine .mk rfl rfl fun n hn=>?_;have h1:=pM H hi hk hl n (hn);have h2:=eM (F:=F) (rest:=rest) n (hn);have h3:F.up.length=h.ns.length:=by rw[H.up,SU,H.upl]
 have h4:i<h.ns.length:=(SJ.mp hi).1;exists h1,h2,Dd (Nat.lt_of_lt_of_eq h4 h3.symm),hk.isIt
structure kZ(h h':HS)(op:Nat)(ks:List Nat):Prop where
 ns:h'.ns=h.ns++[(op,ks)]
 ex:h'.ex=[]
 bud:h'.bud=h.bud
 lk:∀ d m,lk h.kn d=some m->lk h'.kn d=some m
 kn:h'.kn=h.kn\/h'.kn=h.kn++[((op,ks.map h.cl),h.ns.length)]
 cl:(h'.cl=h.cl/\h'.wt=h.wt/\h'.lt=fun x=>if x=h.ns.length then[aa h.ns.length] else h.lt x)\/∃ m,Internal.lk h.kn (op,ks.map h.cl)=some m/\∀ x y,h'.cl x=h'.cl y↔h.cl x=h.cl y\/(h.cl x=h.cl m/\h.cl y=h.cl h.ns.length)\/(h.cl x=h.cl h.ns.length/\h.cl y=h.cl m)
 hit:∀ m,Internal.lk h.kn (op,ks.map h.cl)=some m->h'.cl m=h'.cl h.ns.length
def Gu(F:Fx)(h:HS)(kv:AV)(rest:St)(op:Nat)(ks:List Nat)(G:Prop):Prop:=∀(H:HI F rest h) (ho:1<=op/\op<=6) (hi:(op,ks)∉h.ns) (hk:KV rest kv ks) (hks:∀ k∈ks,k<h.ns.length) (hl:ks.length<=2) (hsz:h.ns.length+1<=20) (hex:h.ex=[]) (hbud:h.bud+1<=200) (kk:∀ F' rest' h',Ok 5 28 [.ref 3,.sym op,kv] (F.st rest) (aa h.ns.length) (F'.st rest')->HI F' rest' h'->Fr h.D h'.D rest rest'->eU F F'->kZ h h' op ks->G),G
def Ka(a:Fx×HS×AV×St×Nat×List Nat×Prop):Prop:=Gu a.1 a.2.1 a.2.2.1 a.2.2.2.1 a.2.2.2.2.1 a.2.2.2.2.2.1 a.2.2.2.2.2.2
noncomputable def tv:=lK (Dl,G8,.none,default) Ka
noncomputable def k7:=tv.1
noncomputable def cm:=tv.2.1
noncomputable def wF:=tv.2.2.1
noncomputable def aA:=tv.2.2.2.1
noncomputable def kR:=tv.2.2.2.2.1
noncomputable def eT:=tv.2.2.2.2.2.1
noncomputable def Sd:=tv.2.2.2.2.2.2
theorem Op:Gu k7 cm wF aA kR eT Sd:=fun H ho hi hk hks hl hsz hex hbud kk=>by
 refine pN H ho hi hk hks hl fun l w d hT=>?_;have hul:k7.up.length=cm.ns.length:=by rw[H.up,SU,H.upl]
 have hll:k7.lots.length=cm.ns.length:=by rw[H.lots,SU,H.lrl]
 have hN:cm.cl cm.ns.length=cm.ns.length:=H.uf.out _ (by rw[H.upl];exact SE _)
 have hclk:∀ k∈eT,cm.cl k<cm.ns.length:=fun k hk=>H.clt (hks k hk);have hrt:∀ x∈cm.ab,x.1<cm.ns.length:=fun x hx=>((H.roots x.1).mp ⟨x.2,hx⟩).1;have hdg:az k7.above (aa cm.ns.length)=none:=by
  rw[H.above];refine(nR cm.ab cm.ns.length fun j=>.ref (j+19)).trans ?_
  cases e:lk cm.ab cm.ns.length with
  | none=>rfl
  | some j=>have:=hrt _ (ff e);dsimp only at this;exact(Ui _ this).elim
 have hpt:∀ v,aT k7.above (aa cm.ns.length) v=k7.above++[(aa cm.ns.length,v)]:=fun v=>qz hdg;have hapl:k7.above.length+1<=ax:=by have:=H.budW;have:=H.size;rw[H.above,SU];unfold ax;exact QT hsz ‹_›
 have hul2:(cm.up++[cm.up.length]).length<=100:=by have:=H.upl;simp;exact QS hsz this
 obtain⟨ys,y1,y2⟩:=FT (l:=eT.map cm.cl) (by simpa using hl)
 have hdd:=zH (l:=eT.map cm.cl) (by simpa using hl)
 generalize hcs:dd (eT.map cm.cl)=cs at y2 hdd;generalize hF1:((((k7.t6 (k7.numbers++[(aI (kR,eT),aa cm.ns.length)])).t5 (k7.nodes++[aI (kR,eT)])).t7 (k7.weights++[.int w])).t8 (k7.depths++[.int d]))=F1 at hT;have u1:F1.up=k7.up:=by rw[<- hF1]
 have u2:F1.lots=k7.lots:=by rw[<- hF1]
 have u3:F1.above=k7.above:=by rw[<- hF1]
 have hM:=Br (F:=F1) (rest:=aA++l) (N:=cm.ns.length) (by rw[u1];exact hul) (by rw[u2];exact hll) (QR hsz)
 rw[u1,u2] at hM;generalize hF2:((F1.t10 (k7.up++[aa cm.ns.length])).t11 (k7.lots++[.ref ((aA++l).length+19)]))=F2 at hM;have v3:F2.above=k7.above:=by rw[<- hF2];exact u3
 have v4:F2.up=k7.up++[aa cm.ns.length]:=by rw[<- hF2]
 let r3:St:=aA++l++[.list [aa cm.ns.length],.list []]
 generalize hF3:(F2.t16 (k7.above++[(aa cm.ns.length,.ref ((aA++l).length+1+19))]))=F3;have z3:F3.above=(cm.ab++[(cm.ns.length,(aA++l).length+1)]).map fun x=>(aa x.1,.ref (x.2+19)):=by
  rw[<- hF3];show k7.above++_=_;rw[H.above,Ta];rfl
 have z4:F3.up=(cm.up++[cm.up.length]).map aa:=by
  rw[<- hF3];show F2.up=_;rw[v4,H.up,Ta,H.upl];rfl
 have hFind:∀ k∈eT,Ok 2 30 [.ref 3,aa k] (F3.st r3) (aa (cm.cl k)) (F3.st r3):=fun k hk=>jZ z4 H.uf.grow (by simp;have:=hks k hk;have:=H.upl;exact QQ ‹_› this) hul2
 have r3l:r3.length=(aA++l).length+2:=by simp[r3];exact QP
 let r5:St:=r3++[.list ((eT.map cm.cl).map aa),.list (cs.map aa)]
 have lown:∀ j,j<aA.length->r5[j]?=aA[j]?:=fun j hj=>by
  show(r3++_)[j]?=_;rw[S8 (by simp[r3];exact QO hj)]
  show(aA++l++_)[j]?=_;rw[S8 (by simp;exact Ug _ hj),S8 hj]
 have g0:r5[(aA++l).length]?=some (AO.list [aa cm.ns.length]):=by
  show(aA++l++[_,_]++[_,_])[_]?=_;rw[SR (aA++l)];exact bM _ _ _
 have g1':r5[(aA++l).length+1]?=some (AO.list []):=by
  show(aA++l++[_,_]++[_,_])[_]?=_;rw[SR (aA++l)];exact iW _ _ _ _
 have g3':r5[r3.length+1]?=some (AO.list (cs.map aa)):=iW _ _ _ _;have hD:=Tj.mp H.refs;have habr:∀ x∈cm.ab,x.2<aA.length:=fun x hx=>H.inr (Tq _ (SY.mpr ⟨x,hx,rfl⟩));have hrl:aA.length<=(aA++l).length:=by simp
 have hcs2:∀ c∈cs,c<cm.ns.length:=fun c hc=>by
  rw[<- hcs,oh (by simpa using hl)] at hc
  obtain⟨k,hk,rfl⟩:=SY.mp hc;exact hclk k hk
 refine Ac (F:=F3) (N:=cm.ns.length) (jl:=r3.length+1) (ab:=cm.ab++[(cm.ns.length,(aA++l).length+1)]) (items:=cs.map aa) z3
  (by
   rw[Ta];refine Tj.mpr ⟨H.keys,by simp,fun a ha b hb e=>?_⟩
   simp at hb;subst hb e;obtain⟨x,hx,e⟩:=SY.mp ha;have h1:=hrt x hx;have h2:x.1=cm.ns.length:=e;exact O9 e h1)
  (by
   rw[Ta];refine Tj.mpr ⟨hD.2.1,by simp,fun a ha b hb e=>?_⟩
   obtain⟨x,hx,rfl⟩:=SY.mp ha;have:=habr x hx;simp at hb;exact QN e this hb)
  (fun q=>by
   rw[Ta] at q
   rcases S9.mp q with q | q
   ·obtain⟨x,hx,e⟩:=SY.mp q;have:=habr x hx;exact QM r3l hrl e this
   ·have q:=SO.mp q;dsimp only at q;exact QL r3l q)
  cs r5 (fun x=>if x=cm.ns.length then[] else cm.av x) (hcs▸zG (by simpa using hl))
  (fun c hc=>by
   rw[<- hcs,oh (by simpa using hl)] at hc
   obtain⟨k,hk,rfl⟩:=SY.mp hc;obtain⟨j,hj⟩:=H.rootAt (hks k hk);exact⟨j,Te _ hj⟩)
  g3'
  (fun x hx=>by
   rcases S9.mp hx with hx | hx
   ·have h1:=hrt x hx;rw[Sz (S7 h1),lown _ (habr x hx)];exact⟨H.abAt x hx,by have:=H.avle (show(x.1,x.2)∈cm.ab from hx);exact QK hdd this⟩
   ·rw[SO.mp hx];dsimp only;rw[SI rfl];exact⟨g1',by simp;exact Sy hdd (by decide)⟩) _ fun r4 hloop q4 q5 q6=>?_
 have hr5:aA.length<=r5.length:=by simp[r5,r3]
 have HG:HI F3 r4 (cm.grown kR eT (aA++l).length ((aA++l).length+1)):=by
  refine H.grown (w:=w) (d:=d) hi hks hl hsz hex (by rw[<- hF3,<- hF2,<- hF1]) hrl (Nat.le_succ_of_le hrl) (O0) (fun j hj=>?_) ?_ fun x hx=>?_
  ·have hjr:=H.inr (Te _ hj);rw[q5 j fun q=>?_,lown j hjr];rw[Ta] at q
   rcases S9.mp q with q | q
   ·exact hD.2.2 j hj j q rfl
   ·simp at q;exact OZ hjr q
  ·rw[q5 _ fun q=>?_,g0];rw[Ta] at q
   rcases S9.mp q with q | q
   ·obtain⟨x,hx,e⟩:=SY.mp q;have:=habr x hx;exact Lw hrl e this
   ·simp at q
  ·rw[q6 x hx,<- hcs];rfl
 have hFr1:Fr cm.D (cm.grown kR eT (aA++l).length ((aA++l).length+1)).D aA r4:=by
  refine⟨QJ q4 hr5,fun j hj hn=>?_,fun j hj=>?_⟩
  ·rw[q5 j fun q=>?_,lown j hj];rw[Ta] at q
   rcases S9.mp q with q | q
   ·exact hn (Tq _ q)
   ·simp at q;exact OZ hj q
  ·have hj:j∈(cm.lr++[(aA++l).length])++(cm.ab++[(cm.ns.length,(aA++l).length+1)]).map (·.2):=hj;rw[Ta] at hj
   rcases S9.mp hj with hj | hj<;>rcases S9.mp hj with hj | hj
   ·exact .inl (Te _ hj)
   ·simp at hj;exact .inr (QI hj)
   ·exact .inl (Tq _ hj)
   ·simp at hj;exact .inr (QH hj)
 have hnN:(cm.grown kR eT (aA++l).length ((aA++l).length+1)).ns[cm.ns.length]?=some (kR,eT):=by
  show(cm.ns++[_])[_]?=_;simp
 refine tZ HG hnN rfl hbud fun F' rest' h' O H' fr lw L=>?_;refine kk F' rest' h' ?_ H' (hFr1.trans fr) (eU.trans (F':=F3) ?_ lw) ⟨L.ns,L.ex,L.bud,fun d m e=>L.lk e,L.kn,L.cl,L.hit⟩
 ·refine .mk rfl rfl fun n hn=>?_;have t1:=hT n (Sy (by decide) hn)
  have t2:=eM (F:=F1) (rest:=aA++l) n (Sy (by decide) hn)
  have t3:=hM n (Sy (by decide) hn)
  have s16:∀{R:St},(F2.st R).set 16 (.dict (aT F2.above (aa cm.ns.length) (.ref ((aA++l).length+1+19))))=F3.st R:=by intro R;rw[v3,hpt,<- hF3];rfl
  have l16:(aT F2.above (aa cm.ns.length) (.ref ((aA++l).length+1+19))).length<=ax:=by rw[v3,hpt,SP];exact hapl
  have hcomp:ar ⟨ay aj n⟩ (.comp (.meth (.loc 0) 41 [.loc 6]) (.one 6) (.loc 2) []) (ag (fun i=>[AV.ref 3,.sym kR,wF][i]?) 3 (aa cm.ns.length)) (F3.st r3)=some (.ref (r3.length+19),F3.st (r3++[.list (eT.map fun k=>aa (cm.cl k))])):=by
   refine oi (ks:=eT) (kv:=wF) ?_ (aF rfl) (fun k hk=>?_) (Sy hl (SV rfl))
   ·show KV (aA++l++_) _ _;rw[SR];exact hk.grow _
   ·exists hFind k hk n (Sy (by decide) hn)
  have hmm:(eT.map fun k=>aa (cm.cl k))=(eT.map cm.cl).map aa:=by rw[TG];rfl
  rw[hmm] at hcomp;have hsrt:ar ⟨ay aj n⟩ (.blt .sorted [.blt .set [.comp (.meth (.loc 0) 41 [.loc 6]) (.one 6) (.loc 2) []]]) (ag (fun i=>[AV.ref 3,.sym kR,wF][i]?) 3 (aa cm.ns.length)) (F3.st r3)=some (.ref (r3.length+1+19),F3.st r5):=by
   exists hcomp,y1,y2
  obtain⟨U',p1,p2,p3⟩:=hloop n (ag (fun i=>[AV.ref 3,.sym kR,wF][i]?) 3 (aa cm.ns.length)) rfl rfl;have hfor:dS ⟨ay aj n⟩ (.for_ (.one 4) (.blt .sorted [.blt .set [.comp (.meth (.loc 0) 41 [.loc 6]) (.one 6) (.loc 2) []]]) Gx) (ag (fun i=>[AV.ref 3,.sym kR,wF][i]?) 3 (aa cm.ns.length)) (F3.st r3)=some (none,U',F3.st r4):=
   (cX (s:=⟨cs.map aa,[(r3.length+1+19,some (cs.map aa))]⟩) hsrt rfl (aU (aJ (cF g3')))).trans p1
  have t5:=O n (hn);exists t1,hk.isIt,t2,De (SD (by rw[u1,hul])),t3,s16,l16,hfor,p2,p3,t5
 ·rw[<- hF3,<- hF2,<- hF1];exact eU.refl k7
theorem fJ{op:Nat}{ks:List Nat}{kv:AV}{G:Prop}:Gu F h kv rest op ks G:=bE Ka Op (F,h,kv,rest,op,ks,G)
end
section
variable{F F':Fx}{rest:St}{h:HS}
theorem cy{s:Nat}{b:Bool}(hb:(s=7\/s=8)/\b=true\/(1<=s/\s<=6)/\b=false):Ok 1 1 [.tup [.sym s]] (F.st rest) (.bool b) (F.st rest):=by
 refine .mk rfl rfl fun n _=>?_
 rcases hb with⟨rfl | rfl,rfl⟩ | ⟨hs,rfl⟩
 ·exists trivial
 ·exists trivial
 ·have h1:eJ s=some s:=by
   have:s=1\/s=2\/s=3\/s=4\/s=5\/s=6:=QG hs
   rcases this with rfl | rfl | rfl | rfl | rfl | rfl<;>rfl
  have h2:∀{Y},bh .eq Y (.sym s) (.sym 9)=some false:=Sx some (AE (Pc hs:s≠9));exists h1,h2
theorem di{v w:AV}{vs:List AV}(hv:vs.length<=40):Ok 1 1 [.tup (v::w::vs)] (F.st rest) (.bool false) (F.st rest):=by
 refine .mk rfl rfl fun n _=>?_;exists iL (b:=1) (o97:vs.length+1+1≠1)
def cG(k:Nat)(F:Fx)(h:HS)(jp jd:Nat)(es:List (AV×AV))(p:AV)(n:Nat):Prop:=
 ∀ rest:St,HI F rest h->rest[jp]?=some (.inst 5 [(14,.ref 3)])->rest[jd]?=some (.dict es)->∃ l:St,Ok k 44 [.ref (jp+19),p,.ref (jd+19)] (F.st rest) (aa n) (F.st (rest++l))
theorem cG.up{k k' jp jd n:Nat}{es:List (AV×AV)}{p:AV}(x:cG k F h jp jd es p n)(e:k<=k'):cG k' F h jp jd es p n:=fun rest H h1 h2=>by
 obtain⟨l,O⟩:=x rest H h1 h2;exact⟨l,O.up e⟩
theorem cG.var{jp jd n s:Nat}{es:List (AV×AV)}(hs:s=7\/s=8)(he:az es (.sym s)=some (aa n)):cG 2 F h jp jd es (.tup [.sym s]) n:=fun rest H h1 h2=>by
 refine⟨[],?_⟩;rw[Ti];refine .mk rfl rfl fun k hk=>?_;have t:=cy (F:=F) (rest:=rest) (.inl ⟨hs,rfl⟩) k (hk);exists t,h2,he
theorem cG.node1{k jp jd n op c:Nat}{es:List (AV×AV)}{p:AV}(x:cG k F h jp jd es p c)(hk:2<=k)(hn:h.ns[n]?=some (op,[c]))(hp:p.isIt=false):cG (k+1) F h jp jd es (.tup [.sym op,p]) n:=fun rest H h1 h2=>by
 obtain⟨l,O⟩:=x rest H h1 h2;have h0:(rest++l++[AO.list [aa c]])[(rest++l).length]?=some (AO.list [aa c]):=bM _ _ _;have HA:=H.grow (l++[AO.list [aa c]]);rw[<- SR] at HA;have A:=fI HA hn (kv:=.ref ((rest++l).length+19)) (.inr ⟨_,rfl,h0⟩) (by simp)
 refine⟨l++[.list [aa c]],?_⟩;rw[<- SR];refine .mk rfl rfl fun m hm=>?_;have t1:=di (F:=F) (rest:=rest) (v:=.sym op) (w:=p) (vs:=[]) (by simp) m (OY hk hm)
 have t2:=O m hm;have t3:=A m (OX hk hm);have hc:ar ⟨ay aj m⟩ (.comp (.meth (.loc 0) 55 [.loc 4,.loc 2]) (.one 4) (.slc (.loc 1) .tail) []) (fun i=>[AV.ref (jp+19),.tup [.sym op,p],.ref (jd+19)][i]?) (F.st rest)=some (.ref ((rest++l).length+19),F.st (rest++l++[.list [aa c]])):=by
  refine bl (v:=.tup [p]) (s:=⟨[p],[]⟩) (Y1:=F.st rest) (Y2:=F.st (rest++l)) (vs:=[aa c]) (by exists trivial) rfl rfl ?_ (SV rfl) rfl rfl
  exists h1,t2,hp
 exists t1,hc,t3,h1
theorem cG.node2{k jp jd n op c c':Nat}{es:List (AV×AV)}{p p':AV}(x:cG k F h jp jd es p c)(x':cG k F h jp jd es p' c')(hk:2<=k)(hn:h.ns[n]?=some (op,[c,c']))(hp:p.isIt=false)(hp':p'.isIt=false):cG (k+1) F h jp jd es (.tup [.sym op,p,p']) n:=fun rest H h1 h2=>by
 obtain⟨l,O⟩:=x rest H h1 h2;have h1':(rest++l)[jp]?=some (AO.inst 5 [(14,.ref 3)]):=by rw[S8 (SJ.mp h1).1];exact h1
 have h2':(rest++l)[jd]?=some (AO.dict es):=by rw[S8 (SJ.mp h2).1];exact h2
 obtain⟨l',O'⟩:=x' (rest++l) (H.grow l) h1' h2';have h0:(rest++l++l'++[AO.list [aa c,aa c']])[(rest++l++l').length]?=some (AO.list [aa c,aa c']):=bM _ _ _;have HA:=((H.grow l).grow l').grow [AO.list [aa c,aa c']];have A:=fI HA hn (kv:=.ref ((rest++l++l').length+19)) (.inr ⟨_,rfl,h0⟩) (by simp)
 refine⟨l++l'++[.list [aa c,aa c']],?_⟩;rw[<- SR,<- SR];refine .mk rfl rfl fun m hm=>?_;have t1:=di (F:=F) (rest:=rest) (v:=.sym op) (w:=p) (vs:=[p']) (by simp) m (OY hk hm)
 have t2:=O m hm;have t2':=O' m hm;have t3:=A m (OX hk hm);have hc:ar ⟨ay aj m⟩ (.comp (.meth (.loc 0) 55 [.loc 4,.loc 2]) (.one 4) (.slc (.loc 1) .tail) []) (fun i=>[AV.ref (jp+19),.tup [.sym op,p,p'],.ref (jd+19)][i]?) (F.st rest)=some (.ref ((rest++l++l').length+19),F.st (rest++l++l'++[.list [aa c,aa c']])):=by
  refine bl (v:=.tup [p,p']) (s:=⟨[p,p'],[]⟩) (Y1:=F.st rest) (Y2:=F.st (rest++l++l')) (vs:=[aa c,aa c']) (by exists trivial) rfl rfl ?_ (SV rfl) rfl rfl
  exists h1,h1',t2,t2',hp,hp'
 exists t1,hc,t3,h1
end
theorem af{r:St}{j:Nat}{o:AO}(h:r[j]?=some o)(l:St):(r++l)[j]?=some o:=by rw[S8 (SJ.mp h).1];exact h
section
variable{F F':Fx}{rest:St}{h:HS}
theorem nz(H:HI F rest h){jp jd d:Nat}{es:List (AV×AV)}(h1:rest[jp]?=some (AO.inst 5 [(14,.ref 3)]))(h2:rest[jd]?=some (AO.dict es))(he:az es (.sym 7)=some (aa d))(hd:d<h.ns.length)(hi:(5,[d])∉h.ns)(hsz:h.ns.length+1<=20)(hex:h.ex=[])(hbud:h.bud+1<=200){G:Prop}
  (kk:∀ F' rest' h',Ok 6 44 [.ref (jp+19),.tup [.sym 5,.tup [.sym 7]],.ref (jd+19)] (F.st rest) (aa h.ns.length) (F'.st rest')->HI F' rest' h'->Fr h.D h'.D rest rest'->eU F F'->kZ h h' 5 [d]->G):G:=by
 obtain⟨l,O⟩:=cG.var (F:=F) (h:=h) (jp:=jp) (jd:=jd) (.inl rfl) he rest H h1 h2;have h0:(rest++l++[AO.list [aa d]])[(rest++l).length]?=some (AO.list [aa d]):=bM _ _ _;have HA:=(H.grow l).grow [AO.list [aa d]];refine fJ HA (op:=5) (ks:=[d]) (kv:=.ref ((rest++l).length+19)) (by decide) hi (.inr ⟨_,rfl,h0⟩) (by simpa using hd) (by simp) hsz hex hbud fun F' rest' h' A H' fr lw ap=>?_
 refine kk F' rest' h' (.mk rfl rfl fun m hm=>?_) H' (((Fr.grow _ _ _).trans (Fr.grow _ _ _)).trans fr) lw ap;have t1:=di (F:=F) (rest:=rest) (v:=.sym 5) (w:=.tup [.sym 7]) (vs:=[]) (by simp) m (Sy (by decide) hm)
 have t2:=O m (Sy (by decide) hm)
 have t3:=A m (hm);have hc:ar ⟨ay aj m⟩ (.comp (.meth (.loc 0) 55 [.loc 4,.loc 2]) (.one 4) (.slc (.loc 1) .tail) []) (fun i=>[AV.ref (jp+19),.tup [.sym 5,.tup [.sym 7]],.ref (jd+19)][i]?) (F.st rest)=some (.ref ((rest++l).length+19),F.st (rest++l++[.list [aa d]])):=by
  refine bl (v:=.tup [.tup [.sym 7]]) (s:=⟨[.tup [.sym 7]],[]⟩) (Y1:=F.st rest) (Y2:=F.st (rest++l)) (vs:=[aa d]) (by exists trivial) rfl rfl ?_ (SV rfl) rfl rfl
  exists h1,t2
 exists t1,hc,t3,h1
theorem Do{jp jd:Nat}{m:Nat}{M:Nat}:ar ⟨ay aj m⟩ (.comp (.meth (.loc 0) M [.loc 4,.loc 2]) (.one 4) (.slc (.loc 1) .tail) []) (fun i=>[AV.ref (jp+19),.tup [.sym 6],.ref (jd+19)][i]?) (F.st rest)=some (.ref (rest.length+19),F.st (rest++[.list []])):=by
 refine bl (v:=.tup []) (s:=⟨[],[]⟩) (Y1:=F.st rest) (Y2:=F.st rest) (vs:=[]) (by exists trivial) rfl rfl ?_ (SV rfl) rfl rfl
 exact cf rfl
theorem nA(H:HI F rest h){jp jd i:Nat}(h1:rest[jp]?=some (AO.inst 5 [(14,.ref 3)]))(hi:h.ns[i]?=some (6,[])) :
  ∃ l:St,Ok 3 44 [.ref (jp+19),.tup [.sym 6],.ref (jd+19)] (F.st rest) (aa i) (F.st (rest++l)):=by
 have h0:(rest++[AO.list []])[rest.length]?=some (AO.list []):=bM _ _ _;have A:=fI (H.grow [AO.list []]) hi (kv:=.ref (rest.length+19)) (.inr ⟨_,rfl,h0⟩) (by simp)
 refine⟨[.list []],.mk rfl rfl fun m hm=>?_⟩;have t1:=cy (F:=F) (rest:=rest) (s:=6) (.inr ⟨by decide,rfl⟩) m (Sy (by decide) hm)
 have t3:=A m (hm);have hc:=Do (F:=F) (rest:=rest) (jp:=jp) (jd:=jd) (m:=m) (M:=55);exists t1,hc,t3,h1
theorem nB(H:HI F rest h){jp jd:Nat}(h1:rest[jp]?=some (AO.inst 5 [(14,.ref 3)]))(hi:(6,[])∉h.ns)(hsz:h.ns.length+1<=20)(hex:h.ex=[])(hbud:h.bud+1<=200){G:Prop}
  (kk:∀ F' rest' h',Ok 6 44 [.ref (jp+19),.tup [.sym 6],.ref (jd+19)] (F.st rest) (aa h.ns.length) (F'.st rest')->HI F' rest' h'->Fr h.D h'.D rest rest'->eU F F'->kZ h h' 6 []->G):G:=by
 have h0:(rest++[AO.list []])[rest.length]?=some (AO.list []):=bM _ _ _;refine fJ (H.grow [AO.list []]) (op:=6) (ks:=[]) (kv:=.ref (rest.length+19)) (by decide) hi (.inr ⟨_,rfl,h0⟩) (by simp) (by simp) hsz hex hbud fun F' rest' h' A H' fr lw ap=>?_
 refine kk F' rest' h' (.mk rfl rfl fun m hm=>?_) H' ((Fr.grow _ _ _).trans fr) lw ap;have t1:=cy (F:=F) (rest:=rest) (s:=6) (.inr ⟨by decide,rfl⟩) m (Sy (by decide) hm)
 have t3:=A m (hm);have hc:=Do (F:=F) (rest:=rest) (jp:=jp) (jd:=jd) (m:=m) (M:=55);exists t1,hc,t3,h1
theorem Bo(H:HI F rest h){j:Nat}(hj:rest[j]?=some (AO.list []))(hl:lk h.kn (1,[])=some 0)(hN:0<h.ns.length):∃ l:St,Ok 3 37 [.ref 3,.sym 1,.ref (j+19)] (F.st rest) (aa (h.cl 0)) (F.st (rest++l)):=by
 have hd:az F.known (.tup [.sym 1])=some (aa 0):=by rw[H.known];exact(p9 h.kn (1,[]) aa).trans (by rw[hl];rfl)
 refine⟨[.list []],.mk rfl rfl fun m hm=>?_⟩;have hc:ar ⟨ay aj m⟩ (.comp (.meth (.loc 0) 41 [.loc 5]) (.one 5) (.loc 2) []) (fun i=>[AV.ref 3,.sym 1,.ref (j+19)][i]?) (F.st rest)=some (.ref (rest.length+19),F.st (rest++[.list []])):=by
  exact oi (ks:=[]) (g:=aa) (.inr ⟨j,rfl,hj⟩) (by exists trivial) (fun k hk=>by cases hk) (by simp)
 have hf:=(H.grow [AO.list []]).hfind hN m (hm);have hp:AV.pur (.tup [.sym 1])=true:=rfl;have hg:(az F.known (.tup ([.sym 1]++[]))).getD (.int (-1))=aa 0:=by rw[show([.sym 1]++[]:List AV)=[.sym 1] from rfl,hd];rfl
 exists hc,hg,hp,De (b:=0) (SZ 0),hf
theorem rY(H:HI F rest h){jp jd d:Nat}{es:List (AV×AV)}(h1:rest[jp]?=some (AO.inst 5 [(14,.ref 3)]))(h2:rest[jd]?=some (AO.dict es))(he:az es (.sym 7)=some (aa d))(hd:d<h.ns.length) :
  Ok 3 45 [.ref (jp+19),.tup [.sym 7],.ref (jd+19)] (F.st rest) (aa (h.cl d)) (F.st rest):=by
 refine .mk rfl rfl fun m hm=>?_;have t1:=cy (F:=F) (rest:=rest) (s:=7) (.inl ⟨.inl rfl,rfl⟩) m (Sy (by decide) hm)
 have hf:=H.hfind hd m (hm);exists t1,h1,h2,he,hf
theorem rZ(H:HI F rest h){jp jd:Nat}(h1:rest[jp]?=some (AO.inst 5 [(14,.ref 3)]))(hl:lk h.kn (1,[])=some 0)(hN:0<h.ns.length) :
  ∃ l:St,Ok 4 45 [.ref (jp+19),.tup [.sym 1],.ref (jd+19)] (F.st rest) (aa (h.cl 0)) (F.st (rest++l)):=by
 have h0:(rest++[AO.list []])[rest.length]?=some (AO.list []):=bM _ _ _;obtain⟨l,O⟩:=Bo (H.grow [AO.list []]) h0 hl hN;refine⟨[.list []]++l,?_⟩;rw[<- SR];refine .mk rfl rfl fun m hm=>?_;have t1:=cy (F:=F) (rest:=rest) (s:=1) (.inr ⟨by decide,rfl⟩) m (Sy (by decide) hm)
 have t2:=O m (hm);have hc:ar ⟨ay aj m⟩ (.comp (.meth (.loc 0) 56 [.loc 5,.loc 2]) (.one 5) (.slc (.loc 1) .tail) []) (fun i=>[AV.ref (jp+19),.tup [.sym 1],.ref (jd+19)][i]?) (F.st rest)=some (.ref (rest.length+19),F.st (rest++[.list []])):=by
  refine bl (v:=.tup []) (s:=⟨[],[]⟩) (Y1:=F.st rest) (Y2:=F.st rest) (vs:=[]) (by exists trivial) rfl rfl ?_ (SV rfl) rfl rfl
  exact cf rfl
 have h1':=af h1 [AO.list []];exists t1,h1',hc,t2
theorem yl(H:HI F rest h){jp jd d s:Nat}{es:List (AV×AV)}(h1:rest[jp]?=some (AO.inst 5 [(14,.ref 3)]))(h2:rest[jd]?=some (AO.dict es))(he:az es (.sym 7)=some (aa d))(hd:d<h.ns.length)(hl:lk h.kn (1,[])=some 0) :
  ∃ l:St,Ok 5 46 [.ref (jp+19),.tup [.sym s,.tup [.sym 7],.tup [.sym 1]],.ref (jd+19)] (F.st rest) (.bool (decide (h.cl d=h.cl 0)==decide (s=11))) (F.st (rest++l)):=by
 obtain⟨l,O⟩:=rZ (jd:=jd) H h1 hl (Nat.zero_lt_of_lt hd);refine⟨l,.mk rfl rfl fun m hm=>?_⟩;have t1:=rY H h1 h2 he hd m (Sy (by decide) hm)
 have t2:=O m (hm);have t3:decide (aa (h.cl d)=AV.int (-1))=false:=Td fun q=>by have:=AV.int.inj q;exact Nr this
 have t4:decide (aa (h.cl d)=aa (h.cl 0))=decide (h.cl d=h.cl 0):=decide_eq_decide.mpr ms;have t5:decide (AV.sym s=AV.sym 11)=decide (s=11):=decide_eq_decide.mpr ⟨AV.sym.inj,fun q=>q▸rfl⟩;have t6:∀{Y},bh .eq Y (aa (h.cl d)) (aa (h.cl 0))=some (decide (h.cl d=h.cl 0)):=Sx some t4;have t7:∀{Y},bh .eq Y (.sym s) (.sym 11)=some (decide (s=11)):=Sx some t5;exists t1,t2,t3,t6,t7,af h1
end
inductive Cg (ns:List Nd) (ps:List (Nat×Nat)):Nat->Nat->Prop
 | refl (x:Nat):Cg ns ps x x
 | symm {x y:Nat}:Cg ns ps x y->Cg ns ps y x
 | trans {x y z:Nat}:Cg ns ps x y->Cg ns ps y z->Cg ns ps x z
 | pair {x y:Nat}:(x,y)∈ps->Cg ns ps x y
 | cong {i j op:Nat} {ks ks':List Nat}:ns[i]?=some (op,ks)->ns[j]?=some (op,ks')->ks.length=ks'.length->(∀(t a b:Nat),ks[t]?=some a->ks'[t]?=some b->Cg ns ps a b)->Cg ns ps i j
theorem Cg.congR(ns:List Nd)(ps:List (Nat×Nat)):bL ns (Cg ns ps):=⟨.refl,fun _ _=>.symm,fun _ _ _=>.trans,fun _ _ _ _ _=>.cong⟩
theorem Cg.least{ns:List Nd}{ps:List (Nat×Nat)}{R:Nat->Nat->Prop}(C:bL ns R)(hp:∀ x y,(x,y)∈ps->R x y){x y:Nat}(h:Cg ns ps x y):R x y:=by
 induction h with
 | refl x=>exact C.refl x
 | symm _ ih=>exact C.symm _ _ ih
 | trans _ _ i1 i2=>exact C.trans _ _ _ i1 i2
 | pair h=>exact hp _ _ h
 | cong h1 h2 h3 _ ih=>exact C.cong _ _ _ _ _ h1 h2 h3 ih
theorem bL.app{ns:List Nd}{d:Nd}{R:Nat->Nat->Prop}(C:bL (ns++[d]) R):bL ns R:=
 ⟨C.refl,C.symm,C.trans,fun i j op ks ks' h1 h2=>C.cong i j op ks ks' (by rw[S8 (SJ.mp h1).1];exact h1) (by rw[S8 (SJ.mp h2).1];exact h2)⟩
theorem bL.nil{ns:List Nd}{R:Nat->Nat->Prop}(C:bL ns R):bL [] R:=⟨C.refl,C.symm,C.trans,fun i j op ks ks' h1=>by cases h1⟩
theorem Cg.mono{ns:List Nd}{d:Nd}{ps ps':List (Nat×Nat)}(hp:∀ x∈ps,x∈ps'){x y:Nat}(h:Cg ns ps x y):Cg (ns++[d]) ps' x y:=h.least (Cg.congR _ _).app fun x y q=>.pair (hp _ q)
theorem Cg.monoP{ns:List Nd}{ps ps':List (Nat×Nat)}(hp:∀ x∈ps,x∈ps'){x y:Nat}(h:Cg ns ps x y):Cg ns ps' x y:=h.least (Cg.congR _ _) fun x y q=>.pair (hp _ q)
theorem nT(cl:Nat->Nat):bL [] (fun x y=>cl x=cl y):=⟨fun _=>rfl,fun _ _ e=>e.symm,fun _ _ _ e f=>e.trans f,fun i j op ks ks' h1=>by cases h1⟩
theorem EV{f g:Nat->Nat}(f1:∀ x,f x<=x)(f2:∀ x,f (f x)=f x)(g1:∀ x,g x<=x)(g2:∀ x,g (g x)=g x)(e:∀ x y,f x=f y↔g x=g y)(x:Nat):f x=g x:=by
 have a:=(e (f x) x).mp (f2 x);have b:=(e (g x) x).mpr (g2 x);have c:=g1 (f x);have d:=f1 (g x);exact Nq a b c d
inductive Rk | c | x | h
noncomputable def Rk.av:Rk->AV
 | .c=>.tup [.sym 6] | .x=>.tup [.sym 7] | .h=>.tup [.sym 5,.tup [.sym 7]]
noncomputable def qj(ws:List Nd)(d:Nd):Nat×List Nd:=match lk ws.zipIdx d with | some i=>(i,ws) | none=>(ws.length,ws++[d])
noncomputable def aK(rt:Rk)(ws:List Nd)(d:Nat):Nat×List Nd:=match rt with | .x=>(d,ws) | .c=>qj ws (6,[]) | .h=>qj ws (5,[d])
noncomputable abbrev W:=List Nd×List (Nat×Nat)
open Classical in
noncomputable def same(ns:List Nd)(ps:List (Nat×Nat))(a b:Nat):Bool:=decide (Cg ns ps a b)
noncomputable def EU(like:Option Bool)(w:W)(d:Nat):Bool:=match like with | some b=>same w.1 w.2 d 0 != b | none=>false
noncomputable def bj(like:Option Bool)(rt:Rk)(w:W)(n d:Nat):Bool×W:=
 if EU like w d then(false,w) else
  let r:=aK rt w.1 d
  if same (if like.isSome then r.2 else[]) w.2 n r.1 then(false,(r.2,w.2)) else(true,(r.2,w.2++[(n,r.1)]))
open Classical in
open Classical in
theorem nk{ns:List Nd}{ps:List (Nat×Nat)}{a b:Nat}{p:Prop}[Decidable p](h:Cg ns ps a b↔p):same ns ps a b=decide p:=by
 unfold same;exact decide_eq_decide.mpr h
noncomputable def dB(ws:List Nd)(n:Nat):Nat:=(ws[n]?.map (·.1)).getD 0
structure cq(like:Option Bool)(rt:Rk)(P:List (Nat×Nat))(w:W)(h:HS):Prop where
 ns:h.ns=w.1
 ex:h.ex=[]
 one:lk h.kn (1,[])=some 0
 pairs:∀ x y,(x,y)∈w.2->h.cl x=h.cl y
 snd:wH h (Cg w.1 w.2)
 plt:∀ x∈w.2,x.1<w.1.length/\x.2<w.1.length
 na:like=none->rt≠.h->wH h (Cg [] w.2)
 nh:like=none->rt=.h->∀ n y,n≠y->h.cl n=h.cl y->dB w.1 n=3\/dB w.1 n=4->∃ d r,(n,d)∈P/\(n,r)∈w.2/\w.1[r]?=some (5,[d])
section
variable{F:Fx}{rest:St}{h h':HS}{like:Option Bool}{rt:Rk}{P:List (Nat×Nat)}{w:W}
theorem sA{f:Nat->Nat}:∀{l m:List Nat},l.length=m.length->(∀(t a b:Nat),l[t]?=some a->m[t]?=some b->f a=f b)->l.map f=m.map f:=by
 intro l;induction l with
 | nil=>exact fun{m} e _=>by cases m with | nil=>rfl | cons=>exact nomatch e
 | cons a l ih=>
  intro m e h
  cases m with
  | nil=>exact nomatch e
  | cons b m=>exact(congr (Sx List.cons (h 0 a b rfl rfl)) (ih (Nat.succ.inj e) fun t x y p q=>h (t+1) x y p q):f a::l.map f=f b::m.map f)
theorem HI.keyAt(H:HI F rest h)(hex:h.ex=[])(hwt:h.wt=[]){i op:Nat}{ks:List Nat}(hi:h.ns[i]?=some (op,ks)):∃ m,lk h.kn (op,ks.map h.cl)=some m/\h.cl m=h.cl i:=
 (H.J i op ks hi).elim (fun q=>nomatch(hwt▸q:i∈[])) fun q=>q.elim (fun q=>nomatch(hex▸q:i∈[])) id
theorem gI(H:HI F rest h)(hex:h.ex=[])(hwt:h.wt=[]):bL h.ns (fun x y=>h.cl x=h.cl y):=by
 refine⟨fun _=>rfl,fun _ _ e=>e.symm,fun _ _ _ e f=>e.trans f,fun i j op ks ks' h1 h2 hl hk=>?_⟩;obtain⟨m,m1,m2⟩:=H.keyAt hex hwt h1;obtain⟨m',m3,m4⟩:=H.keyAt hex hwt h2;rw[sA hl hk,m3] at m1;exact m2.symm.trans ((Sx h.cl (SQ m1).symm).trans m4)
theorem cq.settle(S:cq like rt P w h)(st:Os h h')(hl:like.isSome):cq like rt P w h':=by
 refine⟨st.ns.trans S.ns,st.ex,st.kn _ _ S.one,fun x y q=>st.mono _ _ (S.pairs x y q),st.snd _ (by rw[S.ns];exact Cg.congR _ _) S.snd,S.plt,fun q=>?_,fun q=>?_⟩<;>(subst q;cases hl)
theorem HI.keyop(H:HI F rest h){d:Nd}{m:Nat}(e:lk h.kn d=some m):∃ ks,h.ns[m]?=some (d.1,ks)/\d.2.map h.cl=ks.map h.cl:=by
 obtain⟨op,ks,e1,e2,e3⟩:=H.inK _ (ff e);dsimp only at e1 e2 e3;subst e2;exact⟨ks,e1,e3⟩
theorem kZ.congr(A:kZ h h' op ks)(H:HI F rest h)(hks:∀ k∈ks,k<h.ns.length){R:Nat->Nat->Prop}(S:wH h R)(C:bL (h.ns++[(op,ks)]) R):wH h' R:=by
 intro x y e
 rcases A.cl with⟨q,_⟩ | ⟨m,q1,q2⟩
 ·exact S x y (by rw[q] at e;exact e)
 ·have hmn:R m h.ns.length:=by
   obtain⟨ks',e1,e3⟩:=H.keyop q1;dsimp only at e1 e3;have hidem:(ks.map h.cl).map h.cl=ks.map h.cl:=by rw[TG];exact TF fun c _=>H.uf.idem c
   rw[hidem] at e3;have hl:ks'.length=ks.length:=by have:=Sx List.length e3;simpa using this.symm
   refine C.cong m h.ns.length op ks' ks (by rw[S8 (SJ.mp e1).1];exact e1) (by simp) hl fun t a b ha hb=>S a b ?_
   have:=Sx (·[t]?) e3;simp only[List.getElem?_map,ha,hb,Option.map_some,Option.some.injEq] at this;exact this.symm
  exact C.mrg hmn S ((q2 x y).mp e)
theorem kZ.mono(A:kZ h h' op ks){x y:Nat}(e:h.cl x=h.cl y):h'.cl x=h'.cl y:=by
 rcases A.cl with⟨q,_⟩ | ⟨m,q1,q2⟩
 ·rw[q];exact e
 ·exact(q2 x y).mpr (.inl e)
theorem kZ.complete(A:kZ h h' op ks)(H:HI F rest h)(hks:∀ k∈ks,k<h.ns.length)(hex:h.ex=[])(hwt:h.wt=[]):bL (h.ns++[(op,ks)]) (fun x y=>h'.cl x=h'.cl y):=by
 have C:=Internal.gI H hex hwt;have hN:h.cl h.ns.length=h.ns.length:=H.uf.out _ (by rw[H.upl];exact SE _)
 have low:∀ a b,a<h.ns.length->b<h.ns.length->h'.cl a=h'.cl b->h.cl a=h.cl b:=fun a b ha hb e=>by
  rcases A.cl with⟨q,_⟩ | ⟨m,q1,q2⟩
  ·rw[q] at e;exact e
  ·have h1:=H.uf.le a;have h2:=H.uf.le b
   rcases(q2 a b).mp e with q | ⟨r1,r2⟩ | ⟨r1,r2⟩
   ·exact q
   ·exact Np hN hb h2 r2
   ·exact No hN ha h1 r1
 have one:∀(i:Nat) (ks1:List Nat),h.ns[i]?=some (op,ks1)->ks1.length=ks.length->(∀(t a b:Nat),ks1[t]?=some a->ks[t]?=some b->h'.cl a=h'.cl b)->h'.cl i=h'.cl h.ns.length:=fun i ks1 hi hl hk=>by
  have e:=sA (f:=h.cl) hl fun t a b ha hb=>low a b (by have:=(H.kids i op ks1 hi).1 a (Tf ha);have:=(SJ.mp hi).1;exact TU ‹_› this) (hks b (Tf hb)) (hk t a b ha hb)
  obtain⟨m,m1,m2⟩:=H.keyAt hex hwt hi;rw[e] at m1;exact(A.mono m2).symm.trans (A.hit m m1)
 refine⟨fun _=>rfl,fun _ _ e=>e.symm,fun _ _ _ e f=>e.trans f,fun i j op' k1 k2 h1 h2 hl hk=>?_⟩
 rcases fW h1 with⟨a1,a2⟩ | ⟨rfl,a2⟩<;>rcases fW h2 with⟨b1,b2⟩ | ⟨rfl,b2⟩
 ·refine A.mono (C.cong i j op' k1 k2 a2 b2 hl fun t a b ha hb=>low a b ?_ ?_ (hk t a b ha hb))
  ·have:=(H.kids i op' k1 a2).1 a (Tf ha);exact TU this a1
  ·have:=(H.kids j op' k2 b2).1 b (Tf hb);exact TU this b1
 ·cases b2
  exact one i k1 a2 hl hk
 ·cases a2
  exact(one j k2 b2 hl.symm fun t a b ha hb=>(hk t b a hb ha).symm).symm
 ·rfl
end
def KP(r:St)(D:List Nat)(os:List (Nat×AO)):Prop:=∀ x∈os,r[x.1]?=some x.2/\x.1∉D
theorem KP.fr{r r':St}{D D':List Nat}{os:List (Nat×AO)}(k:KP r D os)(f:Fr D D' r r'):KP r' D' os:=fun x hx=>by
 obtain⟨h1,h2⟩:=k x hx;have:=(SJ.mp h1).1;refine⟨f.at h1 h2,fun q=>?_⟩
 rcases f.new _ q with q | q
 ·exact h2 q
 ·exact Uo q this
theorem KP.grow{r:St}{D:List Nat}{os:List (Nat×AO)}(k:KP r D os)(l:St):KP (r++l) D os:=k.fr (Fr.grow _ _ _)
theorem dF{ws:List Nd}{n op:Nat}{ks:List Nat}(h:ws[n]?=some (op,ks)):dB ws n=op:=by unfold dB;rw[h];rfl
theorem yi{ws:List Nd}{n:Nat}{d:Nd}(h:n<ws.length):dB (ws++[d]) n=dB ws n:=by unfold dB;rw[S8 h]
theorem jm{ws:List Nd}{n:Nat}(h:dB ws n=3\/dB ws n=4):n<ws.length:=by
 rcases Nat.lt_or_ge n ws.length with q | q
 ·exact q
 ·have:dB ws n=0:=by unfold dB;rw[List.getElem?_eq_none_iff.mpr q];rfl
  exact Nn h this
section
variable{F:Fx}{rest:St}{h h':HS}{like:Option Bool}{rt:Rk}{P:List (Nat×Nat)}{w:W}
theorem cq.add(S:cq like rt P w h)(H:HI F rest h){op:Nat}{ks:List Nat}{d:Nat}(A:kZ h h' op ks)(hnot:(op,ks)∉h.ns)(hks:∀ k∈ks,k<h.ns.length)(hrt:(rt=.c/\op=6/\ks=[])\/(rt=.h/\op=5/\ks=[d])):cq like rt P (w.1++[(op,ks)],w.2) h':=by
 have hN:h.cl h.ns.length=h.ns.length:=H.uf.out _ (by rw[H.upl];exact SE _)
 refine⟨by rw[A.ns,S.ns],A.ex,A.lk _ _ S.one,fun x y q=>A.mono (S.pairs x y q),?_,fun x hx=>?_,fun hl hr=>?_,fun hl hr=>?_⟩
 ·refine A.congr H hks (fun x y e=>(S.snd x y e).mono fun x q=>q) ?_;rw[S.ns];exact Cg.congR _ _
 ·have:=S.plt x hx;simp only[List.length_append,List.length_singleton];exact Nm this
 ·rcases hrt with⟨_,rfl,rfl⟩ | ⟨e,_⟩
  ·rcases A.cl with⟨q,_⟩ | ⟨m,q1,q2⟩
   ·intro x y e;rw[q] at e;exact S.na hl hr x y e
   ·obtain⟨ks',e1,e2⟩:=H.keyop q1;have:ks'=[]:=by cases ks' with
     | nil=>rfl
     | cons a l=>simp at e2
    subst this;exact SH (Tf e1) hnot
  ·exact SH e hr
 ·intro n y hny e ho;have hfg:=ho
  rcases hrt with⟨e,_⟩ | ⟨_,rfl,rfl⟩
  ·rw[e] at hr;cases hr
  ·have ho:dB (w.1++[(5,[d])]) n=3\/dB (w.1++[(5,[d])]) n=4:=ho;have hnN:n≠h.ns.length:=by
    intro q;have:dB (w.1++[(5,[d])]) n=5:=by rw[q,S.ns];exact dF (by simp;rfl)
    exact Nl ho this
   have hlt:=jm ho;simp only[List.length_append,List.length_singleton] at hlt;have hlt:n<w.1.length:=by rw[S.ns] at hnN;exact Nk hnN hlt
   rw[yi hlt] at ho;have old:∀ z,n≠z->h.cl n=h.cl z->∃ d' r,(n,d')∈P/\(n,r)∈w.2/\(w.1++[(5,[d])])[r]?=some (5,[d']):=fun z hz ez=>by
    obtain⟨d',r,h1,h2,h3⟩:=S.nh hl hr n z hz ez ho;exact⟨d',r,h1,h2,by rw[S8 (SJ.mp h3).1];exact h3⟩
   rcases A.cl with⟨q,_⟩ | ⟨m,q1,q2⟩
   ·rw[q] at e;exact old y hny e
   ·obtain⟨ks',e1,_⟩:=H.keyop q1
    rcases(q2 n y).mp e with q | ⟨r1,r2⟩ | ⟨r1,r2⟩
    ·exact old y hny q
    ·refine old m (fun q=>?_) r1;rw[q,dF (op:=5) (by rw[<- S.ns];exact e1)] at ho
     exact IW ho
    ·exact old _ hnN r1
theorem cq.joined(S:cq like rt P w h){n r d:Nat}(J:Jn h h' n r)(hP:(n,d)∈P)(hn:n<w.1.length)(hr:r<w.1.length)(hh:rt=.h->w.1[r]?=some (5,[d])):cq like rt P (w.1,w.2++[(n,r)]) h':=by
 have mon:∀{ns:List Nd} {x y:Nat},Cg ns w.2 x y->Cg ns (w.2++[(n,r)]) x y:=fun q=>q.monoP fun x q=>Te _ q;have new:∀{ns:List Nd},Cg ns (w.2++[(n,r)]) n r:=.pair (by simp)
 have ext:∀{ns:List Nd},wH h (Cg ns w.2)->wH h' (Cg ns (w.2++[(n,r)])):=fun s x y e=>by
  rcases(J.cl x y).mp e with q | ⟨r1,r2⟩ | ⟨r1,r2⟩
  ·exact mon (s x y q)
  ·exact(mon (s x n r1)).trans (new.trans (mon (s r y r2.symm)))
  ·exact(mon (s x r r1)).trans (new.symm.trans (mon (s n y r2.symm)))
 refine⟨J.ns.trans S.ns,J.ex.trans S.ex,by rw[J.kn];exact S.one,fun x y q=>?_,ext S.snd,fun x hx=>?_,fun hl ht=>ext (S.na hl ht),fun hl ht n1 y hny e ho=>?_⟩
 ·rcases S9.mp q with q | q
  ·exact(J.cl x y).mpr (.inl (S.pairs x y q))
  ·simp at q;obtain⟨rfl,rfl⟩:=q;exact(J.cl x y).mpr (.inr (.inl ⟨rfl,rfl⟩))
 ·rcases S9.mp hx with q | q
  ·exact S.plt x q
  ·rw[SO.mp q];exact⟨hn,hr⟩
 ·have old:∀ z,n1≠z->h.cl n1=h.cl z->∃ d r',(n1,d)∈P/\(n1,r')∈w.2++[(n,r)]/\w.1[r']?=some (5,[d]):=fun z hz ez=>by
   obtain⟨d',r',h1,h2,h3⟩:=S.nh hl ht n1 z hz ez ho;exact⟨d',r',h1,Te _ h2,h3⟩
  rcases(J.cl n1 y).mp e with q | ⟨r1,r2⟩ | ⟨r1,r2⟩
  ·exact old y hny q
  ·by_cases q:n1=n
   ·subst q;exact⟨d,r,hP,by simp,hh ht⟩
   ·exact old n q r1
  ·refine old r (fun q=>?_) r1;subst q;rw[dF (hh ht)] at ho;exact IW ho
theorem cq.idle(S:cq like rt P w h){n r:Nat}(J:Jn h h' n r)(e:h.cl n=h.cl r):cq like rt P w h':=by
 have k:∀ x y,h'.cl x=h'.cl y↔h.cl x=h.cl y:=fun x y=>by
  rw[J.cl x y];exact⟨fun q=>q.elim id fun q=>q.elim (fun q=>q.1.trans (e.trans q.2.symm)) fun q=>q.1.trans (e.symm.trans q.2.symm),.inl⟩
 refine⟨J.ns.trans S.ns,J.ex.trans S.ex,by rw[J.kn];exact S.one,fun x y q=>(k x y).mpr (S.pairs x y q),fun x y q=>S.snd x y ((k x y).mp q),S.plt,fun hl ht x y q=>S.na hl ht x y ((k x y).mp q),fun hl ht n1 y hny q=>S.nh hl ht n1 y hny ((k n1 y).mp q)⟩
theorem cq.answer(S:cq like rt P w h)(H:HI F rest h){n r d:Nat}(hP:(n,d)∈P)(hfun:∀ d',(n,d')∈P->d'=d)(hn:dB w.1 n=3\/dB w.1 n=4)(hnr:n≠r)(hh:rt=.h->w.1[r]?=some (5,[d]))(hc:like.isSome->bL w.1 (fun x y=>h.cl x=h.cl y)) :
  same (if like.isSome then w.1 else[]) w.2 n r=decide (h.cl n=h.cl r):=by
 apply nk
 cases hl:like with
 | some b=>
  rw[hl] at hc;exact⟨fun q=>q.least (hc rfl) S.pairs,fun q=>S.snd n r q⟩
 | none=>
  refine⟨fun q=>q.least (nT h.cl) S.pairs,fun q=>?_⟩
  by_cases ht:rt=.h
  ·obtain⟨d',r',h1,h2,h3⟩:=S.nh hl ht n r hnr q hn;rw[hfun d' h1] at h3;have:r'=r:=by
    exact Db (S.ns▸H.nd) h3 (hh ht)
   subst this;exact .pair h2
  ·exact S.na hl ht n r q
end
inductive Lf | f1 | f2 | gxy | gxx
noncomputable def Lf.av:Lf->AV
 | .f1=>.tup [.sym 3,.tup [.sym 7]] | .f2=>.tup [.sym 3,.tup [.sym 3,.tup [.sym 7]]]
 | .gxy=>.tup [.sym 4,.tup [.sym 7],.tup [.sym 8]] | .gxx=>.tup [.sym 4,.tup [.sym 7],.tup [.sym 7]]
inductive cU (ws:List Nd):Lf->Nat->Nat->List AV->Prop
 | f1 {n d:Nat}:ws[n]?=some (3,[d])->cU ws .f1 n d [.tup [.sym 7,aa d]]
 | f2 {n k d:Nat}:ws[n]?=some (3,[k])->ws[k]?=some (3,[d])->cU ws .f2 n d [.tup [.sym 7,aa d]]
 | gxy {n d e:Nat}:ws[n]?=some (4,[d,e])->cU ws .gxy n d [.tup [.sym 7,aa d],.tup [.sym 8,aa e]]
 | gxx {n d:Nat}:ws[n]?=some (4,[d,d])->cU ws .gxx n d [.tup [.sym 7,aa d]]
theorem fL{ws l:List Nd}{n:Nat}{x:Nd}(h:ws[n]?=some x):(ws++l)[n]?=some x:=by rw[S8 (SJ.mp h).1];exact h
theorem cU.app{ws l:List Nd}{lf:Lf}{n d:Nat}{fv:List AV}(p:cU ws lf n d fv):cU (ws++l) lf n d fv:=by
 cases p with
 | f1 h=>exact .f1 (fL h)
 | f2 h k=>exact .f2 (fL h) (fL k)
 | gxy h=>exact .gxy (fL h)
 | gxx h=>exact .gxx (fL h)
theorem cU.op{ws:List Nd}{lf:Lf}{n d:Nat}{fv:List AV}(p:cU ws lf n d fv):dB ws n=3\/dB ws n=4:=by
 cases p with
 | f1 h=>exact .inl (dF h)
 | f2 h k=>exact .inl (dF h)
 | gxy h=>exact .inr (dF h)
 | gxx h=>exact .inr (dF h)
theorem cU.dlt{ws:List Nd}{lf:Lf}{n d:Nat}{fv:List AV}(p:cU ws lf n d fv)(hk:∀(i op:Nat) (ks:List Nat),ws[i]?=some (op,ks)->∀ k∈ks,k<i):d<n:=by
 cases p with
 | f1 h=>exact hk _ _ _ h d (by simp)
 | f2 h k=>exact TU (hk _ _ _ k d (by simp)) (hk _ _ _ h _ (by simp))
 | gxy h=>exact hk _ _ _ h d (by simp)
 | gxx h=>exact hk _ _ _ h d (by simp)
theorem cU.data{ws:List Nd}{lf:Lf}{n d:Nat}{fv:List AV}(p:cU ws lf n d fv):∃ es es',fb fv=some es/\es.length<=8/\es.foldl (fun es p=>aT es p.1 p.2) []=es'/\az es' (.sym 7)=some (aa d)/\fv.length<=2/\
  ∀(F:Fx) (h:HS) (jp jd:Nat),h.ns=ws->cG 4 F h jp jd es' lf.av n:=by
 cases p with
 | f1 h=>
  refine⟨_,_,rfl,by simp,rfl,rfl,by simp,fun F h' jp jd e=>?_⟩
  subst e;exact(cG.node1 (k:=2) (cG.var (.inl rfl) rfl) (by decide) h rfl).up (by decide)
 | f2 h k=>
  refine⟨_,_,rfl,by simp,rfl,rfl,by simp,fun F h' jp jd e=>?_⟩
  subst e;exact(cG.node1 (k:=3) (cG.node1 (k:=2) (cG.var (.inl rfl) rfl) (by decide) k rfl) (by decide) h rfl).up (by decide)
 | gxy h=>
  refine⟨_,_,rfl,by simp,rfl,rfl,by simp,fun F h' jp jd e=>?_⟩
  subst e;exact(cG.node2 (k:=2) (cG.var (.inl rfl) rfl) (cG.var (.inr rfl) rfl) (by decide) h rfl rfl).up (by decide)
 | gxx h=>
  refine⟨_,_,rfl,by simp,rfl,rfl,by simp,fun F h' jp jd e=>?_⟩
  subst e;exact(cG.node2 (k:=2) (cG.var (.inl rfl) rfl) (cG.var (.inl rfl) rfl) (by decide) h rfl rfl).up (by decide)
theorem nW{ws:List Nd}{d:Nd}{i:Nat}(hn:ws.Nodup)(h:ws[i]?=some d):qj ws d=(i,ws):=by unfold qj;rw[sD hn h]
theorem nX{ws:List Nd}{d:Nd}(h:d∉ws):qj ws d=(ws.length,ws++[d]):=by unfold qj;rw[iM h]
section
variable{F:Fx}{rest:St}{h:HS}{like:Option Bool}{rt:Rk}{P:List (Nat×Nat)}{w:W}
theorem qb{α:Type}(l:List α)(a:α):l.length<(l++[a]).length:=by rw[SP];exact T8 _
theorem ny(S:cq like rt P w h)(H:HI F rest h){jp jd d n:Nat}{es:List (AV×AV)}(h1:rest[jp]?=some (AO.inst 5 [(14,.ref 3)]))(h2:rest[jd]?=some (AO.dict es))(he:az es (.sym 7)=some (aa d))(hdn:d<n)(hn:dB w.1 n=3\/dB w.1 n=4)
  (hsz:h.ns.length+1<=20) (hbud:h.bud+1<=200) {G:Prop}
  (kk:∀ F' rest' h',Ok 6 44 [.ref (jp+19),rt.av,.ref (jd+19)] (F.st rest) (aa (aK rt w.1 d).1) (F'.st rest')->HI F' rest' h'->Fr h.D h'.D rest rest'->eU F F'->cq like rt P ((aK rt w.1 d).2,w.2) h'->h'.bud=h.bud->(rt=.h->(aK rt w.1 d).2[(aK rt w.1 d).1]?=some (5,[d]))->(aK rt w.1 d).1<(aK rt w.1 d).2.length->n≠(aK rt w.1 d).1->(∃ l,(aK rt w.1 d).2=w.1++l/\l.length<=1)->(h.wt=[]->bL (aK rt w.1 d).2 (fun x y=>h'.cl x=h'.cl y))->G):G:=by
 have hnl:n<h.ns.length:=by rw[S.ns];exact jm hn
 have hd:d<h.ns.length:=TU hdn hnl;have nd:=H.nd;rw[S.ns] at nd;have ne:∀{i op:Nat} {ks:List Nat},w.1[i]?=some (op,ks)->op=5\/op=6->n≠i:=fun hi ho q=>by
  subst q;rw[dF hi] at hn;exact Nj hn ho
 have Hc:h.wt=[]->bL w.1 (fun x y=>h.cl x=h.cl y):=fun hw=>by rw[<- S.ns];exact gI H S.ex hw
 cases rt with
 | x=>
  obtain⟨l,O⟩:=cG.var (F:=F) (h:=h) (jp:=jp) (jd:=jd) (.inl rfl) he rest H h1 h2;exact kk F _ h (O.up (by decide)) (H.grow l) (Fr.grow _ _ _) (eU.refl _) S rfl nofun (S.ns▸hd) (T0 hdn) ⟨[],(Ti _).symm,SZ _⟩ Hc
 | c=>
  by_cases q:(6,[])∈w.1
  ·obtain⟨i,hi⟩:=T5.mp q;have e:aK .c w.1 d=(i,w.1):=nW nd hi;rw[e] at kk;obtain⟨l,O⟩:=nA H (jd:=jd) h1 (by rw[S.ns];exact hi)
   exact kk F _ h (O.up (by decide)) (H.grow l) (Fr.grow _ _ _) (eU.refl _) S rfl nofun (SJ.mp hi).1 (ne hi (.inr rfl)) ⟨[],(Ti _).symm,SZ _⟩ Hc
  ·have e:aK .c w.1 d=(w.1.length,w.1++[(6,[])]):=nX q;rw[e] at kk;have q':(6,[])∉h.ns:=by rw[S.ns];exact q
   refine nB H (jd:=jd) h1 q' hsz S.ex hbud fun F' rest' h' O H' fr lw A=>?_;exact kk F' rest' h' (S.ns▸O) H' fr lw (S.add (d:=d) H A q' nofun (.inl ⟨rfl,rfl,rfl⟩)) A.bud nofun (qb _ _) (S7 (S.ns▸hnl)) ⟨_,rfl,SE _⟩ fun hw=>S.ns▸A.complete H nofun S.ex hw
 | h=>
  by_cases q:(5,[d])∈w.1
  ·obtain⟨i,hi⟩:=T5.mp q;have e:aK .h w.1 d=(i,w.1):=nW nd hi;rw[e] at kk;obtain⟨l,O⟩:=cG.node1 (F:=F) (h:=h) (jp:=jp) (jd:=jd) (k:=2) (n:=i) (op:=5) (c:=d) (cG.var (.inl rfl) he) (by decide) (by rw[S.ns];exact hi) rfl rest H h1 h2
   exact kk F _ h (O.up (by decide)) (H.grow l) (Fr.grow _ _ _) (eU.refl _) S rfl (fun _=>hi) (SJ.mp hi).1 (ne hi (.inl rfl)) ⟨[],(Ti _).symm,SZ _⟩ Hc
  ·have e:aK .h w.1 d=(w.1.length,w.1++[(5,[d])]):=nX q;rw[e] at kk;have q':(5,[d])∉h.ns:=by rw[S.ns];exact q
   refine nz H h1 h2 he hd q' hsz S.ex hbud fun F' rest' h' O H' fr lw A=>?_;have hd':∀ k∈[d],k<h.ns.length:=fun k hk=>SO.mp hk▸hd;exact kk F' rest' h' (S.ns▸O) H' fr lw (S.add (d:=d) H A q' hd' (.inr ⟨rfl,rfl,rfl⟩)) A.bud (fun _=>UA) (qb _ _) (S7 (S.ns▸hnl)) ⟨_,rfl,SE _⟩ fun hw=>S.ns▸A.complete H hd' S.ex hw
end
noncomputable def aO:Option Bool->List AV
 | none=>[]
 | some b=>[.tup [.sym (if b then 11 else 12),.tup [.sym 7],.tup [.sym 1]]]
noncomputable abbrev ci(lf:Lf)(rt:Rk)(like:Option Bool):AO:=.inst 4 [(15,.sym 15),(16,lf.av),(17,rt.av),(18,.tup (aO like))]
theorem Lf.it(lf:Lf):lf.av.isIt=false:=by cases lf<;>rfl
theorem Rk.it(rt:Rk):rt.av.isIt=false:=by cases rt<;>rfl
section
variable{F:Fx}{rest:St}{h:HS}{like:Option Bool}{rt:Rk}{P:List (Nat×Nat)}{w:W}{lf:Lf}
theorem vF{F':Fx}{rest':St}{k:Nat}{a b c v:AV}(ha:a.isIt=false)(hb:b.isIt=false)(hc:c.isIt=false)(hv:v.isIt=false)(O:Ok k 32 [.ref 3,a,b,c] (F.st rest) v (F'.st rest')):Ok (k+1) 31 [.ref 3,a,b,c] (F.st rest) v (F'.st rest'):=by
 refine .mk rfl rfl fun m hm=>?_;have t:=O m hm;exists t,ha,hb,hc,hv
noncomputable abbrev fX(rn ru jd:Nat)(fv:List AV):En:=ag (fun i=>[AV.ref (rn+19),.ref (ru+19),.tup fv][i]?) 3 (.ref (jd+19))
theorem oA(S:cq like rt P w h)(H:HI F rest h){rn ru jd:Nat}{fs:List (Nat×AV)}{fv:List AV}(hR:rest[rn]?=some (AO.inst 6 fs))(f14:fs.lookup 14=some (.ref 3))(hUU:rest[ru]?=some (ci lf rt like))(hbud:h.bud+1<=200){G:Prop}
  (kk:∀ F' rest' h',(∀ m,8<=m->dS ⟨ay aj m⟩ (.ite (.cmp .ne (.attr (.loc 1) 18) (.tup [])) [.expr (.meth (.attr (.loc 0) 14) 49 [])] []) (fX rn ru jd fv) (F.st rest)=some (none,fX rn ru jd fv,F'.st rest'))->HI F' rest' h'->Fr h.D h'.D rest rest'->eU F F'->cq like rt P w h'->h'.bud=h.bud->(like.isSome->h'.wt=[])->G):G:=by
 cases like with
 | none=>
  refine kk F rest h (fun m hm=>?_) H (Fr.refl _ _) (eU.refl _) S rfl nofun
  have hp:AV.pur (.tup [])=true:=rfl;exists hUU,hp
 | some b=>
  refine mo H S.ex hbud fun F' rest' h' O H' fr lw st=>?_;refine kk F' rest' h' (fun m hm=>?_) H' fr lw (S.settle st rfl) st.bud fun _=>st.wt;have hp:AV.pur (.tup [])=true:=rfl;have hp2:AV.pur (.tup [.tup [.sym (if b=true then 11 else 12),.tup [.sym 7],.tup [.sym 1]]])=true:=by cases b<;>rfl
  have t:=O m (Sy (by decide) hm)
  exists hUU,hp,hp2,hR,f14,t
theorem qR(S:cq like rt P w h)(H:HI F rest h){rn ru pl jd d:Nat}{fs:List (Nat×AV)}{es:List (AV×AV)}{fv:List AV}(hR:rest[rn]?=some (AO.inst 6 fs))(f22:fs.lookup 22=some (.ref (pl+19)))(hUU:rest[ru]?=some (ci lf rt like))(hp:rest[pl]?=some (AO.inst 5 [(14,.ref 3)]))
  (hd:rest[jd]?=some (AO.dict es)) (he:az es (.sym 7)=some (aa d)) (hdl:d<h.ns.length) (hw:like.isSome->h.wt=[]) :
  ∃ l:St,∀ m,8<=m->ar ⟨ay aj m⟩ (.cmp .ne (.comp (.loc 7) (.one 7) (.attr (.loc 1) 18) [.not (.meth (.attr (.loc 0) 22) 57 [.loc 7,.loc 3])]) (.lst [])) (fX rn ru jd fv) (F.st rest)=some (.bool (EU like w d),F.st (rest++l)):=by
 cases like with
 | none=>
  refine⟨[.list [],.list []],fun m hm=>?_⟩;have hc:ar ⟨ay aj m⟩ (.comp (.loc 7) (.one 7) (.attr (.loc 1) 18) [.not (.meth (.attr (.loc 0) 22) 57 [.loc 7,.loc 3])]) (fX rn ru jd fv) (F.st rest)=some (.ref (rest.length+19),F.st (rest++[.list []])):=by
   refine bl (v:=.tup []) (s:=⟨[],[]⟩) (Y1:=F.st rest) (Y2:=F.st rest) (vs:=[]) (by exists hUU) rfl rfl ?_ (SV rfl) rfl rfl
   exact cf rfl
  show ar _ _ _ _=some (.bool (!decide (([]:List AV)=[])),_);exists hc
 | some b=>
  obtain⟨l,O⟩:=yl (s:=if b=true then 11 else 12) H hp hd he hdl S.one
  have hsame:same w.1 w.2 d 0=decide (h.cl d=h.cl 0):=by
   apply nk;have C:=gI H S.ex (hw rfl);rw[S.ns] at C;exact⟨fun q=>q.least C S.pairs,fun q=>S.snd _ _ q⟩
  have hb:decide ((if b=true then 11 else 12)=11)=b:=by cases b<;>rfl
  rw[hb] at O
  let nd:AV:=.tup [.sym (if b=true then 11 else 12),.tup [.sym 7],.tup [.sym 1]]
  obtain⟨c,hc⟩:∃ c,(decide (h.cl d=h.cl 0)==b)=c:=⟨_,rfl⟩;rw[hc] at O
  let ls:List AV:=bif c then[] else[nd]
  refine⟨l++[.list ls,.list []],fun m hm=>?_⟩;rw[<- SR];have t:=O m (Sy (by decide) hm)
  have hn:nd.isIt=false:=rfl;have hpn:AV.pur nd=true:=by cases b<;>rfl
  have hl:ls.length<=1/\(AV.purs ls&&AV.purs [])=true/\EU (some b) w d=!decide (ls=[])/\bx [] (.one 7) (fX rn ru jd fv) (Cp ⟨ay aj m⟩ [.not (.meth (.attr (.loc 0) 22) 57 [.loc 7,.loc 3])]) (fun U' Y'=>one (ar ⟨ay aj m⟩ (.loc 7) U' Y')) [nd] (F.st rest)=some (ls,F.st (rest++l)):=by
   have hm:EU (some b) w d=!c:=by show(same w.1 w.2 d 0 != b)=_;rw[hsame,<- hc];rfl
   rw[hm];show List.length (bif _ then _ else _)<=1/\(AV.purs (bif _ then _ else _)&&_)=true/\_=!decide ((bif _ then _ else _)=_)/\_=some ((bif _ then _ else _),_)
   cases c with
   | true=>exact⟨SZ _,rfl,rfl,by exists hR,f22,hp,t,hn⟩
   | false=>exact⟨SE _,by show(([nd].all AV.pur)&&true)=true;rw[List.all_cons,hpn];rfl,rfl,by exists hR,f22,hp,t,hn⟩
  rw[hl.2.2.1];have hc:ar ⟨ay aj m⟩ (.comp (.loc 7) (.one 7) (.attr (.loc 1) 18) [.not (.meth (.attr (.loc 0) 22) 57 [.loc 7,.loc 3])]) (fX rn ru jd fv) (F.st rest)=some (.ref ((rest++l).length+19),F.st (rest++l++[.list ls])):=
   bl (v:=.tup [nd]) (s:=⟨[nd],[]⟩) (Y1:=F.st rest) (Y2:=F.st (rest++l)) (vs:=ls) (by exists hUU) rfl rfl hl.2.2.2 (Sy hl.1 (SV rfl)) rfl rfl
  exists hc,hl.2.1
def EN(F:Fx)(h:HS)(rt:Rk)(lf:Lf)(rest:St)(P:List (Nat×Nat))(w:W)(rn ru pl n d:Nat)(fs:List (Nat×AV))(fv:List AV)(G:Prop):Prop:=∀{like:Option Bool} (S:cq like rt P w h) (H:HI F rest h) (f14:fs.lookup 14=some (.ref 3)) (f22:fs.lookup 22=some (.ref (pl+19))) (K:KP rest h.D [(rn,.inst 6 fs),(ru,ci lf rt like),(pl,.inst 5 [(14,.ref 3)])]) (p:cU w.1 lf n d fv) (hP:(n,d)∈P) (hfun:∀ d',(n,d')∈P->d'=d) (hsz:h.ns.length+1<=20) (hbud:h.bud+1<=200) (kk:∀ F' rest' h',Ok 9 50 [.ref (rn+19),.ref (ru+19),.tup fv] (F.st rest) (.bool (bj like rt w n d).1) (F'.st rest')->HI F' rest' h'->Fr h.D h'.D rest rest'->eU F F'->cq like rt P (bj like rt w n d).2 h'->h'.bud<=h.bud+1->(∃ l,(bj like rt w n d).2.1=w.1++l/\l.length<=1)->G),G
def IA(a:Fx×HS×Rk×Lf×St×List (Nat×Nat)×W×Nat×Nat×Nat×Nat×Nat×List (Nat×AV)×List AV×Prop):Prop:=EN a.1 a.2.1 a.2.2.1 a.2.2.2.1 a.2.2.2.2.1 a.2.2.2.2.2.1 a.2.2.2.2.2.2.1 a.2.2.2.2.2.2.2.1 a.2.2.2.2.2.2.2.2.1 a.2.2.2.2.2.2.2.2.2.1 a.2.2.2.2.2.2.2.2.2.2.1 a.2.2.2.2.2.2.2.2.2.2.2.1 a.2.2.2.2.2.2.2.2.2.2.2.2.1 a.2.2.2.2.2.2.2.2.2.2.2.2.2.1 a.2.2.2.2.2.2.2.2.2.2.2.2.2.2
noncomputable def fK:=lK (Dl,G8,.c,.f1,default) IA
noncomputable def Iz:=fK.1
noncomputable def Kv:=fK.2.1
noncomputable def eN:=fK.2.2.1
noncomputable def sj:=fK.2.2.2.1
noncomputable def cz:=fK.2.2.2.2.1
noncomputable def QE:=fK.2.2.2.2.2.1
noncomputable def pU:=fK.2.2.2.2.2.2.1
noncomputable def lA:=fK.2.2.2.2.2.2.2.1
noncomputable def ly:=fK.2.2.2.2.2.2.2.2.1
noncomputable def nL:=fK.2.2.2.2.2.2.2.2.2.1
noncomputable def wM:=fK.2.2.2.2.2.2.2.2.2.2.1
noncomputable def vJ:=fK.2.2.2.2.2.2.2.2.2.2.2.1
noncomputable def yq:=fK.2.2.2.2.2.2.2.2.2.2.2.2.1
noncomputable def vI:=fK.2.2.2.2.2.2.2.2.2.2.2.2.2.1
noncomputable def QF:=fK.2.2.2.2.2.2.2.2.2.2.2.2.2.2
theorem Lv:EN Iz Kv eN sj cz QE pU lA ly nL wM vJ yq vI QF:=fun{like} S H f14 f22 K p hP hfun hsz hbud kk=>by
 obtain⟨es,es',p1,p2,p3,p4,p5,p6⟩:=p.data;have hkl:∀(i op:Nat) (ks:List Nat),pU.1[i]?=some (op,ks)->∀ k∈ks,k<i:=fun i op ks hi=>(H.kids i op ks (by rw[S.ns];exact hi)).1
 have hdn:=p.dlt hkl;have hnl:wM<Kv.ns.length:=by rw[S.ns];exact jm p.op
 have K1:KP (cz++[AO.dict es']) Kv.D [(lA,.inst 6 yq),(ly,ci sj eN like),(nL,.inst 5 [(14,.ref 3)]),(cz.length,.dict es')]:=fun x hx=>by
  have hx:x∈[(lA,AO.inst 6 yq),(ly,ci sj eN like),(nL,.inst 5 [(14,.ref 3)])]++[(cz.length,.dict es')]:=hx
  rcases S9.mp hx with hx | hx
  ·exact K.grow _ x hx
  ·rw[SO.mp hx];exact⟨bM _ _ _,fun q=>by have:=H.inr q;dsimp only at this;exact Ui _ this⟩
 have k1:=fun x hx=>(K1 x hx).1;have H1:=H.grow [AO.dict es'];refine oA (fv:=vI) (jd:=cz.length) S H1 (k1 (lA,.inst 6 yq) (.head _)) f14 (k1 (ly,ci sj eN like) m1) hbud fun F2 rest2 h2 s1 H2 fr2 lw2 S2 b2 w2=>?_;have K2:=K1.fr fr2;have k2:=fun x hx=>(K2 x hx).1;have hns2:h2.ns=Kv.ns:=S2.ns.trans S.ns.symm;obtain⟨l,s2⟩:=qR (lf:=sj) (fv:=vI) S2 H2 (k2 (lA,.inst 6 yq) (.head _)) f22 (k2 (ly,ci sj eN like) m1) (k2 (nL,.inst 5 [(14,.ref 3)]) m2) (k2 (cz.length,.dict es') m3) p4 (by rw[hns2];exact TU hdn hnl) w2
 have e1:∀ m,9<=m+1->dS ⟨ay aj m⟩ (.asg (.one 3) (.blt .dict [.loc 2])) (fun i=>[AV.ref (lA+19),.ref (ly+19),.tup vI][i]?) (Iz.st cz)=some (none,fX lA ly cz.length vI,Iz.st (cz++[.dict es'])):=fun m _=>by
  exists p1,p2,(by rw[p3];rfl:Iz.st cz++[AO.dict (List.foldl (fun es p=>aT es p.1 p.2) [] es)]=Iz.st (cz++[AO.dict es']))
 cases hmis:EU like pU vJ with
 | true=>
  have hls:bj like eN pU wM vJ=(false,pU):=by unfold bj;rw[SI hmis]
  rw[hls] at kk;refine kk F2 (rest2++l) h2 (.mk rfl rfl fun m hm=>?_) (H2.grow l) (((Fr.grow _ _ _).trans fr2).trans (Fr.grow _ _ _)) lw2 S2 (Ni b2) ⟨[],(Ti _).symm,SZ _⟩;have t:=s2 m hm;rw[hmis] at t;have q1:=e1 m (IV hm);have q2:=s1 m hm;exists q1,q2,t
 | false=>
  have K3:=K2.grow l;have k3:=fun x hx=>(K3 x hx).1;have H3:=H2.grow l;obtain⟨l',s3⟩:=p6 F2 h2 nL cz.length S2.ns (rest2++l) H3 (k3 (nL,.inst 5 [(14,.ref 3)]) m2) (k3 (cz.length,.dict es') m3);have K4:=K3.grow l';have k4:=fun x hx=>(K4 x hx).1;refine ny S2 (H3.grow l') (k4 (nL,.inst 5 [(14,.ref 3)]) m2) (k4 (cz.length,.dict es') m3) p4 hdn p.op (by rw[hns2];exact hsz) (by rw[b2];exact hbud) fun F5 rest5 h5 s4 H5 fr5 lw5 S5 b5 r1 r2 r3 z12_ r6=>?_
  obtain⟨la,r4,r5⟩:=z12_;have hnl5:wM<h5.ns.length:=by rw[S5.ns];dsimp only;rw[r4,<- S.ns];simp;exact Ug _ hnl
  have hrl5:(aK eN pU.1 vJ).1<h5.ns.length:=by rw[S5.ns];exact r2
  have hop5:dB (aK eN pU.1 vJ).2 wM=3\/dB (aK eN pU.1 vJ).2 wM=4:=by rw[r4];exact p.app.op
  have ans:=S5.answer H5 hP hfun hop5 r3 r1 (fun q=>r6 (w2 q));dsimp only at ans;refine t9 H5 (rs:=[.sym 13,.sym 15,.tup vI]) hnl5 hrl5 (by rw[b5,b2];exact hbud) fun F6 rest6 h6 s5 H6 fr6 lw6 J=>?_
  have hls:bj like eN pU wM vJ=(decide (h5.cl wM≠h5.cl (aK eN pU.1 vJ).1),((aK eN pU.1 vJ).2,if h5.cl wM≠h5.cl (aK eN pU.1 vJ).1 then pU.2++[(wM,(aK eN pU.1 vJ).1)] else pU.2)):=by
   unfold bj;rw[Sz (by rw[hmis];simp)]
   cases like<;>simp only[Option.isSome,if_true,if_false,Bool.false_eq_true] at ans ⊢<;>rw[ans]<;>by_cases q:h5.cl wM=h5.cl (aK eN pU.1 vJ).1<;>simp[q]
  rw[hls] at kk;have K5:=K4.fr fr5;refine kk F6 rest6 h6 (.mk rfl rfl fun m hm=>?_) H6 (((((Fr.grow _ _ _).trans fr2).trans (Fr.grow _ _ _)).trans (Fr.grow _ _ _)).trans (fr5.trans fr6)) (lw2.trans (lw5.trans lw6)) ?_ (Nh b2 b5 J.bud) ⟨la,r4,r5⟩
  ·have t:=s2 m hm;rw[hmis] at t;have q1:=e1 m (IV hm);have q2:=s1 m hm;have v1:=s3 m (Sy (by decide) hm)
   have v2:=s4 m (Sy (by decide) hm)
   have a1:(rest2++l)[lA]?=_:=k3 _ (.head _);have a2:(rest2++l)[ly]?=_:=k3 _ m1;have a3:(rest2++l++l')[lA]?=_:=k4 _ (.head _);have a4:(rest2++l++l')[ly]?=_:=k4 _ m1;have a6:rest5[lA]?=_:=(K5 _ (.head _)).1;have a7:rest5[ly]?=_:=(K5 _ m1).1;have a8:(rest2++l)[nL]?=_:=k3 _ m2;have a9:(rest2++l++l')[nL]?=_:=k4 _ m2;have hm2:=vF rfl rfl rfl rfl s5 m (Ng hm);exists q1,q2,t,a1,a2,a3,a4,a6,a7,a8,a9,f22,f14,v1,v2,hm2,sj.it,eN.it
  ·by_cases q:h5.cl wM=h5.cl (aK eN pU.1 vJ).1
   ·rw[Sz (by simpa using q)]
    exact S5.idle J q
   ·rw[SI q];exact S5.joined J hP (by rw[S5.ns] at hnl5;exact hnl5) (by rw[S5.ns] at hrl5;exact hrl5) r1
theorem pT{rn ru pl n d:Nat}{fs:List (Nat×AV)}{fv:List AV}{G:Prop}:EN F h rt lf rest P w rn ru pl n d fs fv G:=bE IA Lv (F,h,rt,lf,rest,P,w,rn,ru,pl,n,d,fs,fv,G)
end
noncomputable def fu(like:Option Bool)(rt:Rk)(most:Int):List (Nat×Nat×List AV)->W->Nat->W×Nat
 | [],w,c=>(w,c)
 | x::r,w,c=>if(w.1.length:Int)<=most then fu like rt most r (bj like rt w x.1 x.2.1).2 (c+if(bj like rt w x.1 x.2.1).1 then 1 else 0) else fu like rt most r w c
noncomputable def aq(x:Nat×Nat×List AV):AV:=.tup [aa x.1,.tup x.2.2]
structure Ad where
 rn:Nat
 ru:Nat
 pl:Nat
 rl:Nat
 op:Nat
 hs:Nat
 jl:Nat
section
variable{F:Fx}{rest:St}{h:HS}{like:Option Bool}{rt:Rk}{P:List (Nat×Nat)}{w:W}{lf:Lf}
noncomputable abbrev objs(A:Ad)(fs:List (Nat×AV))(lf:Lf)(rt:Rk)(like:Option Bool)(most:Int)(picks:List (Nat×Nat×List AV)):List (Nat×AO):=
 [(A.rn,.inst 6 fs),(A.ru,ci lf rt like),(A.pl,.inst 5 [(14,.ref 3)]),(A.rl,.list [.ref (A.ru+19)]),(A.op,.dict [(.sym 20,.int most)]),(A.jl,.list (picks.map aq))]
structure RF(A:Ad)(fs:List (Nat×AV)):Prop where
 f14:fs.lookup 14=some (.ref 3)
 f19:fs.lookup 19=some (.ref (A.rl+19))
 f20:fs.lookup 20=some (.ref (A.op+19))
 f22:fs.lookup 22=some (.ref (A.pl+19))
 f23:fs.lookup 23=some (.ref (A.hs+19))
 f24:fs.lookup 24=some (.int 0)
 m58:fs.lookup 58=none
 m60:fs.lookup 60=none
 m61:fs.lookup 61=none
theorem rW(S:cq like rt P w h)(H:HI F rest h){rn op:Nat}{most:Int}{fs:List (Nat×AV)}(f14:fs.lookup 14=some (.ref 3))(f20:fs.lookup 20=some (.ref (op+19)))(hR:rest[rn]?=some (AO.inst 6 fs))(hO:rest[op]?=some (AO.dict [(.sym 20,.int most)])) :
  Ok 3 48 [.ref (rn+19)] (F.st rest) (.bool (!decide ((w.1.length:Int)<=most))) (F.st rest):=by
 refine .mk rfl rfl fun m hm=>?_;have t:=ek (F:=F) (rest:=rest) m (hm);have e:F.nodes.length=w.1.length:=by rw[H.nodes,SU,S.ns]
 have hd:az [(AV.sym 20,AV.int most)] (.sym 20)=some (.int most):=rfl;have hx:decide (most<(w.1.length:Int))=!decide ((w.1.length:Int)<=most):=by
  by_cases q:(w.1.length:Int)<=most
  ·simp[q]
  ·simp[q];exact Nf q
 have hg:(az [(AV.sym 20,AV.int most)] (.sym 20)).getD (.int 10000)=.int most:=rfl;have hy:∀{Y},bh .gt Y (aa F.nodes.length) (.int most)=some (!decide ((w.1.length:Int)<=most)):=by intro Y;rw[e,<- hx];rfl
 exists hR,hO,f14,f20,t,hg,hy
noncomputable abbrev Gw:List S:=[.ite (.and (.not (.meth (.loc 0) 58 [])) (.meth (.loc 0) 60 [.sub (.attr (.loc 0) 19) (.loc 1),.loc 5])) [.asg (.one 3) (.bin .add (.loc 3) (.cst (.int 1)))] []]
theorem tj{A:Ad}{fs:List (Nat×AV)}(R:RF A fs){most:Int}{all:List (Nat×Nat×List AV)}(hfun:∀ n d d',(n,d)∈P->(n,d')∈P->d'=d):∀(ps:List (Nat×Nat×List AV)) {F:Fx} {rest:St} {h:HS} {w:W} (c:Nat),cq like rt P w h->HI F rest h->KP rest h.D (objs A fs lf rt like most all)->
  (∀ x∈ps,cU w.1 lf x.1 x.2.1 x.2.2/\(x.1,x.2.1)∈P)->h.ns.length+ps.length<=20->h.bud+ps.length<=200->
  ∀(G:Prop),(∀ F' rest' h',(∀ m,9<=m->∀ U:En,U 0=some (.ref (A.rn+19))->U 1=some (.int 0)->U 2=some (.ref (A.jl+19))->U 3=some (aa c)->∃ U',dQ [(A.jl+19,some (all.map aq))] (.many [4,5]) (bm ⟨ay aj m⟩ Gw) (ps.map aq) U (F.st rest)=some (none,U',F'.st rest')/\
    U' 0=some (.ref (A.rn+19))/\U' 1=some (.int 0)/\U' 2=some (.ref (A.jl+19))/\U' 3=some (aa (fu like rt most ps w c).2))->HI F' rest' h'->Fr h.D h'.D rest rest'->eU F F'->cq like rt P (fu like rt most ps w c).1 h'->h'.bud<=h.bud+ps.length->G)->G:=by
 intro ps;induction ps with
 | nil=>
  intro F rest h w c S H K hp hsz hb G kk;have hj:=(K (A.jl,.list (all.map aq)) m5).1;exact kk F rest h (fun m hm U r0 r1 r2 r3=>⟨U,bT (bu hj),r0,r1,r2,r3⟩) H (Fr.refl _ _) (eU.refl _) S (SE _)
 | cons x ps ih=>
  intro F rest h w c S H K hp hsz hb G kk;have hj:=(K (A.jl,.list (all.map aq)) m5).1;have hR:=(K (A.rn,.inst 6 fs) (.head _)).1;have hUU:=(K (A.ru,ci lf rt like) m1).1;have hL:=(K (A.rl,.list [.ref (A.ru+19)]) m3).1;have hO:=(K (A.op,.dict [(.sym 20,.int most)]) m4).1;dsimp only at hj hR hUU hL hO;have full:=rW S H R.f14 R.f20 hR hO;have hbind:∀(U:En) (Y:St),bU (.many [4,5]) (aq x) U Y=some (ag (ag U 4 (aa x.1)) 5 (.tup x.2.2)):=fun _ _=>rfl;obtain⟨hp1,hp2⟩:=hp x (.head _);simp only[List.length_cons] at hsz hb
  by_cases q:(w.1.length:Int)<=most
  ·refine pT (rn:=A.rn) (ru:=A.ru) (pl:=A.pl) (lf:=lf) S H R.f14 R.f22 (be (K _ (.head _)) (be (K _ m1) (be (K _ m2) nofun))) hp1 hp2 (fun d' hd'=>hfun _ _ _ hp2 hd') (IU hsz) (Nc hb) fun F2 rest2 h2 O H2 fr2 lw2 S2 b2 z6_=>?_
   obtain⟨l,l1,l2⟩:=z6_;have hns2:h2.ns.length<=h.ns.length+1:=by rw[S2.ns,l1,S.ns,SP];exact Nb l2
   refine ih (c+if(bj like rt w x.1 x.2.1).1 then 1 else 0) S2 H2 (K.fr fr2) (fun y hy=>⟨by rw[l1];exact(hp y (.tail _ hy)).1.app,(hp y (.tail _ hy)).2⟩) (Na hsz hns2) (M9 hb b2) _ fun F3 rest3 h3 e3 H3 fr3 lw3 S3 b3=>?_
   rw[fu,SI q] at kk;refine kk F3 rest3 h3 (fun m hm U r0 r1 r2 r3=>?_) H3 (fr2.trans fr3) (lw2.trans lw3) S3 (IT b2 b3);have t1:=full m (Sy (by decide) hm)
   rw[SM q] at t1;have t2:=O m hm
   cases hs:(bj like rt w x.1 x.2.1).1 with
   | true=>
    rw[hs] at t2 e3;obtain⟨U3,v1,v2⟩:=e3 m hm (ag (ag (ag U 4 (aa x.1)) 5 (.tup x.2.2)) 3 (aa (c+1))) r0 r1 r2 rfl;refine⟨U3,ck (bu hj) rfl ?_ v1,v2⟩;exists r0,r1,r3,hR,R.m58,R.m60,t1,R.f19,hL,t2
   | false=>
    rw[hs] at t2 e3;obtain⟨U3,v1,v2⟩:=e3 m hm (ag (ag U 4 (aa x.1)) 5 (.tup x.2.2)) r0 r1 r2 r3;refine⟨U3,ck (bu hj) rfl ?_ v1,v2⟩;exists r0,r1,r3,hR,R.m58,R.m60,t1,R.f19,hL,t2
  ·refine ih c S H K (fun y hy=>hp y (.tail _ hy)) (IS hsz) (M8 hb) _ fun F3 rest3 h3 e3 H3 fr3 lw3 S3 b3=>?_;rw[fu,Sz q] at kk;refine kk F3 rest3 h3 (fun m hm U r0 r1 r2 r3=>?_) H3 fr3 lw3 S3 (M7 b3);have t1:=full m (Sy (by decide) hm)
   rw[Td q] at t1;have u1:bm ⟨ay aj m⟩ Gw (ag (ag U 4 (aa x.1)) 5 (.tup x.2.2)) (F.st rest)=some (none,ag (ag U 4 (aa x.1)) 5 (.tup x.2.2),F.st rest):=by
    exists r0,hR,R.m58,t1
   obtain⟨U3,v1,v2⟩:=e3 m hm (ag (ag U 4 (aa x.1)) 5 (.tup x.2.2)) r0 r1 r2 r3;refine⟨U3,?_,v2⟩;exact ck (bu hj) rfl u1 v1
theorem nJ{A:Ad}{fs:List (Nat×AV)}(R:RF A fs){most:Int}{all:List (Nat×Nat×List AV)}(hfun:∀ n d d',(n,d)∈P->(n,d')∈P->d'=d)(S:cq like rt P w h)(H:HI F rest h)(K:KP rest h.D ((A.hs,.list [])::objs A fs lf rt like most all))
  (hp:∀ x∈all,cU w.1 lf x.1 x.2.1 x.2.2/\(x.1,x.2.1)∈P) (hsz:h.ns.length+all.length<=20) (hb:h.bud+all.length<=200) {G:Prop}
  (kk:∀ F' rest' h',Ok 10 51 [.ref (A.rn+19),.int 0,.ref (A.jl+19)] (F.st rest) (aa (fu like rt most all w 0).2) (F'.st (rest'.set A.hs (.list [.tup [.int 0,.sym 15,aa all.length,aa (fu like rt most all w 0).2]])))->HI F' rest' h'->Fr h.D h'.D rest rest'->eU F F'->cq like rt P (fu like rt most all w 0).1 h'->h'.bud<=h.bud+all.length->G):G:=by
 refine tj R hfun all 0 S H (fun x hx=>K x (.tail _ hx)) hp hsz hb _ fun F' rest' h' e H' fr lw S' b'=>?_;have hj:=(K (A.jl,.list (all.map aq)) m6).1;have K':=K.fr fr;have hR:=(K' (A.rn,.inst 6 fs) m1).1;have hUU:=(K' (A.ru,ci lf rt like) m2).1;have hL:=(K' (A.rl,.list [.ref (A.ru+19)]) m4).1;have hH:=(K' (A.hs,.list []) (.head _)).1;have hj':=(K' (A.jl,.list (all.map aq)) m6).1;dsimp only at hj hR hUU hL hH hj';refine kk F' rest' h' (.mk rfl rfl fun m hm=>?_) H' fr lw S' b';obtain⟨U',q0,q1,q2,q3,q4⟩:=e m hm (ag (fun i=>[AV.ref (A.rn+19),.int 0,.ref (A.jl+19)][i]?) 3 (aa 0)) rfl rfl rfl rfl;have hfor:dS ⟨ay aj m⟩ (.for_ (.many [4,5]) (.loc 2) Gw) (ag (fun i=>[AV.ref (A.rn+19),.int 0,.ref (A.jl+19)][i]?) 3 (aa 0)) (F.st rest)=some (none,U',F'.st rest'):=
  (cX (v:=.ref (A.jl+19)) (s:=⟨all.map aq,[(A.jl+19,some (all.map aq))]⟩) (Y1:=F.st rest) (aF rfl) rfl (aU (aJ (cF hj)))).trans q0
 exists hfor,q1,q2,q3,q4,hR,hUU,hL,hH,R.f19,R.f23,R.f24,hj',(SU ..:(all.map aq).length=all.length)
end
structure Mn(N:Nat)(hm:Nat->Nat):Prop where
 le:∀ x,hm x<=x
 idem:∀ x,hm (hm x)=hm x
 out:∀ x,N<=x->hm x=x
theorem Mn.id(N:Nat):Mn N (fun x=>x):=⟨fun _=>SE _,fun _=>rfl,fun _ _=>rfl⟩
theorem Mn.mrg{N:Nat}{hm:Nat->Nat}(M:Mn N hm){k g:Nat}(hk:hm k=k)(hg:hm g=g)(kg:k<g)(hN:g<N):Mn N (ew hm k g):=by
 refine⟨fun a=>?_,fun a=>?_,fun a ha=>?_⟩
 ·unfold Internal.ew;split
  ·have:=M.le a;exact Ph kg ‹_› this
  ·exact M.le a
 ·unfold Internal.ew;split
  ·rw[Sz (MO hk kg),hk]
  ·rename_i q;rw[M.idem,Sz q]
 ·unfold Internal.ew;rw[M.out a ha,Sz (Pg hN ha)]
noncomputable def mu(N:Nat)(hm:Nat->Nat):Nat:=((List.range N).map hm).sum
theorem Ec{l:List Nat}{f g:Nat->Nat}(h:∀ x∈l,f x<=g x){y:Nat}(hy:y∈l)(hl:f y<g y):(l.map f).sum<(l.map g).sum:=by
 induction l with
 | nil=>cases hy
 | cons a l ih=>
  have h1:=h a (.head _);have h2:(l.map f).sum<=(l.map g).sum:=by
   clear ih hy hl
   induction l with
   | nil=>exact SE _
   | cons b l ih=>
    have h3:=h b (.tail _ (.head _));have h4:=ih fun x hx=>h x (by rcases SN.mp hx with e | e<;>simp[e])
    simp only[List.map_cons,List.sum_cons];exact T9 h3 h4
  simp only[List.map_cons,List.sum_cons]
  rcases SN.mp hy with e | e
  ·subst e;exact M5 hl h2
  ·have:=ih (fun x hx=>h x (.tail _ hx)) e;exact M4 h1 this
theorem ET{N:Nat}{hm:Nat->Nat}{k g:Nat}(hg:hm g=g)(kg:k<g)(hN:g<N):mu N (ew hm k g)<mu N hm:=by
 refine Ec (fun x _=>?_) (List.mem_range.mpr hN) ?_
 ·unfold ew;split
  ·rename_i e;exact Sy (TM kg) (SD e.symm)
  ·exact SE _
 ·unfold ew;rw[SI hg];exact M3 hg kg
theorem I2{N:Nat}{hm:Nat->Nat}(M:Mn N hm):mu N hm<=N*N:=by
 unfold mu;have:∀(l:List Nat),(∀ x∈l,x<=N)->(l.map hm).sum<=l.length*N:=by
  intro l
  induction l with
  | nil=>intro _;simp
  | cons a l ih=>
   intro h;have h1:=ih fun x hx=>h x (.tail _ hx);have h2:=h a (.head _);have h3:=M.le a;simp only[List.map_cons,List.sum_cons,List.length_cons,Nat.add_mul];exact M2 h1 h2 h3
 have:=this (List.range N) fun x hx=>by have:=List.mem_range.mp hx;exact TM this
 simpa using this
noncomputable abbrev Pr:=Nat×Nat
noncomputable def d8(hm:Nat->Nat)(d:Nd):Nd:=(d.1,d.2.map hm)
noncomputable def tP(hm:Nat->Nat):List Nd->Nat->List (Nd×Nat)×List Pr->List (Nd×Nat)×List Pr
 | [],_,s=>s
 | d::r,t,s=>match lk s.1 (d8 hm d) with
  | some v=>tP hm r (t+1) (s.1,s.2++[(v,t)])
  | none=>tP hm r (t+1) (s.1++[(d8 hm d,t)],s.2++[(t,t)])
noncomputable def lj:List Pr->(Nat->Nat)×Bool->(Nat->Nat)×Bool
 | [],s=>s
 | (a,b)::r,s=>lj r (if s.1 a=s.1 b then s else(ew s.1 (min (s.1 a) (s.1 b)) (max (s.1 a) (s.1 b)),true))
structure SA(ns:List Nd)(hm:Nat->Nat)(ps:List Pr)(t:Nat)(s:List (Nd×Nat)×List Pr):Prop where
 seen:∀ k v,lk s.1 k=some v->v<t/\∃ d,ns[v]?=some d/\d8 hm d=k
 all:∀(i:Nat) (d:Nd),i<t->ns[i]?=some d->∃ v,lk s.1 (d8 hm d)=some v/\(v,i)∈s.2
 todo:∀ x∈s.2,x∈ps\/x.2<t/\∃ d,ns[x.2]?=some d/\lk s.1 (d8 hm d)=some x.1
 keep:∀ x∈ps,x∈s.2
 len:s.2.length=ps.length+t
 sl:s.1.length<=t
theorem uB{α:Type}{l ds:List α}{t:Nat}{d:α}(h:l.drop t=d::ds):l[t]?=some d:=by
 have:=Sx (·[0]?) h;simpa using this
theorem uA{α:Type}{l ds:List α}{t:Nat}{d:α}(h:l.drop t=d::ds):l.drop (t+1)=ds:=by
 have:=Sx (List.drop 1) h;simpa[List.drop_drop,Nat.add_comm] using this
theorem xN{ns:List Nd}{hm:Nat->Nat}{ps:List Pr}:∀(ds:List Nd) (t:Nat) (s:List (Nd×Nat)×List Pr),ns.drop t=ds->SA ns hm ps t s->SA ns hm ps (t+ds.length) (tP hm ds t s):=by
 intro ds;induction ds with
 | nil=>exact fun _ _ _ h=>h
 | cons d ds ih=>
  intro t s hd h;have h0:ns[t]?=some d:=uB hd;have hd':ns.drop (t+1)=ds:=uA hd;rw[show t+(d::ds).length=t+1+ds.length from IR,tP]
  cases hl:lk s.1 (d8 hm d) with
  | some v=>
   refine ih (t+1) _ hd' ⟨fun k v' q=>?_,fun i d' hi hi'=>?_,fun x hx=>?_,fun x hx=>Te _ (h.keep x hx),by rw[SP,h.len];exact IQ,Nat.le_succ_of_le h.sl⟩
   ·obtain⟨a,b⟩:=h.seen k v' q;exact⟨TC a,b⟩
   ·by_cases q:i=t
    ·subst q;rw[h0] at hi';cases hi'
     exact⟨v,hl,by simp⟩
    ·obtain⟨v',a,b⟩:=h.all i d' (EQ hi q) hi';exact⟨v',a,Te _ b⟩
   ·rcases S9.mp hx with hx | hx
    ·rcases h.todo x hx with q | ⟨a,b⟩
     ·exact .inl q
     ·exact .inr ⟨TC a,b⟩
    ·rw[SO.mp hx];exact .inr ⟨by simp,d,h0,hl⟩
  | none=>
   have ext:∀ k v',lk s.1 k=some v'->lk (s.1++[(d8 hm d,t)]) k=some v':=fun k v' q=>by rw[io,q]
   have new:lk (s.1++[(d8 hm d,t)]) (d8 hm d)=some t:=by rw[io,hl];simp
   refine ih (t+1) _ hd' ⟨fun k v' q=>?_,fun i d' hi hi'=>?_,fun x hx=>?_,fun x hx=>Te _ (h.keep x hx),by rw[SP,h.len];exact IQ,by rw[SP];exact T1 h.sl⟩
   ·dsimp only at q;rw[io] at q
    cases hk:lk s.1 k with
    | some v2=>
     rw[hk] at q;cases q
     obtain⟨a,b⟩:=h.seen k _ hk;exact⟨TC a,b⟩
    | none=>
     rw[hk] at q;dsimp only at q
     split at q
     ·rename_i e2;cases q;exact⟨M1,d,h0,e2⟩
     ·cases q
   ·by_cases q:i=t
    ·subst q;rw[h0] at hi';cases hi'
     exact⟨i,new,by simp⟩
    ·obtain⟨v',a,b⟩:=h.all i d' (EQ hi q) hi';exact⟨v',ext _ _ a,Te _ b⟩
   ·rcases S9.mp hx with hx | hx
    ·rcases h.todo x hx with q | ⟨a,d',b,c⟩
     ·exact .inl q
     ·exact .inr ⟨TC a,d',b,ext _ _ c⟩
    ·rw[SO.mp hx];exact .inr ⟨by simp,d,h0,new⟩
structure SB(N:Nat)(td:List Pr)(s r:(Nat->Nat)×Bool):Prop where
 mn:Mn N r.1
 snd:∀ R:Nat->Nat->Prop,bL [] R->(∀ x∈td,R x.1 x.2)->(∀ x y,s.1 x=s.1 y->R x y)->∀ x y,r.1 x=r.1 y->R x y
 mono:∀ x y,s.1 x=s.1 y->r.1 x=r.1 y
 hit:∀ x∈td,r.1 x.1=r.1 x.2
 dec:r=s\/r.2=true/\mu N r.1<mu N s.1
theorem xM{N:Nat}:∀(td:List Pr) (s:(Nat->Nat)×Bool),Mn N s.1->(∀ x∈td,x.1<N/\x.2<N)->SB N td s (lj td s):=by
 intro td;induction td with
 | nil=>exact fun s M _=>⟨M,fun R C _ h=>h,fun _ _ e=>e,nofun,.inl rfl⟩
 | cons p td ih=>
  intro s M hN;have htd:∀ x∈td,x.1<N/\x.2<N:=fun x hx=>hN x (.tail _ hx);have hp:=hN p (.head _)
  by_cases q:s.1 p.1=s.1 p.2
  ·have e:lj (p::td) s=lj td s:=by rw[lj,SI q]
   rw[e];have I:=ih s M htd;exact⟨I.mn,fun R C hp hs=>I.snd R C (fun x hx=>hp x (.tail _ hx)) hs,I.mono,fun x hx=>(SN.mp hx).elim (fun r=>r▸I.mono _ _ q) (I.hit x),I.dec⟩
  ·have e:lj (p::td) s=lj td (ew s.1 (min (s.1 p.1) (s.1 p.2)) (max (s.1 p.1) (s.1 p.2)),true):=by rw[lj,Sz q]
   rw[e];have kg:=MZ q;generalize min (s.1 p.1) (s.1 p.2)=k at kg ⊢;generalize max (s.1 p.1) (s.1 p.2)=g at kg ⊢;have hkk:s.1 k=k:=kg.elim (fun r=>r.2.1▸M.idem _) fun r=>r.2.1▸M.idem _;have hgg:s.1 g=g:=kg.elim (fun r=>r.2.2▸M.idem _) fun r=>r.2.2▸M.idem _;have hlt:k<g:=IP kg;have hgN:g<N:=MY hp.1 hp.2 (M.le p.1) (M.le p.2) kg;have hcl:=uh (cl:=s.1) kg;have I:=ih (ew s.1 k g,true) (M.mrg hkk hgg hlt hgN) htd;have hmu:=ET (hm:=s.1) hgg hlt hgN;exact⟨I.mn,fun R C hp hs=>I.snd R C (fun x hx=>hp x (.tail _ hx)) fun x y e=>C.mrg (hp p (.head _)) hs ((hcl x y).mp e),fun x y e=>I.mono x y ((hcl x y).mpr (.inl e)),
    fun x hx=>(SN.mp hx).elim (fun r=>r▸I.mono _ _ ((hcl _ _).mpr (.inr (.inl ⟨rfl,rfl⟩)))) (I.hit x),.inr (I.dec.elim (fun r=>by rw[r];exact⟨rfl,hmu⟩) fun r=>⟨r.1,TU r.2 hmu⟩)⟩
theorem SA.init(ns:List Nd)(hm:Nat->Nat)(ps:List Pr):SA ns hm ps 0 ([],ps):=
 ⟨fun k v q=>by simp[lk] at q,fun i d hi=>SH hi (o4),fun x hx=>.inl hx,fun x hx=>hx,by simp,by simp⟩
theorem SA.cong{ns:List Nd}{hm:Nat->Nat}{ps:List Pr}{s:List (Nd×Nat)×List Pr}(A:SA ns hm ps ns.length s)(hs:∀ x∈s.2,hm x.1=hm x.2):bL ns (fun x y=>hm x=hm y):=by
 refine⟨fun _=>rfl,fun _ _ e=>e.symm,fun _ _ _ e f=>e.trans f,fun i j op ks ks' h1 h2 hl hk=>?_⟩;have e:=sA (f:=hm) hl hk;obtain⟨v,v1,v2⟩:=A.all i _ (SJ.mp h1).1 h1;obtain⟨u,u1,u2⟩:=A.all j _ (SJ.mp h2).1 h2;unfold d8 at v1 u1;dsimp only at v1 u1;rw[e,u1] at v1;cases v1
 exact(hs _ v2).symm.trans (hs _ u2)
theorem SA.sound{ns:List Nd}{hm:Nat->Nat}{ps:List Pr}{t:Nat}{s:List (Nd×Nat)×List Pr}(A:SA ns hm ps t s){R:Nat->Nat->Prop}(C:bL ns R)(hp:∀ x∈ps,R x.1 x.2)(hR:∀ x y,hm x=hm y->R x y):∀ x∈s.2,R x.1 x.2:=fun x hx=>by
 rcases A.todo x hx with q | ⟨_,d,b,c⟩
 ·exact hp x q
 ·obtain⟨_,d',e1,e2⟩:=A.seen _ _ c;obtain⟨op,ks⟩:=d;obtain⟨op',ks'⟩:=d';simp only[d8,Prod.mk.injEq] at e2;obtain⟨rfl,e2⟩:=e2;refine C.cong _ _ _ _ _ e1 b (by have:=Sx List.length e2;simpa using this) fun t a b ha hb=>hR a b ?_
  have:=Sx (·[t]?) e2;simp only[List.getElem?_map,ha,hb,Option.map_some,Option.some.injEq] at this;exact this
theorem SA.lt{ns:List Nd}{hm:Nat->Nat}{ps:List Pr}{s:List (Nd×Nat)×List Pr}(A:SA ns hm ps ns.length s)(hp:∀ x∈ps,x.1<ns.length/\x.2<ns.length):∀ x∈s.2,x.1<ns.length/\x.2<ns.length:=fun x hx=>by
 rcases A.todo x hx with q | ⟨a,d,b,c⟩
 ·exact hp x q
 ·exact⟨(A.seen _ _ c).1,a⟩
noncomputable def hl(N:Nat)(hm:Nat->Nat):List AV:=(List.range N).map fun x=>aa (hm x)
theorem kq{N:Nat}{hm:Nat->Nat}{k:Nat}(h:k<N):(hl N hm)[k]?=some (aa (hm k)):=by simp[hl,h]
noncomputable def pv(x:Pr):AV:=.tup [aa x.1,aa x.2]
noncomputable def ev(x:Nd×Nat):AV:=.tup [aa x.2,aI x.1]
noncomputable def dA(s:List (Nd×Nat)):List (AV×AV):=s.map fun x=>(aI x.1,aa x.2)
theorem Fr.nil{r r':St}(h1:r.length<=r'.length)(h2:∀ j,j<r.length->r'[j]?=r[j]?):Fr [] [] r r':=⟨h1,fun j hj _=>h2 j hj,fun j hj=>by cases hj⟩
theorem Fr.get{r r':St}(f:Fr [] [] r r'){j:Nat}{o:AO}(h:r[j]?=some o):r'[j]?=some o:=f.at h (by simp)
noncomputable abbrev nZ:List S:=[.expr (.meth (.loc 5) 27 [.tup [.meth (.loc 4) 32 [.bin .add (.slc (.loc 7) .first) (.blt .tupleOf [.comp (.sub (.loc 2) (.loc 13)) (.one 13) (.slc (.loc 7) .tail) []]),.loc 6],.loc 6]])]
noncomputable abbrev ip:List S:=[.asg (.many [10,11]) (.blt .sorted [.lst [.sub (.loc 2) (.loc 8),.sub (.loc 2) (.loc 9)]]),.ite (.cmp .ne (.loc 10) (.loc 11)) [.asg (.many [2,3]) (.tup [.comp (.ite (.cmp .eq (.loc 13) (.loc 11)) (.loc 10) (.loc 13)) (.one 13) (.loc 2) [],.cst (.bool true)])] []]
section
variable{F:Fx}
theorem Jc{N jh js jt:Nat}{hm:Nat->Nat}(e1:js≠jt)(e2:jh≠js)(e3:jh≠jt):∀(ds:List Nd) (t:Nat) (s:List (Nd×Nat)×List Pr) (r:St),
  (∀ d∈ds,(∀ k∈d.2,k<N)/\d.2.length<=2)->r[js]?=some (AO.dict (dA s.1))->r[jt]?=some (AO.list (s.2.map pv))->r[jh]?=some (AO.list (hl N hm))->s.2.length+ds.length<=1000->s.1.length+ds.length<=1000->
  ∀(G:Prop),(∀ r',r'[jt]?=some (AO.list ((tP hm ds t s).2.map pv))->r.length<=r'.length->(∀ i,i<r.length->i≠js->i≠jt->r'[i]?=r[i]?)->(∀(m:Nat) (U:En) (v0 v3:AV),(U 0=some v0/\U 1=some (.ref 18))->U 2=some (.ref (jh+19))->U 3=some v3->U 4=some (.ref (js+19))->U 5=some (.ref (jt+19))->∃ U',dQ [(18,some F.world)] (.many [6,7]) (bm ⟨ay aj m⟩ nZ) ((ds.zipIdx t).map ev) U (F.st r)=some (none,U',F.st r')/\
    (U' 0=some v0/\U' 1=some (.ref 18))/\U' 2=some (.ref (jh+19))/\U' 3=some v3/\U' 5=some (.ref (jt+19)))->G)->G:=by
 intro ds;induction ds with
 | nil=>exact fun t s r hd hs ht hh _ _ _ kk=>kk r ht (SE _) (fun _ _ _ _=>rfl) fun m U v0 v3 r0 r2 r3 r4 r5=>⟨U,bT (mq _ rfl),r0,r2,r3,r5⟩
 | cons x ds ih=>
  obtain⟨op,ks⟩:=x;intro t s r hd hs ht hh hL1 hL2 G kk;have hk:∀ k∈ks,k<N:=(hd (op,ks) (.head _)).1;have hkl:ks.length<=2:=(hd (op,ks) (.head _)).2;have go:∀(r1:St) (s1:List (Nd×Nat)×List Pr),tP hm ((op,ks)::ds) t s=tP hm ds (t+1) s1->r1[js]?=some (AO.dict (dA s1.1))->r1[jt]?=some (AO.list (s1.2.map pv))->r1[jh]?=some (AO.list (hl N hm))->r.length<=r1.length->(∀ i,i<r.length->i≠js->i≠jt->r1[i]?=r[i]?)->s1.2.length<=s.2.length+1->s1.1.length<=s.1.length+1->
    (∀(m:Nat) (E:En),E 2=some (.ref (jh+19))->E 4=some (.ref (js+19))->E 5=some (.ref (jt+19))->E 6=some (aa t)->E 7=some (.tup (.sym op::ks.map aa))->bm ⟨ay aj m⟩ nZ E (F.st r)=some (none,E,F.st r1))->G:=fun r1 s1 a1 a2 a3 a4 a5 a6 a7 a8 a9=>by
   rw[a1] at kk;refine ih (t+1) s1 r1 (fun d hd'=>hd d (.tail _ hd')) a2 a3 a4 (IO hL1 a7) (IO hL2 a8) _ fun r' b1 b2 b3 b4=>kk r' b1 (Sy a5 b2) (fun i hi q1 q2=>(b3 i (Tz hi a5) q1 q2).trans (a6 i hi q1 q2)) fun m U v0 v3 r0 r2 r3 r4 r5=>?_;obtain⟨U',c1,c2⟩:=b4 m (ag (ag U 6 (aa t)) 7 (aI (op,ks))) v0 v3 r0 r2 r3 r4 r5;exact⟨U',ck (mq F.world rfl) rfl (a9 m (ag (ag U 6 (aa t)) 7 (aI (op,ks))) r2 r4 r5 rfl rfl) c1,c2⟩
  clear kk ih;have lt1:=(SJ.mp hs).1;have lt2:=(SJ.mp ht).1;have Nz:=(SJ.mp hh).1;have hcomp:∀(m:Nat) (E:En),E 2=some (.ref (jh+19))->E 7=some (.tup (.sym op::ks.map aa))->ar ⟨ay aj m⟩ (.comp (.sub (.loc 2) (.loc 13)) (.one 13) (.slc (.loc 7) .tail) []) E (F.st r)=some (.ref (r.length+19),F.st (r++[AO.list (ks.map (aa∘hm))])):=fun m E r2 r7=>
   oi (C:=⟨ay aj m⟩) (U:=E) (F:=F) (r:=r) (kv:=.tup (ks.map aa)) (ks:=ks) (e:=.sub (.loc 2) (.loc 13)) (it:=.slc (.loc 7) .tail) (p:=13) (g:=aa∘hm) (.inl rfl) (by exists r7) (fun k hk'=>by exists r2,hh,kq (hm:=hm) (hk k hk')) (by unfold ax;exact Sy hkl (by decide))
  have hj2:(ks.map hm).map aa=ks.map (aa∘hm):=TG;have hdg:az (dA s.1) (.tup (.sym op::ks.map (aa∘hm)))=(lk s.1 (op,ks.map hm)).map aa:=by rw[<- hj2];exact p9 s.1 (op,ks.map hm) aa
  have hpur:AV.pur (.tup (.sym op::ks.map (aa∘hm)))=true:=by rw[<- hj2];exact cZ (op,ks.map hm)
  have hl9:ks.length<=99999:=Sy hkl (by decide)
  have i1:∀ l,(r++l)[js]?=some (AO.dict (dA s.1)):=fun l=>af hs l;have i2:∀ l,(r++l)[jt]?=some (AO.list (s.2.map pv)):=fun l=>af ht l;have i3:∀ l,(r++l)[jh]?=some (AO.list (hl N hm)):=fun l=>af hh l
  ·cases hlk:lk s.1 (op,ks.map hm) with
   | some v=>
    refine go ((r++[AO.list (ks.map (aa∘hm))]).set jt (AO.list (s.2.map pv++[pv (v,t)]))) (s.1,s.2++[(v,t)]) (by rw[tP];simp only[d8,hlk]) ?_ ?_ ?_ (by simp) (fun i hi q1 q2=>?_) (by simp) (by simp) fun m E r2 r4 r5 r6 r7=>?_
    ·rw[Tk (fun q=>e1 q.symm)];exact i1 _
    ·rw[TQ (by simp;exact TC lt2)];simp
    ·rw[Tk (fun q=>e3 q.symm)];exact i3 _
    ·rw[Tk (fun q=>q2 q.symm),S8 hi]
    ·have hc:=hcomp m E r2 r7;have hlen:s.2.length+1<=100000:=Lx hL1;rw[hlk] at hdg;have hdg:az (dA s.1) (AV.tup ([AV.sym op]++ks.map (aa∘hm)))=some (aa v):=hdg;have hpur:AV.pur (AV.tup ([AV.sym op]++ks.map (aa∘hm)))=true:=hpur;exists hc,r4,r5,r6,r7,ht,hs,hdg,hpur,vV (vU hl9),(by rw[SU];exact hlen:(s.2.map pv).length+1<=ax)
   | none=>
    have hdp:dA (s.1++[((op,ks.map hm),t)])=dA s.1++[(.tup (.sym op::ks.map (aa∘hm)),aa t)]:=by
     unfold dA;rw[Ta,<- hj2];rfl
    refine go (((r++[AO.list (ks.map (aa∘hm))]).set js (AO.dict (dA (s.1++[((op,ks.map hm),t)])))).set jt (AO.list (s.2.map pv++[pv (t,t)]))) (s.1++[((op,ks.map hm),t)],s.2++[(t,t)]) (by rw[tP];simp only[d8,hlk]) ?_ ?_ ?_ (by simp) (fun i hi q1 q2=>?_) (by simp) (by simp) fun m E r2 r4 r5 r6 r7=>?_
    ·rw[Tk (fun q=>e1 q.symm),TQ (by simp;exact TC lt1)]
    ·rw[TQ (by simp;exact TC lt2)];simp
    ·rw[Tk (fun q=>e3 q.symm),Tk (fun q=>e2 q.symm)];exact i3 _
    ·rw[Tk (fun q=>q2 q.symm),Tk (fun q=>q1 q.symm),S8 hi]
    ·have hc:=hcomp m E r2 r7;have hlen:s.2.length+1<=100000:=Lx hL1;have hlen2:(dA s.1).length+1<=100000:=by simp[dA];exact MX hL2
     rw[hlk] at hdg;rw[hdp];have hdg:az (dA s.1) (AV.tup ([AV.sym op]++ks.map (aa∘hm)))=none:=hdg;have hpur:AV.pur (AV.tup ([AV.sym op]++ks.map (aa∘hm)))=true:=hpur;exists hc,r4,r5,r6,r7,ht,hs,e1,hdg,hpur,vV (vU hl9),hlen2,(by rw[SU];exact hlen:(s.2.map pv).length+1<=ax)
end
section
variable{F:Fx}
theorem Jb{N jt:Nat}{full:List AV}(hN:N<=1000):∀(td:List Pr) (s:(Nat->Nat)×Bool) (jh:Nat) (r:St),(∀ x∈td,x.1<N/\x.2<N)->r[jt]?=some (AO.list full)->r[jh]?=some (AO.list (hl N s.1))->
  ∀(G:Prop),(∀ r' jh',r'[jh']?=some (AO.list (hl N (lj td s).1))->Fr [] [] r r'->(∀(m:Nat) (U:En) (v0:AV),(U 0=some v0/\U 1=some (.ref 18))->U 2=some (.ref (jh+19))->U 3=some (.bool s.2)->∃ U',dQ [(jt+19,some full)] (.many [8,9]) (bm ⟨ay aj m⟩ ip) (td.map pv) U (F.st r)=some (none,U',F.st r')/\
    (U' 0=some v0/\U' 1=some (.ref 18))/\U' 2=some (.ref (jh'+19))/\U' 3=some (.bool (lj td s).2))->G)->G:=by
 intro td;induction td with
 | nil=>exact fun s jh r hd ht hh _ kk=>kk r jh hh (Fr.refl _ _) fun m U v0 r0 r2 r3=>⟨U,bT (bu ht),r0,r2,r3⟩
 | cons x td ih=>
  obtain⟨a,b⟩:=x;intro s jh r hd ht hh G kk;have ha:a<N:=(hd (a,b) (.head _)).1;have hb:b<N:=(hd (a,b) (.head _)).2;have go:∀(r1:St) (jh1:Nat) (s1:(Nat->Nat)×Bool),lj ((a,b)::td) s=lj td s1->r1[jh1]?=some (AO.list (hl N s1.1))->Fr [] [] r r1->
    (∀(m:Nat) (E:En) (v0:AV),(E 0=some v0/\E 1=some (.ref 18))->E 2=some (.ref (jh+19))->E 3=some (.bool s.2)->E 8=some (aa a)->E 9=some (aa b)->∃ E',bm ⟨ay aj m⟩ ip E (F.st r)=some (none,E',F.st r1)/\(E' 0=some v0/\E' 1=some (.ref 18))/\E' 2=some (.ref (jh1+19))/\E' 3=some (.bool s1.2))->G:=fun r1 jh1 s1 a1 a2 a3 a4=>by
   rw[a1] at kk;refine ih s1 jh1 r1 (fun x hx=>hd x (.tail _ hx)) (a3.get ht) a2 _ fun r' jh' b1 b2 b3=>kk r' jh' b1 (a3.trans b2) fun m U v0 r0 r2 r3=>?_;obtain⟨E',c1,c2,c3,c4⟩:=a4 m (ag (ag U 8 (aa a)) 9 (aa b)) v0 r0 r2 r3 rfl rfl;obtain⟨U',d1,d2⟩:=b3 m E' v0 c2 c3 c4;exact⟨U',ck (bu ht) rfl c1 d1,d2⟩
  clear kk ih;have xa:=kq (hm:=s.1) ha;have xb:=kq (hm:=s.1) hb
  let k:=min (s.1 a) (s.1 b)
  let g:=max (s.1 a) (s.1 b)
  have kg:(s.1 b<s.1 a/\k=s.1 b/\g=s.1 a)\/(¬s.1 b<s.1 a/\k=s.1 a/\g=s.1 b):=by simp only[k,g];exact MW
  have hh1:∀ l,(r++l)[jh]?=some (AO.list (hl N s.1)):=fun l=>af hh l;have step1:∀(m:Nat) (E:En),E 2=some (.ref (jh+19))->E 8=some (aa a)->E 9=some (aa b)->dS ⟨ay aj m⟩ (.asg (.many [10,11]) (.blt .sorted [.lst [.sub (.loc 2) (.loc 8),.sub (.loc 2) (.loc 9)]])) E (F.st r)=some (none,ag (ag E 10 (aa k)) 11 (aa g),F.st (r++[AO.list [aa (s.1 a),aa (s.1 b)],AO.list [aa k,aa g]])):=fun m E r2 r8 r9=>by
   rcases kg with⟨q,e1,e2⟩ | ⟨q,e1,e2⟩<;>rw[e1,e2]
   ·exists r2,r8,r9,hh,d7 xa,d7 xb,Eo q
   ·exists r2,r8,r9,hh,d7 xa,d7 xb,AY (Nat.le_of_not_lt q)
  ·by_cases q:s.1 a=s.1 b
   ·have ekg:k=g:=by simp only[k,g];exact MV q
    refine go (r++[AO.list [aa (s.1 a),aa (s.1 b)],AO.list [aa k,aa g]]) jh s (by rw[lj,SI q]) (hh1 _) (Fr.grow _ _ _) fun m E v0 r0 r2 r3 r8 r9=>⟨ag (ag E 10 (aa k)) 11 (aa g),?_,r0,r2,r3⟩
    have t:=step1 m E r2 r8 r9;unfold ip;exists t,ug ekg
   ·have ekg:k≠g:=by simp only[k,g];exact MU q
    refine go (r++[AO.list [aa (s.1 a),aa (s.1 b)],AO.list [aa k,aa g],AO.list (hl N (ew s.1 k g))]) (r.length+2) (ew s.1 k g,true) (by rw[lj,Sz q]) (zd _ _ _ _ _) (Fr.grow _ _ _) fun m E v0 r0 r2 r3 r8 r9=>⟨ag (ag (ag (ag E 10 (aa k)) 11 (aa g)) 2 (.ref (r.length+2+19))) 3 (.bool true),?_,r0,rfl,rfl⟩
    have t:=step1 m E r2 r8 r9;have hc:∀(E:En),E 2=some (.ref (jh+19))->E 10=some (aa k)->E 11=some (aa g)->ar ⟨ay aj m⟩ (.comp (.ite (.cmp .eq (.loc 13) (.loc 11)) (.loc 10) (.loc 13)) (.one 13) (.loc 2) []) E (F.st (r++[AO.list [aa (s.1 a),aa (s.1 b)],AO.list [aa k,aa g]]))=some (.ref (r.length+2+19),F.st (r++[AO.list [aa (s.1 a),aa (s.1 b)],AO.list [aa k,aa g],AO.list (hl N (ew s.1 k g))])):=fun E r2 r10 r11=>by
     have hg:ic (F.st (r++[AO.list [aa (s.1 a),aa (s.1 b)],AO.list [aa k,aa g]])) [(jh+19,some (hl N s.1))]=true:=bu (hh1 _);refine bl (v:=.ref (jh+19)) (s:=⟨hl N s.1,[(jh+19,some (hl N s.1))]⟩) (Y1:=F.st (r++[AO.list [aa (s.1 a),aa (s.1 b)],AO.list [aa k,aa g]])) (Y2:=F.st (r++[AO.list [aa (s.1 a),aa (s.1 b)],AO.list [aa k,aa g]])) (vs:=hl N (ew s.1 k g)) (aF r2) rfl (aU (aJ (cF (hh1 _)))) (cD hg fun x hx=>⟨_,rfl,rfl,?_⟩) (by simp[hl,ax];exact Sy hN (by decide)) Kx Kc
     by_cases z:s.1 x=g
     ·rw[show ew s.1 k g x=k from SI z];exists(show ag E 13 (aa (s.1 x)) 10=_ from r10),(show ag E 13 (aa (s.1 x)) 11=_ from r11),fB z
     ·rw[show ew s.1 k g x=s.1 x from Sz z];exists(show ag E 13 (aa (s.1 x)) 10=_ from r10),(show ag E 13 (aa (s.1 x)) 11=_ from r11),iL z
    have hc':=hc (ag (ag E 10 (aa k)) 11 (aa g)) r2 rfl rfl;unfold ip;exists t,Dc ekg,hc'
structure WI(F:Fx)(r:St)(wd pr:Nat)(w:W):Prop where
 world:F.world=w.1.map aI
 wd:r[wd]?=some (AO.dict [(.sym 20,.ref 18),(.sym 22,.ref (pr+19))])
 pr:r[pr]?=some (AO.list (w.2.map pv))
 lt:∀ x∈w.2,x.1<w.1.length/\x.2<w.1.length
 kids:∀(i op:Nat) (ks:List Nat),w.1[i]?=some (op,ks)->(∀ k∈ks,k<i)/\ks.length<=2
 size:w.1.length<=20
 plen:w.2.length<=30
theorem WI.fr{r r':St}{wd pr:Nat}{w:W}(h:WI F r wd pr w)(f:Fr [] [] r r'):WI F r' wd pr w:={ h with wd:=f.get h.wd,pr:=f.get h.pr }
noncomputable abbrev y7:List S:=[S.asg (aw.many [4,3,5]) (X.tup [X.dct [] [],X.cst (al.bool false),X.blt aN.listOf [X.sub (X.loc 0) (X.cst (al.sym 22))]]),.for_ (.many [6,7]) (.blt .enum [.loc 1]) nZ,.for_ (.many [8,9]) (.loc 5) ip]
theorem wZ{ws:List Nd}:((ws.map aI).zipIdx.map fun x=>AV.tup [.int (x.2:Nat),x.1])=(ws.zipIdx 0).map ev:=by
 rw[List.zipIdx_map,TG];rfl
theorem sK{r:St}{wd pr jh:Nat}{w:W}{hm:Nat->Nat}(H:WI F r wd pr w)(M:Mn w.1.length hm)(hh:r[jh]?=some (AO.list (hl w.1.length hm))){G:Prop}
  (kk:∀ r' jh' s,r'[jh']?=some (AO.list (hl w.1.length (lj s.2 (hm,false)).1))->Fr [] [] r r'->SA w.1 hm w.2 w.1.length s->(∀(m:Nat) (U:En),U 0=some (.ref (wd+19))->U 1=some (.ref 18)->U 2=some (.ref (jh+19))->∃ U',bm ⟨ay aj m⟩ y7 U (F.st r)=some (none,U',F.st r')/\U' 0=some (.ref (wd+19))/\U' 1=some (.ref 18)/\U' 2=some (.ref (jh'+19))/\U' 3=some (.bool (lj s.2 (hm,false)).2))->G):G:=by
 let r1:St:=r++[AO.dict [],AO.list (w.2.map pv)]
 have hpl:=H.plen;have hsz:=H.size;have g1:r1[r.length]?=some (AO.dict (dA [])):=bM _ _ _;have g2:r1[r.length+1]?=some (AO.list (w.2.map pv)):=iW _ _ _ _;have lh:=(SJ.mp hh).1;refine Jc (F:=F) (N:=w.1.length) (jh:=jh) (js:=r.length) (jt:=r.length+1) (hm:=hm) (O0) (S7 lh) (EP lh) w.1 0 ([],w.2) r1 (fun d hd=>by
   obtain⟨i,hi⟩:=T5.mp hd;obtain⟨op,ks⟩:=d;obtain⟨q1,q2⟩:=H.kids i op ks hi;have:=(SJ.mp hi).1;exact⟨fun k hk=>by have:=q1 k hk;exact TU this ‹_›,q2⟩) g1 g2 (af hh _) (Sy (T9 hpl hsz) (by decide)) (by simp;exact Sy hsz (by decide)) _ fun r2 a1 a2 a3 a4=>?_
 have sp:=xN w.1 0 ([],w.2) rfl (SA.init w.1 hm w.2);rw[TZ] at sp;have hh2:r2[jh]?=some (AO.list (hl w.1.length hm)):=by rw[a3 jh (by simp[r1];exact Ug _ lh) (S7 lh) (EP lh)];exact af hh _
 refine Jb (F:=F) (N:=w.1.length) (jt:=r.length+1) (full:=(tP hm w.1 0 ([],w.2)).2.map pv) (Sy hsz (by decide)) (tP hm w.1 0 ([],w.2)).2 (hm,false) jh r2 (sp.lt H.lt) a1 hh2 _ fun r3 jh' b1 b2 b3=>?_
 have f1:Fr [] [] r r2:=Fr.nil (MT a2 (by simp[r1]:r1.length=r.length+2)) fun j hj=>by
  rw[a3 j (by simp[r1];exact Ug _ hj) (S7 hj) (EP hj)]
  exact S8 hj
 refine kk r3 jh' (tP hm w.1 0 ([],w.2)) b1 (f1.trans b2) sp fun m U q0 q1 q2=>?_;have hasg:dS ⟨ay aj m⟩ (S.asg (aw.many [4,3,5]) (X.tup [X.dct [] [],X.cst (al.bool false),X.blt aN.listOf [X.sub (X.loc 0) (X.cst (al.sym 22))]])) U (F.st r)=some (none,ag (ag (ag U 4 (.ref (r.length+19))) 3 (.bool false)) 5 (.ref (r.length+1+19)),F.st r1):=by
  have hw:=H.wd;have hp:=H.pr;have hdg:az [(AV.sym 20,AV.ref 18),(AV.sym 22,AV.ref (pr+19))] (.sym 22)=some (.ref (pr+19)):=rfl;exists q0,hw,hp,hdg
 generalize hE:ag (ag (ag U 4 (.ref (r.length+19))) 3 (.bool false)) 5 (.ref (r.length+1+19))=E at hasg;have E0:E 0=some (.ref (wd+19)):=by rw[<- hE];exact q0
 have E1:E 1=some (.ref 18):=by rw[<- hE];exact q1
 have E2:E 2=some (.ref (jh+19)):=by rw[<- hE];exact q2
 have E3:E 3=some (.bool false):=by rw[<- hE];exact rfl
 have E4:E 4=some (.ref (r.length+19)):=by rw[<- hE];exact rfl
 have E5:E 5=some (.ref (r.length+1+19)):=by rw[<- hE];exact rfl
 obtain⟨E',c1,c2,c3,c4,c5⟩:=a4 m E (.ref (wd+19)) (.bool false) ⟨E0,E1⟩ E2 E3 E4 E5;obtain⟨E'',d1,d2,d3,d4⟩:=b3 m E' (.ref (wd+19)) c2 c3 c4;have x18:F.world.length<=20:=by rw[H.world,SU];exact hsz
 have f2:dS ⟨ay aj m⟩ (.for_ (.many [6,7]) (.blt .enum [.loc 1]) nZ) E (F.st r1)=some (none,E',F.st r2):=by
  rw[cX (v:=.enm (.ref 18)) (s:=⟨(w.1.zipIdx 0).map ev,[(18,some F.world)]⟩) (Y1:=F.st r1) (by exists E1) rfl ?_]
  ·exact c1
  ·exact(tQ (l:=F.world) rfl).trans (by rw[H.world];exact Sx (fun l=>some (wQ.mk l _)) wZ)
 have f3:dS ⟨ay aj m⟩ (.for_ (.many [8,9]) (.loc 5) ip) E' (F.st r2)=some (none,E'',F.st r3):=by
  exact(cX (v:=.ref (r.length+1+19)) (s:=⟨(tP hm w.1 0 ([],w.2)).2.map pv,[(r.length+1+19,some ((tP hm w.1 0 ([],w.2)).2.map pv))]⟩) (Y1:=F.st r2) (aF c5) rfl (aU (aJ (cF a1)))).trans d1
 refine⟨E'',?_,d2.1,d2.2,d3,d4⟩;exact bJ hasg (bJ f2 (bJ f3 rfl))
end
section
variable{F:Fx}
theorem sJ{wd pr:Nat}{w:W}:∀(fuel:Nat) (r:St) (jh:Nat) (hm:Nat->Nat),WI F r wd pr w->Mn w.1.length hm->r[jh]?=some (AO.list (hl w.1.length hm))->mu w.1.length hm+2<fuel->
  ∀(G:Prop),(∀ r' jh' hm',r'[jh']?=some (AO.list (hl w.1.length hm'))->Fr [] [] r r'->Mn w.1.length hm'->(∀ R:Nat->Nat->Prop,bL w.1 R->(∀ x∈w.2,R x.1 x.2)->(∀ x y,hm x=hm y->R x y)->∀ x y,hm' x=hm' y->R x y)->bL w.1 (fun x y=>hm' x=hm' y)->(∀ x∈w.2,hm' x.1=hm' x.2)->(∀(m:Nat) (U:En),U 0=some (.ref (wd+19))->U 1=some (.ref 18)->U 2=some (.ref (jh+19))->U 3=some (.bool true)->∃ U',dL (fun U Y=>jK (ar ⟨ay aj m⟩ (.loc 3) U Y)) (bm ⟨ay aj m⟩ y7) fuel U (F.st r)=some (none,U',F.st r')/\U' 2=some (.ref (jh'+19)))->G)->G:=by
 intro fuel;induction fuel with
 | zero=>exact fun _ _ _ _ _ _ hf=>SH hf MS
 | succ fuel ih=>
  intro r jh hm H M hh hf G kk;refine sK H M hh fun r1 jh1 s a1 a2 a3 a4=>?_;have B:=xM (N:=w.1.length) s.2 (hm,false) M (a3.lt H.lt);have cond:∀(m:Nat) (U:En) (r:St) (b:Bool),U 3=some (.bool b)->jK (ar ⟨ay aj m⟩ (.loc 3) U (F.st r))=some (b,F.st r):=fun m U r b q=>g9 (aF q)
  by_cases q:(lj s.2 (hm,false)).2=true
  ·have hmu:mu w.1.length (lj s.2 (hm,false)).1<mu w.1.length hm:=by
    rcases B.dec with e | ⟨_,e⟩
    ·rw[e] at q;cases q
    ·exact e
   refine ih r1 jh1 (lj s.2 (hm,false)).1 (H.fr a2) B.mn a1 (MR hf hmu) _ fun r' jh' hm' c1 c2 c3 c4 c5 c6 c7=>?_;refine kk r' jh' hm' c1 (a2.trans c2) c3 (fun R C hp hR=>c4 R C hp (B.snd R C.nil (a3.sound C hp hR) hR)) c5 c6 fun m U q0 q1 q2 q3=>?_;obtain⟨U1,d1,d2,d3,d4,d5⟩:=a4 m U q0 q1 q2;rw[q] at d5;obtain⟨U2,e1,e2⟩:=c7 m U1 d2 d3 d4 d5;refine⟨U2,?_,e2⟩;exact Av (cond m U r true q3) d1 e1
  ·have q:(lj s.2 (hm,false)).2=false:=by simpa using q
   have e:lj s.2 (hm,false)=(hm,false):=by
    rcases B.dec with e | ⟨e,_⟩
    ·exact e
    ·rw[q] at e;cases e
   have b4:=B.hit;rw[e] at a1 b4;refine kk r1 jh1 hm a1 a2 M (fun R C hp hR=>hR) (a3.cong b4) (fun x hx=>b4 x (a3.keep x hx)) fun m U q0 q1 q2 q3=>?_;obtain⟨U1,d1,d2,d3,d4,d5⟩:=a4 m U q0 q1 q2;rw[e] at d5;refine⟨U1,?_,d4⟩;obtain⟨f2,rfl⟩:∃ f2,fuel=f2+1:=⟨fuel-1,MQ hf⟩;exact Av (cond m U r true q3) d1 (qY (cond m U1 r1 false d5))
theorem pP{r:St}{wd pr:Nat}{w:W}(H:WI F r wd pr w){G:Prop}
  (kk:∀ r' jh hm,Ok 1 10 [.ref (wd+19)] (F.st r) (.ref (jh+19)) (F.st r')->r'[jh]?=some (AO.list (hl w.1.length hm))->Fr [] [] r r'->Mn w.1.length hm->(∀ x y,hm x=hm y↔Cg w.1 w.2 x y)->G):G:=by
 have hsz:=H.size;have hmu:mu w.1.length (fun x=>x)+2<bA:=by
  have h1:=I2 (Mn.id w.1.length);have h2:w.1.length*w.1.length<=20*20:=Nat.mul_le_mul hsz hsz;unfold bA;exact MP h1 h2
 refine sJ bA (r++[AO.list (hl w.1.length (fun x=>x))]) r.length (fun x=>x) (H.fr (Fr.grow _ _ _)) (Mn.id _) (bM _ _ _) hmu _ fun r' jh' hm' c1 c2 c3 c4 c5 c6 c7=>?_;refine kk r' jh' hm' (.mk rfl rfl fun m hm=>?_) c1 ((Fr.grow _ _ _).trans c2) c3 fun x y=>⟨fun q=>c4 _ (Cg.congR _ _) (fun x hx=>.pair hx) (fun x y e=>e▸.refl _) x y q,fun q=>q.least c5 fun x y hx=>c6 (x,y) hx⟩;have hasg:dS ⟨ay aj m⟩ (.asg (aw.many [1,2,3]) (X.tup [X.sub (X.loc 0) (X.cst (al.sym 20)),X.blt aN.listOf [X.blt aN.range [X.blt aN.len [X.sub (X.loc 0) (X.cst (al.sym 20))]]],X.cst (al.bool true)])) (fun i=>[AV.ref (wd+19)][i]?) (F.st r)=some (none,ag (ag (ag (fun i=>[AV.ref (wd+19)][i]?) 1 (.ref 18)) 2 (.ref (r.length+19))) 3 (.bool true),F.st (r++[AO.list (hl w.1.length (fun x=>x))])):=by
  have hw:=H.wd;have hdg:az [(AV.sym 20,AV.ref 18),(AV.sym 22,AV.ref (pr+19))] (.sym 20)=some (.ref 18):=rfl;have hl':F.world.length=w.1.length:=by rw[H.world,SU]
  have hle:w.1.length<=50000:=Sy hsz (by decide)
  exists hw,hdg,hl',hle
 obtain⟨U',d1,d2⟩:=c7 m (ag (ag (ag (fun i=>[AV.ref (wd+19)][i]?) 1 (.ref 18)) 2 (.ref (r.length+19))) 3 (.bool true)) rfl rfl rfl rfl;exact JO (bJ hasg (bJ ((zy ..).trans d1) (C1 (aF d2) rfl))) rfl
end
noncomputable def ya(f:Nat->Nat)(a b:Nat):Nat->Nat:=fun x=>if f x=f b then f a else f x
theorem Bf(f:Nat->Nat)(a b x y:Nat):ya f a b x=ya f a b y↔f x=f y\/(f x=f a/\f y=f b)\/(f x=f b/\f y=f a):=rn
noncomputable def xL:List Pr->(Nat->Nat)->Nat->Nat
 | [],f=>f
 | (a,b)::r,f=>xL r (ya f a b)
structure SC(ps:List Pr)(f g:Nat->Nat):Prop where
 snd:∀ R:Nat->Nat->Prop,bL [] R->(∀ x∈ps,R x.1 x.2)->(∀ x y,f x=f y->R x y)->∀ x y,g x=g y->R x y
 mono:∀ x y,f x=f y->g x=g y
 hit:∀ x∈ps,g x.1=g x.2
theorem xK:∀(ps:List Pr) (f:Nat->Nat),SC ps f (xL ps f):=by
 intro ps;induction ps with
 | nil=>exact fun f=>⟨fun R C _ h=>h,fun _ _ e=>e,nofun⟩
 | cons p ps ih=>
  intro f;have I:=ih (ya f p.1 p.2);have c:=Bf f p.1 p.2;exact⟨fun R C hp hf=>I.snd R C (fun x hx=>hp x (.tail _ hx)) fun x y e=>C.mrg (hp p (.head _)) hf ((c x y).mp e),fun x y e=>I.mono x y ((c x y).mpr (.inl e)),
   fun x hx=>(SN.mp hx).elim (fun r=>r▸I.mono _ _ ((c _ _).mpr (.inr (.inl ⟨rfl,rfl⟩)))) (I.hit x)⟩
noncomputable abbrev tS:List S:=[.asg (.one 4) (.comp (.ite (.cmp .eq (.loc 8) (.sub (.loc 4) (.loc 6))) (.sub (.loc 4) (.loc 5)) (.loc 8)) (.one 8) (.loc 4) [])]
section
variable{F:Fx}
theorem x0{N pr:Nat}{full:List AV}(hN:N<=1000):∀(ps:List Pr) (f:Nat->Nat) (jh:Nat) (r:St),(∀ x∈ps,x.1<N/\x.2<N)->r[pr]?=some (AO.list full)->r[jh]?=some (AO.list (hl N f))->
  ∀(G:Prop),(∀ r' jh',r'[jh']?=some (AO.list (hl N (xL ps f)))->Fr [] [] r r'->(∀(m:Nat) (U:En) (a b:AV),U 1=some a->U 2=some b->U 4=some (.ref (jh+19))->∃ U',dQ [(pr+19,some full)] (.many [5,6]) (bm ⟨ay aj m⟩ tS) (ps.map pv) U (F.st r)=some (none,U',F.st r')/\U' 1=some a/\U' 2=some b/\U' 4=some (.ref (jh'+19)))->G)->G:=by
 intro ps;induction ps with
 | nil=>exact fun f jh r hd ht hh _ kk=>kk r jh hh (Fr.refl _ _) fun m U a b r1 r2 r4=>⟨U,bT (bu ht),r1,r2,r4⟩
 | cons x ps ih=>
  obtain⟨a,b⟩:=x;intro f jh r hd ht hh G kk;have ha:a<N:=(hd (a,b) (.head _)).1;have hb:b<N:=(hd (a,b) (.head _)).2;have xa:=kq (hm:=f) ha;have xb:=kq (hm:=f) hb;refine ih (ya f a b) r.length (r++[AO.list (hl N (ya f a b))]) (fun x hx=>hd x (.tail _ hx)) (af ht _) (bM _ _ _) _ fun r' jh' b1 b2 b3=>?_;refine kk r' jh' b1 ((Fr.grow _ _ _).trans b2) fun m U va vb q1 q2 q4=>?_;have hc:∀(E:En),E 4=some (.ref (jh+19))->E 5=some (aa a)->E 6=some (aa b)->bm ⟨ay aj m⟩ tS E (F.st r)=some (none,ag E 4 (.ref (r.length+19)),F.st (r++[AO.list (hl N (ya f a b))])):=fun E r4 r5 r6=>by
   have hg:ic (F.st r) [(jh+19,some (hl N f))]=true:=bu hh;have hcc:ar ⟨ay aj m⟩ (.comp (.ite (.cmp .eq (.loc 8) (.sub (.loc 4) (.loc 6))) (.sub (.loc 4) (.loc 5)) (.loc 8)) (.one 8) (.loc 4) []) E (F.st r)=some (.ref (r.length+19),F.st (r++[AO.list (hl N (ya f a b))])):=by
    refine bl (v:=.ref (jh+19)) (s:=⟨hl N f,[(jh+19,some (hl N f))]⟩) (Y1:=F.st r) (Y2:=F.st r) (vs:=hl N (ya f a b)) (aF r4) rfl (aU (aJ (cF hh))) (cD hg fun x hx=>⟨_,rfl,rfl,?_⟩) (by simp[hl,ax];exact Sy hN (by decide)) rfl rfl
    by_cases z:f x=f b
    ·rw[show ya f a b x=f a from SI z];exists(show ag E 8 (aa (f x)) 4=_ from r4),(show ag E 8 (aa (f x)) 5=_ from r5),(show ag E 8 (aa (f x)) 6=_ from r6),hh,d7 xa,d7 xb,fB z
    ·rw[show ya f a b x=f x from Sz z];exists(show ag E 8 (aa (f x)) 4=_ from r4),(show ag E 8 (aa (f x)) 6=_ from r6),hh,d7 xb,iL z
   unfold tS;exists hcc
  obtain⟨U',d1,d2⟩:=b3 m (ag (ag (ag U 5 (aa a)) 6 (aa b)) 4 (.ref (r.length+19))) va vb q1 q2 rfl;exact⟨U',ck (bu ht) rfl (hc (ag (ag U 5 (aa a)) 6 (aa b)) q4 rfl rfl) d1,d2⟩
theorem tY{r:St}{wd pr:Nat}{w:W}(H:WI F r wd pr w){a b:Nat}(ha:a<w.1.length)(hb:b<w.1.length)(full:Bool){G:Prop}
  (kk:∀ r',Ok 2 8 [.ref (wd+19),aa a,aa b,.bool full] (F.st r) (.bool (same (if full then w.1 else[]) w.2 a b)) (F.st r')->Fr [] [] r r'->G):G:=by
 have hsz:=H.size;have hm0:∀(G:Prop),(∀ r1 jh f,(∀ m,1<=m->ar ⟨ay aj m⟩ (.ite (.loc 3) (.call 10 [.loc 0]) (.blt .listOf [.blt .range [.blt .len [.sub (.loc 0) (.cst (.sym 20))]]])) (fun i=>[AV.ref (wd+19),aa a,aa b,.bool full][i]?) (F.st r)=some (.ref (jh+19),F.st r1))->
   r1[jh]?=some (AO.list (hl w.1.length f))->Fr [] [] r r1->(∀ x y,f x=f y↔Cg (if full then w.1 else[]) (if full then w.2 else[]) x y)->G)->G:=by
  clear kk;intro G kk
  cases full with
  | true=>
   refine pP H fun r' jh hm O h2 h3 _ h5=>?_;exact kk r' jh hm (fun m hm=>(by have t:=O m hm;exists t)) h2 h3 h5
  | false=>
   refine kk (r++[AO.list (hl w.1.length (fun x=>x))]) r.length (fun x=>x) (fun m hm=>?_) (bM _ _ _) (Fr.grow _ _ _) fun x y=>⟨fun e=>(show x=y from e)▸.refl _,fun q=>q.least (R:=fun x y=>x=y) (nT (fun x=>x)) fun x y h=>nomatch(h:(x,y)∈([]:List Pr))⟩
   have hw:=H.wd;have hdg:az [(AV.sym 20,AV.ref 18),(AV.sym 22,AV.ref (pr+19))] (.sym 20)=some (.ref 18):=rfl;have hl':F.world.length=w.1.length:=by rw[H.world,SU]
   have hle:w.1.length<=50000:=Sy hsz (by decide)
   exists hw,hdg,hl',hle
 refine hm0 _ fun r1 jh f a1 a2 a3 a4=>?_;refine x0 (F:=F) (N:=w.1.length) (pr:=pr) (full:=w.2.map pv) (Sy hsz (by decide)) w.2 f jh r1 H.lt (a3.get H.pr) a2 _ fun r2 jh2 b1 b2 b3=>?_
 have c:=xK w.2 f;refine kk r2 (.mk rfl rfl fun m hm=>?_) (a3.trans b2);have hsame:same (if full then w.1 else[]) w.2 a b=decide (xL w.2 f a=xL w.2 f b):=by
  apply nk
  constructor
  ·intro q
   cases full with
   | true=>exact c.mono a b ((a4 a b).mpr q)
   | false=>exact q.least (nT _) fun x y h=>c.hit (x,y) h
  ·refine c.snd _ (Cg.congR _ _).nil (fun x hx=>.pair hx) (fun x y e=>?_) a b;have:=(a4 x y).mp e
   cases full with
   | true=>exact this
   | false=>exact this.least (Cg.congR _ _) fun _ _ h=>by simp at h
 have hasg:dS ⟨ay aj m⟩ (.asg (.one 4) (.ite (.loc 3) (.call 10 [.loc 0]) (.blt .listOf [.blt .range [.blt .len [.sub (.loc 0) (.cst (.sym 20))]]]))) (fun i=>[AV.ref (wd+19),aa a,aa b,.bool full][i]?) (F.st r)=some (none,ag (fun i=>[AV.ref (wd+19),aa a,aa b,.bool full][i]?) 4 (.ref (jh+19)),F.st r1):=
  hJ (a1 m hm) rfl
 obtain⟨U',d1,d2,d3,d4⟩:=b3 m (ag (fun i=>[AV.ref (wd+19),aa a,aa b,.bool full][i]?) 4 (.ref (jh+19))) (aa a) (aa b) rfl rfl rfl;have hfor:dS ⟨ay aj m⟩ (.for_ (.many [5,6]) (.sub (.loc 0) (.cst (.sym 22))) tS) (ag (fun i=>[AV.ref (wd+19),aa a,aa b,.bool full][i]?) 4 (.ref (jh+19))) (F.st r1)=some (none,U',F.st r2):=by
  have hw:=a3.get H.wd;have hp:=a3.get H.pr;have hdg:az [(AV.sym 20,AV.ref 18),(AV.sym 22,AV.ref (pr+19))] (.sym 22)=some (.ref (pr+19)):=rfl;exact(cX (v:=.ref (pr+19)) (s:=⟨w.2.map pv,[(pr+19,some (w.2.map pv))]⟩) (Y1:=F.st r1) (by exists hw,hdg) rfl (aU (aJ (cF hp)))).trans d1
 rw[hsame];have xa:=kq (hm:=xL w.2 f) ha;have xb:=kq (hm:=xL w.2 f) hb;have z:∀{Y},bh .eq Y (aa (xL w.2 f a)) (aa (xL w.2 f b))=some (decide (xL w.2 f a=xL w.2 f b)):=Sx some (decide_eq_decide.mpr ms);exists hasg,hfor,d2,d3,d4,b1,d7 xa,d7 xb,z
end
theorem Ch{ws:List Nd}{d:Nd}:∀{i:Nat},ws.Nodup->ws[i]?=some d->(ws.map aI).findIdx? (fun x=>decide (x=aI d))=some i:=by
 induction ws with
 | nil=>exact fun _ h=>bY h
 | cons a ws ih=>
  refine @fun i hn h=>?_;have hh:=Th.mp hn;rw[List.map_cons,List.findIdx?_cons]
  cases i with
  | zero=>rw[SQ h,SM rfl];rfl
  | succ i=>rw[Td fun e:aI a=aI d=>hh.1 ((ju e).symm▸Tf (show ws[i]?=some d from h)),ih hh.2 h];rfl
theorem zg{ws:List Nd}{d:Nd}(hn:d∉ws):((ws++[d]).map aI).findIdx? (fun x=>decide (x=aI d))=some ws.length:=by
 induction ws with
 | nil=>simp[List.findIdx?_cons]
 | cons a ws ih=>
  have hne:¬aI a=aI d:=fun e=>hn (by rw[ju e];exact .head _)
  have:=ih fun q=>hn (.tail _ q);rw[List.cons_append,List.map_cons,List.findIdx?_cons];simp only[hne,decide_false,Bool.false_eq_true,if_false,this,Option.map_some,List.length_cons]
theorem jj(ws:List Nd):AV.purs (ws.map aI)=true:=by
 unfold AV.purs;simp only[List.all_map,List.all_eq_true];exact fun x _=>cZ x
theorem nP{ws:List Nd}{d:Nd}:aI d∈ws.map aI↔d∈ws:=
 ⟨fun h=>by obtain⟨e,h1,h2⟩:=SY.mp h;rw[<- ju h2];exact h1,fun h=>SY.mpr ⟨d,h,rfl⟩⟩
section
variable{F:Fx}
theorem yj{r:St}{wd pr:Nat}{w:W}(H:WI F r wd pr w)(hnd:w.1.Nodup)(rt:Rk)(d:Nat) :
  Ok 1 7 [.ref (wd+19),rt.av,aa d] (F.st r) (aa (aK rt w.1 d).1) ((F.t18 ((aK rt w.1 d).2.map aI)).st r):=by
 have hw:=H.wd;have hdg:az [(AV.sym 20,AV.ref 18),(AV.sym 22,AV.ref (pr+19))] (.sym 20)=some (.ref 18):=rfl;have hwo:=H.world;have hsz:w.1.length+1<=100000:=by have:=H.size;exact MN this
 have hself:(F.t18 (w.1.map aI))=F:=hwo▸rfl;have p1:AV.pur (.tup [.sym 6])=true:=rfl;have p2:AV.pur (.tup [.sym 7])=true:=rfl;have p3:AV.pur (.tup [.sym 5,.tup [.sym 7]])=true:=rfl;have p4:AV.pur (.tup [.sym 5,aa d])=true:=rfl;refine .mk rfl (by cases rt<;>rfl) fun m hm=>?_
 have main:∀(nd:Nd) (E:En) (F0:Fx),F0=F->E 0=some (.ref (wd+19))->E 3=some (aI nd)->ea (bm ⟨ay aj m⟩ [.ite (.cmp .notIn (.loc 3) (.sub (.loc 0) (.cst (.sym 20)))) [.expr (.meth (.sub (.loc 0) (.cst (.sym 20))) 27 [.loc 3])] [],.ret (.meth (.sub (.loc 0) (.cst (.sym 20))) 30 [.loc 3])] E (F0.st r))=some (aa (qj w.1 nd).1,(F.t18 ((qj w.1 nd).2.map aI)).st r):=fun nd E F0 hF r0 r3=>by
  subst hF;have hp:=cZ nd
  by_cases q:nd∈w.1
  ·obtain⟨i,hi⟩:=T5.mp q;rw[nW hnd hi];dsimp only;rw[hself];have hm':aI nd∈w.1.map aI:=nP.mpr q;have hf:=Ch hnd hi;simp only[<- hwo] at hm' hf;have hps:=jj w.1;rw[<- hwo] at hps;exists r0,r3,hw,hdg,je hp hps,SM hm',hf
  ·rw[nX q];have hm':¬aI nd∈w.1.map aI:=fun z=>q (nP.mp z);have hf:=zg q;have hps:=jj w.1;have hps2:=jj (w.1++[nd]);rw[Ta] at hf hps2;simp only[List.map_cons,List.map_nil] at hf hps2;have hle:F0.world.length+1<=ax:=by rw[hwo,SU];exact hsz
   dsimp only;rw[Ta,List.map_cons,List.map_nil];rw[<- hwo] at hm' hf hps hps2 ⊢;exists r0,r3,hw,hdg,je hp hps,je hp hps2,Td hm',hle,hf
 cases rt with
 | c=>exact uG (by exists trivial) (uG (by exists trivial) (main (6,[]) (ag (fun i=>[AV.ref (wd+19),Rk.av .c,aa d][i]?) 3 (aI (6,[]))) F rfl rfl rfl))
 | x=>
  have:aK .x w.1 d=(d,w.1):=rfl;rw[this];dsimp only;rw[hself];exists trivial
 | h=>exact uG (by exists trivial) (uG (by exists trivial) (main (5,[d]) (ag (fun i=>[AV.ref (wd+19),Rk.av .h,aa d][i]?) 3 (aI (5,[d]))) F rfl rfl rfl))
end
theorem vq(rt:Rk)(ws:List Nd)(d:Nat):∃ l,(aK rt ws d).2=ws++l/\l.length<=1:=by
 have:∀ nd,∃ l,(qj ws nd).2=ws++l/\l.length<=1:=fun nd=>by
  unfold qj
  cases lk ws.zipIdx nd with
  | some i=>exact⟨[],by simp,by simp⟩
  | none=>exact⟨[nd],rfl,by simp⟩
 cases rt with
 | x=>exact⟨[],by simp[aK],by simp⟩
 | c=>exact this _
 | h=>exact this _
theorem yY(ws:List Nd)(nd:Nd):(qj ws nd).1<(qj ws nd).2.length:=by
 unfold qj
 cases h:lk ws.zipIdx nd with
 | some i=>
  have:=ff h;rw[List.mk_mem_zipIdx_iff_getElem?] at this;exact(SJ.mp this).1
 | none=>simp
theorem x8(rt:Rk)(ws:List Nd)(d:Nat)(h:d<ws.length):(aK rt ws d).1<(aK rt ws d).2.length:=by
 cases rt with
 | x=>exact h
 | c=>exact yY _ _
 | h=>exact yY _ _
theorem qi{ws:List Nd}{nd:Nd}(hk:∀(i op:Nat) (ks:List Nat),ws[i]?=some (op,ks)->(∀ k∈ks,k<i)/\ks.length<=2)(h1:∀ k∈nd.2,k<ws.length)(h2:nd.2.length<=2) :
  ∀(i op:Nat) (ks:List Nat),(qj ws nd).2[i]?=some (op,ks)->(∀ k∈ks,k<i)/\ks.length<=2:=by
 unfold qj
 cases h:lk ws.zipIdx nd with
 | some i=>exact hk
 | none=>
  intro i op ks hi
  rcases fW hi with q | ⟨rfl,rfl⟩
  ·exact hk i op ks q.2
  ·exact⟨h1,h2⟩
theorem mE{ws:List Nd}{nd:Nd}(h:ws.Nodup):(qj ws nd).2.Nodup:=by
 unfold qj
 cases hl:lk ws.zipIdx nd with
 | some i=>exact h
 | none=>
  refine Tj.mpr ⟨h,by simp,fun a ha b hb e=>?_⟩
  simp at hb;subst hb e;obtain⟨i,hi⟩:=T5.mp ha;rw[sD h hi] at hl;cases hl
theorem rJ{ws:List Nd}{d:Nat}(rt:Rk)(hk:∀(i op:Nat) (ks:List Nat),ws[i]?=some (op,ks)->(∀ k∈ks,k<i)/\ks.length<=2)(h1:d<ws.length) :
  ∀(i op:Nat) (ks:List Nat),(aK rt ws d).2[i]?=some (op,ks)->(∀ k∈ks,k<i)/\ks.length<=2:=by
 cases rt with
 | x=>exact hk
 | c=>exact qi hk (by simp) (by simp)
 | h=>exact qi hk (by simpa using h1) (by simp)
theorem iK{ws:List Nd}{d:Nat}(rt:Rk)(h:ws.Nodup):(aK rt ws d).2.Nodup:=by
 cases rt with
 | x=>exact h
 | c=>exact mE h
 | h=>exact mE h
section
variable{F:Fx}{like:Option Bool}{rt:Rk}{lf:Lf}
def EL(F:Fx)(rt:Rk)(lf:Lf)(r:St)(wd pr ru n d:Nat)(w:W)(fv:List AV)(G:Prop):Prop:=∀{like:Option Bool} (H:WI F r wd pr w) (hnd:w.1.Nodup) (hUU:r[ru]?=some (ci lf rt like)) (p:cU w.1 lf n d fv) (hsz:w.1.length+1<=20) (hpl:w.2.length+1<=30) (kk:∀ r',Ok 3 9 [.ref (wd+19),.ref (ru+19),.tup [aa n,.tup fv]] (F.st r) (.bool (bj like rt w n d).1) ((F.t18 ((bj like rt w n d).2.1.map aI)).st r')->WI (F.t18 ((bj like rt w n d).2.1.map aI)) r' wd pr (bj like rt w n d).2->(bj like rt w n d).2.1.Nodup->r.length<=r'.length->(∀ j,j<r.length->j≠pr->r'[j]?=r[j]?)->(∃ l,(bj like rt w n d).2.1=w.1++l/\l.length<=1)->(bj like rt w n d).2.2.length<=w.2.length+1->G),G
def Ix(a:Fx×Rk×Lf×St×Nat×Nat×Nat×Nat×Nat×W×List AV×Prop):Prop:=EL a.1 a.2.1 a.2.2.1 a.2.2.2.1 a.2.2.2.2.1 a.2.2.2.2.2.1 a.2.2.2.2.2.2.1 a.2.2.2.2.2.2.2.1 a.2.2.2.2.2.2.2.2.1 a.2.2.2.2.2.2.2.2.2.1 a.2.2.2.2.2.2.2.2.2.2.1 a.2.2.2.2.2.2.2.2.2.2.2
noncomputable def iV:=lK (Dl,.c,.f1,default) Ix
noncomputable def vH:=iV.1
noncomputable def dC:=iV.2.1
noncomputable def Iv:=iV.2.2.1
noncomputable def EK:=iV.2.2.2.1
noncomputable def vG:=iV.2.2.2.2.1
noncomputable def sh:=iV.2.2.2.2.2.1
noncomputable def Bu:=iV.2.2.2.2.2.2.1
noncomputable def wL:=iV.2.2.2.2.2.2.2.1
noncomputable def mr:=iV.2.2.2.2.2.2.2.2.1
noncomputable def gV:=iV.2.2.2.2.2.2.2.2.2.1
noncomputable def yp:=iV.2.2.2.2.2.2.2.2.2.2.1
noncomputable def Iw:=iV.2.2.2.2.2.2.2.2.2.2.2
theorem Lu:EL vH dC Iv EK vG sh Bu wL mr gV yp Iw:=fun{like} H hnd hUU p hsz hpl kk=>by
 obtain⟨es,es',p1,p2,p3,p4,p5,_⟩:=p.data;have hdn:=p.dlt fun i op ks hi=>(H.kids i op ks hi).1;have hnl:=jm p.op;have hdl:mr<gV.1.length:=TU hdn hnl;have hself:(vH.t18 (gV.1.map aI))=vH:=H.world▸rfl
 let r1:St:=EK++[AO.dict es']
 have H1:WI vH r1 vG sh gV:=H.fr (Fr.grow _ _ _);have hU1:r1[Bu]?=some (ci Iv dC like):=af hUU _
 let E:En:=ag (ag (ag (ag (fun i=>[AV.ref (vG+19),.ref (Bu+19),.tup [aa wL,.tup yp]][i]?) 3 (aa wL)) 4 (.tup yp)) 5 (aa mr)) 6 (.bool like.isSome)
 have q2:∀ m,dS ⟨ay aj m⟩ (S.asg (aw.many [5,6]) (X.tup [X.sub (X.blt aN.dict [X.loc 4]) (X.cst (al.sym 7)),X.cmp aR.ne (X.attr (X.loc 1) 18) (X.tup [])])) (ag (ag (fun i=>[AV.ref (vG+19),.ref (Bu+19),.tup [aa wL,.tup yp]][i]?) 3 (aa wL)) 4 (.tup yp)) (vH.st EK)=some (none,E,vH.st r1):=fun m=>by
  have p5:vH.st EK++[AO.dict (List.foldl (fun es p=>aT es p.1 p.2) [] es)]=vH.st r1:=by rw[p3];rfl
  have hb:∀ b:Bool,((AV.tup [.tup [.sym (if b=true then 11 else 12),.tup [.sym 7],.tup [.sym 1]]]).pur&&(AV.tup []).pur)=true:=fun b=>by cases b<;>rfl
  cases like with
  | none=>exists p1,p2,p5,p4,hU1
  | some b=>exists p1,p2,p5,p4,hU1,hb b
 have asked:∀(Iw:Prop),(∀ r2,(∀ m,2<=m->ar ⟨ay aj m⟩ (.and (.loc 6) (.cmp .ne (.call 8 [.loc 0,.loc 5,.cst (.int 0),.cst (.bool true)]) (.cmp .eq (.sub (.sub (.attr (.loc 1) 18) (.cst (.int 0))) (.cst (.int 0))) (.cst (.sym 11))))) E (vH.st r1)=some (.bool (EU like gV mr),vH.st r2))->Fr [] [] r1 r2->Iw)->Iw:=by
  clear kk;intro Iw kk
  cases hlk:like with
  | none=>
   have r6:E 6=some (.bool false):=by show some (AV.bool like.isSome)=_;rw[hlk];rfl
   exact kk r1 (fun m hm=>by rw[hlk];exact CU (aF r6) (J9 rfl)) (Fr.refl _ _)
  | some b=>
   have r6:E 6=some (.bool true):=by show some (AV.bool like.isSome)=_;rw[hlk];rfl
   refine tY H1 hdl (Nat.zero_lt_of_lt hnl:0<gV.1.length) true fun r2 O f=>?_;refine kk r2 (fun m hm=>?_) f;rw[hlk];have t:=O m hm;have hU2:=f.get hU1;have hb:∀{Y},bh .eq Y (.sym (if b=true then 11 else 12)) (.sym 11)=some b:=by cases b<;>exact fun{Y}=>rfl
   rw[hlk] at hU2;exists r6,t,hU2,hb
 refine asked _ fun r2 s2 f2=>?_;clear asked;have H2:=H1.fr f2;have hU2:=f2.get hU1
 cases hmis:EU like gV mr with
 | true=>
  have hls:bj like dC gV wL mr=(false,gV):=by unfold bj;rw[SI hmis]
  rw[hls] at kk;dsimp only at kk;rw[hself] at kk;refine kk r2 (.mk rfl rfl fun m hm=>?_) H2 hnd ((Fr.grow _ _ _).trans f2).len (fun j hj _=>((Fr.grow [] EK _).trans f2).same j hj nofun) ⟨[],(Ti _).symm,SZ _⟩ (TS _)
  have t:=s2 m hm;rw[hmis] at t;exists q2 m,t
 | false=>
  have t4:=yj H2 hnd dC mr;obtain⟨l,l1,l2⟩:=vq dC gV.1 mr;have hrl:=x8 dC gV.1 mr hdl;have hn2:wL<(aK dC gV.1 mr).2.length:=by rw[l1,SP];exact Ug _ hnl
  have H3:WI (vH.t18 ((aK dC gV.1 mr).2.map aI)) r2 vG sh ((aK dC gV.1 mr).2,gV.2):=
   ⟨rfl,H2.wd,H2.pr,fun x hx=>by have:=H.lt x hx;dsimp only;rw[l1,SP];exact MM this,rJ dC H.kids hdl,by dsimp only;rw[l1,SP];exact ML hsz l2,H.plen⟩
  refine tY H3 hn2 hrl like.isSome fun r3 O f3=>?_;dsimp only at O;have H4:=H3.fr f3;have hU3:=f3.get hU2;have Q:∀ m,2<=m->ar ⟨ay aj m⟩ (.and (.loc 6) (.cmp .ne (.call 8 [.loc 0,.loc 5,.cst (.int 0),.cst (.bool true)]) (.cmp .eq (.sub (.sub (.attr (.loc 1) 18) (.cst (.int 0))) (.cst (.int 0))) (.cst (.sym 11))))) E (vH.st r1)=some (.bool false,vH.st r2):=fun m hm=>by
   have t:=s2 m hm;rw[hmis] at t;exact t
  cases hans:same (if like.isSome then(aK dC gV.1 mr).2 else[]) gV.2 wL (aK dC gV.1 mr).1 with
  | true=>
   have hls:bj like dC gV wL mr=(false,((aK dC gV.1 mr).2,gV.2)):=by
    unfold bj;rw[Sz (by rw[hmis];simp)];dsimp only;rw[SI hans]
   rw[hls] at kk;refine kk r3 (.mk rfl rfl fun m hm=>?_) H4 (iK dC hnd) (((Fr.grow _ _ _).trans f2).trans f3).len (fun j hj _=>(((Fr.grow [] EK _).trans f2).trans f3).same j hj nofun) ⟨l,l1,l2⟩ (TS _)
   have t:=O m hm;rw[hans] at t;exists q2 m,Q m hm,hU2,dC.it,t4 m (Sy (by decide) hm),t
  | false=>
   have hls:bj like dC gV wL mr=(true,((aK dC gV.1 mr).2,gV.2++[(wL,(aK dC gV.1 mr).1)])):=by
    unfold bj;rw[Sz (by rw[hmis];simp)];dsimp only;rw[Sz (by rw[hans];simp)]
   rw[hls] at kk;have hpr:=H4.pr;have hwd:=H4.wd;have hprl:=(SJ.mp hpr).1;have hne:vG≠sh:=fun e=>by rw[e] at hwd;rw[hwd] at hpr;cases hpr
   refine kk (r3.set sh (AO.list (gV.2.map pv++[pv (wL,(aK dC gV.1 mr).1)]))) (.mk rfl rfl fun m hm=>?_) ⟨H4.world,?_,?_,fun x hx=>?_,H4.kids,H4.size,by rw[SP];exact hpl⟩ (iK dC hnd) (by rw[Ul];exact(((Fr.grow _ _ _).trans f2).trans f3).len) (fun j hj hjp=>?_) ⟨l,l1,l2⟩ (by rw[SP];exact SE _)
   ·have t:=O m hm;rw[hans] at t;have hdg:az [(AV.sym 20,AV.ref 18),(AV.sym 22,AV.ref (sh+19))] (.sym 22)=some (.ref (sh+19)):=rfl;have hle:(gV.2.map pv).length+1<=ax:=by rw[SU];exact Sy hpl (by decide)
    dsimp only at hpr;exists q2 m,Q m hm,hU2,dC.it,t4 m (Sy (by decide) hm),t,hwd,hdg,hpr,hle
   ·rw[Tk (fun q=>hne q.symm)];exact hwd
   ·rw[TQ hprl];simp
   ·rcases S9.mp hx with q | q
    ·exact H4.lt x q
    ·rw[SO.mp q];exact⟨hn2,hrl⟩
   ·rw[Tk (fun q=>hjp q.symm)];exact(((Fr.grow [] EK _).trans f2).trans f3).same j hj (by simp)
theorem ub{r:St}{wd pr ru n d:Nat}{w:W}{fv:List AV}{G:Prop}:EL F rt lf r wd pr ru n d w fv G:=bE Ix Lu (F,rt,lf,r,wd,pr,ru,n,d,w,fv,G)
end
def DP(F:Fx)(b:Nat):Prop:=∃(cs:List Int) (a:Nat),F.cells=cs.map .int/\F.ato=(a:Int)/\a<=b
theorem ur{x:Int}{k:Nat}(hk:0<k){G:Prop}
  (kk:∀ v,v<k->AV.int (x%(k:Int))=aa v->G):G:=by
 have h1:=Int.emod_nonneg x (MK hk:(k:Int)≠0);have h2:=Int.emod_lt_of_pos x (IN hk:(0:Int)<k);exact kk (x%(k:Int)).toNat ((Int.toNat_lt h1).mpr h2) (Sx AV.int (Int.toNat_of_nonneg h1).symm)
section
variable{F:Fx}
theorem cJ{r:St}{b k:Nat}(D:DP F b)(hb:b<=1000)(hk:0<k){G:Prop}
  (kk:∀(v:Nat) (a:Int),v<k->Ok 1 4 [.ref 2,aa k] (F.st r) (aa v) ((F.t2 a).st r)->DP (F.t2 a) (b+1)->G):G:=by
 obtain⟨cs,a,hc,ha,hab⟩:=D;have hkk:(0:Int)<(k:Int):=IN hk;have hs:(F.st r).set 2 (.dict (aT [(.sym 23,.ref 1),(.sym 24,.int F.ato)] (.sym 24) (.int (F.ato+1))))=(F.t2 (((a+1:Nat):Int))).st r:=by rw[ha];rfl
 by_cases q:a<cs.length
 ·refine ur (x:=cs[a]) hk fun v v1 v2=>?_;refine kk v (a+1:Nat) v1 (.mk rfl rfl fun m hm=>?_) ⟨cs,a+1,hc,rfl,T1 hab⟩;have q':F.ato<(F.cells.length:Int):=by rw[ha,hc,SU];exact MJ q
  have g:Bv F.cells F.ato=some (.int cs[a]):=by rw[ha,hc];exact d7 (by rw[Tv,Tu q];rfl)
  rw[<- v2];exists hs,SM q',g,hkk
 ·refine ur (x:=((4*F.ato*F.ato+3*F.ato+5)%73)) hk fun v v1 v2=>?_;refine kk v (a+1:Nat) v1 (.mk rfl rfl fun m hm=>?_) ⟨cs,a+1,hc,rfl,T1 hab⟩;have q':¬F.ato<(F.cells.length:Int):=by rw[ha,hc,SU];exact MH q
  have m0:F.ato.natAbs<2^31:=by rw[ha];exact Tc hab (Tc hb (by decide))
  have m1:Int.natAbs 4<2^31/\F.ato.natAbs<2^31:=⟨by decide,m0⟩
  have m2:(4*F.ato).natAbs<2^31/\F.ato.natAbs<2^31:=⟨by rw[Int.natAbs_mul,ha];exact Tc (Nat.mul_le_mul_left 4 (Sy hab hb)) (by decide),m0⟩
  have m3:Int.natAbs 3<2^31/\F.ato.natAbs<2^31:=⟨by decide,m0⟩
  have m4:(0:Int)<73:=by decide
  rw[<- v2];exists hs,Td q',m1,m2,m3,m4,hkk
end
structure NG(ws:List Nd):Prop where
 nd:ws.Nodup
 a:ws[0]?=some (1,[])
 b:ws[1]?=some (2,[])
 kids:∀(i op:Nat) (ks:List Nat),ws[i]?=some (op,ks)->(∀ k∈ks,k<i)/\((op=1\/op=2)/\ks=[]\/op=3/\ks.length=1\/op=4/\ks.length=2)
theorem NG.init:NG [(1,[]),(2,[])]:=by
 refine⟨by decide,rfl,rfl,fun i op ks h=>?_⟩
 cases i with
 | zero=>cases h;exact⟨nofun,.inl ⟨.inl rfl,rfl⟩⟩
 | succ i=>
  cases i with
  | zero=>cases h;exact⟨nofun,.inl ⟨.inr rfl,rfl⟩⟩
  | succ i=>cases h
theorem NG.snoc{ws:List Nd}(h:NG ws){nd:Nd}(hn:nd∉ws)(hk:∀ k∈nd.2,k<ws.length)(ho:nd.1=3/\nd.2.length=1\/nd.1=4/\nd.2.length=2):NG (ws++[nd]):=by
 refine⟨Tj.mpr ⟨h.nd,by simp,fun a ha b hb e=>?_⟩,fL h.a,fL h.b,fun i op ks hi=>?_⟩
 ·simp at hb;subst hb e;exact hn ha
 ·rcases fW hi with q | ⟨rfl,rfl⟩
  ·exact h.kids i op ks q.2
  ·exact⟨hk,.inr ho⟩
noncomputable abbrev NB:List S:=[S.asg (aw.one 3) (X.bin cP.add (X.cst (al.int 1)) (X.call 4 [X.loc 0,X.cst (al.int 2)])),S.asg (aw.one 4) (X.bin cP.add (X.tup [X.sub (X.cst (al.sym 10)) (X.bin cP.sub (X.loc 3) (X.cst (al.int 1)))]) (X.blt aN.tupleOf [X.comp (X.call 4 [X.loc 0,X.blt aN.len [X.loc 1]]) (aw.one 6) (X.blt aN.range [X.loc 3]) []])),S.ite (X.cmp aR.notIn (X.loc 4) (X.loc 1)) [S.expr (X.meth (X.loc 1) 27 [X.loc 4])] []]
theorem sm{F:Fx}{r:St}{ws:List Nd}{b:Nat}(D:DP F b)(hw:F.world=ws.map aI)(N:NG ws)(hb:b+3<=1000)(hl:ws.length<=100){G:Prop}
  (kk:∀(a:Int) (l:St) (ws':List Nd),(∀ m,1<=m->∀ U:En,U 0=some (.ref 2)->U 1=some (.ref 18)->∃ U',bm ⟨ay aj m⟩ NB U (F.st r)=some (none,U',((F.t2 a).t18 (ws'.map aI)).st (r++l))/\U' 0=some (.ref 2)/\U' 1=some (.ref 18))->DP ((F.t2 a).t18 (ws'.map aI)) (b+3)->NG ws'->ws'.length<=ws.length+1->G):G:=by
 have hpos:0<ws.length:=(SJ.mp N.a).1;refine cJ (r:=r) D (MG hb) (by decide:0<2) fun v a1 hv O1 D1=>?_
 have last:∀(nd:Nd) (a:Int) (b':Nat) (l:St),DP (F.t2 a) b'->b'<=b+3->(∀ k∈nd.2,k<ws.length)->(nd.1=3/\nd.2.length=1\/nd.1=4/\nd.2.length=2)->
   (∀ m,1<=m->∀ U:En,U 0=some (.ref 2)->U 1=some (.ref 18)->∃ U',(∀ y,bm ⟨ay aj m⟩ [S.ite (X.cmp aR.notIn (X.loc 4) (X.loc 1)) [S.expr (X.meth (X.loc 1) 27 [X.loc 4])] []] U' ((F.t2 a).st (r++l))=y->bm ⟨ay aj m⟩ NB U (F.st r)=y)/\U' 0=some (.ref 2)/\U' 1=some (.ref 18)/\U' 4=some (aI nd))->
   G:=fun nd a b' l D' hb' hk ho hrun=>by
  have hp:=cZ nd;have hps:=jj ws;rw[<- hw] at hps;obtain⟨cs,x,y1,y2,y3⟩:=D'
  by_cases q:nd∈ws
  ·have hm':aI nd∈F.world:=by rw[hw];exact nP.mpr q
   refine kk a l ws (fun m hm U r0 r1=>?_) ⟨cs,x,y1,y2,IM hb' y3⟩ N o0;obtain⟨U',e,s0,s1,s4⟩:=hrun m hm U r0 r1;refine⟨U',e _ ?_,s0,s1⟩;rw[<- hw];exists s0,s1,s4,je hp hps,SM hm'
  ·have hm':¬aI nd∈F.world:=by rw[hw];exact fun z=>q (nP.mp z)
   refine kk a l (ws++[nd]) (fun m hm U r0 r1=>?_) ⟨cs,x,y1,y2,IM hb' y3⟩ (N.snoc q hk ho) (by rw[SP];exact SE _)
   obtain⟨U',e,s0,s1,s4⟩:=hrun m hm U r0 r1;refine⟨U',e _ ?_,s0,s1⟩;have hle:F.world.length+1<=ax:=by rw[hw,SU];unfold ax;exact O7 hl
   rw[Ta,<- hw];exists s0,s1,s4,je hp hps,Td hm',hle
 have hwl:F.world.length=ws.length:=by rw[hw,SU]
 rcases(IL hv:v=0\/v=1) with rfl | rfl
 ·refine cJ (r:=r) D1 (IK hb) hpos fun k a2 hk O2 D2=>?_;refine last (3,[k]) a2 (b+1+1) [.list [aa k]] D2 (MF) (by simpa using hk) (.inl ⟨rfl,rfl⟩) fun m hm U r0 r1=>?_
  have t1:=O1 m hm;have t2:=O2 m hm;refine⟨ag (ag U 3 (.int 1)) 4 (aI (3,[k])),fun y hy=>bJ (U1:=ag U 3 (.int 1)) (Y1:=(F.t2 a1).st r) (by exists r0,t1) (bJ ?_ hy),r0,r1,rfl⟩
  have hc:ar ⟨ay aj m⟩ (X.comp (X.call 4 [X.loc 0,X.blt aN.len [X.loc 1]]) (aw.one 6) (X.blt aN.range [X.loc 3]) []) (ag U 3 (.int 1)) ((F.t2 a1).st r)=some (.ref (r.length+19),(F.t2 a2).st (r++[.list [aa k]])):=by
   refine bl (v:=.rng 1) (s:=⟨[.int 0],[]⟩) (Y1:=(F.t2 a1).st r) (Y2:=(F.t2 a2).st r) (vs:=[aa k]) (by exists trivial) rfl rfl ?_ (SV rfl) rfl rfl
   exists(show ag (ag U 3 (.int 1)) 6 (.int 0) 0=_ from r0),(show ag (ag U 3 (.int 1)) 6 (.int 0) 1=_ from r1),hwl,t2
  exists hc
 ·refine cJ (r:=r) D1 (IK hb) hpos fun k1 a2 hk1 O2 D2=>?_;refine cJ (r:=r) D2 (ME hb) hpos fun k2 a3 hk2 O3 D3=>?_;refine last (4,[k1,k2]) a3 (b+1+1+1) [.list [aa k1,aa k2]] D3 (MD) (by simp;exact⟨hk1,hk2⟩) (.inr ⟨rfl,rfl⟩) fun m hm U r0 r1=>?_
  have t1:=O1 m hm;have t2:=O2 m hm;have t3:=O3 m hm;refine⟨ag (ag U 3 (.int 2)) 4 (aI (4,[k1,k2])),fun y hy=>bJ (U1:=ag U 3 (.int 2)) (Y1:=(F.t2 a1).st r) (by exists r0,t1) (bJ ?_ hy),r0,r1,rfl⟩
  have hc:ar ⟨ay aj m⟩ (X.comp (X.call 4 [X.loc 0,X.blt aN.len [X.loc 1]]) (aw.one 6) (X.blt aN.range [X.loc 3]) []) (ag U 3 (.int 2)) ((F.t2 a1).st r)=some (.ref (r.length+19),(F.t2 a3).st (r++[.list [aa k1,aa k2]])):=by
   refine bl (v:=.rng 2) (s:=⟨[.int 0,.int 1],[]⟩) (Y1:=(F.t2 a1).st r) (Y2:=(F.t2 a3).st r) (vs:=[aa k1,aa k2]) (by exists trivial) rfl rfl ?_ (SV rfl) rfl rfl
   exists(show ag (ag U 3 (.int 2)) 6 (.int 0) 0=_ from r0),(show ag (ag U 3 (.int 2)) 6 (.int 0) 1=_ from r1),(show ag (ag U 3 (.int 2)) 6 (.int 1) 0=_ from r0),(show ag (ag U 3 (.int 2)) 6 (.int 1) 1=_ from r1),hwl,t2,t3
  exists hc
theorem sn:∀(vs:List AV) {F:Fx} {r:St} {ws:List Nd} {b:Nat},DP F b->F.world=ws.map aI->NG ws->b+3*vs.length<=1000->ws.length+vs.length<=100->
  ∀(G:Prop),(∀(a:Int) (l:St) (ws':List Nd),(∀ m,1<=m->∀ U:En,U 0=some (.ref 2)->U 1=some (.ref 18)->∃ U',dQ [] (.one 2) (bm ⟨ay aj m⟩ NB) vs U (F.st r)=some (none,U',((F.t2 a).t18 (ws'.map aI)).st (r++l))/\U' 1=some (.ref 18))->DP ((F.t2 a).t18 (ws'.map aI)) (b+3*vs.length)->NG ws'->ws'.length<=ws.length+vs.length->G)->G
 :=by
 intro vs;induction vs with
 | nil=>exact fun{F r ws b} D hw N hb hl G kk=>kk F.ato [] ws (fun m hm U r0 r1=>⟨U,by rw[<- hw,Ti];exact bT rfl,r1⟩) (by rw[<- hw];exact D) N (SE _)
 | cons v vs ih=>
  intro F r ws b D hw N hb hl G kk;refine sm (r:=r) D hw N (MC hb) (MB hl) fun a1 l1 ws1 e1 D1 N1 h1=>?_;refine ih (r:=r++l1) D1 rfl N1 (MA hb) (Mz hl h1) _ fun a2 l2 ws2 e2 D2 N2 h2=>?_;refine kk a2 (l1++l2) ws2 (fun m hm U r0 r1=>?_) ?_ N2 (IT h1 h2)
  ·obtain⟨U1,s1,s2,s3⟩:=e1 m hm (ag U 2 v) r0 r1;obtain⟨U2,u1,u2⟩:=e2 m hm U1 s2 s3;refine⟨U2,?_,u2⟩;rw[<- SR];exact ck rfl rfl s1 u1
  ·obtain⟨cs,x,y1,y2,y3⟩:=D2;exact⟨cs,x,y1,y2,My y3⟩
noncomputable def Fx.pre(F:Fx):St:=(F.st []).take 18
theorem Bi(F:Fx):F.pre.length=18:=rfl
theorem nC{F:Fx}{b:Nat}(D:DP F b)(hb:b<=900){G:Prop}
  (kk:∀(a:Int) (l:St) (ws:List Nd),Ok 2 5 [.ref 2] F.pre (.ref 18) (((F.t2 a).t18 (ws.map aI)).st l)->DP ((F.t2 a).t18 (ws.map aI)) (b+20)->NG ws->ws.length<=7->G):G:=by
 let F0:Fx:=(F.t18 ([.tup [.sym 1],.tup [.sym 2]]))
 have D0:DP F0 b:=D;refine cJ (r:=[]) D0 (Sy hb (by decide)) (by decide:0<4) fun v a1 hv O1 D1=>?_
 refine sn ((List.range (2+v)).map fun(i:Nat)=>.int i) (F:=(F0.t2 a1)) (r:=[]) (ws:=[(1,[]),(2,[])]) D1 rfl NG.init (by simp;exact Mx hb hv) (by simp;exact Mw hv) _ fun a2 l ws e D2 N h1=>?_
 refine kk a2 l ws (.mk rfl rfl fun m hm=>?_) ?_ N (by simp at h1;exact Mv hv h1)
 ·obtain⟨U',s1,s2⟩:=e m hm (ag (fun i=>[AV.ref 2][i]?) 1 (.ref 18)) rfl rfl;have t:=O1 m hm;have hz:(2:Int)+v=((2+v:Nat):Int):=Mu;have hb:∀{Y},cn .range [.int (2+(v:Int))] Y=some (.rng (2+v),Y):=by intro Y;rw[hz];exact Dv (Mt hv)
  have hfor:dS ⟨ay aj m⟩ (.for_ (.one 2) (.blt .range [.bin .add (.cst (.int 2)) (.call 4 [.loc 0,.cst (.int 4)])]) NB) (ag (fun i=>[AV.ref 2][i]?) 1 (.ref 18)) (F0.st [])=some (none,U',((F.t2 a2).t18 (ws.map aI)).st l):=
   (cX (v:=.rng (2+v)) (s:=⟨(List.range (2+v)).map fun(i:Nat)=>.int i,[]⟩) (Y1:=(F0.t2 a1).st []) (by exists t,hb) rfl rfl).trans s1
  exists Bi F,(rfl:F.pre++[AO.list [.tup [.sym 1],.tup [.sym 2]]]=F0.st []),hfor,s2
 ·obtain⟨cs,x,y1,y2,y3⟩:=D2;exact⟨cs,x,y1,y2,by simp at y3;exact Ms hv y3⟩
structure bG(h:HS):Prop where
 cl:∀ x,h.cl x=x
 ex:h.ex=[]
 wt:h.wt=[]
 bud:h.bud=0
 lt:∀ x,x<h.ns.length->h.lt x=[aa x]
noncomputable def h0:HS:=⟨[],fun x=>x,[],[],fun _=>[],fun _=>[],[],[],[],[],0⟩
structure PP(F:Fx):Prop where
 nodes:F.nodes=[]
 numbers:F.numbers=[]
 weights:F.weights=[]
 depths:F.depths=[]
 up:F.up=[]
 lots:F.lots=[]
 merged:F.merged=[]
 edges:F.edges=[]
 forest:F.forest=[]
 known:F.known=[]
 above:F.above=[]
 waiting:F.waiting=[]
theorem HI.empty{F:Fx}{r:St}(e:PP F):HI F r h0 where
 nodes:=e.nodes
 numbers:=e.numbers
 nd:=T7
 kids:=fun i op ks h=>by simp[h0] at h
 size:=by simp[h0]
 wts:=⟨[],by rw[e.weights];rfl,rfl⟩
 dps:=⟨[],by rw[e.depths];rfl,rfl⟩
 up:=e.up
 upl:=rfl
 uf:=⟨fun a ha=>SH ha (by simp[h0]),fun _=>SE _,fun _=>rfl,fun _ _=>rfl⟩
 lots:=e.lots
 lrl:=rfl
 lotAt:=fun a j h=>by simp[h0] at h
 above:=e.above
 keys:=T7
 roots:=fun k=>⟨fun⟨j,hj⟩=>by simp[h0] at hj,fun⟨h,_⟩=>SH h (by simp[h0])⟩
 abAt:=fun x hx=>by simp[h0] at hx
 refs:=T7
 known:=e.known
 wait:=e.waiting
 inK:=fun x hx=>by simp[h0] at hx
 kid:=fun i op ks h=>by simp[h0] at h
 avlt:=fun x hx=>by simp[h0] at hx
 wtlt:=fun x hx=>by simp[h0] at hx
 J:=fun i op ks h=>by simp[h0] at h
 sumA:=SE _
 sumL:=SE _
 budW:=SE _
 budE:=by rw[e.edges];exact SE _
 budF:=by rw[e.edges,e.forest];exact SE _
 budM:=by rw[e.edges,e.merged];exact SE _
 bud:=SZ _
theorem bG.empty:bG h0:=⟨fun _=>rfl,rfl,rfl,rfl,fun x h=>SH h (by simp[h0])⟩
theorem bG.add{F:Fx}{r:St}{h h':HS}{op:Nat}{ks:List Nat}(Z:bG h)(H:HI F r h)(hn:(op,ks)∉h.ns)(A:kZ h h' op ks):bG h':=by
 rcases A.cl with⟨q1,q2,q3⟩ | ⟨m,q1,_⟩
 ·refine⟨fun x=>by rw[q1];exact Z.cl x,A.ex,q2.trans Z.wt,A.bud.trans Z.bud,fun x hx=>?_⟩
  rw[q3];dsimp only
  split
  ·rename_i e;rw[e]
  ·rename_i e;rw[A.ns,SP,List.length_singleton] at hx;exact Z.lt x (EQ hx e)
 ·obtain⟨ks',e1,e2⟩:=H.keyop q1;have id:∀ l:List Nat,l.map h.cl=l:=fun l=>by
   conv=>rhs;rw[<- List.map_id l]
   exact TF fun x _=>Z.cl x
  dsimp only at e1 e2;rw[id,id,id] at e2;subst e2;exact SH (Tf e1) hn
theorem bG.key{F:Fx}{r:St}{h:HS}(Z:bG h)(H:HI F r h){i op:Nat}{ks:List Nat}(hi:h.ns[i]?=some (op,ks)):lk h.kn (op,ks)=some i:=by
 have id:∀ l:List Nat,l.map h.cl=l:=fun l=>by
  conv=>rhs;rw[<- List.map_id l]
  exact TF fun x _=>Z.cl x
 rcases H.J i op ks hi with q | q | ⟨m,q1,q2⟩
 ·rw[Z.wt] at q;cases q
 ·rw[Z.ex] at q;cases q
 ·rw[id] at q1;rw[Z.cl,Z.cl] at q2;rw[q1,q2]
theorem bG.sync{F:Fx}{r:St}{h:HS}(Z:bG h)(H:HI F r h){like:Option Bool}{rt:Rk}{P:List (Nat×Nat)}(N:NG h.ns):cq like rt P (h.ns,[]) h:=
 ⟨rfl,Z.ex,Z.key H N.a,fun x y q=>by simp at q,fun x y e=>by rw[Z.cl,Z.cl] at e;subst e;exact .refl _,fun x hx=>by simp at hx,fun _ _ x y e=>by rw[Z.cl,Z.cl] at e;subst e;exact .refl _,fun _ _ n y hn e=>by rw[Z.cl,Z.cl] at e;exact SH e hn⟩
noncomputable abbrev za:List S:=[S.expr (X.meth (X.loc 2) 46 [X.sub (X.loc 4) (X.cst (al.int 0)),X.slc (X.loc 4) Sl.tail])]
theorem QD{op:Nat}{A B C:Prop}(h:(op=1\/op=2)/\A\/op=3/\B\/op=4/\C):1<=op/\op<=6:=
 have k:op∈[1,2,3,4]:=h.elim (fun h=>h.1.elim (fun e=>e▸.head _) fun e=>e▸.tail _ (.head _)) fun h=>h.elim (fun e=>e.1▸.tail _ (.tail _ (.head _))) fun e=>e.1▸.tail _ (.tail _ (.tail _ (.head _)))
 (by decide:∀ x∈[1,2,3,4],1<=x/\x<=6) op k
theorem wi{ws:List Nd}(N:NG ws)(hsz:ws.length<=7):∀(ds done:List Nd) {F:Fx} {r:St} {h:HS},ws=done++ds->h.ns=done->bG h->HI F r h->F.world=ws.map aI->
  ∀(G:Prop),(∀ F' r' h',(∀ m,5<=m->∀ U:En,U 2=some (.ref 3)->∃ U',dQ [(18,some (ws.map aI))] (.one 4) (bm ⟨ay aj m⟩ za) (ds.map aI) U (F.st r)=some (none,U',F'.st r')/\∀ j,j≠4->U' j=U j)->HI F' r' h'->Fr h.D h'.D r r'->eU F F'->h'.ns=ws->bG h'->G)->G:=by
 intro ds;induction ds with
 | nil=>exact fun done {F r h} hw hd Z H hW _ kk=>kk F r h (fun m hm U r2=>⟨U,bT (mq _ hW),fun _ _=>rfl⟩) H (Fr.refl _ _) (eU.refl _) (by rw[hd,hw,Ti]) Z
 | cons x ds ih=>
  obtain⟨op,ks⟩:=x;intro done F r h hw hd Z H hW G kk;have hat:ws[done.length]?=some (op,ks):=by rw[hw];simp
  obtain⟨k1,k2⟩:=N.kids _ _ _ hat;have hlen:done.length+1<=ws.length:=(SJ.mp hat).1;have hno:(op,ks)∉h.ns:=by
   rw[hd];intro q;have:=N.nd;rw[hw] at this;exact(Tj.mp this).2.2 _ q _ (by simp) rfl
  have hks:ks.length<=2:=by rcases k2 with⟨_,e⟩ | ⟨_,e⟩ | ⟨_,e⟩<;>simp[e]
  refine fJ H (op:=op) (ks:=ks) (kv:=.tup (ks.map aa)) (QD k2) hno (.inl rfl) (by rw[hd];exact k1) hks (by rw[hd];exact Mr hsz hlen) Z.ex (by rw[Z.bud];decide) fun F1 r1 h1 O H1 fr1 lw1 A=>?_
  have hW1:F1.world=ws.map aI:=lw1.2.2.2.trans hW;refine ih (done++[(op,ks)]) (by rw[hw];simp) (by rw[A.ns,hd]) (Z.add H hno A) H1 hW1 _ fun F2 r2 h2 e2 H2 fr2 lw2 hn2 Z2=>?_
  refine kk F2 r2 h2 (fun m hm U q2=>?_) H2 (fr1.trans fr2) (lw1.trans lw2) hn2 Z2;obtain⟨U',s1,s2⟩:=e2 m hm (ag U 4 (aI (op,ks))) q2;refine⟨U',?_,fun j hj=>by rw[s2 j hj];simp[ag,hj]⟩
  have t:=O m hm;have hb:bm ⟨ay aj m⟩ za (ag U 4 (aI (op,ks))) (F.st r)=some (none,ag U 4 (aI (op,ks)),F1.st r1):=by
   exists q2,t
  exact ck (mq _ hW) rfl hb s1
section
variable{F:Fx}{r:St}{h:HS}
theorem rU(H:HI F r h)(Z:bG h){c:Nat}(hc:c<h.ns.length):Ok 2 23 [.ref 9,aa c] (F.st r) (.ref (r.length+19)) (F.st (r++[.list [aa c]])):=by
 refine .mk rfl rfl fun m hm=>?_;have t:=H.find hc m (hm);rw[Z.cl] at t;refine H.lotref hc fun j j1 j2 j3=>?_;rw[Z.lt c hc] at j3;exists t,j2,j3,bZ
theorem pQ(H:HI F r h)(Z:bG h){c:Nat}(hc:c<h.ns.length):Ok 3 35 [.ref 3,aa c] (F.st r) (.ref (r.length+19)) (F.st (r++[.list [aa c]])):=by
 refine .mk rfl rfl fun m hm=>?_;have t:=rU H Z hc m (hm);exists t
theorem pO(H:HI F r h)(Z:bG h){c op:Nat}{ks:List Nat}(hc:h.ns[c]?=some (op,ks)){G:Prop}
  (kk:∀ l j,Ok 5 36 [.ref 3,aa c] (F.st r) (.ref (j+19)) (F.st (r++l))->(r++l)[j]?=some (AO.list [aI (op,ks)])->G):G:=by
 have hcl:=(SJ.mp hc).1;have id:∀ l:List Nat,l.map h.cl=l:=fun l=>by
  conv=>rhs;rw[<- List.map_id l]
  exact TF fun x _=>Z.cl x
 refine kk [.list [aa c],.list (ks.map aa),.list [aI (op,ks)],.list [aI (op,ks)]] (r.length+3) (.mk rfl rfl fun m hm=>?_) (N3 _ _ _ _ _ _);have t1:=pQ H Z hcl m (Sy (by decide) hm)
 have t2:=(H.grow [.list [aa c]]).node hc m (Sy (by decide) hm)
 rw[id] at t2;have hcomp:ar ⟨ay aj m⟩ (.comp (.meth (.loc 0) 45 [.loc 3]) (.one 3) (.meth (.loc 0) 43 [.loc 1]) []) (fun i=>[AV.ref 3,aa c][i]?) (F.st r)=some (.ref (r.length+2+19),F.st (r++[.list [aa c],.list (ks.map aa),.list [aI (op,ks)]])):=by
  refine bl (v:=.ref (r.length+19)) (s:=⟨[aa c],[(r.length+19,some [aa c])]⟩) (Y1:=F.st (r++[.list [aa c]])) (Y2:=F.st (r++[.list [aa c],.list (ks.map aa)])) (vs:=[aI (op,ks)]) (by exists t1) rfl (aU (aJ (cF (bM _ _ _)))) ?_ (SV rfl) Kx Kc
  have g0:(r++[AO.list [aa c]])[r.length]?=some (AO.list [aa c]):=bM _ _ _;have g1:(r++[AO.list [aa c],.list (ks.map aa)])[r.length]?=some (AO.list [aa c]):=bM _ _ _;simp only[List.append_assoc,List.cons_append,List.nil_append] at t2;exists t2,bu g0,bu g1,(cZ (op,ks)),(rfl:(aI (op,ks)).isIt=false)
 have g2:(r++[AO.list [aa c],.list (ks.map aa),.list [aI (op,ks)]])[r.length+2]?=some (AO.list [aI (op,ks)]):=zd _ _ _ _ _;have hp:=cZ (op,ks);exists hcomp,(bc hp:ln [aI (op,ks)]=some [aI (op,ks)])
def LR(r:St)(j:Nat)(res:Option (List (AV×AV))):Prop:=match res with
 | none=>r[j]?=some (AO.list [])
 | some es=>∃ jn,r[j]?=some (AO.list [.ref (jn+19)])/\r[jn]?=some (AO.dict es)
def eV(k:Nat)(F:Fx)(h:HS)(wk:Nat)(p:AV)(es:List (AV×AV))(c:Nat)(res:Option (List (AV×AV))):Prop:=
 ∀(r:St) (jf:Nat),HI F r h->r[wk]?=some (AO.inst 3 [(14,.ref 3)])->r[jf]?=some (AO.dict es)->∃ l j,Ok k 39 [.ref (wk+19),.ref (jf+19),aa c,p] (F.st r) (.ref (j+19)) (F.st (r++l))/\LR (r++l) j res
theorem eV.up{k k' wk c:Nat}{p:AV}{es:List (AV×AV)}{res:Option (List (AV×AV))}(x:eV k F h wk p es c res)(hk:k<=k'):eV k' F h wk p es c res:=fun r jf H h1 h2=>by
 obtain⟨l,j,O,L⟩:=x r jf H h1 h2;exact⟨l,j,O.up hk,L⟩
theorem uy{wk c s v:Nat}{es:List (AV×AV)}(hs:s=7\/s=8)(he:es.length<=8)(hsy:es.all (fun e=>e.1.isSym)=true)(hd:(aT es (.sym s) (aa c)).length<=9)(hg:(az es (.sym s)).getD (aa c)=aa v) :
  eV 2 F h wk (.tup [.sym s]) es c (if v=c then some (aT es (.sym s) (aa c)) else none):=fun r jf H h1 h2=>by
 have hle:(aT es (.sym s) (aa c)).length<=ax:=by unfold ax;exact Sy hd (by decide)
 have hjf:=(SJ.mp h2).1
 by_cases q:v=c
 ·subst q;rw[SI rfl];refine⟨[.dict (aT es (.sym s) (aa v)),.list [.ref (r.length+19)]],r.length+1,.mk rfl rfl fun m hm=>?_,r.length,iW _ _ _ _,bM _ _ _⟩;have t1:=cy (F:=F) (rest:=r) (.inl ⟨hs,rfl⟩) m hm;exists t1,h2,he,hsy,hle,hg,fB rfl
 ·rw[Sz q];refine⟨[.dict (aT es (.sym s) (aa c)),.list []],r.length+1,.mk rfl rfl fun m hm=>?_,iW _ _ _ _⟩;have t1:=cy (F:=F) (rest:=r) (.inl ⟨hs,rfl⟩) m hm;exists t1,h2,he,hsy,hle,hg,iL q
noncomputable abbrev zt:S:=.asg (.one 8) (.comp2 (.loc 13) (.one 12) (.loc 8) (.one 13) (.meth (.loc 0) 52 [.loc 12,.loc 9,.loc 10]))
theorem zq{k wk c j8:Nat}{p:AV}{res0 res1:Option (List (AV×AV))}(hp:p.isIt=false)(H:HI F r h)(hw:r[wk]?=some (AO.inst 3 [(14,.ref 3)]))(L:LR r j8 res0)(hx:∀ es,res0=some es->eV k F h wk p es c res1){G:Prop}
  (kk:∀ l j,(∀ m,k<=m->∀ E:En,E 0=some (.ref (wk+19))->E 8=some (.ref (j8+19))->E 9=some (aa c)->E 10=some p->bm ⟨ay aj m⟩ [zt] E (F.st r)=some (none,ag E 8 (.ref (j+19)),F.st (r++l)))->LR (r++l) j (res0.bind fun _=>res1)->r.length<=j->G):G:=by
 cases res0 with
 | none=>
  refine kk [.list []] r.length (fun m hm E r0 r8 r9 r10=>?_) (bM _ _ _) (SE _);have hc:ar ⟨ay aj m⟩ (.comp2 (.loc 13) (.one 12) (.loc 8) (.one 13) (.meth (.loc 0) 52 [.loc 12,.loc 9,.loc 10])) E (F.st r)=some (.ref (r.length+19),F.st (r++[.list []])):=by
   have L:r[j8]?=some (AO.list []):=L;exact mX (v:=.ref (j8+19)) (s:=⟨[],[(j8+19,some [])]⟩) (Y1:=F.st r) (Y2:=F.st r) (vs:=[]) (aF r8) rfl (aU (aJ (cF L))) (cf (bu L)) (SV rfl) rfl rfl
  exact bJ (hJ hc rfl) rfl
 | some es=>
  obtain⟨jn,n1,n2⟩:=L;obtain⟨l,j,O,L1⟩:=hx es rfl r jn H hw n2;have key:∀ vs:List AV,(r++l)[j]?=some (AO.list vs)->(∀ v∈vs,v.isIt=false)->vs.length<=1->∀ m,k<=m->∀ E:En,E 0=some (.ref (wk+19))->E 8=some (.ref (j8+19))->E 9=some (aa c)->E 10=some p->
    bm ⟨ay aj m⟩ [zt] E (F.st r)=some (none,ag E 8 (.ref ((r++l).length+19)),F.st (r++l++[.list vs])):=fun vs hv hi hl m hm E r0 r8 r9 r10=>by
   have t:=O m hm;have n3:=af n1 l;have hin:Fv ⟨ay aj m⟩ (.loc 13) (.one 13) (.meth (.loc 0) 52 [.loc 12,.loc 9,.loc 10]) (ag E 12 (.ref (jn+19))) (F.st r)=some (vs,F.st (r++l)):=by
    have hd:ar ⟨ay aj m⟩ (.meth (.loc 0) 52 [.loc 12,.loc 9,.loc 10]) (ag E 12 (.ref (jn+19))) (F.st r)=some (.ref (j+19),F.st (r++l)):=by
     exists(show ag E 12 (.ref (jn+19)) 0=_ from r0),(show ag E 12 (.ref (jn+19)) 9=_ from r9),(show ag E 12 (.ref (jn+19)) 10=_ from r10),hw,hp,t
    refine yX hd rfl (aU (aJ (cF hv))) ?_
    match vs,hl,hi with
    | [],_,_=>exact cf (bu hv)
    | [v],_,hi=>exact iR (bu hv) rfl rfl (JT rfl (hYY (aF rfl) (hi v (.head _))) (cf (bu hv)) rfl)
   have hc:ar ⟨ay aj m⟩ (.comp2 (.loc 13) (.one 12) (.loc 8) (.one 13) (.meth (.loc 0) 52 [.loc 12,.loc 9,.loc 10])) E (F.st r)=some (.ref ((r++l).length+19),F.st (r++l++[.list vs])):=by
    refine mX (v:=.ref (j8+19)) (s:=⟨[.ref (jn+19)],[(j8+19,some [.ref (jn+19)])]⟩) (Y1:=F.st r) (Y2:=F.st (r++l)) (vs:=vs) (aF r8) rfl (aU (aJ (cF n1))) ?_ (by unfold ax;exact Sy hl (by decide)) rfl rfl
    have:=uD (bu n1) rfl rfl hin (cf (p:=.one 12) (U:=E) (cc:=fun _ Y'=>some (true,Y')) (ee:=Fv ⟨ay aj m⟩ (.loc 13) (.one 13) (.meth (.loc 0) 52 [.loc 12,.loc 9,.loc 10])) (bu n3));rw[Ti] at this;exact this
   exact bJ (hJ hc rfl) rfl
  cases res1 with
  | none=>exact kk (l++[.list []]) (r++l).length (fun m hm E r0 r8 r9 r10=>by rw[<- SR];exact key [] L1 nofun (SZ _) m hm E r0 r8 r9 r10) (by rw[<- SR];exact bM _ _ _) (Fr.grow [] r l).len
  | some es'=>
   obtain⟨jn',a1,a2⟩:=L1;exact kk (l++[.list [.ref (jn'+19)]]) (r++l).length (fun m hm E r0 r8 r9 r10=>by rw[<- SR];exact key [.ref (jn'+19)] a1 (fun v hv=>SO.mp hv▸rfl) (SE _) m hm E r0 r8 r9 r10) ⟨jn',by rw[<- SR];exact bM _ _ _,by rw[<- SR];exact af a2 _⟩ (Fr.grow [] r l).len
end
section
variable{F:Fx}{r:St}{h:HS}
noncomputable def Oq(k:Nat)(F:Fx)(h:HS)(wk:Nat):List (Nat×AV)->Option (List (AV×AV))->Option (List (AV×AV))->Prop
 | [],a,b=>a=b
 | (c,p)::t,a,b=>p.isIt=false/\∃ res1,(∀ es,a=some es->eV k F h wk p es c res1)/\Oq k F h wk t (a.bind fun _=>res1) b
theorem wX{k wk jz:Nat}:∀(zl:List (Nat×AV)) {r:St} {j8:Nat} {res0 resN:Option (List (AV×AV))},HI F r h->r[wk]?=some (AO.inst 3 [(14,.ref 3)])->r[jz]?=some AO.hid->LR r j8 res0->Oq k F h wk zl res0 resN->
  ∀(G:Prop),(∀ l j,(∀ m,k<=m->∀ E:En,E 0=some (.ref (wk+19))->E 8=some (.ref (j8+19))->∃ E',dQ [(jz+19,none)] (.many [9,10]) (bm ⟨ay aj m⟩ [zt]) (zl.map fun(x:Nat×AV)=>AV.tup [aa x.1,x.2]) E (F.st r)=some (none,E',F.st (r++l))/\E' 6=E 6/\E' 8=some (.ref (j+19)))->LR (r++l) j resN->(j=j8\/r.length<=j)->G)->G:=by
 intro zl;induction zl with
 | nil=>exact fun{r j8 res0 resN} H hw hz L hc _ kk=>kk [] j8 (fun m hm E r0 r8=>⟨E,by rw[Ti];exact bT (It hz),rfl,r8⟩) (by rw[Ti];exact(show res0=resN from hc)▸L) (.inl rfl)
 | cons x t ih=>
  obtain⟨c,p⟩:=x;intro r j8 res0 resN H hw hz L hc G kk;obtain⟨hp,res1,x1,x2⟩:=hc;refine zq hp H hw L x1 fun l1 j1 e1 L1 g1=>?_;refine ih (H.grow l1) (af hw l1) (af hz l1) L1 x2 _ fun l2 j2 e2 L2 g2=>?_;refine kk (l1++l2) j2 (fun m hm E r0 r8=>?_) (by rw[<- SR];exact L2) (.inr (by rw[SP] at g2;exact Mq g1 g2))
  have t1:=e1 m hm (ag (ag E 9 (aa c)) 10 p) r0 r8 rfl rfl;obtain⟨E',u1,u2,u3⟩:=e2 m hm (ag (ag (ag E 9 (aa c)) 10 p) 8 (.ref (j1+19))) r0 rfl;refine⟨E',?_,u2,u3⟩;rw[<- SR];exact ck (It hz) rfl t1 u1
theorem uO(ks:List Nat)(ps:List AV):(((ks.map aa).zip ps).map fun(x:AV×AV)=>AV.tup [x.1,x.2])=(ks.zip ps).map fun(x:Nat×AV)=>AV.tup [aa x.1,x.2]:=by
 rw[List.zip_map_left,TG];rfl
noncomputable abbrev JP:List S:=[S.ite (X.and (X.cmp aR.eq (X.sub (X.loc 7) (X.cst (al.int 0))) (X.loc 4)) (X.cmp aR.eq (X.blt aN.len [X.loc 7]) (X.blt aN.len [X.loc 3]))) [S.asg (aw.one 8) (X.lst [X.loc 1]),S.for_ (aw.many [9,10]) (X.blt aN.zip [X.slc (X.loc 7) Sl.tail,X.slc (X.loc 3) Sl.tail]) [zt],S.expr (X.meth (X.loc 6) 28 [X.loc 8])] []]
theorem LR.vs{j:Nat}{res:Option (List (AV×AV))}(x:LR r j res):∃ vs,r[j]?=some (AO.list vs)/\vs.length<=1:=by
 cases res with
 | none=>exact⟨[],x,SZ _⟩
 | some es'=>obtain⟨jn,a,_⟩:=x;exact⟨_,a,SE _⟩
def FO(F:Fx)(h:HS)(p:AV)(k wk c op':Nat)(ks:List Nat)(ps:List AV)(es:List (AV×AV)):Prop:=∀{op:Nat} {res:Option (List (AV×AV))} (Z:bG h) (hc:h.ns[c]?=some (op',ks)) (hps:ps.length<=10) (hk:5<=k) (hr:if op'=op then ks.length=ps.length+1/\Oq k F h wk (ks.zip (p::ps)) (some es) res else res=none),eV (k+1) F h wk (.tup (.sym op::p::ps)) es c res
def JQ(a:Fx×HS×AV×Nat×Nat×Nat×Nat×List Nat×List AV×List (AV×AV)):Prop:=FO a.1 a.2.1 a.2.2.1 a.2.2.2.1 a.2.2.2.2.1 a.2.2.2.2.2.1 a.2.2.2.2.2.2.1 a.2.2.2.2.2.2.2.1 a.2.2.2.2.2.2.2.2.1 a.2.2.2.2.2.2.2.2.2
noncomputable def lI:=lK (Dl,G8,.none,default) JQ
noncomputable def qw:=lI.1
noncomputable def PB:=lI.2.1
noncomputable def Cm:=lI.2.2.1
noncomputable def KB:=lI.2.2.2.1
noncomputable def zu:=lI.2.2.2.2.1
noncomputable def KC:=lI.2.2.2.2.2.1
noncomputable def cC:=lI.2.2.2.2.2.2.1
noncomputable def eR:=lI.2.2.2.2.2.2.2.1
noncomputable def n9:=lI.2.2.2.2.2.2.2.2.1
noncomputable def FN:=lI.2.2.2.2.2.2.2.2.2
theorem N7:FO qw PB Cm KB zu KC cC eR n9 FN:=fun{op} {res} Z hc hps hk hr=>fun r jf H hw hf=>by
 refine pO (H.grow [AO.list []]) Z hc fun l1 j1 O hj1=>?_;have g6:(r++[AO.list []]++l1)[r.length]?=some (AO.list []):=af (bM _ _ _) l1;have nt:∀ m,KB<=m->ay aj m 1 [.tup (.sym op::Cm::n9)] (qw.st r)=some (.bool false,qw.st r):=fun m hm=>di (Sy hps (by decide)) m (Mp hk hm)
 generalize hE:ag (ag (fun i=>[AV.ref (zu+19),.ref (jf+19),aa KC,.tup (.sym op::Cm::n9)][i]?) 4 (.sym op)) 6 (.ref (r.length+19))=E;have E0:E 0=some (.ref (zu+19)):=by rw[<- hE];rfl
 have E1:E 1=some (.ref (jf+19)):=by rw[<- hE];rfl
 have E2:E 2=some (aa KC):=by rw[<- hE];rfl
 have E3:E 3=some (.tup (.sym op::Cm::n9)):=by rw[<- hE];rfl
 have E4:E 4=some (.sym op):=by rw[<- hE];rfl
 have E6:E 6=some (.ref (r.length+19)):=by rw[<- hE];rfl
 have hw1:=af hw [AO.list []];have hturn:∀ l,(∀ m,KB<=m->∃ E',bm ⟨ay aj m⟩ JP (ag E 7 (aI (cC,eR))) (qw.st (r++[AO.list []]++l1))=some (none,E',qw.st (r++l))/\E' 6=some (.ref (r.length+19)))->(r++l)[j1]?=some (AO.list [aI (cC,eR)])->LR (r++l) r.length res->∃ l j,Ok (KB+1) 39 [.ref (zu+19),.ref (jf+19),aa KC,.tup (.sym op::Cm::n9)] (qw.st r) (.ref (j+19)) (qw.st (r++l))/\LR (r++l) j res:=fun l e hj2 L=>by
  refine⟨l,r.length,.mk rfl rfl fun m hm=>?_,L⟩;obtain⟨E',u1,u2⟩:=e m hm;have hfor:dS ⟨ay aj m⟩ (.for_ (.one 7) (.meth (.attr (.loc 0) 14) 50 [.loc 2]) JP) E (qw.st (r++[AO.list []]))=some (none,E',qw.st (r++l)):=by
   have t:=O m (Mo hk hm);refine(cX (v:=.ref (j1+19)) (s:=⟨[aI (cC,eR)],[(j1+19,some [aI (cC,eR)])]⟩) (Y1:=qw.st (r++[AO.list []]++l1)) ?_ rfl (aU (aJ (cF hj1)))).trans (ck (bu hj1) rfl u1 (bT (bu hj2)));exists E0,E2,hw1,t
  rw[<- hE] at hfor;have t:=nt m hm;exists t,hfor,u2
 by_cases q:cC=op
 ·subst q;rw[SI rfl] at hr;obtain⟨hkl,hz⟩:=hr
  let r1:St:=r++[AO.list []]++l1
  let r2:St:=r1++[AO.list [.ref (jf+19)],AO.hid]
  have H2:HI qw r2 PB:=((H.grow _).grow _).grow _;have hw2:r2[zu]?=some (AO.inst 3 [(14,.ref 3)]):=af (af hw1 l1) _;have hf2:r2[jf]?=some (AO.dict FN):=af (af (af hf _) l1) _;have hz2:r2[r1.length+1]?=some AO.hid:=iW _ _ _ _;have h82:LR r2 r1.length (some FN):=⟨jf,bM _ _ _,hf2⟩;refine wX (jz:=r1.length+1) (eR.zip (Cm::n9)) H2 hw2 hz2 h82 hz _ fun l2 j8 ez L8 g8=>?_;have hj13:(r2++l2)[j1]?=some (AO.list [aI (cC,eR)]):=af (af hj1 _) l2;have h63:(r2++l2)[r.length]?=some (AO.list []):=af (af g6 _) l2;obtain⟨vs,v1,v2⟩:=L8.vs;have hne:r.length≠j8:=by
   have:r1.length=r.length+1+l1.length:=by simp[r1];exact IR
   have:r2.length=r1.length+2:=by simp[r2]
   exact Mm g8 ‹_› this
  have hl9:r2++l2=r++([AO.list []]++l1++[AO.list [.ref (jf+19)],AO.hid]++l2):=by simp[r2,r1]
  generalize hl7:[AO.list []]++l1++[AO.list [.ref (jf+19)],AO.hid]++l2=l7 at hl9;rw[hl9] at hj13 h63 v1 L8;have hset:(r++l7).set r.length (AO.list vs)=r++l7.set 0 (AO.list vs):=by rw[List.set_append_right _ _ (SE _),Nat.sub_self]
  have hj1r:j1≠r.length:=fun e=>by rw[e,h63] at hj13;cases hj13
  refine hturn (l7.set 0 (AO.list vs)) (fun m hm=>?_) ?_ ?_
  ·have q1:∀{Y},bh .eq Y (.sym cC) (.sym cC)=some true:=Sx some (KY rfl);have q2:∀{Y},bh .eq Y (.int ((AV.sym cC::eR.map aa).length:Nat)) (.int ((AV.sym cC::Cm::n9).length:Nat))=some true:=fB (by rw[List.length_cons,SU,hkl];rfl)
   have e3:ag E 7 (aI (cC,eR)) 3=_:=E3;have e4:ag E 7 (aI (cC,eR)) 4=_:=E4;have e1:ag E 7 (aI (cC,eR)) 1=_:=E1;obtain⟨E',u1,u2,u3⟩:=ez m hm (ag (ag E 7 (aI (cC,eR))) 8 (.ref (r1.length+19))) E0 rfl;have hzip:dS ⟨ay aj m⟩ (.for_ (aw.many [9,10]) (X.blt aN.zip [X.slc (X.loc 7) Sl.tail,X.slc (X.loc 3) Sl.tail]) [zt]) (ag (ag E 7 (aI (cC,eR))) 8 (.ref (r1.length+19))) (qw.st (r1++[AO.list [.ref (jf+19)]]))=some (none,E',qw.st (r++l7)):=by
    rw[<- hl9];refine(cX (v:=.zp (.tup (.ref (r1.length+1+19)::eR.map aa)) (.tup (Cm::n9))) (s:=⟨(eR.zip (Cm::n9)).map fun(x:Nat×AV)=>AV.tup [aa x.1,x.2],[(r1.length+1+19,none)]⟩) (Y1:=qw.st r2) ?_ rfl ?_).trans u1
    ·exact xg (bz (lX (aF rfl) rfl jF) rfl (bz (lX (aF E3) rfl jF) rfl cI)) (Du ND KF)
    ·rw[<- uO];rfl
   have hE6:E' 6=some (.ref (r.length+19)):=u2.trans E6;have hle:vs.length<=ax:=by unfold ax;exact Sy v2 (by decide)
   have hs2:(qw.st (r++l7)).set (r.length+19) (.list ([]++vs))=qw.st (r++l7.set 0 (.list vs)):=Sx qw.st hset;refine⟨E',?_,hE6⟩;exists q1,q2,e1,e3,e4,hzip,hE6,u3,h63,v1,Bx hne,hle,hs2
  ·rw[<- hset,Tk (fun e=>hj1r e.symm)];exact hj13
  ·have hself:(r++l7.set 0 (AO.list vs))[r.length]?=some (AO.list vs):=by
    rw[<- hset,TQ (SJ.mp h63).1]
   cases res with
   | none=>
    have L8:(r++l7)[j8]?=some (AO.list []):=L8;rw[v1] at L8;cases L8
    exact hself
   | some es'=>
    obtain⟨jn,a,b⟩:=L8;rw[v1] at a;cases a
    refine⟨jn,hself,?_⟩;have:jn≠r.length:=fun e=>by rw[e,h63] at b;cases b
    rw[<- hset,Tk (fun e=>this e.symm)];exact b
 ·rw[Sz q] at hr;subst hr;refine hturn ([AO.list []]++l1) (fun m hm=>⟨ag E 7 (aI (cC,eR)),?_,E6⟩) (by rw[<- SR];exact hj1) (by rw[<- SR];exact g6)
  rw[<- SR];have e4:ag E 7 (aI (cC,eR)) 4=_:=E4;have q1:∀{Y},bh .eq Y (.sym cC) (.sym op)=some false:=Sx some (AE q);exists e4,q1
theorem gC{k wk c op':Nat}{ks:List Nat}{p:AV}{ps:List AV}{es:List (AV×AV)}:FO F h p k wk c op' ks ps es:=bE JQ N7 (F,h,p,k,wk,c,op',ks,ps,es)
end
section
variable{α:Type}{op k:Nat}{ks:List Nat}{x:α}
noncomputable def HH(d:Nd)(g:Nat->Option α):Option α:=if d.1=3 then(match d.2 with | [k]=>g k | _=>none) else none
noncomputable def Kn(d:Nd)(g:Nat->Nat->Option α):Option α:=if d.1=4 then(match d.2 with | [a,b]=>g a b | _=>none) else none
theorem tJ{g:Nat->Option α}(h:op≠3):HH (op,ks) g=none:=Sz h
theorem xl{g:Nat->Nat->Option α}(h:op≠4):Kn (op,ks) g=none:=Sz h
theorem xm{d:Nd}{g:Nat->Option α}(h:HH d g=some x):∃ k,d=(3,[k])/\g k=some x:=by
 obtain⟨op,ks⟩:=d
 by_cases e:op=3
 ·subst e
  cases ks with
  | nil=>cases h
  | cons k ks=>
   cases ks with
   | nil=>exact⟨k,rfl,h⟩
   | cons=>cases h
 ·cases(tJ e).symm.trans h
theorem CV{d:Nd}{g:Nat->Nat->Option α}(h:Kn d g=some x):∃ a b,d=(4,[a,b])/\g a b=some x:=by
 obtain⟨op,ks⟩:=d
 by_cases e:op=4
 ·subst e
  cases ks with
  | nil=>cases h
  | cons a ks=>
   cases ks with
   | nil=>cases h
   | cons b ks=>
    cases ks with
    | nil=>exact⟨a,b,rfl,h⟩
    | cons=>cases h
 ·cases(xl e).symm.trans h
theorem zU{β:Type}{y:Option α}{f:α->Option β}{z:β}(h:y.bind f=some z):∃ a,y=some a/\f a=some z:=by
 cases y with
 | none=>cases h
 | some a=>exact⟨a,rfl,h⟩
end
noncomputable def PA(ws:List Nd)(lf:Lf)(d:Nd):Option (List (AV×AV)):=match lf with
 | .f1=>HH d fun k=>some [(.sym 7,aa k)]
 | .f2=>HH d fun k=>ws[k]?.bind fun d=>HH d fun d=>some [(.sym 7,aa d)]
 | .gxy=>Kn d fun a b=>some [(.sym 7,aa a),(.sym 8,aa b)]
 | .gxx=>Kn d fun a b=>if a=b then some [(.sym 7,aa a)] else none
noncomputable def c9(ws:List Nd)(lf:Lf)(c:Nat):Option (List (AV×AV)):=ws[c]?.bind (PA ws lf)
theorem bf{ws:List Nd}{lf:Lf}{c:Nat}{d:Nd}{x:Option (List (AV×AV))}(h:ws[c]?=some d)(g:PA ws lf d=x):c9 ws lf c=x:=(ak h).trans g
theorem gB{ws:List Nd}{lf:Lf}{c:Nat}{es:List (AV×AV)}{P:Lf->List (AV×AV)->Prop}(h:c9 ws lf c=some es)(f1:∀ k,ws[c]?=some (3,[k])->P .f1 [(.sym 7,aa k)])(f2:∀ k d,ws[c]?=some (3,[k])->ws[k]?=some (3,[d])->P .f2 [(.sym 7,aa d)])
  (gxy:∀ a b,ws[c]?=some (4,[a,b])->P .gxy [(.sym 7,aa a),(.sym 8,aa b)]) (gxx:∀ a,ws[c]?=some (4,[a,a])->P .gxx [(.sym 7,aa a)]):P lf es:=by
 obtain⟨d,hd,h⟩:=zU h
 cases lf with
 | f1=>obtain⟨k,rfl,h⟩:=xm h;cases h;exact f1 k hd
 | f2=>
  obtain⟨k,rfl,h⟩:=xm h;obtain⟨d,hk,h⟩:=zU h;obtain⟨e,rfl,h⟩:=xm h
  cases h;exact f2 k e hd hk
 | gxy=>obtain⟨a,b,rfl,h⟩:=CV h;cases h;exact gxy a b hd
 | gxx=>
  obtain⟨a,b,rfl,h⟩:=CV h
  by_cases e:a=b
  ·subst e;cases(SI rfl).symm.trans h;exact gxx a hd
  ·cases(Sz e).symm.trans h
noncomputable def bW(es:List (AV×AV)):List AV:=es.map fun e=>.tup [e.1,e.2]
noncomputable def KD:List (AV×AV)->Nat
 | (_,.int d)::_=>d.toNat
 | _=>0
section
variable{F:Fx}{r:St}{h:HS}{lf:Lf}
theorem NG.one{ws:List Nd}(N:NG ws){c:Nat}{ks:List Nat}(h:ws[c]?=some (3,ks)):∃ k,ks=[k]:=
 (N.kids c 3 ks h).2.elim (fun e=>(Ml e.1).elim) fun e=>e.elim (fun e=>List.length_eq_one_iff.mp e.2) fun e=>(Mk e.1).elim
theorem Jf{α:Type}{l:List α}(h:l.length=2):∃ a b,l=[a,b]:=by
 cases l with
 | nil=>cases h
 | cons a l=>exact(List.length_eq_one_iff.mp (Nat.succ.inj h)).elim fun b e=>⟨a,b,e▸rfl⟩
theorem NG.two{ws:List Nd}(N:NG ws){c:Nat}{ks:List Nat}(h:ws[c]?=some (4,ks)):∃ a b,ks=[a,b]:=
 (N.kids c 4 ks h).2.elim (fun e=>(Mj e.1).elim) fun e=>e.elim (fun e=>(Mi e.1).elim) fun e=>Jf e.2
theorem zo{k wk c s v:Nat}{es es':List (AV×AV)}(hk:2<=k)(hs:s=7\/s=8)(hsy:es.all (fun e=>e.1.isSym)=true)(hl:es.length<=8)(hl':es'.length<=9)(hd:aT es (.sym s) (aa c)=es')(hg:(az es (.sym s)).getD (aa c)=aa v)(e:v=c) :
  eV k F h wk (.tup [.sym s]) es c (some es'):=by
 have:=uy (F:=F) (h:=h) (wk:=wk) (c:=c) (s:=s) (v:=v) (es:=es) hs hl hsy (hd▸hl') hg;rw[SI e,hd] at this;exact this.up hk
theorem zr(Z:bG h)(N:NG h.ns){wk c op':Nat}{ks:List Nat}(hc:h.ns[c]?=some (op',ks)):eV 6 F h wk Lf.f1.av [] c (c9 h.ns .f1 c):=by
 refine gC (k:=5) (op:=3) (p:=.tup [.sym 7]) (ps:=[]) Z hc (SZ _) (by decide) ?_
 by_cases q:op'=3
 ·subst q;rw[SI rfl];obtain⟨k,rfl⟩:=N.one hc;rw[bf (lf:=.f1) hc rfl];refine⟨rfl,rfl,some [(.sym 7,aa k)],fun es e=>?_,rfl⟩
  cases e
  exact zo (by decide) (.inl rfl) rfl (SV rfl) (SV rfl) rfl rfl rfl
 ·rw[Sz q];exact bf hc (tJ q)
theorem FL(Z:bG h)(N:NG h.ns){wk c op':Nat}{ks:List Nat}(hc:h.ns[c]?=some (op',ks)):eV 7 F h wk lf.av [] c (c9 h.ns lf c):=by
 have first:∀ a,eV 5 F h wk (.tup [.sym 7]) [] a (some [(.sym 7,aa a)]):=fun a=>zo (by decide) (.inl rfl) rfl (SV rfl) (SV rfl) rfl rfl rfl
 cases lf with
 | f1=>exact(zr Z N hc).up (by decide)
 | f2=>
  refine gC (k:=6) (op:=3) (p:=.tup [.sym 3,.tup [.sym 7]]) (ps:=[]) Z hc (SZ _) (by decide) ?_
  by_cases q:op'=3
  ·subst q;rw[SI rfl];obtain⟨k,rfl⟩:=N.one hc;have hk:=Tu (TU ((N.kids c 3 [k] hc).1 k (.head _)) (SJ.mp hc).1)
   revert hk
   generalize h.ns[k]'_=d;intro hk;rw[show c9 h.ns .f2 c=c9 h.ns .f1 k from bf hc rfl];refine⟨rfl,rfl,c9 h.ns .f1 k,fun es e=>?_,rfl⟩
   cases e
   exact zr (op':=d.1) (ks:=d.2) Z N hk
  ·rw[Sz q];exact bf hc (tJ q)
 | gxy=>
  refine(gC (k:=5) (op:=4) (p:=.tup [.sym 7]) (ps:=[.tup [.sym 8]]) Z hc (by decide) (by decide) ?_).up (by decide)
  by_cases q:op'=4
  ·subst q;rw[SI rfl];obtain⟨a,b,rfl⟩:=N.two hc;rw[bf (lf:=.gxy) hc rfl];refine⟨rfl,rfl,some [(.sym 7,aa a)],fun es e=>?_,rfl,some [(.sym 7,aa a),(.sym 8,aa b)],fun es e=>?_,rfl⟩
   ·cases e;exact first a
   ·cases e;exact zo (by decide) (.inr rfl) rfl (SV rfl) (SV rfl) rfl rfl rfl
  ·rw[Sz q];exact bf hc (xl q)
 | gxx=>
  refine(gC (k:=5) (op:=4) (p:=.tup [.sym 7]) (ps:=[.tup [.sym 7]]) Z hc (by decide) (by decide) ?_).up (by decide)
  by_cases q:op'=4
  ·subst q;rw[SI rfl];obtain⟨a,b,rfl⟩:=N.two hc;rw[bf (lf:=.gxx) hc rfl];refine⟨rfl,rfl,some [(.sym 7,aa a)],fun es e=>?_,rfl,if a=b then some [(.sym 7,aa a)] else none,fun es e=>?_,rfl⟩
   ·cases e;exact first a
   ·cases e
    have:=uy (F:=F) (h:=h) (wk:=wk) (c:=b) (s:=7) (v:=a) (es:=[(.sym 7,aa a)]) (.inl rfl) (SV rfl) rfl (SV rfl) rfl
    by_cases e:a=b
    ·subst e;rw[SI rfl] at this ⊢;exact this.up (by decide)
    ·rw[Sz e] at this ⊢;exact this.up (by decide)
  ·rw[Sz q];exact bf hc (xl q)
theorem wq{ws:List Nd}{c:Nat}{es:List (AV×AV)}(h:c9 ws lf c=some es):es.all (fun e=>e.1.isSym)=true/\bZ (es.map fun e=>.tup [e.1,e.2])=some (bW es)/\AV.pur (.tup (bW es))=true/\es.length<=2:=by
 exact gB (P:=fun _ es=>es.all (fun e=>e.1.isSym)=true/\bZ (es.map fun e=>.tup [e.1,e.2])=some (bW es)/\AV.pur (.tup (bW es))=true/\es.length<=2) h (fun _ _=>⟨rfl,rfl,rfl,SV rfl⟩) (fun _ _ _ _=>⟨rfl,rfl,rfl,SV rfl⟩) (fun _ _ _=>⟨rfl,rfl,rfl,SV rfl⟩) fun _ _=>⟨rfl,rfl,rfl,SV rfl⟩
end
noncomputable def vA(ws:List Nd)(lf:Lf)(c:Nat):List AV:=match c9 ws lf c with | none=>[] | some es=>[.tup (bW es)]
section
variable{F:Fx}{r:St}{h:HS}{lf:Lf}
theorem pS(H:HI F r h)(Z:bG h)(N:NG h.ns){wk c:Nat}(hw:r[wk]?=some (AO.inst 3 [(14,.ref 3)]))(hc:c<h.ns.length){G:Prop}
  (kk:∀ l j,Ok 8 40 [.ref (wk+19),aa c,lf.av] (F.st r) (.ref (j+19)) (F.st (r++l))->(r++l)[j]?=some (AO.list (vA h.ns lf c))->G):G:=by
 obtain⟨⟨op,ks⟩,hn⟩:∃ d,h.ns[c]?=some d:=⟨_,Tu hc⟩
 let r1:St:=r++[AO.dict [],AO.dict []]
 have hw1:r1[wk]?=some (AO.inst 3 [(14,.ref 3)]):=af hw _;have hf1:r1[r.length+1]?=some (AO.dict []):=iW _ _ _ _;have h31:r1[r.length]?=some (AO.dict []):=bM _ _ _;have H1:HI F r1 h:=H.grow _;obtain⟨l1,j1,O,L⟩:=FL (lf:=lf) Z N hn r1 (r.length+1) H1 hw1 hf1;have h32:=af h31 l1;have hl2:r1++l1=r++([AO.dict [],AO.dict []]++l1):=by simp[r1]
 generalize hl3:[AO.dict [],AO.dict []]++l1=l2 at hl2;rw[hl2] at O L h32;have it:∀ m,7<=m->ar ⟨ay aj m⟩ (.meth (.loc 0) 52 [.dct [] [],.meth (.attr (.loc 0) 14) 41 [.loc 1],.loc 2]) (ag (fun i=>[AV.ref (wk+19),aa c,lf.av][i]?) 3 (.ref (r.length+19))) (F.st (r++[AO.dict []]))=some (.ref (j1+19),F.st (r++l2)):=fun m hm=>by
  have t1:=O m hm;have t2:=H1.hfind hc m (Sy (by decide) hm)
  rw[Z.cl] at t2;have hwa:=af hw [AO.dict []];exists lf.it,hw,hwa,hw1,t1,t2
 have s0:∀ m,dS ⟨ay aj m⟩ (.asg (.one 3) (.dct [] [])) (fun i=>[AV.ref (wk+19),aa c,lf.av][i]?) (F.st r)=some (none,ag (fun i=>[AV.ref (wk+19),aa c,lf.av][i]?) 3 (.ref (r.length+19)),F.st (r++[AO.dict []])):=fun m=>by exists trivial
 cases hx:c9 h.ns lf c with
 | none=>
  rw[hx] at L;have L:(r++l2)[j1]?=some (AO.list []):=L;have ho:vA h.ns lf c=[]:=by unfold vA;rw[hx]
  rw[ho] at kk;refine kk (l2++[.list []]) (r++l2).length ?_ (by rw[<- SR];exact bM _ _ _)
  rw[<- SR];refine .mk rfl rfl fun m hm=>?_;have hfor:dS ⟨ay aj m⟩ (.for_ (.one 4) (.meth (.loc 0) 52 [.dct [] [],.meth (.attr (.loc 0) 14) 41 [.loc 1],.loc 2]) [S.setSub (X.loc 3) (X.blt aN.tupleOf [X.blt aN.sorted [X.meth (X.loc 4) 34 []]]) (X.cst (al.bool true))]) (ag (fun i=>[AV.ref (wk+19),aa c,lf.av][i]?) 3 (.ref (r.length+19))) (F.st (r++[AO.dict []]))=some (none,ag (fun i=>[AV.ref (wk+19),aa c,lf.av][i]?) 3 (.ref (r.length+19)),F.st (r++l2)):=
   (cX (s:=⟨[],[(j1+19,some [])]⟩) (it m hm) rfl (aU (aJ (cF L)))).trans (bT (bu L))
  exists s0 m,hfor,h32
 | some es=>
  rw[hx] at L;obtain⟨jn,L1,L2⟩:=L;have ho:vA h.ns lf c=[.tup (bW es)]:=by unfold vA;rw[hx]
  rw[ho] at kk;obtain⟨x1,x2,x3,x4⟩:=wq hx;have hjn:jn≠r.length:=fun e=>by
   rw[e,h32] at L2;cases L2
   exact gB (P:=fun _ es=>es≠[]) hx (fun _ _=>nofun) (fun _ _ _ _=>nofun) (fun _ _ _=>nofun) (fun _ _=>nofun) rfl
  have hj1:j1≠r.length:=fun e=>by rw[e,h32] at L1;cases L1
  have h33:=af h32 [AO.list (bW es)];have hlt:=(SJ.mp h33).1;have hset:∀ o,((r++l2)++[AO.list (bW es)]).set r.length o=r++(l2++[AO.list (bW es)]).set 0 o:=fun o=>by
   rw[SR,List.set_append_right _ _ (SE _),Nat.sub_self]
  have hself:(r++(l2++[AO.list (bW es)]).set 0 (AO.dict [(.tup (bW es),.bool true)]))[r.length]?=some (AO.dict [(.tup (bW es),.bool true)]):=by
   rw[<- hset,TQ hlt]
  refine kk ((l2++[AO.list (bW es)]).set 0 (AO.dict [(.tup (bW es),.bool true)])++[.list [.tup (bW es)]]) (r++(l2++[AO.list (bW es)]).set 0 (AO.dict [(.tup (bW es),.bool true)])).length ?_ (by rw[<- SR];exact bM _ _ _)
  clear kk;rw[<- SR];refine .mk rfl rfl fun m hm=>?_;have hbody:bm ⟨ay aj m⟩ [S.setSub (X.loc 3) (X.blt aN.tupleOf [X.blt aN.sorted [X.meth (X.loc 4) 34 []]]) (X.cst (al.bool true))] (ag (ag (fun i=>[AV.ref (wk+19),aa c,lf.av][i]?) 3 (.ref (r.length+19))) 4 (.ref (jn+19))) (F.st (r++l2))=some (none,ag (ag (fun i=>[AV.ref (wk+19),aa c,lf.av][i]?) 3 (.ref (r.length+19))) 4 (.ref (jn+19)),F.st (r++(l2++[AO.list (bW es)]).set 0 (AO.dict [(.tup (bW es),.bool true)]))):=by
   rw[<- hset];exists L2,x1,x2,x3,h33
  have hfor:dS ⟨ay aj m⟩ (.for_ (.one 4) (.meth (.loc 0) 52 [.dct [] [],.meth (.attr (.loc 0) 14) 41 [.loc 1],.loc 2]) [S.setSub (X.loc 3) (X.blt aN.tupleOf [X.blt aN.sorted [X.meth (X.loc 4) 34 []]]) (X.cst (al.bool true))]) (ag (fun i=>[AV.ref (wk+19),aa c,lf.av][i]?) 3 (.ref (r.length+19))) (F.st (r++[AO.dict []]))=some (none,ag (ag (fun i=>[AV.ref (wk+19),aa c,lf.av][i]?) 3 (.ref (r.length+19))) 4 (.ref (jn+19)),F.st (r++(l2++[AO.list (bW es)]).set 0 (AO.dict [(.tup (bW es),.bool true)]))):=by
   have L3:(r++(l2++[AO.list (bW es)]).set 0 (AO.dict [(.tup (bW es),.bool true)]))[j1]?=some (AO.list [.ref (jn+19)]):=by
    rw[<- hset,Tk (fun e=>hj1 e.symm)];exact af L1 _
   exact(cX (s:=⟨[.ref (jn+19)],[(j1+19,some [.ref (jn+19)])]⟩) (it m hm) rfl (aU (aJ (cF L1)))).trans (ck (bu L1) rfl hbody (bT (bu L3)))
  generalize (l2++[AO.list (bW es)]).set 0 (AO.dict [(.tup (bW es),.bool true)])=l9 at *;exists s0 m,hfor,hself
end
noncomputable def aG(ws:List Nd)(lf:Lf):List (Nat×Nat×List AV):=(List.range ws.length).flatMap fun c=>match c9 ws lf c with | none=>[] | some es=>[(c,KD es,bW es)]
noncomputable def gn(ws:List Nd)(lf:Lf)(c:Nat):List AV:=match c9 ws lf c with | none=>[] | some es=>[.tup [aa c,.tup (bW es)]]
theorem eZ(ws:List Nd)(lf:Lf):(aG ws lf).map aq=(List.range ws.length).flatMap (gn ws lf):=by
 unfold aG;rw[List.map_flatMap];congr 1
 funext c
 unfold gn
 cases c9 ws lf c<;>rfl
theorem qp{α β:Type}{f:α->List β}(h:∀ a,(f a).length<=1)(l:List α):(l.flatMap f).length<=l.length:=by
 induction l with
 | nil=>exact SE _
 | cons a l ih=>rw[List.flatMap_cons,SP];exact Mh ih (h a)
theorem ml{ws:List Nd}{lf:Lf}{c:Nat}(h:c9 ws lf c=none):gn ws lf c=[]:=by unfold gn;rw[h]
theorem mj{ws:List Nd}{lf:Lf}{c:Nat}{es:List (AV×AV)}(h:c9 ws lf c=some es):gn ws lf c=[.tup [aa c,.tup (bW es)]]:=by unfold gn;rw[h]
theorem pL(ws:List Nd)(lf:Lf)(c:Nat):(gn ws lf c).length<=1:=by
 cases h:c9 ws lf c with
 | none=>rw[ml h];exact SZ _
 | some es=>rw[mj h];exact SE _
section
variable{F:Fx}{r:St}{h:HS}{lf:Lf}
theorem rX(H:HI F r h)(Z:bG h):Ok 1 24 [.ref 9] (F.st r) (.ref (r.length+19)) (F.st (r++[AO.list ((List.range h.ns.length).map aa)])):=by
 refine .mk rfl rfl fun m hm=>?_;have hul:F.up.length=h.ns.length:=by rw[H.up,SU,H.upl]
 have hsz:=H.size;have hle:h.ns.length<=50000:=Sy hsz (by decide)
 have hc:ar ⟨ay aj m⟩ (.comp (.loc 2) (.one 2) (.blt .range [.blt .len [.attr (.loc 0) 4]]) [.cmp .eq (.sub (.attr (.loc 0) 4) (.loc 2)) (.loc 2)]) (fun i=>[AV.ref 9][i]?) (F.st r)=some (.ref (r.length+19),F.st (r++[AO.list ((List.range h.ns.length).map aa)])):=by
  refine bl (v:=.rng h.ns.length) (s:=⟨(List.range h.ns.length).map fun(i:Nat)=>.int i,[]⟩) (Y1:=F.st r) (Y2:=F.st r) (vs:=(List.range h.ns.length).map aa) (by exists hul,hle) rfl rfl ?_ (by simp[ax];exact Sy hsz (by decide)) rfl rfl
  refine cD rfl fun x hx=>⟨_,rfl,?_,?_⟩
  ·have hxl:=List.mem_range.mp hx;obtain⟨b,b1,b2,b3,_⟩:=H.uf.step x (by rw[H.upl];exact hxl)
   rw[Z.cl,Z.cl] at b3;subst b3;have:F.up[b]?=some (aa b):=by rw[H.up,Tv,b1];rfl
   exact oV (lY (oO (jH (aF rfl) rfl rfl) rfl (aF rfl) rfl (np rfl (d7 this))) rfl (aF rfl) rfl (fB rfl))
  ·exists trivial
 exists hc
theorem pR(H:HI F r h)(Z:bG h):Ok 2 34 [.ref 3] (F.st r) (.ref (r.length+19)) (F.st (r++[AO.list ((List.range h.ns.length).map aa)])):=by
 refine .mk rfl rfl fun m hm=>?_;have t:=rX H Z m (hm);exists t
theorem sM(Z:bG h)(N:NG h.ns){wk jc:Nat}{all:List AV}:∀(vs:List Nat) {r:St},HI F r h->r[wk]?=some (AO.inst 3 [(14,.ref 3)])->r[jc]?=some (AO.list all)->(∀ c∈vs,c<h.ns.length)->
  ∃ l,∀ m,8<=m->∀ U:En,U 0=some (.ref (wk+19))->U 1=some lf.av->bx [(jc+19,some all)] (.one 3) U (fun _ Y=>some (true,Y)) (Fv ⟨ay aj m⟩ (.tup [.loc 3,.loc 4]) (.one 4) (.meth (.loc 0) 53 [.loc 3,.loc 1])) (vs.map aa) (F.st r)=some (vs.flatMap (gn h.ns lf),F.st (r++l))
 :=by
 intro vs;induction vs with
 | nil=>exact fun{r} H hw hj hv=>⟨[],fun m hm U r0 r1=>by rw[Ti];exact cf (bu hj)⟩
 | cons c vs ih=>
  intro r H hw hj hv;refine pS (lf:=lf) H Z N hw (hv c (.head _)) fun l1 j1 O L=>?_;obtain⟨l2,e2⟩:=ih (H.grow l1) (af hw l1) (af hj l1) fun c hc=>hv c (.tail _ hc);refine⟨l1++l2,fun m hm U r0 r1=>?_⟩;have t:=O m hm;have hin:Fv ⟨ay aj m⟩ (.tup [.loc 3,.loc 4]) (.one 4) (.meth (.loc 0) 53 [.loc 3,.loc 1]) (ag U 3 (aa c)) (F.st r)=some (gn h.ns lf c,F.st (r++l1)):=by
   have hd:ar ⟨ay aj m⟩ (.meth (.loc 0) 53 [.loc 3,.loc 1]) (ag U 3 (aa c)) (F.st r)=some (.ref (j1+19),F.st (r++l1)):=by
    exists(show ag U 3 (aa c) 0=_ from r0),(show ag U 3 (aa c) 1=_ from r1),hw,lf.it,t
   refine yX hd rfl (aU (aJ (cF L))) ?_;unfold vA at L ⊢;unfold gn
   cases hx:c9 h.ns lf c with
   | none=>rw[hx] at L;exact cf (bu L)
   | some es=>
    rw[hx] at L;exact iR (bu L) rfl rfl (JT rfl (hYY (oN (bz (aF rfl) rfl (bz (aF rfl) rfl cI)) (SV rfl)) rfl) (cf (bu L)) rfl)
  rw[<- SR];exact iR (bu hj) rfl rfl (JT rfl hin (e2 m hm U r0 r1) (List.flatMap_cons ..).symm)
theorem ym(H:HI F r h)(Z:bG h)(N:NG h.ns){wk:Nat}(hw:r[wk]?=some (AO.inst 3 [(14,.ref 3)])){G:Prop}
  (kk:∀ l j,Ok 9 41 [.ref (wk+19),lf.av] (F.st r) (.ref (j+19)) (F.st (r++l))->(r++l)[j]?=some (AO.list ((aG h.ns lf).map aq))->G):G:=by
 have hsz:=H.size;obtain⟨l,e⟩:=sM (lf:=lf) Z N (wk:=wk) (jc:=r.length) (all:=(List.range h.ns.length).map aa) (List.range h.ns.length) (H.grow [AO.list ((List.range h.ns.length).map aa)]) (af hw _) (bM _ _ _) fun c hc=>List.mem_range.mp hc;rw[<- eZ] at e;refine kk ([AO.list ((List.range h.ns.length).map aa)]++l++[AO.list ((aG h.ns lf).map aq)]) (r++[AO.list ((List.range h.ns.length).map aa)]++l).length ?_ (by rw[<- SR,<- SR];exact bM _ _ _)
 clear kk;rw[<- SR,<- SR];refine .mk rfl rfl fun m hm=>?_;have t:=pR H Z m (Sy (by decide) hm)
 have hlen:((aG h.ns lf).map aq).length<=ax:=by
  rw[eZ];exact Mg hsz (Sy (qp (pL h.ns lf) (List.range h.ns.length)) (SD Uw))
 have hc:ar ⟨ay aj m⟩ (.comp2 (.tup [.loc 3,.loc 4]) (.one 3) (.meth (.attr (.loc 0) 14) 44 []) (.one 4) (.meth (.loc 0) 53 [.loc 3,.loc 1])) (fun i=>[AV.ref (wk+19),lf.av][i]?) (F.st r)=some (.ref ((r++[AO.list ((List.range h.ns.length).map aa)]++l).length+19),F.st (r++[AO.list ((List.range h.ns.length).map aa)]++l++[AO.list ((aG h.ns lf).map aq)])):=by
  refine mX (v:=.ref (r.length+19)) (s:=⟨(List.range h.ns.length).map aa,[(r.length+19,some ((List.range h.ns.length).map aa))]⟩) (Y1:=F.st (r++[AO.list ((List.range h.ns.length).map aa)])) (Y2:=F.st (r++[AO.list ((List.range h.ns.length).map aa)]++l)) (vs:=(aG h.ns lf).map aq) (by exists hw,t) rfl (aU (aJ (cF (bM _ _ _)))) ?_ hlen rfl rfl
  exact e m (hm) (fun i=>[AV.ref (wk+19),lf.av][i]?) rfl rfl
 exists hc
theorem rV(H:HI F r h)(Z:bG h)(N:NG h.ns){rn ru rl op wk wa:Nat}{fs:List (Nat×AV)}{rt:Rk}{like:Option Bool}{most:Int}(hR:r[rn]?=some (AO.inst 6 fs))(f14:fs.lookup 19=some (.ref (rl+19)))(f20:fs.lookup 20=some (.ref (op+19)))(f21:fs.lookup 21=some (.ref (wk+19)))(f24:fs.lookup 24=some (.int 0))(f26:fs.lookup 26=some (.ref (wa+19)))
  (hUU:r[ru]?=some (ci lf rt like)) (hL:r[rl]?=some (AO.list [.ref (ru+19)])) (hO:r[op]?=some (AO.dict [(.sym 20,.int most)])) (hW:r[wk]?=some (AO.inst 3 [(14,.ref 3)])) (hA:r[wa]?=some (AO.list [.int 0])) {G:Prop}
  (kk:∀ l j,Ok 10 49 [.ref (rn+19),.int 0] (F.st r) (.ref (j+19)) (F.st (r++l))->(r++l)[j]?=some (AO.list ((aG h.ns lf).map aq))->G):G:=by
 refine ym (lf:=lf) H Z N hW fun l j O L=>?_;refine kk l j (.mk rfl rfl fun m hm=>?_) L;have t:=O m hm;have hd:az [(AV.sym 20,AV.int most)] (.sym 16)=none:=rfl;have hR':=af hR l;have hO':=af hO l;exists hR,f14,f20,f21,f24,f26,hA,hL,hUU,hW,lf.it,t,hR',hO',hd
end
noncomputable abbrev pH:S:=S.ite (X.and (X.cmp2 aR.eq aR.eq (X.sub (X.loc 4) (X.cst (al.int 0))) (X.sub (X.loc 1) (X.cst (al.int 0))) (X.cst (al.sym 4))) (X.or (X.cmp aR.ne (X.sub (X.loc 1) (X.cst (al.int 1))) (X.sub (X.loc 1) (X.cst (al.int 2)))) (X.cmp aR.eq (X.sub (X.loc 4) (X.cst (al.int 1))) (X.sub (X.loc 4) (X.cst (al.int 2)))))) [S.expr (X.meth (X.loc 2) 27 [X.tup [X.loc 3,X.blt aN.tupleOf [X.blt aN.sorted [X.blt aN.set [X.lst [X.tup [X.sub (X.sub (X.loc 1) (X.cst (al.int 1))) (X.cst (al.int 0)),X.sub (X.loc 4) (X.cst (al.int 1))],X.tup [X.sub (X.sub (X.loc 1) (X.cst (al.int 2))) (X.cst (al.int 0)),X.sub (X.loc 4) (X.cst (al.int 2))]]]]]]])] []
noncomputable abbrev pI:S:=S.ite (X.cmp2 aR.eq aR.eq (X.sub (X.loc 4) (X.cst (al.int 0))) (X.sub (X.loc 1) (X.cst (al.int 0))) (X.cst (al.sym 3))) [S.asg (aw.one 5) (X.sub (X.loc 0) (X.sub (X.loc 4) (X.cst (al.int 1)))),S.ite (X.cmp aR.eq (X.sub (X.sub (X.loc 1) (X.cst (al.int 1))) (X.cst (al.int 0))) (X.cst (al.sym 7))) [S.expr (X.meth (X.loc 2) 27 [X.tup [X.loc 3,X.tup [X.tup [X.cst (al.sym 7),X.sub (X.loc 4) (X.cst (al.int 1))]]]])] [S.ite (X.cmp aR.eq (X.sub (X.loc 5) (X.cst (al.int 0))) (X.cst (al.sym 3))) [S.expr (X.meth (X.loc 2) 27 [X.tup [X.loc 3,X.tup [X.tup [X.cst (al.sym 7),X.sub (X.loc 5) (X.cst (al.int 1))]]]])] []]] []
def PK(F:Fx)(lf:Lf)(j2 c:Nat)(d:Nd)(r r':St):Prop:=∀(m:Nat) (E:En),E 0=some (.ref 18)->E 1=some lf.av->E 2=some (.ref (j2+19))->E 3=some (aa c)->E 4=some (aI d)->
 ∃ E',bm ⟨ay aj m⟩ [pH,pI] E (F.st r)=some (none,E',F.st r')/\E' 0=some (.ref 18)/\E' 1=some lf.av/\E' 2=some (.ref (j2+19))
theorem md{x:AV}(hp:x.pur=true)(hk:b7 x x=true):ln [x,x]=some [x]:=by
 show dc (x.pur&&x.pur&&b7 x x) (bif decide (x=x) then[x] else[x,x])=_;rw[hp,hk,SM rfl];rfl
section
variable{F:Fx}{lf:Lf}
theorem eK{C:Calls}{E:En}{Y:St}{op h:Nat}{v w:List AV}(e1:E 1=some (.tup (.sym h::v)))(e4:E 4=some (.tup (.sym op::w)))(hn:op=h->h≠4):dS C pH E Y=some (none,E,Y):=by
 by_cases q:op=h
 ·have q1:∀{Y},bh .eq Y (.sym op) (.sym h)=some true:=Sx some (KY q);have q2:∀{Y},bh .eq Y (.sym h) (.sym 4)=some false:=Sx some (AE (hn q));exists e1,e4,q1,q2
 ·have q1:∀{Y},bh .eq Y (.sym op) (.sym h)=some false:=Sx some (AE q);exists e1,e4,q1
theorem eL{C:Calls}{E:En}{Y:St}{op h:Nat}{v w:List AV}(e1:E 1=some (.tup (.sym h::v)))(e4:E 4=some (.tup (.sym op::w)))(hn:op=h->h≠3):bm C [pI] E Y=some (none,E,Y):=by
 by_cases q:op=h
 ·have q1:∀{Y},bh .eq Y (.sym op) (.sym h)=some true:=Sx some (KY q);have q2:∀{Y},bh .eq Y (.sym h) (.sym 3)=some false:=Sx some (AE (hn q));exists e1,e4,q1,q2
 ·have q1:∀{Y},bh .eq Y (.sym op) (.sym h)=some false:=Sx some (AE q);exists e1,e4,q1
def EI(F:Fx)(ws:List Nd)(r:St)(c j2:Nat)(acc:List AV)(G:Prop):Prop:=∀{lf:Lf} (N:NG ws) (hW:F.world=ws.map aI) {op:Nat} {ks:List Nat} (hc:ws[c]?=some (op,ks)) (hj:r[j2]?=some (AO.list acc)) (hl:acc.length<=1000) (kk:∀ r1,r1[j2]?=some (AO.list (acc++gn ws lf c))->r.length<=r1.length->(∀ i,i<r.length->i≠j2->r1[i]?=r[i]?)->PK F lf j2 c (op,ks) r r1->G),G
def Io(a:Fx×List Nd×St×Nat×Nat×List AV×Prop):Prop:=EI a.1 a.2.1 a.2.2.1 a.2.2.2.1 a.2.2.2.2.1 a.2.2.2.2.2.1 a.2.2.2.2.2.2
noncomputable def rP:=lK (Dl,default) Io
noncomputable def Ku:=rP.1
noncomputable def Bj:=rP.2.1
noncomputable def C6:=rP.2.2.1
noncomputable def C7:=rP.2.2.2.1
noncomputable def ye:=rP.2.2.2.2.1
noncomputable def tW:=rP.2.2.2.2.2.1
noncomputable def Lq:=rP.2.2.2.2.2.2
theorem Lr:EI Ku Bj C6 C7 ye tW Lq:=fun{lf} N hW {op} {ks} hc hj hl kk=>by
 obtain⟨n1,n2⟩:=N.kids C7 op ks hc;have hlt:=(SJ.mp hj).1;have hle:tW.length+1<=ax:=by unfold ax;exact Mf hl
 have skip:c9 Bj lf C7=none->PK Ku lf ye C7 (op,ks) C6 C6->Lq:=fun ho he=>kk C6 (by rw[ml ho,Ti];exact hj) (SE _) (fun _ _ _=>rfl) he
 have find:∀(es:List (AV×AV)) (l:St),c9 Bj lf C7=some es->PK Ku lf ye C7 (op,ks) C6 ((C6++l).set ye (AO.list (tW++[.tup [aa C7,.tup (bW es)]])))->Lq:=fun es l ho he=>
  kk ((C6++l).set ye (AO.list (tW++[.tup [aa C7,.tup (bW es)]]))) (by rw[mj ho,TQ (by rw[SP];exact Ug _ hlt)]) (by rw[Ul];exact(Fr.grow [] C6 l).len) (fun i hi hne=>by rw[Tk (fun e=>hne e.symm),S8 hi]) he
 clear kk
 rcases n2 with⟨ho,rfl⟩ | ⟨rfl,hk⟩ | ⟨rfl,hk⟩
 ·refine skip (bf hc ?_) fun m E e0 e1 e2 e3 e4=>⟨E,?_,e0,e1,e2⟩
  ·rcases ho with rfl | rfl<;>cases lf<;>rfl
  ·have n3:∀ k,3<=k->op≠k:=fun k hk e=>Uo (e▸hk) (ho.elim (fun e=>e▸by decide) fun e=>e▸by decide)
   cases lf
   ·exact bJ (eK e1 e4 fun q=>SH q (n3 3 (by decide))) (eL e1 e4 fun q=>SH q (n3 3 (by decide)))
   ·exact bJ (eK e1 e4 fun q=>SH q (n3 3 (by decide))) (eL e1 e4 fun q=>SH q (n3 3 (by decide)))
   ·exact bJ (eK e1 e4 fun q=>SH q (n3 4 (by decide))) (eL e1 e4 fun q=>SH q (n3 4 (by decide)))
   ·exact bJ (eK e1 e4 fun q=>SH q (n3 4 (by decide))) (eL e1 e4 fun q=>SH q (n3 4 (by decide)))
 ·obtain⟨k,rfl⟩:=List.length_eq_one_iff.mp hk;have hkn:=Tu (TU (n1 k (.head _)) (SJ.mp hc).1)
  revert hkn
  generalize Bj[k]'_=d;intro hkn;obtain⟨opk,kk⟩:=d;have hwk:Ku.world[k]?=some (aI (opk,kk)):=by rw[hW,Tv,hkn];rfl
  cases lf with
  | f1=>
   refine find [(.sym 7,aa k)] [] (bf hc rfl) fun m E e0 e1 e2 e3 e4=>⟨ag E 5 (aI (opk,kk)),?_,e0,e1,e2⟩;rw[Ti];refine bJ (eK e1 e4 fun _=>by decide) ?_
   exists e0,e1,e2,e3,e4,d7 hwk,hj,hle
  | f2=>
   by_cases q:opk=3
   ·subst q;obtain⟨d,rfl⟩:=N.one hkn;refine find [(.sym 7,aa d)] [] (bf hc (ak hkn)) fun m E e0 e1 e2 e3 e4=>⟨ag E 5 (aI (3,[d])),?_,e0,e1,e2⟩;rw[Ti];refine bJ (eK e1 e4 fun _=>by decide) ?_
    exists e0,e1,e2,e3,e4,d7 hwk,hj,hle
   ·refine skip (bf hc ((ak hkn).trans (tJ q))) fun m E e0 e1 e2 e3 e4=>⟨ag E 5 (aI (opk,kk)),?_,e0,e1,e2⟩;have q9:∀{Y},bh .eq Y (.sym opk) (.sym 3)=some false:=Sx some (AE q);refine bJ (eK e1 e4 fun _=>by decide) ?_
    exists e0,e1,e2,e3,e4,d7 hwk,hj,hle,q9
  | gxy=>exact skip (bf hc rfl) fun m E e0 e1 e2 e3 e4=>⟨E,bJ (eK e1 e4 fun q=>nomatch q) (eL e1 e4 fun _=>by decide),e0,e1,e2⟩
  | gxx=>exact skip (bf hc rfl) fun m E e0 e1 e2 e3 e4=>⟨E,bJ (eK e1 e4 fun q=>nomatch q) (eL e1 e4 fun _=>by decide),e0,e1,e2⟩
 ·obtain⟨a,b,rfl⟩:=Jf hk
  cases lf with
  | f1=>exact skip (bf hc rfl) fun m E e0 e1 e2 e3 e4=>⟨E,bJ (eK e1 e4 fun _=>by decide) (eL e1 e4 fun q=>nomatch q),e0,e1,e2⟩
  | f2=>exact skip (bf hc rfl) fun m E e0 e1 e2 e3 e4=>⟨E,bJ (eK e1 e4 fun _=>by decide) (eL e1 e4 fun q=>nomatch q),e0,e1,e2⟩
  | gxy=>
   refine find [(.sym 7,aa a),(.sym 8,aa b)] [.list [.tup [.sym 7,aa a],.tup [.sym 8,aa b]],.list [.tup [.sym 7,aa a],.tup [.sym 8,aa b]]] (bf hc rfl) fun m E e0 e1 e2 e3 e4=>⟨E,?_,e0,e1,e2⟩;refine(seq ?_).trans (eL e1 e4 fun _=>by decide)
   exists e0,e1,e2,e3,e4,hj,hle,fB rfl,md rfl rfl
  | gxx=>
   by_cases q:a=b
   ·subst q;refine find [(.sym 7,aa a)] [.list [.tup [.sym 7,aa a],.tup [.sym 7,aa a]],.list [.tup [.sym 7,aa a]]] (bf hc (SI rfl)) fun m E e0 e1 e2 e3 e4=>⟨E,?_,e0,e1,e2⟩;refine(seq ?_).trans (eL e1 e4 fun _=>by decide)
    exists e0,e1,e2,e3,e4,hj,hle,fB rfl,md rfl rfl
   ·refine skip (bf hc (Sz q)) fun m E e0 e1 e2 e3 e4=>⟨E,?_,e0,e1,e2⟩;refine(seq ?_).trans (eL e1 e4 fun _=>by decide)
    exists e0,e1,e2,e3,e4,iL q
theorem pF{ws:List Nd}{r:St}{c j2:Nat}{acc:List AV}{G:Prop}:EI F ws r c j2 acc G:=bE Io Lr (F,ws,r,c,j2,acc,G)
end
section
variable{F:Fx}{lf:Lf}
theorem pG{ws:List Nd}(N:NG ws)(hW:F.world=ws.map aI){j2:Nat}:∀(ds:List Nd) (t:Nat) {r:St} {acc:List AV},ws.drop t=ds->r[j2]?=some (AO.list acc)->acc.length+ds.length<=1000->
  ∀(G:Prop),(∀ r',r'[j2]?=some (AO.list (acc++(List.range' t ds.length).flatMap (gn ws lf)))->r.length<=r'.length->(∀ i,i<r.length->i≠j2->r'[i]?=r[i]?)->(∀(m:Nat) (E:En),E 0=some (.ref 18)->E 1=some lf.av->E 2=some (.ref (j2+19))->∃ E',dQ [(18,some F.world)] (.many [3,4]) (bm ⟨ay aj m⟩ [pH,pI]) ((ds.zipIdx t).map ev) E (F.st r)=some (none,E',F.st r')/\E' 2=some (.ref (j2+19)))->G)->G:=by
 intro ds;induction ds with
 | nil=>exact fun t {r acc} hd hj hl _ kk=>kk r (by show _=some (AO.list (acc++[]));rw[Ti];exact hj) (SE _) (fun _ _ _=>rfl) fun m E e0 e1 e2=>⟨E,bT (mq _ rfl),e2⟩
 | cons x ds ih=>
  obtain⟨op,ks⟩:=x;intro t r acc hd hj hl G kk;have hc:ws[t]?=some (op,ks):=uB hd;have hd':ws.drop (t+1)=ds:=uA hd;refine pF (lf:=lf) N hW hc hj (Me hl) fun r1 a1 a2 a3 a4=>?_;have ho:=pL ws lf t;refine ih (t+1) hd' a1 (by rw[SP];exact Md hl ho) _ fun r' b1 b2 b3 b4=>?_
  refine kk r' ?_ (Sy a2 b2) (fun i hi hne=>(b3 i (Tz hi a2) hne).trans (a3 i hi hne)) fun m E e0 e1 e2=>?_
  ·rw[List.length_cons,List.range'_succ,List.flatMap_cons,<- SR];exact b1
  ·obtain⟨E1,c1,c2,c3,c4⟩:=a4 m (ag (ag E 3 (aa t)) 4 (aI (op,ks))) e0 e1 e2 rfl rfl;obtain⟨E2,d1,d2⟩:=b4 m E1 c2 c3 c4;refine⟨E2,?_,d2⟩;exact ck (mq _ rfl) rfl c1 d1
theorem vE{ws:List Nd}(N:NG ws)(hW:F.world=ws.map aI)(hsz:ws.length<=100){r:St}{G:Prop}
  (kk:∀ l j,Ok 1 6 [.ref 18,lf.av] (F.st r) (.ref (j+19)) (F.st (r++l))->(r++l)[j]?=some (AO.list ((aG ws lf).map aq))->r.length<=j->G):G:=by
 refine pG (lf:=lf) N hW (j2:=r.length) ws 0 (r:=r++[.list []]) (acc:=[]) rfl (bM _ _ _) (by simp;exact Sy hsz (by decide)) _ fun r' a1 a2 a3 a4=>?_
 rw[List.nil_append,<- List.range_eq_range',<- eZ] at a1;have hr:r'=r++r'.drop r.length:=by
  apply List.ext_getElem?;intro i
  rcases Nat.lt_or_ge i r.length with q | q
  ·rw[S8 q,a3 i (by simp;exact TC q) (S7 q),S8 q]
  ·rw[TJ q,List.getElem?_drop];congr 1;exact IJ q
 rw[hr] at a1;refine kk (r'.drop r.length) r.length (.mk rfl rfl fun m hm=>?_) a1 (SE _);rw[<- hr] at a1 ⊢;have s1:dS ⟨ay aj m⟩ (.asg (.one 2) (.lst [])) (fun i=>[AV.ref 18,lf.av][i]?) (F.st r)=some (none,ag (fun i=>[AV.ref 18,lf.av][i]?) 2 (.ref (r.length+19)),F.st (r++[.list []])):=by exists trivial
 obtain⟨E,b1,b2⟩:=a4 m (ag (fun i=>[AV.ref 18,lf.av][i]?) 2 (.ref (r.length+19))) rfl rfl rfl;have hfor:dS ⟨ay aj m⟩ (.for_ (.many [3,4]) (.blt .enum [.loc 0]) [pH,pI]) (ag (fun i=>[AV.ref 18,lf.av][i]?) 2 (.ref (r.length+19))) (F.st (r++[.list []]))=some (none,E,F.st r'):=by
  rw[cX (v:=.enm (.ref 18)) (s:=⟨(ws.zipIdx 0).map ev,[(18,some F.world)]⟩) (Y1:=F.st (r++[.list []])) (by exists trivial) rfl ?_]
  ·exact b1
  ·exact(tQ (l:=F.world) rfl).trans (by rw[hW];exact Sx (fun l=>some (wQ.mk l _)) wZ)
 rw[seq s1];show ea (bm _ (.for_ (.many [3,4]) (.blt .enum [.loc 0]) [pH,pI]::_) _ _)=_;rw[seq hfor];exists b2
theorem vB{r:St}{j:Nat}:Ok 1 38 [.ref (r.length+19),.ref 3] (F.st (r++[.inst 3 []])) .none (F.st (r++[.inst 3 [(14,.ref 3)]])):=by
 refine .mk rfl rfl fun m hm=>?_;exists trivial
theorem vD{r:St}:Ok 1 43 [.ref (r.length+19),.ref 3] (F.st (r++[.inst 5 []])) .none (F.st (r++[.inst 5 [(14,.ref 3)]])):=by
 refine .mk rfl rfl fun m hm=>?_;exists trivial
end
noncomputable def pp(x:List AV×AV):AV:=.tup [.tup x.1,x.2]
def df(k:Nat)(p:AV)(qs:List AV):Prop:=∀(F:Fx) (r:St),∃(l:St) (j:Nat) (ps:List (List AV×AV)),Ok k 3 [p] (F.st r) (.ref (j+19)) (F.st (r++l))/\(r++l)[j]?=some (AO.list (ps.map pp))/\ps.map (·.2)=qs/\(∀ x∈ps,x.1.length<=k/\x.2.isIt=false)
noncomputable abbrev nu:List S:=[S.expr (X.meth (X.loc 1) 28 [X.comp (X.tup [X.bin cP.add (X.tup [X.loc 2]) (X.loc 5),X.loc 6]) (aw.many [5,6]) (X.call 3 [X.loc 3]) []])]
theorem rQ{F:Fx}{k j1:Nat}(hk:k<=100):∀(kids:List (AV×List AV)) (t:Nat) {r:St} {acc:List (List AV×AV)},(∀ x∈kids,df k x.1 x.2/\x.1.isIt=false)->r[j1]?=some (AO.list (acc.map pp))->(∀ x∈acc,x.1.length<=k+1/\x.2.isIt=false)->acc.length+(kids.flatMap (·.2)).length<=1000->
  ∀(G:Prop),(∀(r':St) (acc':List (List AV×AV)),r'[j1]?=some (AO.list (acc'.map pp))->acc'.map (·.2)=acc.map (·.2)++kids.flatMap (·.2)->(∀ x∈acc',x.1.length<=k+1/\x.2.isIt=false)->r.length<=r'.length->(∀ i,i<r.length->i≠j1->r'[i]?=r[i]?)->(∀(m:Nat),k<=m->∀ E:En,E 1=some (.ref (j1+19))->∃ E',dQ [] (.many [2,3]) (bm ⟨ay aj m⟩ nu) (((kids.map (·.1)).zipIdx t).map fun(x:AV×Nat)=>AV.tup [.int (x.2:Nat),x.1]) E (F.st r)=some (none,E',F.st r')/\E' 1=some (.ref (j1+19)))->G)->G:=by
 intro kids;induction kids with
 | nil=>exact fun t {r acc} hx hj ha hl _ kk=>kk r acc hj (Ti _).symm ha (SE _) (fun _ _ _=>rfl) fun m hm E e1=>⟨E,bT rfl,e1⟩
 | cons x kids ih=>
  obtain⟨p,qs⟩:=x;intro t r acc hx hj ha hl G kk;have hp:df k p qs:=(hx (p,qs) (.head _)).1;have hpi:p.isIt=false:=(hx (p,qs) (.head _)).2;obtain⟨l,j,ps,O,L,hq,hb⟩:=hp F r;have hlt:=(SJ.mp hj).1;have hj2:=af hj l
  let nw:List (List AV×AV):=ps.map fun x=>(AV.int (t:Nat)::x.1,x.2)
  have hnw:nw.map (·.2)=qs:=by rw[<- hq];simp[nw,Function.comp_def]
  have hpl:ps.length=qs.length:=by rw[<- hq,SU]
  simp only[List.flatMap_cons,List.length_append] at hl
  let r1:St:=(r++l++[AO.list (nw.map pp)]).set j1 (AO.list ((acc++nw).map pp))
  have h1:r1[j1]?=some (AO.list ((acc++nw).map pp)):=by
   show((r++l++[AO.list (nw.map pp)]).set j1 _)[j1]?=_;rw[TQ (by simp;exact Mc hlt)]
  refine ih (t+1) (fun x hx'=>hx x (.tail _ hx')) h1 (fun x hx'=>by
   rcases S9.mp hx' with q | q
   ·exact ha x q
   ·obtain⟨y,hy,rfl⟩:=SY.mp q;have:=hb y hy;exact⟨T1 this.1,this.2⟩) (by rw[SP];simp only[nw,List.length_map];exact Mb hpl hl) _ fun r' acc' b1 b2 b3 b4 b5 b6=>?_
  have hr1:r1.length=r.length+l.length+1:=by simp[r1];exact Ma
  refine kk r' acc' b1 ?_ b3 (L9 b4 hr1) (fun i hi hne=>?_) fun m hm E e1=>?_
  ·rw[b2,Ta,hnw,List.flatMap_cons,SR]
  ·rw[b5 i (by rw[hr1];exact TC (Ug _ hi)) hne]
   show((r++l++[AO.list (nw.map pp)]).set j1 _)[i]?=_;rw[Tk (fun e=>hne e.symm),SR,S8 hi]
  ·have hbody:bm ⟨ay aj m⟩ nu (ag (ag E 2 (.int (t:Nat))) 3 p) (F.st r)=some (none,ag (ag E 2 (.int (t:Nat))) 3 p,F.st r1):=by
    have t1:=O m hm;have hcomp:ar ⟨ay aj m⟩ (.comp (X.tup [X.bin cP.add (X.tup [X.loc 2]) (X.loc 5),X.loc 6]) (aw.many [5,6]) (X.call 3 [X.loc 3]) []) (ag (ag E 2 (.int (t:Nat))) 3 p) (F.st r)=some (.ref ((r++l).length+19),F.st (r++l++[AO.list (nw.map pp)])):=by
     have hg:=bu (F:=F) L;refine bl (v:=.ref (j+19)) (s:=⟨ps.map pp,[(j+19,some (ps.map pp))]⟩) (Y1:=F.st (r++l)) (Y2:=F.st (r++l)) (vs:=ps.map fun x=>pp (AV.int (t:Nat)::x.1,x.2)) (by exists hpi,t1) rfl (aU (aJ (cF L))) (cD hg fun x hx'=>⟨_,rfl,rfl,?_⟩) (by simp[ax];exact L7 hpl hl) rfl (by rw[show nw.map pp=ps.map (fun x=>pp (AV.int (t:Nat)::x.1,x.2)) from TG ..];rfl)
     have hb':=hb x hx';have h9:x.1.length<=99999:=Sy hb'.1 (Sy hk (by decide))
     exact hYY (oN (bz (xh (oN (bz (aF rfl) rfl cI) (SV rfl)) rfl (aF rfl) rfl (nM (vV h9))) rfl (bz (aF rfl) hb'.2 cI)) (SV rfl)) rfl
    have hne:j1≠(r++l).length:=by simp;exact L0 hlt
    have g0:(r++l++[AO.list (nw.map pp)])[(r++l).length]?=some (AO.list (nw.map pp)):=bM _ _ _;have hj3:=af hj2 [AO.list (nw.map pp)];have hle:acc.length+nw.length<=ax:=by unfold ax;simp only[nw,List.length_map];exact LZ hpl hl
    have hs1:F.st r1=(F.st (r++l++[AO.list (nw.map pp)])).set (j1+19) (AO.list ((acc++nw).map pp)):=by rw[sr]
    rw[hs1];unfold nu;generalize r++l++[AO.list (nw.map pp)]=r9 at *;have hs2:(F.st r9).set (j1+19) (AO.list (acc.map pp++nw.map pp))=(F.st r9).set (j1+19) (AO.list ((acc++nw).map pp)):=by rw[Ta]
    exists(show ag (ag E 2 (.int (t:Nat))) 3 p 1=_ from e1),hj,hcomp,hj3,g0,Bx hne,Je hle,hs2
   obtain⟨E',c1,c2⟩:=b6 m hm (ag (ag E 2 (.int (t:Nat))) 3 p) e1;refine⟨E',?_,c2⟩;exact ck rfl rfl hbody c1
theorem AT{r r':St}(h:∀ i,i<r.length->r'[i]?=r[i]?)(hl:r.length<=r'.length):r'=r++r'.drop r.length:=by
 apply List.ext_getElem?;intro i
 rcases Nat.lt_or_ge i r.length with q | q
 ·rw[S8 q,h i q]
 ·rw[TJ q,List.getElem?_drop];congr 1;exact IJ q
theorem e6{k s:Nat}(hk:k<=100)(kids:List (AV×List AV))(hx:∀ x∈kids,df k x.1 x.2/\x.1.isIt=false)(hl:(kids.flatMap (·.2)).length<=900) :
  df (k+1) (.tup (.sym s::kids.map (·.1))) (.tup (.sym s::kids.map (·.1))::kids.flatMap (·.2)):=fun F r=>by
 generalize hp:AV.tup (.sym s::kids.map (·.1))=p;have hpi:p.isIt=false:=by rw[<- hp];rfl
 refine rQ (F:=F) (j1:=r.length) hk kids 0 (r:=r++[AO.list [pp ([],p)]]) (acc:=[([],p)]) hx (bM _ _ _) (fun x hx=>SO.mp hx▸⟨SZ _,hpi⟩) (by rw[List.length_singleton];exact LY hl) _ fun r' acc' b1 b2 b3 b4 b5 b6=>?_
 have hr:r'=r++r'.drop r.length:=AT (fun i hi=>by rw[b5 i (by simp;exact TC hi) (S7 hi),S8 hi]) (by simp at b4;exact Nat.le_of_succ_le b4)
 refine⟨r'.drop r.length,r.length,acc',.mk rfl rfl fun m hm=>?_,by rw[<- hr];exact b1,by rw[b2];rfl,b3⟩
 rw[<- hr];obtain⟨E,c1,c2⟩:=b6 m (hm) (ag (fun i=>[p][i]?) 1 (.ref (r.length+19))) rfl;have hs:F.st r++[AO.list [.tup [.tup [],p]]]=F.st (r++[AO.list [pp ([],p)]]):=rfl;have hfor:dS ⟨ay aj m⟩ (.for_ (.many [2,3]) (.blt .enum [.slc (.loc 0) .tail]) nu) (ag (fun i=>[p][i]?) 1 (.ref (r.length+19))) (F.st (r++[AO.list [pp ([],p)]]))=some (none,E,F.st r'):=by
  refine(cX (v:=.enm (.tup (kids.map (·.1)))) (s:=⟨((kids.map (·.1)).zipIdx 0).map fun(x:AV×Nat)=>AV.tup [.int (x.2:Nat),x.1],[]⟩) (Y1:=F.st (r++[AO.list [pp ([],p)]])) ?_ rfl rfl).trans c1;rw[<- hp];exists trivial
 exists hpi,hs,hfor,c2
noncomputable def sG(v:AV):Bool:=decide (v=.tup [.sym 7])||decide (v=.tup [.sym 8])
noncomputable def JD:AV->AV
 | .tup (v::_)=>v
 | _=>.none
def dz(k:Nat)(p:AV)(vs:List AV):Prop:=∀(F:Fx) (r:St),∃(l:St) (j:Nat),Ok k 2 [p] (F.st r) (.ref (j+19)) (F.st (r++l))/\(r++l)[j]?=some (AO.list vs)
theorem qr{α β:Type}(f:α->β)(p:β->Bool){γ:Type}(g:β->γ)(l:List α):(l.filter fun x=>p (f x)).map (fun x=>g (f x))=((l.map f).filter p).map g:=by
 rw[List.filter_map,TG];rfl
theorem dW{k:Nat}{p:AV}{qs ys vs:List AV}(hk:1<=k/\k<=50)(P:df k p qs)(hq:∀ q∈qs,∀(F:Fx) (r:St),Ok 1 1 [q] (F.st r) (.bool (sG q)) (F.st r))(hq2:∀ q∈qs,∃ v vs,q=.tup (v::vs)/\v.isIt=false)(hl:qs.length<=100)(hs:ln ((qs.filter sG).map JD)=some ys)(ht:bZ ys=some vs)(hpi:p.isIt=false) :
  dz (k+1) p vs:=fun F r=>by
 obtain⟨l,j,ps,O,L,G9,hb⟩:=P F r
 let ls:List AV:=(qs.filter sG).map JD
 have hls:(ps.filter fun x=>sG x.2).map (fun x=>JD x.2)=ls:=by
  show _=(qs.filter sG).map JD;rw[<- G9];exact qr _ _ _ ps
 refine⟨l++[AO.list ls,AO.list vs],(r++l).length+1,?_,by rw[<- SR];exact iW _ _ _ _⟩
 rw[<- SR];refine .mk rfl rfl fun m hm=>?_;have t1:=O m hm;have hcomp:ar ⟨ay aj m⟩ (.comp (.sub (.loc 3) (.cst (.int 0))) (.many [2,3]) (.call 3 [.loc 0]) [.call 1 [.loc 3]]) (fun i=>[p][i]?) (F.st r)=some (.ref ((r++l).length+19),F.st (r++l++[AO.list ls])):=by
  refine bl (v:=.ref (j+19)) (s:=⟨ps.map pp,[(j+19,some (ps.map pp))]⟩) (Y1:=F.st (r++l)) (Y2:=F.st (r++l)) (vs:=(ps.filter fun x=>sG x.2).map fun x=>JD x.2) (mZ (bz (aF rfl) hpi cI) t1) rfl (aU (aJ (cF L))) (wz (bu L) fun x hx=>⟨_,rfl,?_,fun hv=>?_⟩) ?_ rfl (by rw[hls];rfl)
  ·have hx2:x.2∈qs:=by rw[<- G9];exact SY.mpr ⟨x,hx,rfl⟩
   exact oV (mZ (bz (aF rfl) (hb x hx).2 cI) (hq x.2 hx2 F (r++l) m (LW hk hm)))
  ·have hx2:x.2∈qs:=by rw[<- G9];exact SY.mpr ⟨x,hx,rfl⟩
   obtain⟨v,vs',e,ei⟩:=hq2 x.2 hx2;exact hYY (oO (aF rfl) (hb x hx).2 AA rfl (by rw[e];rfl)) (by rw[e];exact ei)
  ·rw[hls];have h1:ls.length<=qs.length:=by simp only[ls,List.length_map];exact List.length_filter_le _ _
   exact Sy h1 (Sy hl (by decide))
 have hs':ln ls=some ys:=hs;exists hcomp,hs',ht
theorem dw{s:Nat}:df 1 (.tup [.sym s]) [.tup [.sym s]]:=e6 (k:=0) (by decide) [] (fun x hx=>by cases hx) (by simp)
theorem gw{s:Nat}(h:s=7\/s=8)(F:Fx)(r:St):Ok 1 1 [.tup [.sym s]] (F.st r) (.bool (sG (.tup [.sym s]))) (F.st r):=by
 have:sG (.tup [.sym s])=true:=by rcases h with rfl | rfl<;>rfl
 rw[this];exact cy (.inl ⟨h,rfl⟩)
theorem Jp{v w:AV}{vs:List AV}:sG (.tup (v::w::vs))=false:=by
 unfold sG;have g:∀ k,AV.tup (v::w::vs)≠.tup [.sym k]:=fun k e=>nomatch(List.cons.inj (AV.tup.inj e)).2
 rw[Td (g 7),Td (g 8)];rfl
theorem Jq{s:Nat}(h:1<=s/\s<=6):sG (.tup [.sym s])=false:=by
 unfold sG;have g:∀ k,7<=k->AV.tup [.sym s]≠.tup [.sym k]:=fun k hk e=>Uo (Sy hk (SD (AV.sym.inj (List.cons.inj (AV.tup.inj e)).1).symm)) (TV h.2);rw[Td (g 7 (by decide)),Td (g 8 (by decide))];rfl
theorem BX{s:Nat}(h:1<=s/\s<=6)(F:Fx)(r:St):Ok 1 1 [.tup [.sym s]] (F.st r) (.bool (sG (.tup [.sym s]))) (F.st r):=by
 rw[Jq h];exact cy (.inr ⟨h,rfl⟩)
theorem jx{v w:AV}{vs:List AV}(hv:vs.length<=40)(F:Fx)(r:St):Ok 1 1 [.tup (v::w::vs)] (F.st r) (.bool (sG (.tup (v::w::vs)))) (F.st r):=by rw[Jp];exact di hv
theorem CR:dz 2 (.tup [.sym 7]) [.sym 7]:=dW (by decide) dw (fun q hq F r=>by rw[SO.mp hq];exact gw (.inl rfl) F r) (fun q hq=>by rw[SO.mp hq];exact⟨_,_,rfl,rfl⟩) (by simp) (ys:=[.sym 7]) rfl rfl rfl
theorem w9{s:Nat}(h:1<=s/\s<=6):dz 2 (.tup [.sym s]) []:=by
 have hs:=Jq h;exact dW (by decide) dw (fun q hq F r=>by rw[SO.mp hq];exact BX h F r) (fun q hq=>by rw[SO.mp hq];exact⟨_,_,rfl,rfl⟩) (by simp) (ys:=[]) (by simp[hs,ln]) rfl rfl
theorem ux{s:Nat}:df 2 (.tup [.sym s,.tup [.sym 7]]) [.tup [.sym s,.tup [.sym 7]],.tup [.sym 7]]:=e6 (k:=1) (by decide) [(.tup [.sym 7],[.tup [.sym 7]])] (fun x hx=>by rw[SO.mp hx];exact⟨dw,rfl⟩) (by simp)
theorem zk{s:Nat}:dz 3 (.tup [.sym s,.tup [.sym 7]]) [.sym 7]:=dW (by decide) ux (fun q hq F r=>by
  rcases SN.mp hq with rfl | hq
  ·exact jx (by simp) F r
  ·rw[SO.mp hq];exact gw (.inl rfl) F r) (fun q hq=>by
  rcases SN.mp hq with rfl | hq
  ·exact⟨_,_,rfl,rfl⟩
  ·rw[SO.mp hq];exact⟨_,_,rfl,rfl⟩) (by simp) (ys:=[.sym 7]) (by rw[List.filter_cons,Jp];rfl) rfl rfl
theorem zm:df 3 Lf.f2.av [Lf.f2.av,.tup [.sym 3,.tup [.sym 7]],.tup [.sym 7]]:=e6 (k:=2) (by decide) [(.tup [.sym 3,.tup [.sym 7]],[.tup [.sym 3,.tup [.sym 7]],.tup [.sym 7]])] (fun x hx=>by rw[SO.mp hx];exact⟨ux,rfl⟩) (by simp)
theorem uw{s:Nat}:df 2 (.tup [.sym 4,.tup [.sym 7],.tup [.sym s]]) [.tup [.sym 4,.tup [.sym 7],.tup [.sym s]],.tup [.sym 7],.tup [.sym s]]:=e6 (k:=1) (by decide) [(.tup [.sym 7],[.tup [.sym 7]]),(.tup [.sym s],[.tup [.sym s]])] (fun x hx=>by
  rcases SN.mp hx with rfl | hx
  ·exact⟨dw,rfl⟩
  ·rw[SO.mp hx];exact⟨dw,rfl⟩) (by simp)
noncomputable def Lf.vs:Lf->List AV
 | .gxy=>[.sym 7,.sym 8]
 | _=>[.sym 7]
noncomputable def Rk.vs:Rk->List AV
 | .c=>[]
 | _=>[.sym 7]
theorem BM(lf:Lf):dz 4 lf.av lf.vs:=by
 have g3:∀{s:Nat},(s=7\/s=8)->∀ q∈[AV.tup [.sym 4,.tup [.sym 7],.tup [.sym s]],.tup [.sym 7],.tup [.sym s]],(∀(F:Fx) (r:St),Ok 1 1 [q] (F.st r) (.bool (sG q)) (F.st r))/\∃ v vs,q=.tup (v::vs)/\v.isIt=false:=fun hs q hq=>by
  rcases SN.mp hq with rfl | hq
  ·exact⟨jx (by simp),_,_,rfl,rfl⟩
  ·rcases SN.mp hq with rfl | hq
   ·exact⟨gw (.inl rfl),_,_,rfl,rfl⟩
   ·rw[SO.mp hq];exact⟨gw hs,_,_,rfl,rfl⟩
 cases lf with
 | f1=>exact fun F r=>by obtain⟨l,j,O,L⟩:=zk (s:=3) F r;exact⟨l,j,O.up (by decide),L⟩
 | f2=>
  exact dW (by decide) zm (fun q hq F r=>by
   rcases SN.mp hq with rfl | hq
   ·exact jx (by simp) F r
   ·rcases SN.mp hq with rfl | hq
    ·exact jx (by simp) F r
    ·rw[SO.mp hq];exact gw (.inl rfl) F r) (fun q hq=>by
   rcases SN.mp hq with rfl | hq
   ·exact⟨_,_,rfl,rfl⟩
   ·rcases SN.mp hq with rfl | hq
    ·exact⟨_,_,rfl,rfl⟩
    ·rw[SO.mp hq];exact⟨_,_,rfl,rfl⟩) (by simp) (ys:=[.sym 7]) rfl rfl rfl
 | gxy=>
  have:=dW (by decide) (uw (s:=8)) (fun q hq=>(g3 (.inr rfl) q hq).1) (fun q hq=>(g3 (.inr rfl) q hq).2) (by simp) (ys:=[.sym 7,.sym 8]) rfl rfl rfl
  exact fun F r=>by obtain⟨l,j,O,L⟩:=this F r;exact⟨l,j,O.up (by decide),L⟩
 | gxx=>
  have:=dW (by decide) (uw (s:=7)) (fun q hq=>(g3 (.inl rfl) q hq).1) (fun q hq=>(g3 (.inl rfl) q hq).2) (by simp) (ys:=[.sym 7]) rfl rfl rfl
  exact fun F r=>by obtain⟨l,j,O,L⟩:=this F r;exact⟨l,j,O.up (by decide),L⟩
theorem tU(rt:Rk):dz 3 rt.av rt.vs:=by
 cases rt with
 | c=>exact fun F r=>by obtain⟨l,j,O,L⟩:=w9 (s:=6) (by decide) F r;exact⟨l,j,O.up (by decide),L⟩
 | x=>exact fun F r=>by obtain⟨l,j,O,L⟩:=CR F r;exact⟨l,j,O.up (by decide),L⟩
 | h=>exact zk
noncomputable abbrev x7:List S:=[S.ite (X.cmp aR.notIn (X.loc 7) (X.tup [X.cst (al.sym 11),X.cst (al.sym 12)])) [S.raise] [],S.asg (aw.one 10) (X.comp (X.loc 12) (aw.one 12) (X.bin cP.add (X.call 2 [X.loc 8]) (X.call 2 [X.loc 9])) [X.cmp aR.notIn (X.loc 12) (X.loc 5)]),S.ite (X.cmp aR.ne (X.loc 10) (X.lst [])) [S.raise] []]
theorem aY{U:En}{v:AV}{i n j:Nat}(h:i<n)(e:Nat.ble n j=true):ag U j v i=U i:=Sz (S7 (Tz h (SV e)))
section
variable{F:Fx}
theorem mf{r:St}{j5 s:Nat}{a b:AV}{vl va vb:List AV}(hs:s=11\/s=12)(hj:r[j5]?=some (AO.list vl))(hvl:AV.purs vl=true)(A:dz 4 a va)(B:dz 4 b vb)(hai:a.isIt=false)(hbi:b.isIt=false)(hab:∀ v∈va++vb,v∈vl/\v.isIt=false/\v.pur=true)(hl:(va++vb).length<=100){G:Prop}
  (kk:∀ l:St,(∀ m,4<=m->∀ E:En,E 5=some (.ref (j5+19))->E 7=some (.sym s)->E 8=some a->E 9=some b->∃ j,bm ⟨ay aj m⟩ x7 E (F.st r)=some (none,ag E 10 (.ref (j+19)),F.st (r++l)))->G):G:=by
 obtain⟨la,ja,Oa,La⟩:=A F r;obtain⟨lb,jb,Ob,Lb⟩:=B F (r++la)
 let r2:St:=r++la++lb
 have La2:r2[ja]?=some (AO.list va):=af La lb;have hj2:r2[j5]?=some (AO.list vl):=af (af hj la) lb
 let r3:St:=r2++[AO.list (va++vb)]
 have hj3:r3[j5]?=some (AO.list vl):=af hj2 _;have g3:r3[r2.length]?=some (AO.list (va++vb)):=bM _ _ _;have hall:r3++[AO.list [],AO.list []]=r++(la++lb++[AO.list (va++vb),AO.list [],AO.list []]):=by simp[r3,r2]
 refine kk (la++lb++[AO.list (va++vb),AO.list [],AO.list []]) fun m hm E e5 e7 e8 e9=>⟨r3.length,?_⟩;clear kk;rw[<- hall];have ta:=Oa m hm;have tb:=Ob m hm;have hle:va.length+vb.length<=ax:=by rw[SP] at hl;unfold ax;exact LV hl
 have ca:ar ⟨ay aj m⟩ (.call 2 [.loc 8]) E (F.st r)=some (.ref (ja+19),F.st (r++la)):=by exists e8,hai,ta
 have cb:ar ⟨ay aj m⟩ (.call 2 [.loc 9]) E (F.st (r++la))=some (.ref (jb+19),F.st r2):=by
  exact mZ (bz (aF e9) hbi cI) tb
 have hadd:ar ⟨ay aj m⟩ (.bin .add (.call 2 [.loc 8]) (.call 2 [.loc 9])) E (F.st r)=some (.ref (r2.length+19),F.st r3):=by
  exact xh ca rfl cb rfl (yr (aJ (cF La2)) (aJ (cF Lb)) (by rw[SP];exact hle) rfl rfl)
 have hc:ar ⟨ay aj m⟩ (.comp (.loc 12) (.one 12) (.bin .add (.call 2 [.loc 8]) (.call 2 [.loc 9])) [.cmp .notIn (.loc 12) (.loc 5)]) E (F.st r)=some (.ref (r3.length+19),F.st (r3++[AO.list []])):=by
  have hg:ic (F.st r3) [(r2.length+19,some (va++vb))]=true:=bu g3;refine bl (v:=.ref (r2.length+19)) (s:=⟨va++vb,[(r2.length+19,some (va++vb))]⟩) (Y1:=F.st r3) (Y2:=F.st r3) (vs:=[]) hadd rfl (aU (aJ (cF g3))) ?_ (SZ _) rfl rfl;have key:∀ vs:List AV,(∀ v∈vs,v∈vl/\v.isIt=false/\v.pur=true)->bx [(r2.length+19,some (va++vb))] (.one 12) E (Cp ⟨ay aj m⟩ [.cmp .notIn (.loc 12) (.loc 5)]) (fun U' Y'=>one (ar ⟨ay aj m⟩ (.loc 12) U' Y')) vs (F.st r3)=some ([],F.st r3):=by
   intro vs
   induction vs with
   | nil=>intro _;exact cf hg
   | cons v vs ih=>
    intro h;obtain⟨x1,x2,x3⟩:=h v (.head _);exact iR hg rfl (oV (lY (aF rfl) x2 (aF e5) rfl (Dr (Ds (cF hj3) (je x3 hvl) (SM x1))))) (PD rfl (ih fun v hv=>h v (.tail _ hv)))
  exact key (va++vb) hab
 have q1:dS ⟨ay aj m⟩ (S.ite (X.cmp aR.notIn (X.loc 7) (X.tup [X.cst (al.sym 11),X.cst (al.sym 12)])) [S.raise] []) E (F.st r)=some (none,E,F.st r):=by
  rcases hs with rfl | rfl<;>exists e7
 have q2:r3=r3:=rfl;generalize r3=r9 at *;exists q1,hc
theorem qa(lf:Lf):AV.purs lf.vs=true:=by cases lf<;>rfl
theorem pB(lf:Lf):∀ v∈([.sym 7,.sym 7]:List AV),v∈lf.vs/\v.isIt=false/\v.pur=true:=fun v hv=>by
 have:v=.sym 7:=by simp at hv;exact hv
 subst this;exact⟨by cases lf<;>simp[Lf.vs],rfl,rfl⟩
theorem dz.up{k k':Nat}{p:AV}{vs:List AV}(x:dz k p vs)(h:k<=k'):dz k' p vs:=fun F r=>by
 obtain⟨l,j,O,L⟩:=x F r;exact⟨l,j,O.up h,L⟩
theorem vT(lf:Lf)(F:Fx)(r:St):Ok 1 1 [lf.av] (F.st r) (.bool false) (F.st r):=by
 cases lf<;>exact di (by simp)
theorem Bp{r:St}{lf:Lf}{rt:Rk}{like:Option Bool} :
  ∃ l:St,Ok 5 42 [.ref (r.length+19),.sym 15,lf.av,rt.av,.tup (aO like)] (F.st (r++[.inst 4 []])) .none (F.st (r++ci lf rt like::l)):=by
 obtain⟨l1,j5,O,L⟩:=BM lf F (r++[.inst 4 []])
 let need:List AV:=.tup [.sym 11,rt.av,rt.av]::aO like
 let r2:St:=r++[.inst 4 []]++l1++[AO.list [.tup [.sym 11,rt.av,rt.av]],AO.list (aO like),AO.list need]
 have hj2:r2[j5]?=some (AO.list lf.vs):=af L _;have hrs:∀ v∈rt.vs++rt.vs,v∈lf.vs/\v.isIt=false/\v.pur=true:=fun v hv=>by
  refine pB lf v ?_
  cases rt<;>simp[Rk.vs] at hv ⊢<;>exact hv
 refine mf (F:=F) (r:=r2) (s:=11) (.inl rfl) hj2 (qa lf) ((tU rt).up (by decide)) ((tU rt).up (by decide)) rt.it rt.it hrs (by cases rt<;>simp[Rk.vs]) fun l2 S1=>?_
 let j6:=(r++[AO.inst 4 []]++l1).length+2
 have h6:r2[j6]?=some (AO.list need):=zd _ _ _ _ _;obtain⟨l3,S2⟩:∃ l3:St,∀ m,4<=m->∀ E:En,E 5=some (.ref (j5+19))->∃ E',dQ [(j6+19,some need)] (.many [7,8,9]) (bm ⟨ay aj m⟩ x7) need E (F.st r2)=some (none,E',F.st (r2++l3))/\∀ i,i<7->E' i=E i:=by
  cases hlk:like with
  | none=>
   refine⟨l2,fun m hm E e5=>?_⟩;obtain⟨j,t⟩:=S1 m hm (ag (ag (ag E 7 (.sym 11)) 8 rt.av) 9 rt.av) e5 rfl rfl rfl;refine⟨ag (ag (ag (ag E 7 (.sym 11)) 8 rt.av) 9 rt.av) 10 (.ref (j+19)),ck (bu h6) rfl t ?_,fun i hi=>?_⟩
   ·have:aO like=[]:=by rw[hlk];rfl
    rw[this];exact bT (bu (af h6 l2))
   ·exact(aY hi rfl).trans ((aY hi rfl).trans ((aY hi rfl).trans (aY hi rfl)))
  | some bb=>
   refine mf (F:=F) (r:=r2++l2) (s:=if bb=true then 11 else 12) (a:=.tup [.sym 7]) (b:=.tup [.sym 1]) (by cases bb<;>simp) (af hj2 l2) (qa lf) (CR.up (by decide)) ((w9 (s:=1) (by decide)).up (by decide)) rfl rfl (fun v hv=>pB lf v (by simp at hv ⊢;exact hv)) (by simp) fun l4 S4=>?_
   refine⟨l2++l4,fun m hm E e5=>?_⟩;obtain⟨j,t⟩:=S1 m hm (ag (ag (ag E 7 (.sym 11)) 8 rt.av) 9 rt.av) e5 rfl rfl rfl;generalize hE1:ag (ag (ag (ag E 7 (.sym 11)) 8 rt.av) 9 rt.av) 10 (.ref (j+19))=E1 at t;have e15:E1 5=some (.ref (j5+19)):=by rw[<- hE1];exact e5
   obtain⟨j',t'⟩:=S4 m hm (ag (ag (ag E1 7 (.sym (if bb=true then 11 else 12))) 8 (.tup [.sym 7])) 9 (.tup [.sym 1])) e15 rfl rfl rfl
   refine⟨ag (ag (ag (ag E1 7 (.sym (if bb=true then 11 else 12))) 8 (.tup [.sym 7])) 9 (.tup [.sym 1])) 10 (.ref (j'+19)),ck (bu h6) rfl t ?_,fun i hi=>?_⟩
   rotate_left
   ·rw[<- hE1];exact(aY hi rfl).trans ((aY hi rfl).trans ((aY hi rfl).trans ((aY hi rfl).trans ((aY hi rfl).trans ((aY hi rfl).trans ((aY hi rfl).trans (aY hi rfl)))))))
   ·have hn:aO like=[.tup [.sym (if bb=true then 11 else 12),.tup [.sym 7],.tup [.sym 1]]]:=by rw[hlk];rfl
    have h62:=af h6 l2;have h63:=af h62 l4;rw[hn,<- SR];exact ck (bu h62) rfl t' (bT (bu h63))
 let A0:En:=fun i=>[AV.ref (r.length+19),.sym 15,lf.av,rt.av,.tup (aO like)][i]?
 have hr2:r2++l3=r++AO.inst 4 []::(l1++[AO.list [.tup [.sym 11,rt.av,rt.av]],AO.list (aO like),AO.list need]++l3):=by simp[r2]
 generalize hl9:l1++[AO.list [.tup [.sym 11,rt.av,rt.av]],AO.list (aO like),AO.list need]++l3=l9 at hr2;refine⟨l9,.mk rfl rfl fun m hm=>?_⟩;have t1:=vT lf F (r++[.inst 4 []]) m (Sy (by decide) hm)
 have t2:=O m hm;have q3:dS ⟨ay aj m⟩ (.asg (.one 6) (.bin .add (.lst [.tup [.cst (.sym 11),.loc 3,.loc 3]]) (.blt .listOf [.loc 4]))) (ag A0 5 (.ref (j5+19))) (F.st (r++[.inst 4 []]++l1))=some (none,ag (ag A0 5 (.ref (j5+19))) 6 (.ref (j6+19)),F.st r2):=by
  have hln:([AV.tup [.sym 11,rt.av,rt.av]]++aO like).length<=ax:=by cases like<;>exact SV rfl
  have hg:r2=(r++[.inst 4 []]++l1)++[AO.list [.tup [.sym 11,rt.av,rt.av]],AO.list (aO like),AO.list need]:=rfl;have hj:j6=(r++[AO.inst 4 []]++l1).length+2:=rfl;rw[hg,hj];generalize r++[AO.inst 4 []]++l1=r8;exists rt.it,hln,(Kc:F.st (r8++[AO.list [AV.tup [AV.sym 11,rt.av,rt.av]],AO.list (aO like)])++[AO.list ([AV.tup [AV.sym 11,rt.av,rt.av]]++aO like)]=F.st (r8++[AO.list [AV.tup [AV.sym 11,rt.av,rt.av]],AO.list (aO like),AO.list need]))
 obtain⟨E,c1,c2⟩:=S2 m (hm) (ag (ag A0 5 (.ref (j5+19))) 6 (.ref (j6+19))) rfl;have hfor:dS ⟨ay aj m⟩ (.for_ (.many [7,8,9]) (.loc 6) x7) (ag (ag A0 5 (.ref (j5+19))) 6 (.ref (j6+19))) (F.st r2)=some (none,E,F.st (r++AO.inst 4 []::l9)):=by
  rw[<- hr2];exact(cX (v:=.ref (j6+19)) (s:=⟨need,[(j6+19,some need)]⟩) (Y1:=F.st r2) (aF rfl) rfl (aU (aJ (cF h6)))).trans c1
 have E0:E 0=some (.ref (r.length+19)):=c2 0 (by decide)
 have E1:E 1=some (.sym 15):=c2 1 (by decide)
 have E2:E 2=some lf.av:=c2 2 (by decide)
 have E3:E 3=some rt.av:=c2 3 (by decide)
 have E4:E 4=some (.tup (aO like)):=c2 4 (by decide)
 exists lf.it,t1,t2,q3,hfor,E0,E1,E2,E3,E4,rt.it
end
section
variable{F:Fx}
noncomputable def gk(L ru op:Nat):List (Nat×AV):=[(14,.ref 3),(19,.ref (L+2+19)),(20,.ref (op+19)),(21,.ref (L+3+19)),(22,.ref (L+4+19)),(23,.ref (L+5+19)),(24,.int 0),(25,.ref (L+7+19)),(26,.ref (L+9+19))]
theorem vC{r:St}{ru rl op:Nat}{most:Int}{lf:Lf}{rt:Rk}{like:Option Bool}(hL:r[rl]?=some (AO.list [.ref (ru+19)]))(hO:r[op]?=some (AO.dict [(.sym 20,.int most)]))(hUU:r[ru]?=some (ci lf rt like)) :
  Ok 2 47 [.ref (r.length+19),.ref 3,.ref (rl+19),.ref (op+19)] (F.st (r++[.inst 6 []])) .none
   (F.st (r++[.inst 6 (gk r.length ru op),.list [.sym 15],.list [.ref (ru+19)],.inst 3 [(14,.ref 3)],.inst 5 [(14,.ref 3)],.list [],.list [.int 0],.list [.int 0],.list [.int 0],.list [.int 0]])):=by
 refine .mk rfl rfl fun m hm=>?_
 let A0:En:=fun i=>[AV.ref (r.length+19),.ref 3,.ref (rl+19),.ref (op+19)][i]?
 have hd:(az [(AV.sym 20,AV.int most)] (.sym 16)).getD (.sym 17)=.sym 17:=rfl;have hc:ar ⟨ay aj m⟩ (X.comp (X.attr (X.loc 6) 15) (aw.one 6) (X.loc 2) []) A0 (F.st (r++[.inst 6 []]))=some (.ref (r.length+1+19),F.st (r++[.inst 6 [],.list [.sym 15]])):=by
  have h1:=af hL [.inst 6 []];have h2:=af hUU [.inst 6 []];refine bl (v:=.ref (rl+19)) (s:=⟨[.ref (ru+19)],[(rl+19,some [.ref (ru+19)])]⟩) (Y1:=F.st (r++[.inst 6 []])) (Y2:=F.st (r++[.inst 6 []])) (vs:=[.sym 15]) (aF rfl) rfl (aU (aJ (cF h1))) ?_ (SV rfl) ND KF;exists bu h1,h2
 have tw:∀{a b c:AO},ay aj m 38 [.ref (r.length+3+19),.ref 3] (F.st (r++[a,b,c,.inst 3 []]))=some (.none,F.st (r++[a,b,c,.inst 3 [(14,.ref 3)]])):=by
  intro a b c;have t:=vB (F:=F) (r:=r++[a,b,c]) (j:=0) m (hm);simp only[List.length_append,List.length_cons,List.length_nil,List.append_assoc,List.cons_append,List.nil_append] at t;exact t
 have tp:∀{a b c d:AO},ay aj m 43 [.ref (r.length+4+19),.ref 3] (F.st (r++[a,b,c,d,.inst 5 []]))=some (.none,F.st (r++[a,b,c,d,.inst 5 [(14,.ref 3)]])):=by
  intro a b c d;have t:=vD (F:=F) (r:=r++[a,b,c,d]) m (hm);simp only[List.length_append,List.length_cons,List.length_nil,List.append_assoc,List.cons_append,List.nil_append] at t;exact t
 exists hO,hd,hc,hL,tw,tp
end
noncomputable def GY(vs:List AV):Fx:=⟨vs,vs,0,[],[],[],[],[],[],[],[],[],[],[],[],[]⟩
theorem wj(m:Nat)(vs:List AV):ay aj (m+3) 25 [.ref 3] [.list vs,.list vs,.dict [(.sym 23,.ref 1),(.sym 24,.int 0)],.inst 2 []]=some (.none,(GY vs).pre):=by
 kernel_rfl
noncomputable abbrev CC(m:Nat):Calls:=⟨ay aj m⟩
theorem aC{m:Nat}{L:List S}{k:Nat}{s:S}{U U1:En}{Y Y1:St}(hs:L[k]?=some s)(h:dS (CC m) s U Y=some (none,U1,Y1)):bm (CC m) (L.drop k) U Y=bm (CC m) (L.drop (k+1)) U1 Y1:=by
 obtain⟨h1,h2⟩:=SJ.mp hs;rw[UD h1,h2,seq h]
theorem yN{m:Nat}{L:List S}{k:Nat}{s:S}{U U1:En}{Y Y1:St}{v:AV}(hs:L[k]?=some s)(h:dS (CC m) s U Y=some (some v,U1,Y1)):bm (CC m) (L.drop k) U Y=some (some v,U1,Y1):=by
 obtain⟨h1,h2⟩:=SJ.mp hs;rw[UD h1,h2,H7 h]
theorem HI.law{F F':Fx}{r:St}{h:HS}(H:HI F r h)(e:∃ a w,F'=((F.t2 a).t18 w)):HI F' r h:=by
 obtain⟨a,w,rfl⟩:=e;exact{ H with }
theorem NL{m:Nat}(hm:29<=m)(is:List Int)(U:En)(h0:U 0=some (.frz (is.map .int))){G:Prop}
  (kk:∀(F:Fx) (r:St) (ws:List Nd) (pr:Nat) (h:HS) (U':En),bm (CC m) (eE.2.drop 0) U []=bm (CC m) (eE.2.drop 3) U' (F.st r)->U' 1=some (.ref 2)->U' 2=some (.ref 3)->U' 3=some (.ref (pr+1+19))->HI F r h->bG h->h.ns=ws->NG ws->ws.length<=7->WI F r (pr+1) pr (ws,[])->DP F 40->pr∉h.D->pr+1∉h.D->G):G:=by
 let vs:List AV:=(is.take 30).map .int
 have hvs:(is.map AV.int).take 30=vs:=by simp[vs]
 have D0:DP (GY vs) 0:=⟨is.take 30,0,rfl,rfl,SE _⟩;have hi:ay aj m 25 [.ref 3] [.list vs,.list vs,.dict [(.sym 23,.ref 1),(.sym 24,.int 0)],.inst 2 []]=some (.none,(GY vs).pre):=by obtain⟨k,rfl⟩:∃ k,m=k+3:=⟨m-3,LU hm⟩;exact wj k vs
 have s0:dS (CC m) (S.asg (aw.many [1,2]) (X.tup [X.dct [23,24] [X.blt aN.listOf [X.slc (X.loc 0) Sl.first30],X.cst (al.int 0)],X.new 2 []])) U []=some (none,ag (ag U 1 (.ref 2)) 2 (.ref 3),(GY vs).pre):=by
  have hs:([]:St)++[AO.list ((is.map AV.int).take 30)]=[.list vs]:=by rw[hvs];rfl
  have q1:ar (CC m) (.slc (.loc 0) .first30) U []=some (.ref 0,[.list vs]):=lX (aF h0) rfl (Hq rfl hs);have q2:ar (CC m) (.blt .listOf [.slc (.loc 0) .first30]) U []=some (.ref 1,[.list vs,.list vs]):=xg (bz q1 rfl cI) (z7 (l:=vs) rfl rfl rfl);have q3:ar (CC m) (.dct [23,24] [.blt .listOf [.slc (.loc 0) .first30],.cst (.int 0)]) U []=some (.ref 2,[.list vs,.list vs,.dict [(.sym 23,.ref 1),(.sym 24,.int 0)]]):=CT (bz q2 rfl (bz AA rfl cI)) rfl rfl (SV rfl) rfl rfl;have q4:ar (CC m) (.new 2 []) U [.list vs,.list vs,.dict [(.sym 23,.ref 1),(.sym 24,.int 0)]]=some (.ref 3,(GY vs).pre):=by
   refine CS (f:=25) (kk:=3) (τ:=[.list vs,.list vs,.dict [(.sym 23,.ref 1),(.sym 24,.int 0)],.inst 2 []]) cI rfl rfl rfl ?_
   with_reducible exact hi
  exact yd (oN (bz q3 rfl (bz q4 rfl cI)) (SV rfl)) rfl rfl
 refine nC D0 (by decide) fun a l ws O1 D1 N hsz=>?_
 have t1:=O1 m (Sy (by decide) hm)
 generalize hF1:((GY vs).t2 a).t18 (ws.map aI)=F1 at t1 D1;have hW1:F1.world=ws.map aI:=by rw[<- hF1]
 let r2:St:=l++[.list [],.dict [(.sym 20,.ref 18),(.sym 22,.ref (l.length+19))]]
 have s1:dS (CC m) (S.asg (aw.one 3) (X.dct [20,22] [X.call 5 [X.loc 1],X.lst []])) (ag (ag U 1 (.ref 2)) 2 (.ref 3)) (GY vs).pre=some (none,ag (ag (ag U 1 (.ref 2)) 2 (.ref 3)) 3 (.ref (l.length+1+19)),F1.st r2):=by
  exists t1,(KF:F1.st (l++[AO.list []])++[AO.dict ((List.map AV.sym [20,22]).zip [AV.ref 18,AV.ref (l.length+19)])]=F1.st r2)
 have hE:PP F1:=by rw[<- hF1];exact⟨rfl,rfl,rfl,rfl,rfl,rfl,rfl,rfl,rfl,rfl,rfl,rfl⟩
 refine wi N hsz ws [] (F:=F1) (r:=r2) (h:=Internal.h0) rfl rfl bG.empty (HI.empty hE) hW1 _ fun F3 r3 h e3 H fr lw hns Z=>?_;obtain⟨U3,u1,u2⟩:=e3 m (Sy (by decide) hm) (ag (ag (ag U 1 (.ref 2)) 2 (.ref 3)) 3 (.ref (l.length+1+19))) rfl
 have s2:dS (CC m) (.for_ (.one 4) (.sub (.loc 3) (.cst (.sym 20))) za) (ag (ag (ag U 1 (.ref 2)) 2 (.ref 3)) 3 (.ref (l.length+1+19))) (F1.st r2)=some (none,U3,F3.st r3):=by
  have hdg:az [(AV.sym 20,AV.ref 18),(AV.sym 22,AV.ref (l.length+19))] (.sym 20)=some (.ref 18):=rfl;have g:r2[l.length+1]?=some (AO.dict [(.sym 20,.ref 18),(.sym 22,.ref (l.length+19))]):=iW _ _ _ _;exact(cX (v:=.ref 18) (s:=⟨ws.map aI,[(18,some (ws.map aI))]⟩) (Y1:=F1.st r2) (by exists g,hdg) rfl (by rw[<- hW1];rfl)).trans u1
 have nD:∀ j,j<r2.length->j∉h.D:=fun j hj q=>by
  rcases fr.new j q with q | q
  ·exact(T6 (a:=j)) q
  ·exact Uo q hj
 have hr2:r2.length=l.length+2:=by simp[r2]
 have l1:l.length+1<r2.length:=Tz (T8 _) (SD hr2.symm);have l0:l.length<r2.length:=Nat.lt_of_succ_lt l1;refine kk F3 r3 ws l.length h U3 (((aC rfl s0).trans (aC rfl s1)).trans (aC rfl s2)) (u2 1 (by decide)) (u2 2 (by decide)) (u2 3 (by decide)) H Z hns N hsz ⟨lw.2.2.2.trans hW1,?_,?_,nofun,fun i op ks hi=>?_,Sy hsz (by decide),SZ _⟩ ?_ (nD _ l0) (nD _ l1)
 ·exact(fr.same _ l1 nofun).trans (iW _ _ _ _)
 ·exact(fr.same _ l0 nofun).trans (bM _ _ _)
 ·obtain⟨k1,k2⟩:=N.kids i op ks hi;exact⟨k1,by rcases k2 with⟨_,e⟩ | ⟨_,e⟩ | ⟨_,e⟩<;>simp[e]⟩
 ·obtain⟨cs,x,y1,y2,y3⟩:=D1;exact⟨cs,x,lw.2.1.trans y1,lw.2.2.1.trans y2,LT y3⟩
theorem Nz{v:Nat}(h:v<3):v=0\/v=1\/v=2:=(Nat.lt_or_eq_of_le (Nat.le_of_lt_succ h)).elim (fun h=>(IL h).imp_right .inl) fun e=>.inr (.inr e)
theorem Pn{v:Nat}(h:v<4):v=0\/v=1\/v=2\/v=3:=(Nat.lt_or_eq_of_le (Nat.le_of_lt_succ h)).elim (fun h=>(Nz h).imp_right fun h=>h.imp_right .inl) fun e=>.inr (.inr (.inr e))
theorem DP.le{F F':Fx}{a b:Nat}(h:DP F a)(e:a<=b)(hc:F'.cells=F.cells)(ha:F'.ato=F.ato):DP F' b:=by
 obtain⟨cs,x,y1,y2,y3⟩:=h;exact⟨cs,x,hc.trans y1,ha.trans y2,Sy y3 e⟩
theorem yL{v:Nat}(h:v<4):∃ lf:Lf,∀ Y,oZ Y (.tup [AV.tup [.sym 3,.tup [.sym 7]],.tup [.sym 3,.tup [.sym 3,.tup [.sym 7]]],.tup [.sym 4,.tup [.sym 7],.tup [.sym 8]],.tup [.sym 4,.tup [.sym 7],.tup [.sym 7]]]) (aa v)=some lf.av:=by
 rcases Pn h with rfl | rfl | rfl | rfl
 ·exact⟨.f1,fun _=>rfl⟩
 ·exact⟨.f2,fun _=>rfl⟩
 ·exact⟨.gxy,fun _=>rfl⟩
 ·exact⟨.gxx,fun _=>rfl⟩
theorem vr{v:Nat}(h:v<3):∃ rt:Rk,∀ Y,oZ Y (.tup [AV.tup [.sym 6],.tup [.sym 7],.tup [.sym 5,.tup [.sym 7]]]) (aa v)=some rt.av:=by
 rcases Nz h with rfl | rfl | rfl
 ·exact⟨.c,fun _=>rfl⟩
 ·exact⟨.x,fun _=>rfl⟩
 ·exact⟨.h,fun _=>rfl⟩
theorem NK{m:Nat}(hm:29<=m){F:Fx}{r:St}{U:En}{b:Nat}(D:DP F b)(hb:b<=900)(h1:U 1=some (.ref 2))(h2:U 2=some (.ref 3)){G:Prop}
  (kk:∀(a:Int) (lf:Lf) (rt:Rk) (like:Option Bool) (most:Int) (U':En),bm (CC m) (eE.2.drop 3) U (F.st r)=bm (CC m) (eE.2.drop 7) U' ((F.t2 a).st r)->(∀ i,i<=4->U' i=U i)->U' 5=some lf.av->U' 6=some rt.av->U' 8=some (.tup (aO like))->U' 9=some (.int most)->DP (F.t2 a) (b+5)->G):G:=by
 refine cJ (r:=r) D (Sy hb (by decide)) (by decide:0<4) fun v1 a1 hv1 O1 D1=>?_
 refine cJ (r:=r) D1 (II hb) (by decide:0<3) fun v2 a2 hv2 O2 D2=>?_
 have z4:aa 4=.int 4:=rfl;have z3:aa 3=.int 3:=rfl;have t1:=O1 m (Sy (by decide) hm)
 have t2:=O2 m (Sy (by decide) hm)
 rw[z4] at t1;rw[z3] at t2;obtain⟨lf,hlf⟩:=yL hv1;obtain⟨rt,hrt⟩:=vr hv2;have s3:dS (CC m) (S.asg (aw.many [5,6]) (X.tup [X.sub (X.glob 0) (X.call 4 [X.loc 1,X.cst (al.int 4)]),X.sub (X.glob 1) (X.call 4 [X.loc 1,X.cst (al.int 3)])])) U (F.st r)=some (none,ag (ag U 5 lf.av) 6 rt.av,(F.t2 a2).st r):=by
  exists h1,ql,t1,t2,hlf _,hrt _,lf.it,rt.it
 have asked:∀(G:Prop),(∀(q:Nat) (a3:Int),q<4->dS (CC m) (S.asg (aw.one 7) (X.ite (X.cmp aR.ne (X.sub (X.loc 6) (X.cst (al.int 0))) (X.cst (al.sym 6))) (X.call 4 [X.loc 1,X.cst (al.int 4)]) (X.cst (al.int 0)))) (ag (ag U 5 lf.av) 6 rt.av) ((F.t2 a2).st r)=some (none,ag (ag (ag U 5 lf.av) 6 rt.av) 7 (aa q),(F.t2 a3).st r)->DP (F.t2 a3) (b+3)->G)->G:=by
  clear kk s3;intro G kk
  cases rt with
  | c=>
   refine kk 0 a2 (by decide) ?_ (D2.le o0 rfl rfl)
   exists h1
  | x=>
   refine cJ (r:=r) D2 (IH hb) (by decide:0<4) fun q a3 hq O3 D3=>?_
   have t3:=O3 m (Sy (by decide) hm)
   rw[z4] at t3;exact kk q a3 hq (by exists(show ag (ag U 5 lf.av) 6 _ 1=_ from h1),t3) D3
  | h=>
   refine cJ (r:=r) D2 (IH hb) (by decide:0<4) fun q a3 hq O3 D3=>?_
   have t3:=O3 m (Sy (by decide) hm)
   rw[z4] at t3;exact kk q a3 hq (by exists(show ag (ag U 5 lf.av) 6 _ 1=_ from h1),t3) D3
 refine asked _ fun q a3 hq s4 D3=>?_;clear asked;obtain⟨like,s5⟩:∃ like:Option Bool,dS (CC m) (S.asg (aw.one 8) (X.ite (X.cmp aR.gt (X.loc 7) (X.cst (al.int 1))) (X.tup [X.tup [X.ite (X.cmp aR.eq (X.loc 7) (X.cst (al.int 2))) (X.cst (al.sym 11)) (X.cst (al.sym 12)),X.tup [X.cst (al.sym 7)],X.tup [X.cst (al.sym 1)]]]) (X.tup []))) (ag (ag (ag U 5 lf.av) 6 rt.av) 7 (aa q)) ((F.t2 a3).st r)=some (none,ag (ag (ag (ag U 5 lf.av) 6 rt.av) 7 (aa q)) 8 (.tup (aO like)),(F.t2 a3).st r):=by
  clear s4 s3 kk
  rcases Pn hq with rfl | rfl | rfl | rfl
  ·exact⟨none,by exists trivial⟩
  ·exact⟨none,by exists trivial⟩
  ·exact⟨some true,by exists trivial⟩
  ·exact⟨some false,by exists trivial⟩
 refine cJ (r:=r) D3 (LS hb) (by decide:0<3) fun v4 a4 hv4 O4 D4=>?_
 have t4:=O4 m (Sy (by decide) hm)
 rw[z3] at t4;have ts:=ek (F:=(F.t2 a3)) (rest:=r) m (Sy (by decide) hm)
 have last:∀(most a5:Int),dS (CC m) (S.asg (aw.one 9) (X.bin cP.sub (X.bin cP.add (X.meth (X.loc 2) 35 []) (X.ite (X.cmp aR.eq (X.call 4 [X.loc 1,X.cst (al.int 3)]) (X.cst (al.int 2))) (X.call 4 [X.loc 1,X.cst (al.int 4)]) (X.cst (al.int 40)))) (X.cst (al.int 1)))) (ag (ag (ag (ag U 5 lf.av) 6 rt.av) 7 (aa q)) 8 (.tup (aO like))) ((F.t2 a3).st r)=some (none,ag (ag (ag (ag (ag U 5 lf.av) 6 rt.av) 7 (aa q)) 8 (.tup (aO like))) 9 (.int most),(F.t2 a5).st r)->DP (F.t2 a5) (b+5)->G:=fun most a5 s6 D5=>
  kk a5 lf rt like most (ag (ag (ag (ag (ag U 5 lf.av) 6 rt.av) 7 (aa q)) 8 (.tup (aO like))) 9 (.int most)) ((((aC rfl s3).trans (aC rfl s4)).trans (aC rfl s5)).trans (aC rfl s6))
   (fun i hi=>have hi:=TV hi;(aY hi rfl).trans ((aY hi rfl).trans ((aY hi rfl).trans ((aY hi rfl).trans (aY hi rfl))))) rfl rfl rfl rfl D5
 clear kk s3 s4 s5
 ·have e1:ag (ag (ag (ag U 5 lf.av) 6 rt.av) 7 (aa q)) 8 (.tup (aO like)) 1=_:=h1;have e2:ag (ag (ag (ag U 5 lf.av) 6 rt.av) 7 (aa q)) 8 (.tup (aO like)) 2=_:=h2
  by_cases z:v4=2
  ·subst z;refine cJ (r:=r) D4 (LQ hb) (by decide:0<4) fun v5 a5 hv5 O5 D5=>?_
   have t5:=O5 m (Sy (by decide) hm)
   rw[z4] at t5;exact last ((F.nodes.length:Int)+(v5:Nat)-1) a5 (by exists e1,e2,t4,t5,ts) D5
  ·exact last ((F.nodes.length:Int)+40-1) a4 (by exists e1,e2,t4,ts,Nt (b:=2) z) (D4.le o0 rfl rfl)
noncomputable def Iy(A:Ad)(fs:List (Nat×AV))(lf:Lf)(rt:Rk)(like:Option Bool)(most:Int):List (Nat×AO):=
 [(A.rn,.inst 6 fs),(A.ru,ci lf rt like),(A.pl,.inst 5 [(14,.ref 3)]),(A.rl,.list [.ref (A.ru+19)]),(A.op,.dict [(.sym 20,.int most)]),(A.hs,.list [])]
theorem zn{ws:List Nd}{lf:Lf}{c:Nat}:AV.purs (gn ws lf c)=true:=by
 unfold gn
 cases h:c9 ws lf c with
 | none=>rfl
 | some es=>
  exact gB (P:=fun _ es=>AV.purs [.tup [aa c,.tup (bW es)]]=true) h (fun _ _=>rfl) (fun _ _ _ _=>rfl) (fun _ _ _=>rfl) fun _ _=>rfl
theorem mi(ws:List Nd)(lf:Lf):AV.purs ((aG ws lf).map aq)=true:=by
 rw[eZ];unfold AV.purs;rw[List.all_flatMap,Un];exact fun c _=>zn
theorem NJ{m:Nat}(hm:29<=m){F:Fx}{r:St}{h:HS}{ws:List Nd}{pr:Nat}{U:En}{lf:Lf}{rt:Rk}{like:Option Bool}{most:Int}(H:HI F r h)(Z:bG h)(hns:h.ns=ws)(N:NG ws)(hsz:ws.length<=7)(Wi:WI F r (pr+1) pr (ws,[]))
  (h2:U 2=some (.ref 3)) (h3:U 3=some (.ref (pr+1+19))) (h5:U 5=some lf.av) (h6:U 6=some rt.av) (h8:U 8=some (.tup (aO like))) (h9:U 9=some (.int most)) {G:Prop}
  (kk:∀(r':St) (A:Ad) (fs:List (Nat×AV)) (U':En),bm (CC m) (eE.2.drop 7) U (F.st r)=bm (CC m) (eE.2.drop 11) U' (F.st r')->(∃ l,r'=r++l)->(∀ i,i<=9->U' i=U i)->U' 10=some (.ref (A.ru+19))->U' 11=some (.ref (A.rn+19))->U' 12=some (.ref (A.jl+19))->RF A fs->(∀ x∈Iy A fs lf rt like most,r'[x.1]?=some x.2/\r.length<=x.1)->r'[A.jl]?=some (AO.list ((aG ws lf).map aq))->r.length<=A.jl->A.hs≠A.jl->G):G:=by
 obtain⟨l1,O1⟩:=Bp (F:=F) (r:=r) (lf:=lf) (rt:=rt) (like:=like)
 let ra:St:=r++ci lf rt like::l1
 have s7:dS (CC m) (S.asg (aw.one 10) (X.new 4 [X.cst (al.sym 15),X.loc 5,X.loc 6,X.loc 8])) U (F.st r)=some (none,ag U 10 (.ref (r.length+19)),F.st ra):=by
  have t:=O1 m (Sy (by decide) hm)
  exists h5,h6,h8,lf.it,rt.it,t
 let rb:St:=ra++[.list [.ref (r.length+19)],.dict [(.sym 20,.int most)]]
 have gL:rb[ra.length]?=some (AO.list [.ref (r.length+19)]):=bM _ _ _;have gO:rb[ra.length+1]?=some (AO.dict [(.sym 20,.int most)]):=iW _ _ _ _;have gU0:ra[r.length]?=some (ci lf rt like):=bM _ _ _;have gU:rb[r.length]?=some (ci lf rt like):=af gU0 _;have hrb:rb.length=ra.length+2:=by simp[rb]
 have hral:r.length<ra.length:=by simp[ra]
 have O2:=vC (F:=F) gL gO gU
 let rc:St:=rb++[.inst 6 (gk rb.length r.length (ra.length+1)),.list [.sym 15],.list [.ref (r.length+19)],.inst 3 [(14,.ref 3)],.inst 5 [(14,.ref 3)],.list [],.list [.int 0],.list [.int 0],.list [.int 0],.list [.int 0]]
 have s8:dS (CC m) (S.asg (aw.one 11) (X.new 6 [X.loc 2,X.lst [X.loc 10],X.dct [20] [X.loc 9]])) (ag U 10 (.ref (r.length+19))) (F.st ra)=some (none,ag (ag U 10 (.ref (r.length+19))) 11 (.ref (rb.length+19)),F.st rc):=by
  have t:ay aj m 47 [.ref (ra.length+2+19),.ref 3,.ref (ra.length+19),.ref (ra.length+1+19)] (F.st (ra++[.list [.ref (r.length+19)],.dict [(.sym 20,.int most)],.inst 6 []]))=some (.none,F.st rc):=by
   rw[show ra++[AO.list [.ref (r.length+19)],.dict [(.sym 20,.int most)],.inst 6 []]=rb++[.inst 6 []] from(SR ra [_,_] [_]).symm,<- hrb];exact O2 m (Sy (by decide) hm)
  rw[hrb];exists h2,(show ag U 10 (.ref (r.length+19)) 9=_ from h9),t
 refine vE (F:=F) (lf:=lf) N Wi.world (Sy hsz (by decide)) (r:=rc) fun l2 j12 O3 L3 hj12=>?_
 have gc:∀(k:Nat) (o:AO),([AO.inst 6 (gk rb.length r.length (ra.length+1)),.list [.sym 15],.list [.ref (r.length+19)],.inst 3 [(14,.ref 3)],.inst 5 [(14,.ref 3)],.list [],.list [.int 0],.list [.int 0],.list [.int 0],.list [.int 0]]:St)[k]?=some o->rc[rb.length+k]?=some o:=fun k o e=>by
  show(rb++_)[rb.length+k]?=_;rw[N0];exact e
 have hrc:rc.length=rb.length+10:=by simp[rc]
 have s9:dS (CC m) (S.asg (aw.one 12) (X.call 6 [X.sub (X.loc 3) (X.cst (al.sym 20)),X.loc 5])) (ag (ag U 10 (.ref (r.length+19))) 11 (.ref (rb.length+19))) (F.st rc)=some (none,ag (ag (ag U 10 (.ref (r.length+19))) 11 (.ref (rb.length+19))) 12 (.ref (j12+19)),F.st (rc++l2)):=by
  have t:=O3 m (Sy (by decide) hm)
  have hw:rc[pr+1]?=some (AO.dict [(.sym 20,.ref 18),(.sym 22,.ref (pr+19))]):=af (af (af Wi.wd _) _) _;have hdg:az [(AV.sym 20,AV.ref 18),(AV.sym 22,AV.ref (pr+19))] (.sym 20)=some (.ref 18):=rfl;generalize rc=rc' at *;exists(show ag (ag U 10 (.ref (r.length+19))) 11 (.ref (rb.length+19)) 3=_ from h3),(show ag (ag U 10 (.ref (r.length+19))) 11 (.ref (rb.length+19)) 5=_ from h5),hw,hdg,lf.it,t
 let rd:St:=rc++l2
 have hd:∃ l,rd=r++l:=⟨ci lf rt like::l1++[.list [.ref (r.length+19)],.dict [(.sym 20,.int most)]]++[.inst 6 (gk rb.length r.length (ra.length+1)),.list [.sym 15],.list [.ref (r.length+19)],.inst 3 [(14,.ref 3)],.inst 5 [(14,.ref 3)],.list [],.list [.int 0],.list [.int 0],.list [.int 0],.list [.int 0]]++l2,by simp[rd,rc,rb,ra]⟩
 have Hd:HI F rd h:=by obtain⟨l,e⟩:=hd;rw[e];exact H.grow l
 have N':NG h.ns:=by rw[hns];exact N
 refine rV (lf:=lf) (rt:=rt) (like:=like) (most:=most) Hd Z N' (rn:=rb.length) (ru:=r.length) (rl:=rb.length+2) (op:=ra.length+1) (wk:=rb.length+3) (wa:=rb.length+9) (fs:=gk rb.length r.length (ra.length+1)) (af (gc 0 _ rfl) l2) rfl rfl rfl rfl rfl (af (af gU _) l2) (af (gc 2 _ rfl) l2) (af (af gO _) l2) (af (gc 3 _ rfl) l2) (af (gc 9 _ rfl) l2) fun l3 j O4 L4=>?_;rw[hns] at L4;have L5:=af L3 l3;have s10:dS (CC m) (S.ite (X.cmp aR.ne (X.meth (X.loc 11) 59 [X.cst (al.int 0)]) (X.loc 12)) [S.ret (X.cst (al.bool false))] []) (ag (ag (ag U 10 (.ref (r.length+19))) 11 (.ref (rb.length+19))) 12 (.ref (j12+19))) (F.st rd)=some (none,ag (ag (ag U 10 (.ref (r.length+19))) 11 (.ref (rb.length+19))) 12 (.ref (j12+19)),F.st (rd++l3)):=by
  have t:=O4 m (Sy (by decide) hm)
  have hp:=mi ws lf;have hR:rd[rb.length]?=some (AO.inst 6 (gk rb.length r.length (ra.length+1))):=af (gc 0 _ rfl) l2;have L5:(rd++l3)[j12]?=some (AO.list ((aG ws lf).map aq)):=L5;generalize (aG ws lf).map aq=pl at *;have hm:List.lookup 59 (gk rb.length r.length (ra.length+1))=none:=rfl;generalize rb.length=L at *;generalize gk L r.length (ra.length+1)=fs at *;generalize rd=rd' at *;exists hR,hm,t,L4,L5,je hp hp,SM (rfl:pl=pl)
 have l0:r.length<=rb.length:=TM (Tz hral (hrb▸Ty _ 2));have lk:∀ k,r.length<=rb.length+k:=fun k=>Sy l0 (Ty _ k);have hj:r.length<=j12:=LP hrb hral hj12 hrc;refine kk (rd++l3) ⟨rb.length,r.length,rb.length+4,rb.length+2,ra.length+1,rb.length+5,j12⟩ (gk rb.length r.length (ra.length+1)) (ag (ag (ag U 10 (.ref (r.length+19))) 11 (.ref (rb.length+19))) 12 (.ref (j12+19))) ((((aC rfl s7).trans (aC rfl s8)).trans (aC rfl s9)).trans (aC rfl s10)) ?_ (fun i hi=>have hi:=TV hi;(aY hi rfl).trans ((aY hi rfl).trans (aY hi rfl))) rfl rfl rfl ⟨rfl,rfl,rfl,rfl,rfl,rfl,rfl,rfl,rfl⟩
  (be ⟨af (af (gc 0 _ rfl) l2) l3,l0⟩ (be ⟨af (af (af gU _) l2) l3,SE _⟩ (be ⟨af (af (gc 4 _ rfl) l2) l3,lk 4⟩ (be ⟨af (af (gc 2 _ rfl) l2) l3,lk 2⟩ (be ⟨af (af (af gO _) l2) l3,TM (TC hral)⟩ (be ⟨af (af (gc 5 _ rfl) l2) l3,lk 5⟩ nofun)))))) L5 hj (S7 (Tz (Nat.add_lt_add_left (by decide) _) (hrc▸hj12)))
 obtain⟨l,e⟩:=hd;exact⟨l++l3,by rw[e,SR]⟩
theorem hV{ws:List Nd}{lf:Lf}{x:Nat×Nat×List AV}(h:x∈aG ws lf):∃ es,c9 ws lf x.1=some es/\x.2.1=KD es/\x.2.2=bW es:=by
 unfold aG at h;obtain⟨c,_,hc⟩:=List.mem_flatMap.mp h
 cases he:c9 ws lf c with
 | none=>rw[he] at hc;cases hc
 | some es=>
  rw[he] at hc;rw[SO.mp hc];exact⟨es,he,rfl,rfl⟩
theorem Bk{ws:List Nd}{lf:Lf}{c:Nat}{es:List (AV×AV)}(h:c9 ws lf c=some es):cU ws lf c (KD es) (bW es):=by
 exact gB (P:=fun lf es=>cU ws lf c (KD es) (bW es)) h (fun _=>.f1) (fun _ _=>.f2) (fun _ _=>.gxy) fun _=>.gxx
noncomputable def mh(ws:List Nd)(lf:Lf):List (Nat×Nat):=(aG ws lf).map fun x=>(x.1,x.2.1)
theorem tV{ws:List Nd}{lf:Lf}:∀ n d d',(n,d)∈mh ws lf->(n,d')∈mh ws lf->d'=d:=fun n d d' h h'=>by
 obtain⟨x,hx,e⟩:=SY.mp h;obtain⟨y,hy,e'⟩:=SY.mp h';obtain⟨es,a1,a2,_⟩:=hV hx;obtain⟨es',b1,b2,_⟩:=hV hy;simp only[Prod.mk.injEq] at e e';rw[e.1] at a1;rw[e'.1,a1] at b1
 cases b1
 rw[<- e.2,<- e'.2,a2,b2]
theorem vw(ws:List Nd)(lf:Lf):(aG ws lf).length<=ws.length:=by
 unfold aG;exact Sy (qp (fun c=>by cases c9 ws lf c<;>exact SV rfl) _) (SD Uw)
theorem uH{ws:List Nd}{lf:Lf}{all:List (Nat×Nat×List AV)}(h:∀ x∈all,x∈aG ws lf):AV.purs (all.map aq)=true:=by
 have hp:=mi ws lf;unfold AV.purs at hp ⊢;rw[Un] at hp ⊢;intro v hv;obtain⟨x,hx,rfl⟩:=SY.mp hv;exact hp _ (SY.mpr ⟨x,h x hx,rfl⟩)
theorem NI{m:Nat}(hm:29<=m){F:Fx}{r:St}{U:En}{b jl:Nat}{ws:List Nd}{lf:Lf}(D:DP F b)(hb:b<=900)(hsz:ws.length<=7)(h1:U 1=some (.ref 2))(h12:U 12=some (.ref (jl+19)))(hj:r[jl]?=some (AO.list ((aG ws lf).map aq))){G:Prop}
  (kk:∀(a:Int) (l:St) (jl':Nat) (all:List (Nat×Nat×List AV)) (U':En),bm (CC m) (eE.2.drop 11) U (F.st r)=bm (CC m) (eE.2.drop 13) U' ((F.t2 a).st (r++l))->(∀ i,i<=11->U' i=U i)->U' 12=some (.ref (jl'+19))->(r++l)[jl']?=some (AO.list (all.map aq))->(jl'=jl\/r.length<=jl')->(∀ x∈all,x∈aG ws lf)->all.length<=8->G):G:=by
 have hpl:=vw ws lf;have z2:aa 2=.int 2:=rfl;refine cJ (r:=r) D (Sy hb (by decide)) (by decide:0<2) fun v1 a1 hv1 O1 D1=>?_
 have t1:=O1 m (Sy (by decide) hm)
 rw[z2] at t1;have turned:∀(G:Prop),(∀(l1:St) (j1:Nat) (p1:List (Nat×Nat×List AV)),dS (CC m) (S.ite (X.cmp aR.eq (X.call 4 [X.loc 1,X.cst (al.int 2)]) (X.cst (al.int 1))) [S.asg (aw.one 12) (X.slc (X.loc 12) Sl.rev)] []) U (F.st r)=some (none,ag U 12 (.ref (j1+19)),(F.t2 a1).st (r++l1))->(r++l1)[j1]?=some (AO.list (p1.map aq))->(j1=jl\/r.length<=j1)->(∀ x∈p1,x∈aG ws lf)->p1.length<=7->G)->G:=by
  clear kk;intro G kk
  by_cases q:v1=1
  ·subst q;refine kk [.list ((aG ws lf).reverse.map aq)] r.length (aG ws lf).reverse ?_ (bM _ _ _) (.inr (SE _)) (fun x hx=>List.mem_reverse.mp hx) (by rw[List.length_reverse];exact IG hsz hpl)
   clear kk;rw[List.map_reverse];generalize (aG ws lf).map aq=pl at *;exists h1,h12,t1,hj,Pi (a:=1) (b:=1) rfl
  ·refine kk [] jl (aG ws lf) ?_ (by rw[Ti];exact hj) (.inl rfl) (fun x hx=>hx) (IG hsz hpl)
   have hu:ag U 12 (.ref (jl+19))=U:=funext fun i=>if e:i=12 then(SI e).trans (e▸h12.symm) else Sz e
   rw[hu,Ti];exists h1,t1,Nt (b:=1) q
 refine turned _ fun l1 j1 p1 s1 hj1 hjl1 hp1 hl1=>?_;clear turned;have hle1:p1.length+1<=100000:=LO hl1;have hpp:=uH hp1
 cases hp:p1 with
 | nil=>
  subst hp;refine kk a1 (l1++[.list []]) j1 [] (ag U 12 (.ref (j1+19))) ((aC rfl s1).trans (aC rfl ?_)) (fun i hi=>aY (TV hi) rfl) rfl (by rw[<- SR];exact af hj1 _) hjl1 nofun (SZ _)
  ·clear kk;have hj1:(r++l1)[j1]?=some (AO.list []):=hj1;rw[<- SR];generalize r++l1=r1 at *;have e12:ag U 12 (.ref (j1+19)) 12=_:=Df;exists e12,hj1
 | cons x rest=>
  refine cJ (r:=r++l1++[.list []]) D1 (II hb) (by decide:0<2) fun v2 a2 hv2 O2 D2=>?_
  have t2:=O2 m (Sy (by decide) hm)
  rw[z2] at t2;have hne:¬(p1.map aq)=[]:=by rw[hp];simp
  by_cases q:v2=0
  ·subst q;refine kk a2 (l1++[.list [],.list ((p1.map aq).take 1),.list ((p1++p1.take 1).map aq)]) ((r++l1).length+2) (p1++p1.take 1) (ag (ag U 12 (.ref (j1+19))) 12 (.ref ((r++l1).length+2+19))) ((aC rfl s1).trans (aC rfl ?_)) (fun i hi=>(aY (TV hi) rfl).trans (aY (TV hi) rfl)) rfl (by rw[<- SR];exact zd _ _ _ _ _) (.inr (Sy (Fr.grow [] r l1).len (Ty _ 2))) (fun y hy=>?_) ?_
   ·clear kk;rw[<- SR,Ta,List.map_take];have htl:(p1.map aq++(p1.map aq).take 1).length<=ax:=by rw[SP,List.length_take,SU];unfold ax;exact LN hl1
    generalize p1.map aq=pl at *;generalize r++l1=r1 at *;have e1:ag U 12 (.ref (j1+19)) 1=_:=h1;exists e1,hj1,Td hne,je hpp rfl,t2,htl,Pi (a:=0) (b:=0) rfl
   ·rcases S9.mp hy with hy | hy
    ·exact hp1 y hy
    ·exact hp1 y (List.mem_of_mem_take hy)
   ·rw[SP,List.length_take];exact LM hl1
  ·refine kk a2 (l1++[.list []]) j1 p1 (ag U 12 (.ref (j1+19))) ((aC rfl s1).trans (aC rfl ?_)) (fun i hi=>aY (TV hi) rfl) rfl (by rw[<- SR];exact af hj1 _) hjl1 hp1 (Sy hl1 (by decide))
   ·clear kk;rw[<- SR];generalize p1.map aq=pl at *;generalize r++l1=r1 at *;have e1:ag U 12 (.ref (j1+19)) 1=_:=h1;exists e1,hj1,Td hne,je hpp rfl,t2,Nt (b:=0) q
structure LX(F:Fx)(r:St)(h:HS)(w' w:W)(A:Ad)(fs:List (Nat×AV))(lf:Lf)(rt:Rk)(like:Option Bool)(most:Int)(all:List (Nat×Nat×List AV))(pr:Nat)(P:List (Nat×Nat)):Prop where
 H:HI F r h
 S:cq like rt P w' h
 Wi:WI F r (pr+1) pr w
 K:KP r h.D ((A.hs,.list [])::objs A fs lf rt like most all)
 nd:w.1.Nodup
 prD:pr∉h.D
 wdD:pr+1∉h.D
 sep:∀ x∈(A.hs,AO.list [])::objs A fs lf rt like most all,x.1≠pr/\x.1≠pr+1
theorem WI.heap{F F':Fx}{r r':St}{pr:Nat}{w:W}{D D':List Nat}(Wi:WI F r (pr+1) pr w)(fr:Fr D D' r r')(lw:eU F F')(h1:pr∉D)(h2:pr+1∉D):WI F' r' (pr+1) pr w:=
 {Wi with world:=lw.2.2.2.trans Wi.world,wd:=fr.at Wi.wd h2,pr:=fr.at Wi.pr h1 }
theorem Fr.notin{D D':List Nat}{r r':St}(f:Fr D D' r r'){j:Nat}(h:j∉D)(hl:j<r.length):j∉D':=fun q=>by
 rcases f.new j q with q | q
 ·exact h q
 ·exact Uo q hl
section
variable{F:Fx}{r:St}{h:HS}{w' w:W}{A:Ad}{fs:List (Nat×AV)}{lf:Lf}{rt:Rk}{like:Option Bool}{most:Int}{all:List (Nat×Nat×List AV)}{pr:Nat}{P:List (Nat×Nat)}
theorem LX.grow(L:LX F r h w' w A fs lf rt like most all pr P)(l:St):LX F (r++l) h w' w A fs lf rt like most all pr P:=
 {L with H:=L.H.grow l,Wi:=L.Wi.fr (Fr.grow _ _ _),K:=L.K.grow l }
theorem LX.heap(L:LX F r h w' w A fs lf rt like most all pr P){F':Fx}{r':St}{h':HS}{w2:W}(H:HI F' r' h')(fr:Fr h.D h'.D r r')(lw:eU F F')(S:cq like rt P w2 h'):LX F' r' h' w2 w A fs lf rt like most all pr P:=
 {L with H:=H,S:=S,Wi:=L.Wi.heap fr lw L.prD L.wdD,K:=L.K.fr fr,prD:=fr.notin L.prD (SJ.mp L.Wi.pr).1,wdD:=fr.notin L.wdD (SJ.mp L.Wi.wd).1 }
theorem LX.law(L:LX F r h w' w A fs lf rt like most all pr P){F':Fx}{r':St}{w2:W}(hF:∃ a u,F'=((F.t2 a).t18 u))(Wi:WI F' r' (pr+1) pr w2)(nd:w2.1.Nodup)(hj:∀ j,j<r.length->j≠pr->r'[j]?=r[j]?):LX F' r' h w' w2 A fs lf rt like most all pr P:=
 {L with
  H:=(L.H.law hF).frame fun j hjD=>hj j (L.H.inr hjD) fun e=>L.prD (e▸hjD)
  Wi:=Wi
  nd:=nd
  K:=fun x hx=>by
   obtain⟨a,b⟩:=L.K x hx;exact⟨by rw[hj _ (SJ.mp a).1 (L.sep x hx).1];exact a,b⟩ }
theorem LX.obj(L:LX F r h w' w A fs lf rt like most all pr P){j:Nat}{o:AO}(hx:(j,o)∈(A.hs,AO.list [])::objs A fs lf rt like most all):r[j]?=some o:=(L.K _ hx).1
theorem NH{m:Nat}(hm:29<=m)(L:LX F r h w w A fs lf rt like most all pr P)(R:RF A fs){ws:List Nd}(hw:w=(ws,[]))(hsz:ws.length<=7)(hbud:h.bud=0)(hp:∀ x∈all,cU ws lf x.1 x.2.1 x.2.2/\(x.1,x.2.1)∈P)(hfun:∀ n d d',(n,d)∈P->(n,d')∈P->d'=d)(hpur:AV.purs (all.map aq)=true)
  {U:En} (h3:U 3=some (.ref (pr+1+19))) (h10:U 10=some (.ref (A.ru+19))) (h11:U 11=some (.ref (A.rn+19))) (h12:U 12=some (.ref (A.jl+19))) {G:Prop}
  (kk:∀(F':Fx) (r':St) (h':HS) (w2:W),dS (CC m) (S.ite (X.and (X.cmp aR.ne (X.loc 12) (X.lst [])) (X.cmp aR.ne (X.meth (X.loc 11) 60 [X.loc 10,X.sub (X.sub (X.loc 12) (X.cst (al.int 0))) (X.cst (al.int 1))]) (X.call 9 [X.loc 3,X.loc 10,X.sub (X.loc 12) (X.cst (al.int 0))]))) [S.ret (X.cst (al.bool false))] []) U (F.st r)=some (none,U,F'.st r')->LX F' r' h' w2 w2 A fs lf rt like most all pr P->(∃ l,w2.1=ws++l/\l.length<=1)->w2.2.length<=1->h'.bud<=1->G):G:=by
 have hns:h.ns=ws:=by rw[L.S.ns,hw]
 have hjl:=L.obj (j:=A.jl) (o:=.list (all.map aq)) m6;have hjl2:=af hjl [AO.list []]
 cases ha:all with
 | nil=>
  subst ha;subst hw;refine kk F (r++[AO.list []]) h (ws,[]) ?_ (L.grow _) ⟨[],(Ti _).symm,SZ _⟩ (SZ _) (LL hbud);clear kk;have hjl:r[A.jl]?=some (AO.list []):=hjl;have hjl2:(r++[AO.list []])[A.jl]?=some (AO.list []):=hjl2;exists h12,hjl,hjl2
 | cons x rest=>
  obtain⟨p1,p2⟩:=hp x (by rw[ha];exact .head _)
  have L1:=L.grow [AO.list []];have pw:cU w.1 lf x.1 x.2.1 x.2.2:=by rw[hw];exact p1
  refine pT (rn:=A.rn) (ru:=A.ru) (pl:=A.pl) (lf:=lf) L1.S L1.H R.f14 R.f22 (be (L1.K _ m1) (be (L1.K _ m2) (be (L1.K _ m3) nofun))) pw p2 (fun d' hd'=>hfun _ _ _ p2 hd') (by rw[hns];exact IF hsz) (LK hbud) fun F2 r2 h2 O2 H2 fr2 lw2 S2 b2 z6_=>?_
  obtain⟨l2,l21,l22⟩:=z6_;have L2:=L1.heap H2 fr2 lw2 S2;refine ub (like:=like) (rt:=rt) (lf:=lf) (ru:=A.ru) L2.Wi L2.nd (L2.obj m2) pw (by rw[hw];exact IF hsz) (by rw[hw];exact SV rfl) fun r3 O3 W3 nd3 len3 same3 _ plen3=>?_
  have L3:=L2.law ⟨F2.ato,_,rfl⟩ W3 nd3 same3;refine kk _ r3 h2 _ ?_ L3 ⟨l2,by rw[l21,hw],l22⟩ (Sy plen3 (by rw[hw];exact SE _)) (Sy b2 (by rw[hbud];exact SE _))
  clear kk;have t2:=O2 m (Sy (by decide) hm)
  have t3:=O3 m (Sy (by decide) hm)
  have hR:=af (L.obj (j:=A.rn) (o:=.inst 6 fs) m1) [AO.list []];have hjl4:r2[A.jl]?=some (AO.list (all.map aq)):=L2.obj m6;have hx0:Bv (all.map aq) 0=some (.tup [aa x.1,.tup x.2.2]):=d7 (j:=0) (by rw[ha];rfl)
  have hne:¬(all.map aq)=[]:=by rw[ha];exact nofun
  generalize hpl:all.map aq=pl at *
  cases hb:(bj like rt w x.1 x.2.1).1 with
  | true=>rw[hb] at t2 t3;exists h3,h10,h11,h12,hjl,hjl2,je hpur rfl,Td hne,hR,R.m60,hx0,t2,t3,hjl4
  | false=>rw[hb] at t2 t3;exists h3,h10,h11,h12,hjl,hjl2,je hpur rfl,Td hne,hR,R.m60,hx0,t2,t3,hjl4
end
noncomputable abbrev Cu:List S:=[S.ite (X.cmp aR.le (X.blt aN.len [X.sub (X.loc 3) (X.cst (al.sym 20))]) (X.loc 9)) [S.asg (aw.one 13) (X.bin cP.add (X.loc 13) (X.blt aN.int [X.call 9 [X.loc 3,X.loc 10,X.loc 14]]))] []]
section
variable{h:HS}{w':W}{A:Ad}{fs:List (Nat×AV)}{lf:Lf}{rt:Rk}{like:Option Bool}{most:Int}{all:List (Nat×Nat×List AV)}{pr:Nat}{P:List (Nat×Nat)}
theorem sV{m:Nat}(hm:29<=m):∀(ps:List (Nat×Nat×List AV)) {F:Fx} {r:St} {w:W} (c:Nat) (U:En),LX F r h w' w A fs lf rt like most all pr P->(∀ x∈ps,cU w.1 lf x.1 x.2.1 x.2.2)->w.1.length+ps.length<=20->w.2.length+ps.length<=30->
  U 3=some (.ref (pr+1+19))->U 9=some (.int most)->U 10=some (.ref (A.ru+19))->U 13=some (aa c)->
  ∀(G:Prop),(∀(F':Fx) (r':St) (U':En),dQ [(A.jl+19,some (all.map aq))] (.one 14) (bm (CC m) Cu) (ps.map aq) U (F.st r)=some (none,U',F'.st r')->(∀ i,i<=12->U' i=U i)->U' 13=some (aa (fu like rt most ps w c).2)->LX F' r' h w' (fu like rt most ps w c).1 A fs lf rt like most all pr P->G)->G:=by
 intro ps;induction ps with
 | nil=>exact fun{F r w} c U L hp h1 h2 r3 r9 r10 r13 _ kk=>kk F r U (bT (bu (L.obj m6))) (fun _ _=>rfl) r13 L
 | cons x ps ih=>
  intro F r w c U L hp h1 h2 r3 r9 r10 r13 G kk;have hj:=L.obj (j:=A.jl) (o:=.list (all.map aq)) m6;have p1:=hp x (.head _);have hw:=L.Wi.wd;have hdg:az [(AV.sym 20,AV.ref 18),(AV.sym 22,AV.ref (pr+19))] (.sym 20)=some (.ref 18):=rfl;have hl':F.world.length=w.1.length:=by rw[L.Wi.world,SU]
  have hpv:aq x=.tup [aa x.1,.tup x.2.2]:=rfl;have hpi:(aq x).isIt=false:=rfl;have e3:ag U 14 (aq x) 3=_:=r3;have e9:ag U 14 (aq x) 9=_:=r9;have e10:ag U 14 (aq x) 10=_:=r10;have e13:ag U 14 (aq x) 13=_:=r13
  by_cases q:(w.1.length:Int)<=most
  ·refine ub (like:=like) (rt:=rt) (lf:=lf) (ru:=A.ru) L.Wi L.nd (L.obj m2) p1 (IU h1) (LJ h2) fun r3' O3 W3 nd3 len3 same3 z6_ plen3=>?_;obtain⟨l,l1,l2⟩:=z6_;have L3:=L.law ⟨F.ato,_,rfl⟩ W3 nd3 same3;have t:=O3 m (Sy (by decide) hm)
   have hb:bm (CC m) Cu (ag U 14 (aq x)) (F.st r)=some (none,ag (ag U 14 (aq x)) 13 (aa (c+if(bj like rt w x.1 x.2.1).1 then 1 else 0)),((F.t18 ((bj like rt w x.1 x.2.1).2.1.map aI)).st r3')):=by
    rw[<- hpv] at t;have q':∀{Y},bh .le Y (.int (w.1.length:Nat)) (.int most)=some true:=Sx some (SM q)
    cases hs:(bj like rt w x.1 x.2.1).1 with
    | true=>rw[hs] at t;exists e3,e9,e10,e13,hw,hdg,hl',q',t,hpi
    | false=>rw[hs] at t;exists e3,e9,e10,e13,hw,hdg,hl',q',t,hpi
   refine ih (c+if(bj like rt w x.1 x.2.1).1 then 1 else 0) (ag (ag U 14 (aq x)) 13 (aa (c+if(bj like rt w x.1 x.2.1).1 then 1 else 0))) L3 (fun y hy=>by rw[l1];exact(hp y (.tail _ hy)).app) (by rw[l1,SP];exact LI h1 l2) (LH h2 plen3) r3 r9 r10 rfl _ fun F' r' U' e k1 k2 k3=>?_
   rw[fu,SI q] at kk;exact kk F' r' U' (ck (bu hj) rfl hb e) (fun i hi=>(k1 i hi).trans ((aY (TV hi) rfl).trans (aY (TV hi) rfl))) k2 k3
  ·have hb:bm (CC m) Cu (ag U 14 (aq x)) (F.st r)=some (none,ag U 14 (aq x),F.st r):=by
    have q':∀{Y},bh .le Y (.int (w.1.length:Nat)) (.int most)=some false:=Sx some (Td q);exists e3,e9,hw,hdg,hl',q'
   refine ih c (ag U 14 (aq x)) L (fun y hy=>hp y (.tail _ hy)) (IS h1) (LG h2) r3 r9 r10 r13 _ fun F' r' U' e k1 k2 k3=>?_;rw[fu,Sz q] at kk;exact kk F' r' U' (ck (bu hj) rfl hb e) (fun i hi=>(k1 i hi).trans (aY (TV hi) rfl)) k2 k3
end
theorem y6{F:Fx}{r:St}{h:HS}{ws:List Nd}{ps:List Pr}{hm:Nat->Nat}(H:HI F r h)(hns:h.ns=ws)(M:Mn ws.length hm)(hk:∀ x y,hm x=hm y↔Cg ws ps x y)(hex:h.ex=[])(hwt:h.wt=[])(hp:∀ x y,(x,y)∈ps->h.cl x=h.cl y)(hs:wH h (Cg ws ps))(x:Nat):h.cl x=hm x:=by
 have C:=gI H hex hwt;rw[hns] at C;exact EV H.uf.le H.uf.idem M.le M.idem (fun x y=>⟨fun e=>(hk x y).mpr (hs x y e),fun e=>((hk x y).mp e).least C hp⟩) x
theorem Il{C:Calls}{U:En}{Y Y1:St}{e:X}{v:AV}(h:ar C e U Y=some (v,Y1))(hi:v.isIt=false):dS C (.ret e) U Y=some (some v,U,Y1):=am (jo hi h)
theorem FB(N:Nat)(hm:Nat->Nat):AV.purs (hl N hm)=true:=by
 unfold AV.purs hl;rw[List.all_map,Un];exact fun x _=>rfl
section
variable{F:Fx}{r:St}{h:HS}{w w2:W}{A:Ad}{fs:List (Nat×AV)}{lf:Lf}{rt:Rk}{like:Option Bool}{most:Int}{all:List (Nat×Nat×List AV)}{pr:Nat}{P:List (Nat×Nat)}
theorem NF{m:Nat}(hm:29<=m)(L:LX F r h w w2 A fs lf rt like most all pr P)(R:RF A fs)(hw2:w2=(fu like rt most all w 0).1)(hp:∀ x∈all,cU w.1 lf x.1 x.2.1 x.2.2/\(x.1,x.2.1)∈P)(hfun:∀ n d d',(n,d)∈P->(n,d')∈P->d'=d)(hsz:w.1.length+all.length<=20)(hb:h.bud+all.length<=199)(hne:A.hs≠A.jl){U:En}
  (h2:U 2=some (.ref 3)) (h3:U 3=some (.ref (pr+1+19))) (h11:U 11=some (.ref (A.rn+19))) (h12:U 12=some (.ref (A.jl+19))) (h13:U 13=some (aa (fu like rt most all w 0).2)) {G:Prop}
  (kk:∀(Y':St) (U':En),bm (CC m) (eE.2.drop 16) U (F.st r)=some (some (.bool true),U',Y')->G):G:=by
 refine nJ R hfun L.S L.H L.K hp (by rw[L.S.ns];exact hsz) (LF hb) fun F1 r1 h1 O1 H1 fr1 lw1 S1 b1=>?_
 have L1:=L.heap H1 fr1 lw1 S1;rw[<- hw2] at L1;generalize hc:(fu like rt most all w 0).2=c at *;have hhs:r1[A.hs]?=some (AO.list []):=L1.obj (.head _);have hlt:=(SJ.mp hhs).1
 let r2:St:=r1.set A.hs (.list [.tup [.int 0,.sym 15,aa all.length,aa c]])
 have hR1:r1[A.rn]?=some (AO.inst 6 fs):=L1.obj m1;have hrh:A.hs≠A.rn:=fun e=>by rw[e,hR1] at hhs;cases hhs
 have hR2:r2[A.rn]?=some (AO.inst 6 fs):=by
  show(r1.set _ _)[_]?=_;rw[Tk hrh];exact hR1
 have hj2:r2[A.jl]?=some (AO.list (all.map aq)):=by
  show(r1.set _ _)[_]?=_;rw[Tk hne];exact L1.obj m6
 have hh2:r2[A.hs]?=some (AO.list [.tup [.int 0,.sym 15,aa all.length,aa c]]):=TQ hlt;have hnD:A.hs∉h1.D:=(L1.K (A.hs,AO.list []) (.head _)).2;have H2:HI F1 r2 h1:=H1.frame fun j hj=>Tk fun(e:A.hs=j)=>hnD (by rw[e];exact hj)
 have Wi2:WI F1 r2 (pr+1) pr w2:={ L1.Wi with
  wd:=by show(r1.set _ _)[_]?=_;rw[Tk (L1.sep _ (.head _)).2];exact L1.Wi.wd
  pr:=by show(r1.set _ _)[_]?=_;rw[Tk (L1.sep _ (.head _)).1];exact L1.Wi.pr }
 let r3:St:=r2++[.list [.tup [.int 0,.sym 15,aa all.length,aa c]]]
 have s16:dS (CC m) (S.ite (X.or (X.cmp aR.ne (X.meth (X.loc 11) 61 [X.cst (al.int 0),X.loc 12]) (X.loc 13)) (X.cmp aR.ne (X.attr (X.loc 11) 23) (X.lst [X.tup [X.cst (al.int 0),X.cst (al.sym 15),X.blt aN.len [X.loc 12],X.loc 13]]))) [S.ret (X.cst (al.bool false))] []) U (F.st r)=some (none,U,F1.st r3):=by
  have t:=O1 m (Sy (by decide) hm)
  have hR:=L.obj (j:=A.rn) (o:=.inst 6 fs) m1;have t':ay aj m 51 [.ref (A.rn+19),.int 0,.ref (A.jl+19)] (F.st r)=some (aa c,F1.st r2):=t;have hz:(List.map aq all).length=all.length:=SU _;show dS _ _ _ _=some (none,U,F1.st (r2++[.list [.tup [.int 0,.sym 15,aa all.length,aa c]]]));generalize r2=r2' at *;generalize hpl:all.map aq=pl at *;have hd:decide ([AV.tup [.int 0,.sym 15,aa all.length,aa c]]=[AV.tup [.int 0,.sym 15,aa all.length,aa c]])=true:=SM rfl;exists h11,h12,h13,hR,R.f23,R.m61,t',hR2,hj2,hh2,hz,ug (rfl:c=c),hd
 have hns1:h1.ns=w2.1:=L1.S.ns;refine mo (H2.grow [.list [.tup [.int 0,.sym 15,aa all.length,aa c]]]) L1.S.ex (LE hb b1) fun F4 r4 h4 O4 H4 fr4 lw4 st=>?_;have s17:dS (CC m) (S.expr (X.meth (X.loc 2) 49 [])) U (F1.st r3)=some (none,U,F4.st r4):=by
  have t:ay aj m 33 [.ref 3] (F1.st r3)=some (.none,F4.st r4):=O4 m (Sy (by decide) hm)
  exists h2,t
 have Wi4:WI F4 r4 (pr+1) pr w2:=(Wi2.fr (Fr.grow [] r2 [.list [.tup [.int 0,.sym 15,aa all.length,aa c]]])).heap fr4 lw4 L1.prD L1.wdD;have hns4:h4.ns=w2.1:=st.ns.trans hns1;have hN:F4.nodes.length=w2.1.length:=by rw[H4.nodes,SU,hns4]
 have hWl:F4.world.length=w2.1.length:=by rw[Wi4.world,SU]
 have hszN:w2.1.length<=20:=Wi4.size;refine pP (Wi4.fr (Fr.grow [] r4 [.list (hl w2.1.length h4.cl)])) fun r6 jh hmm O6 g6 f6 M6 k6=>?_;have heq:hl w2.1.length h4.cl=hl w2.1.length hmm:=by
  unfold hl;apply TF;intro x _;exact Sx aa (y6 H4 hns4 M6 k6 st.ex st.wt (fun x y q=>st.mono x y (L1.S.pairs x y q)) (st.snd _ (by rw[hns1];exact Cg.congR _ _) L1.S.snd) x)
 refine kk (F4.st r6) U ((aC rfl s16).trans ((aC rfl s17).trans (yN rfl ?_)));clear kk;have hsize:=ek (F:=F4) (rest:=r4) m (Sy (by decide) hm)
 rw[hN] at hsize;have hw4:=Wi4.wd;have hdg:az [(AV.sym 20,AV.ref 18),(AV.sym 22,AV.ref (pr+19))] (.sym 20)=some (.ref 18):=rfl;have hle:w2.1.length<=50000:=Sy hszN (by decide)
 have hcomp:ar (CC m) (X.comp (X.meth (X.loc 2) 41 [X.loc 16]) (aw.one 16) (X.blt aN.range [X.meth (X.loc 2) 35 []]) []) U (F4.st r4)=some (.ref (r4.length+19),F4.st (r4++[.list (hl w2.1.length h4.cl)])):=by
  refine bl (v:=.rng w2.1.length) (s:=⟨(List.range w2.1.length).map fun(i:Nat)=>.int i,[]⟩) (Y1:=F4.st r4) (Y2:=F4.st r4) (vs:=hl w2.1.length h4.cl) (by exists h2,hsize,hle) rfl rfl ?_ (by simp[hl,ax];exact Sy hszN (by decide)) rfl rfl
  refine cD rfl fun x hx=>⟨_,rfl,rfl,?_⟩;have hxl:=List.mem_range.mp hx;have t:=H4.hfind (a:=x) (by rw[hns4];exact hxl) m (Sy (by decide) hm)
  exists(show ag U 16 (aa x) 2=_ from h2),t
 have t6:=O6 m (Sy (by decide) hm)
 have ga:r6[r4.length]?=some (AO.list (hl w2.1.length h4.cl)):=f6.get (bM _ _ _);rw[heq] at ga hcomp t6;have hp6:=FB w2.1.length hmm;generalize hl w2.1.length hmm=ll at *;refine Il (v:=.bool true) ?_ rfl;exists h2,h3,hsize,hw4,hdg,hWl,hcomp,t6,ga,g6,je hp6 hp6,fB (rfl:w2.1.length=w2.1.length),SM (rfl:ll=ll)
end
theorem Bb{P:Ou}{n f k:Nat}{b:List S}{vs:List AV}{Y:St}(hp:P[f]?=some (k,b))(hk:vs.length=k):ay P (n+1) f vs Y=ea (bm ⟨ay P n⟩ (b.drop 0) (fun i=>vs[i]?) Y):=by
 rw[ay,hp];exact dI (SM hk)
theorem rN{m:Nat}(hm:29<=m)(is:List Int):∃ Y',ay aj (m+1) 11 [.frz (is.map .int)] []=some (.bool true,Y'):=by
 let U0:En:=fun i=>[AV.frz (is.map .int)][i]?
 have hrun:ay aj (m+1) 11 [.frz (is.map .int)] []=ea (bm (CC m) (eE.2.drop 0) U0 []):=Bb (P:=aj) (n:=m) (k:=1) (b:=eE.2) rfl rfl;refine NL hm is U0 rfl fun F1 r1 ws pr h U1 e1 a1 a2 a3 H1 Z hns N hsz W1 D1 n1 n2=>?_;refine NK hm (r:=r1) D1 (by decide) a1 a2 fun a lf rt like most U2 e2 b0 b5 b6 b8 b9 D2=>?_
 have H2:HI (F1.t2 a) r1 h:=H1.law ⟨a,F1.world,rfl⟩;have W2:WI (F1.t2 a) r1 (pr+1) pr (ws,[]):={ W1 with world:=W1.world };refine NJ hm (lf:=lf) (rt:=rt) (like:=like) (most:=most) H2 Z hns N hsz W2 ((b0 2 (by decide)).trans a2) ((b0 3 (by decide)).trans a3) b5 b6 b8 b9 fun r3 A fs U3 e3 z5_ c0 c10 c11 c12 R K3 J3 g3 hne=>?_
 obtain⟨l3,hl3⟩:=z5_;refine NI hm (F:=(F1.t2 a)) (r:=r3) D2 (by decide) hsz ((c0 1 (by decide)).trans ((b0 1 (by decide)).trans a1)) c12 J3 fun a' l4 jl all U4 e4 d0 d12 J4 hjl hall hal=>?_
 have W4:WI (F1.t2 a') (r3++l4) (pr+1) pr (ws,[]):=by
  rw[hl3,SR];exact{ W1 with world:=W1.world,wd:=af W1.wd _,pr:=af W1.pr _ }
 have H4:HI (F1.t2 a') (r3++l4) h:=by
  rw[hl3,SR];exact(H1.law ⟨a',F1.world,rfl⟩).grow _
 have hprl:=(SJ.mp W1.pr).1;have hwdl:=(SJ.mp W1.wd).1;have hr3:r1.length<=r3.length:=by rw[hl3];exact(Fr.grow [] r1 l3).len
 let A':Ad:={ A with jl:=jl }
 have R':RF A' fs:=⟨R.f14,R.f19,R.f20,R.f22,R.f23,R.f24,R.m58,R.m60,R.m61⟩;have up:∀{x:Nat×AO},r3[x.1]?=some x.2/\r1.length<=x.1->(r3++l4)[x.1]?=some x.2/\r1.length<=x.1:=fun h=>⟨af h.1 _,h.2⟩;have hlow:∀ x∈(A'.hs,AO.list [])::objs A' fs lf rt like most all,(r3++l4)[x.1]?=some x.2/\r1.length<=x.1:=
  be (up (K3 _ m5)) (be (up (K3 _ (.head _))) (be (up (K3 _ m1)) (be (up (K3 _ m2)) (be (up (K3 _ m3)) (be (up (K3 _ m4)) (be ⟨J4,hjl.elim (fun e=>Sy g3 (SD e.symm)) fun e=>Sy hr3 e⟩ nofun))))))
 have hhs:=(K3 (A.hs,AO.list []) m5).1;have hhsl:=(SJ.mp hhs).1;have hne':A'.hs≠A'.jl:=by
  show A.hs≠jl
  rcases hjl with e | e
  ·rw[e];exact hne
  ·dsimp only at hhsl;exact LD hhsl e
 have S4:cq like rt (mh ws lf) (ws,[]) h:=by
  have:=Z.sync H4 (like:=like) (rt:=rt) (P:=mh ws lf) (by rw[hns];exact N)
  rw[hns] at this;exact this
 have L4:LX (F1.t2 a') (r3++l4) h (ws,[]) (ws,[]) A' fs lf rt like most all pr (mh ws lf):=
  ⟨H4,S4,W4,fun x hx=>⟨(hlow x hx).1,fun q=>Uo (hlow x hx).2 (H1.inr q)⟩,N.nd,n1,n2,fun x hx=>LC hwdl (hlow x hx).2⟩
 have hp:∀ x∈all,cU ws lf x.1 x.2.1 x.2.2/\(x.1,x.2.1)∈mh ws lf:=fun x hx=>by
  obtain⟨es,p1,p2,p3⟩:=hV (hall x hx);refine⟨by rw[p2,p3];exact Bk p1,SY.mpr ⟨x,hall x hx,rfl⟩⟩
 have q3:U4 3=some (.ref (pr+1+19)):=(d0 3 (by decide)).trans ((c0 3 (by decide)).trans ((b0 3 (by decide)).trans a3))
 have q2:U4 2=some (.ref 3):=(d0 2 (by decide)).trans ((c0 2 (by decide)).trans ((b0 2 (by decide)).trans a2))
 have q9:U4 9=some (.int most):=(d0 9 (by decide)).trans ((c0 9 (by decide)).trans b9)
 have q10:U4 10=some (.ref (A'.ru+19)):=(d0 10 (by decide)).trans c10
 have q11:U4 11=some (.ref (A'.rn+19)):=(d0 11 (by decide)).trans c11
 have q12:U4 12=some (.ref (A'.jl+19)):=d12;refine NH hm L4 R' rfl hsz Z.bud hp tV (uH hall) q3 q10 q11 q12 fun F5 r5 h5 w2 s13 L5 z6_ hp5 hb5=>?_;obtain⟨l5,hw5,hl5⟩:=z6_;have hw5l:w2.1.length<=8:=by rw[hw5,SP];exact LB hsz hl5
 have hp2:∀ x∈all,cU w2.1 lf x.1 x.2.1 x.2.2:=fun x hx=>by rw[hw5];exact(hp x hx).1.app
 have s14:dS (CC m) (S.asg (aw.one 13) (X.cst (al.int 0))) U4 (F5.st r5)=some (none,ag U4 13 (aa 0),F5.st r5):=hJ AA rfl;refine sV hm all 0 (ag U4 13 (aa 0)) L5 hp2 (IE hal hw5l) (Lz hal hp5) q3 q9 q10 rfl _ fun F6 r6 U6 f1 f2 f3 L6=>?_;have s15:dS (CC m) (.for_ (.one 14) (.loc 12) Cu) (ag U4 13 (aa 0)) (F5.st r5)=some (none,U6,F6.st r6):=by
  have hj:=L5.obj (j:=A'.jl) (o:=.list (all.map aq)) m6;exact(cX (v:=.ref (A'.jl+19)) (s:=⟨all.map aq,[(A'.jl+19,some (all.map aq))]⟩) (Y1:=F5.st r5) (aF (show ag U4 13 (aa 0) 12=_ from q12)) rfl (aU (aJ (cF hj)))).trans f1
 refine NF hm L6 R' rfl (fun x hx=>⟨hp2 x hx,(hp x hx).2⟩) tV (IE hal hw5l) (Ly hal hb5) hne' ((f2 2 (by decide)).trans q2) ((f2 3 (by decide)).trans q3) ((f2 11 (by decide)).trans q11) ((f2 12 (by decide)).trans q12) f3 fun Y' U' fin7=>?_
 refine⟨Y',?_⟩;exact hrun.trans (Sx ea (e1.trans (e2.trans (e3.trans (e4.trans ((aC rfl s13).trans ((aC rfl s14).trans ((aC rfl s15).trans fin7))))))))
theorem premise(is:List Int):∃ Y',ay aj 30 11 [.frz (is.map .int)] []=some (.bool true,Y'):=rN (SE 29) is
end
end Mine.Internal
set_option maxRecDepth 100000 in
theorem PySem.Challenge.cw_rh0018_01_holds : PySem.Challenge.rw_rh0018_01.Holds :=
  Mine.Internal.top Mine.Internal.premise
