import PyProof.Rows.All
import Wide.All
import OpenK.AllK
import Wide.FinOn
import Lean
import PySem.Challenge.RW_rh0018_01
set_option Elab.async false
set_option linter.all false
set_option maxRecDepth 100000
set_option maxHeartbeats 0
set_option bootstrap.genMatcherCode false
set_option genSizeOf false
set_option genInjectivity false
namespace Mine.Internal
abbrev SF:=@PySem.wpAny_bind
abbrev SH:=@PySem.wpAny_pure
abbrev SI:=@congrArg
abbrev SJ:=@Nat.le_trans
abbrev SL:=@if_neg
abbrev SM:=@Nat.le_of_eq
abbrev SN:=@Nat.le_refl
abbrev SO:=@of_decide_eq_true
abbrev SP:=@absurd
abbrev SQ:=@if_pos
abbrev SR:=@List.getElem?_eq_some_iff
abbrev SU:=@Bool.and_eq_true_iff
abbrev SV:=@decide_eq_true
abbrev SW:=@List.mem_cons
abbrev SY:=@List.mem_singleton
abbrev SZ:=@List.length_append
abbrev S0:=@Option.some.inj
abbrev S6:=@List.append_assoc
abbrev S7:=@List.length_map
abbrev S8:=@Nat.le_of_ble_eq_true
abbrev S9:=@PySem.Heap.get?_push_of_some
abbrev Ta:=@List.mem_map
abbrev Tb:=@Nat.zero_le
abbrev Tc:=@Nat.not_succ_le_zero
abbrev Td:=@PySem.wpAny_holding
abbrev Te:=@Nat.ne_of_lt
abbrev Tf:=@List.getElem?_append_left
abbrev Tg:=@List.mem_append
abbrev Th:=@List.map_append
abbrev Ti:=@PySem.Heap.get?_push_size
abbrev Tj:=@Nat.lt_of_le_of_lt
abbrev Tk:=@decide_eq_false
abbrev Tl:=@List.mem_append_left
abbrev Tm:=@List.mem_of_getElem?
abbrev Tp:=@Bool.false_ne_true
abbrev Tq:=@List.nodup_cons
abbrev Tr:=@List.append_nil
abbrev Ts:=@List.nodup_append
abbrev Tt:=@List.getElem?_set_ne
abbrev Tu:=@Classical.em
abbrev Tv:=@PySem.Heap.SameBut.update
abbrev Tw:=@Nat.add_le_add_left
abbrev Tx:=@List.mem_append_right
abbrev Ty:=@PySem.wpAny_ite_split
abbrev Tz:=@Array.getElem?_toList
abbrev TA:=@PySem.Heap.lt_size
abbrev TC:=@List.getElem?_eq_getElem
abbrev TD:=@List.getElem?_map
abbrev TF:=@PySem.Heap.get?_update_self
abbrev TG:=@PySem.wpAny_mono
abbrev TH:=@Nat.le_add_right
abbrev TJ:=@Nat.lt_of_lt_of_le
abbrev TK:=@PySem.wpAny_call_entry
abbrev TL:=@Nat.lt_succ_of_lt
abbrev TM:=@PySem.wpAny_rule
abbrev TN:=@List.map_congr_left
abbrev TP:=@List.map_map
abbrev TQ:=@Nat.le_antisymm
abbrev TR:=@List.getElem?_append_right
abbrev TS:=@List.mem_filter
abbrev TT:=@Array.getElem?_eq_getElem
abbrev TU:=@Nat.le_of_lt
abbrev TV:=@PySem.Heap.get?_none_of_le
abbrev TX:=@Int.ofNat_le
abbrev TY:=@List.getElem?_set_self
abbrev TZ:=@PySem.wpAny_newObj_type
abbrev T0:=@Nat.le_succ
abbrev T1:=@PySem.wpAny_setField
abbrev T3:=@Nat.lt_trans
abbrev T4:=@Nat.lt_succ_of_le
abbrev T5:=@Bool.or_eq_true_iff
abbrev T6:=@PySem.wpAny_setState_of
abbrev T7:=@Nat.zero_add
abbrev T8:=@Nat.ne_of_gt
abbrev T9:=@Nat.succ_le_succ
abbrev Ua:=@PySem.wpAny_dictEpoch
abbrev Ub:=@PySem.wpAny_dictEntries
abbrev Uc:=@List.mem_iff_getElem?
abbrev Ud:=@List.not_mem_nil
abbrev Ue:=@List.nodup_nil
abbrev Uf:=@Nat.lt_succ_self
abbrev Ug:=@Nat.add_le_add
abbrev Uh:=@Nat.lt_or_gt_of_ne
abbrev Ui:=@Nat.eq_of_beq_eq_true
abbrev Uj:=@List.forIn_cons
abbrev Uk:=@PySem.wpAny_seqItems
abbrev Ul:=@PySem.Heap.size_push
abbrev Um:=@Array.length_toList
abbrev Un:=@Nat.lt_add_right
abbrev Uo:=@Nat.min_le_left
abbrev Uq:=@Nat.lt_irrefl
abbrev Ur:=@Option.map_eq_some_iff
abbrev Ut:=@List.mem_map_of_mem
abbrev Uu:=@List.length_set
abbrev Uv:=@Array.toList_push
abbrev Uw:=@List.all_eq_true
abbrev Ux:=@Nat.not_lt_of_le
abbrev Uy:=@Int.natCast_nonneg
abbrev Uz:=@Nat.sub_add_cancel
abbrev UA:=@List.filter_sublist
abbrev UB:=@PySem.wpAny_notOrdered_dict
abbrev UC:=@Array.getElem?_eq_none
abbrev UD:=@List.length_range
abbrev UE:=@Nat.add_sub_cancel_left
abbrev UG:=@Array.getElem?_eq_some_iff
abbrev UH:=@PySem.Heap.get?_update_other
abbrev UI:=@List.getElem?_concat_length
abbrev UJ:=@List.getD_eq_getElem?_getD
abbrev UK:=@List.eq_nil_of_length_eq_zero
abbrev UL:=@List.drop_eq_getElem_cons
section
set_option genCtorIdx false in
inductive oI | k (n:Nat) | v (i:Nat) | s (x y:oI) | m (n:Nat) (x:oI)
namespace Li
open oI
noncomputable def tA:List Nat->Nat->Nat
 | [],_=>0
 | x::_,0=>x
 | _::r,i+1=>tA r i
noncomputable def d(c:List Nat):oI->Nat
 | k n=>n
 | v i=>tA c i
 | s x y=>d c x+d c y
 | m n x=>n*d c x
noncomputable def pl:List Nat->List Nat->List Nat
 | [],l=>l
 | l,[]=>l
 | x::r,y::t=>(x+y)::pl r t
noncomputable def un:Nat->List Nat
 | 0=>[1]
 | i+1=>0::un i
noncomputable def p:oI->Nat×List Nat
 | k n=>(n,[])
 | v i=>(0,un i)
 | s x y=>((p x).1+(p y).1,pl (p x).2 (p y).2)
 | m n x=>(n*(p x).1,(p x).2.map (n*·))
noncomputable def gK:List Nat->List Nat->Nat
 | x::r,y::t=>x*y+gK r t
 | _,_=>0
noncomputable def ge:List Nat->List Nat->Bool
 | [],l=>l.all (·==0)
 | _,[]=>true
 | x::r,y::t=>Nat.ble y x&&ge r t
theorem gJ:∀ c,gK c []=0
 | []=>rfl
 | _::_=>rfl
theorem oh:∀(c a b:List Nat),gK c (pl a b)=gK c a+gK c b
 | [],a,b=>by cases a<;>cases b<;>rfl
 | x::c,[],b=>by rw[pl,gJ,T7]
 | x::c,a::r,[]=>by rw[pl,gJ];rfl;exact fun h=>nomatch h
 | x::c,a::r,b::t=>by
  show x*(a+b)+gK c (pl r t)=x*a+gK c r+(x*b+gK c t);rw[oh c r t,Nat.mul_add,Nat.add_assoc,Nat.add_assoc,Nat.add_left_comm (x*b)]
theorem zK:∀(c:List Nat) (i:Nat),gK c (un i)=tA c i
 | [],i=>by cases i<;>rfl
 | x::c,0=>by show x*1+gK c []=x;rw[gJ,Nat.mul_one];rfl
 | x::c,i+1=>by show x*0+gK c (un i)=_;rw[zK c i,Nat.mul_zero,T7];rfl
theorem uK(n:Nat):∀(c l:List Nat),gK c (l.map (n*·))=n*gK c l
 | [],l=>by cases l<;>rfl
 | x::c,[]=>rfl
 | x::c,y::t=>by
  show x*(n*y)+gK c (t.map (n*·))=n*(x*y+gK c t);rw[uK n c t,Nat.mul_add,Nat.mul_left_comm]
theorem F8(c:List Nat):∀ e:oI,d c e=(p e).1+gK c (p e).2
 | .k n=>by show n=n+gK c [];rw[gJ];rfl
 | .v i=>by show tA c i=0+gK c (un i);rw[zK,T7]
 | .s x y=>by
  show d c x+d c y=(p x).1+(p y).1+gK c (pl (p x).2 (p y).2);rw[F8 c x,F8 c y,oh,Nat.add_assoc,Nat.add_assoc,Nat.add_left_comm (gK c (p x).2)]
 | .m n x=>by
  show n*d c x=n*(p x).1+gK c ((p x).2.map (n*·));rw[F8 c x,uK,Nat.mul_add]
theorem qF:∀(c l:List Nat),l.all (·==0)=true->gK c l=0
 | [],l,_=>by cases l<;>rfl
 | x::c,[],_=>rfl
 | x::c,y::t,h=>by
  have h:=(Bool.and_eq_true _ _).mp (h:(y==0&&t.all (·==0))=true);show x*y+gK c t=0;rw[qF c t h.2,eq_of_beq h.1];rfl
theorem zL:∀(c a b:List Nat),ge a b=true->gK c b<=gK c a
 | c,[],b,h=>by rw[qF c b h];exact Tb _
 | c,a::r,[],_=>by rw[gJ];exact Tb _
 | [],a::r,b::t,_=>SN _
 | x::c,a::r,b::t,h=>by
  have h:=(Bool.and_eq_true _ _).mp (h:(Nat.ble b a&&ge r t)=true);exact Ug (Nat.mul_le_mul_left _ (S8 h.1)) (zL c r t h.2)
noncomputable abbrev Q:=Nat×oI×oI
noncomputable def ty(c:List Nat)(g:Prop):List Q->Prop
 | []=>g
 | (_,x,y)::r=>d c x<=d c y->ty c g r
noncomputable def pd:oI×oI->List Q->oI×oI
 | x,[]=>x
 | (x,z),(n,y,w)::r=>pd (s x (m n y),s z (m n w)) r
theorem go(c:List Nat){G:Prop}:∀(l:List Q) (x:oI×oI),(d c (pd x l).1<=d c (pd x l).2->G)->d c x.1<=d c x.2->ty c G l
 | [],_,h,e=>h e
 | (n,_,_)::r,_,h,e=>fun q=>go c r _ h (Ug e (Nat.mul_le_mul_left n q))
noncomputable def ok(x y:oI)(a:oI×oI):Bool:=Nat.ble ((p a.2).1+(p x).1) ((p a.1).1+(p y).1)&&ge (pl (p a.1).2 (p y).2) (pl (p a.2).2 (p x).2)
end Li
section
open Li oI
theorem lE(c:List Nat)(x y:oI)(l:List Q)(h:ok x y (pd (k 0,k 0) l)=true):ty c (d c x<=d c y) l:=by
 refine go c l (k 0,k 0) (fun e=>?_) (SN _);have h1:=(Bool.and_eq_true _ _).mp h;have a2:=zL c _ _ h1.2;rw[oh,oh] at a2;rw[F8 c (pd _ _).1,F8 c (pd _ _).2] at e;rw[F8 c x,F8 c y];have a1:=Ug e (Ug (S8 h1.1) a2);generalize gK c (p x).2=X,gK c (p y).2=YY,gK c (p (pd (k 0,k 0) l).1).2=UU,gK c (p (pd (k 0,k 0) l).2).2=V at a1 ⊢;omega
namespace Li
noncomputable abbrev A:=v 0
noncomputable abbrev B:=v 1
noncomputable abbrev dE:=k 0
noncomputable abbrev af:=k 1
noncomputable abbrev fA:=k 2
noncomputable abbrev sL:=k 3
noncomputable abbrev oM:=k 1000
noncomputable abbrev qj:=k 100000
noncomputable abbrev ux:=k 20
noncomputable abbrev C:=v 2
noncomputable abbrev D:=v 3
noncomputable abbrev E:=v 4
noncomputable abbrev F:=v 5
noncomputable abbrev G:=v 6
end Li
theorem u0{a b c:Nat}(h0:a+(c+1)<b):a<b:=lE [a,b,c] (s A af) B [(1,s (s A (s C af)) af,B)] rfl h0
theorem u1{a b c:Nat}(h0:a+(b+1)<c):a+1+b<c:=lE [a,b,c] (s (s (s A af) B) af) C [(1,s (s A (s B af)) af,C)] rfl h0
theorem u2{a b c:Nat}(h0:a+3*b+10<c):a+3*b+8<c:=lE [a,b,c] (s (s (s A (m 3 B)) (k 8)) af) C [(1,s (s (s A (m 3 B)) (k 10)) af,C)] rfl h0
theorem u3{a b c:Nat}(h0:a+20*b+100<c):a+20*b+90<c:=lE [a,b,c] (s (s (s A (m 20 B)) (k 90)) af) C [(1,s (s (s A (m 20 B)) (k 100)) af,C)] rfl h0
theorem u4{a b c:Nat}(h0:a+3*b+10<c):a+1+3*b+8<c:=lE [a,b,c] (s (s (s (s A af) (m 3 B)) (k 8)) af) C [(1,s (s (s A (m 3 B)) (k 10)) af,C)] rfl h0
theorem u5{a b c:Nat}(h0:a+20*b+100<c):a+1+20*b+90<c:=lE [a,b,c] (s (s (s (s A af) (m 20 B)) (k 90)) af) C [(1,s (s (s A (m 20 B)) (k 100)) af,C)] rfl h0
theorem u6{a b c:Nat}(h0:a+3*(b+1)+8<c):a+1+3*b+10<c:=lE [a,b,c] (s (s (s (s A af) (m 3 B)) (k 10)) af) C [(1,s (s (s A (m 3 (s B af))) (k 8)) af,C)] rfl h0
theorem u7{a b c:Nat}(h0:a+20*(b+1)+90<c):a+3+20*b+100<c:=lE [a,b,c] (s (s (s (s A sL) (m 20 B)) (k 100)) af) C [(1,s (s (s A (m 20 (s B af))) (k 90)) af,C)] rfl h0
theorem u8{a b:Nat}(h0:a+20<b):a+1+6<b:=lE [a,b] (s (s (s A af) (k 6)) af) B [(1,s (s A ux) af,B)] rfl h0
theorem u9{a b:Nat}:a+(b+1)=a+1+b:=TQ (lE [a,b] (s A (s B af)) (s (s A af) B) [] rfl) (lE [a,b] (s (s A af) B) (s A (s B af)) [] rfl)
theorem Ql{a b:Nat}(h0:a+90<b):a+1+1+6<b:=lE [a,b] (s (s (s (s A af) af) (k 6)) af) B [(1,s (s A (k 90)) af,B)] rfl h0
theorem OL{a b:Nat}(h0:a+12<b):a+1+6<b:=lE [a,b] (s (s (s A af) (k 6)) af) B [(1,s (s A (k 12)) af,B)] rfl h0
theorem Qk{a b:Nat}(h0:a+(b+1)<=16):a+1<=16:=lE [a,b] (s A af) (k 16) [(1,s A (s B af),k 16)] rfl h0
theorem Qj{a b c:Nat}(h0:a<=c+1)(h1:c+(b+1)<=16):a+b<=16:=lE [a,b,c] (s A B) (k 16) [(1,A,s C af),(1,s C (s B af),k 16)] rfl h0 h1
theorem Qi{a b:Nat}(h0:a+90<b):a+1+12<b:=lE [a,b] (s (s (s A af) (k 12)) af) B [(1,s (s A (k 90)) af,B)] rfl h0
theorem Qh{a:Nat}(h0:a<=8):0+a<=16:=lE [a] (s dE A) (k 16) [(1,A,k 8)] rfl h0
theorem Qg{a b c d:Nat}(h0:c<d)(h1:c=a/\d=b):a<b:=lE [a,b,c,d] (s A af) B [(1,s C af,D),(1,A,C),(1,D,B)] rfl h0 (SM h1.1.symm) (SM h1.2)
theorem Qf{a b c d:Nat}(h0:c≠d)(h1:¬d<c)(h2:c=a/\d=b):a<b:=(Uh h0).elim (fun q0=>lE [a,b,c,d] (s A af) B [(1,A,C),(1,D,B),(1,s C af,D)] rfl (SM h2.1.symm) (SM h2.2) q0) fun q0=>lE [a,b,c,d] (s A af) B [(2,C,D),(1,A,C),(1,D,B),(1,s D af,C)] rfl (Nat.le_of_not_lt h1) (SM h2.1.symm) (SM h2.2) q0
theorem Qe{a:Nat}:7<=4*(a+1)+4:=lE [a] (k 7) (s (m 4 (s A af)) (k 4)) [] rfl
theorem Qd{a b:Nat}(h0:0=a/\1=b):a<b:=lE [a,b] (s A af) B [(1,A,k 0),(1,k 1,B)] rfl (SM h0.1.symm) (SM h0.2)
theorem OK{a b:Nat}(h0:b<=1)(h1:a=b):a<=1:=lE [a,b] A af [(1,B,k 1),(1,A,B)] rfl h0 (SM h1)
theorem Qc{a:Nat}(h0:a<=1):a+(0+1)<=2:=lE [a] (s A (s dE af)) fA [(1,A,k 1)] rfl h0
theorem Qb{a:Nat}:¬a+2<=0:=fun e=>Tc 0 (lE [a] af dE [(1,s A fA,k 0)] rfl e)
theorem Qa{a b:Nat}(h0:a+1+2<=b+1):a+2<=b:=lE [a,b] (s A fA) B [(1,s (s A af) fA,s B af)] rfl h0
theorem P9{a:Nat}(h0:a<=1):a+1<=7:=lE [a] (s A af) (k 7) [(1,A,k 1)] rfl h0
theorem P8{a:Nat}(h0:a<=1):a+1<=16777216:=lE [a] (s A af) (k 16777216) [(1,A,k 1)] rfl h0
theorem P7{a:Nat}(h0:a=7):7<=a:=lE [a] (k 7) A [(1,k 7,A)] rfl (SM h0.symm)
theorem OJ{a:Nat}(h0:a<=1):a+1<=2:=lE [a] (s A af) fA [(1,A,k 1)] rfl h0
theorem P6{a b:Nat}(h0:a+90<b):a+1+1+1+10<b:=lE [a,b] (s (s (s (s (s A af) af) af) (k 10)) af) B [(1,s (s A (k 90)) af,B)] rfl h0
theorem P5{a b:Nat}(h0:b<a):¬a<b+1:=fun e=>Tc 0 (lE [b,a] af dE [(1,s A af,B),(1,s B af,s A af)] rfl h0 e)
theorem P4{a b:Nat}(h0:¬b<a):a<=b:=lE [a,b] A B [(1,A,B)] rfl (Nat.le_of_not_lt h0)
theorem P3{a:Nat}(h0:a<2):a<=2:=lE [a] A fA [(1,s A af,k 2)] rfl h0
theorem P2{a:Nat}(h0:a<=2):a<=16777216+1:=lE [a] A (s (k 16777216) af) [(1,A,k 2)] rfl h0
theorem P1{a b:Nat}(h0:a+20<b):a+1+1+12<b:=lE [a,b] (s (s (s (s A af) af) (k 12)) af) B [(1,s (s A ux) af,B)] rfl h0
theorem P0{a b:Nat}:a+1+b=a+(b+1):=TQ (lE [a,b] (s (s A af) B) (s A (s B af)) [] rfl) (lE [a,b] (s A (s B af)) (s (s A af) B) [] rfl)
theorem PZ{a:Nat}(h0:¬a=1):¬1=a:=(Uh h0).elim (fun q0=>fun e=>Tc 0 (lE [a] af dE [(1,s A af,k 1),(1,k 1,A)] rfl q0 (SM e))) fun q0=>fun e=>Tc 0 (lE [a] af dE [(1,s af af,A),(1,A,k 1)] rfl q0 (SM e.symm))
theorem PY{a:Nat}(h0:a<31):a+1<=64:=lE [a] (s A af) (k 64) [(1,s A af,k 31)] rfl h0
theorem oU{a b c d:Nat}(h:c<=6)(hu:a+12<d):a+1+min b c<d:=Tj (Tw (SJ (Nat.min_le_right b c) h) _) (Tj (SM (Nat.add_assoc a 1 6)) (Tj (Tw (by decide) a) hu))
theorem K8{a b c d:Nat}(h:b<=6)(hu:a+20<d):a+1+min b c<d:=Nat.min_comm b c▸oU h (Tj (Tw (by decide) a) hu)
theorem o0{a:Nat}:a<=a+1:=lE [a] A (s A af) [] rfl
theorem o1{a:Nat}:a<=a+2:=lE [a] A (s A fA) [] rfl
theorem o2{a:Nat}:a<=a+3:=lE [a] A (s A sL) [] rfl
theorem o3{a:Nat}(h0:a<=50000):(a:Int)<=50000:=TX.mpr h0
theorem o4{a:Nat}:¬a<0:=fun e=>Tc 0 (lE [a] af dE [(1,s A af,k 0)] rfl e)
theorem o5{a b c:Nat}(h0:c<b+1)(h1:a<=c)(h2:¬a=c):a<b:=(Uh h2).elim (fun q0=>lE [a,b,c] (s A af) B [(1,s C af,s B af),(1,s A af,C)] rfl h0 q0) fun q0=>lE [a,b,c] (s A af) B [(1,s C af,s B af),(2,A,C),(1,s C af,A)] rfl h0 h1 q0
theorem o6{a b:Nat}(h0:(a:Int)=(b:Int)):a=b:=Int.ofNat.inj h0
theorem o7{a b:Nat}(h0:a<b)(h1:b<=100):a<4000:=lE [a,b] (s A af) (k 4000) [(1,s A af,B),(1,B,k 100)] rfl h0 h1
theorem o8{a b:Nat}:(a:Int)=(b:Int)↔a=b:=Int.ofNat_inj
theorem RO{a b:Nat}(h0:b<=20)(h1:a=b):a<=100:=lE [a,b] A (k 100) [(1,B,k 20),(1,A,B)] rfl h0 (SM h1)
theorem RN{a b c:Nat}:a+b+c=b+(a+c):=TQ (lE [a,b,c] (s (s A B) C) (s B (s A C)) [] rfl) (lE [b,a,c] (s A (s B C)) (s (s B A) C) [] rfl)
theorem RM{a:Nat}:1+a=a+1:=TQ (lE [a] (s af A) (s A af) [] rfl) (lE [a] (s A af) (s af A) [] rfl)
theorem RL{a b:Nat}(h0:b=1+a):a+1=b:=TQ (lE [a,b] (s A af) B [(1,s af A,B)] rfl (SM h0.symm)) (lE [b,a] A (s B af) [(1,A,s af B)] rfl (SM h0))
theorem RK{a b c:Nat}(h0:c<b)(h1:c=b):a=b:=(Tc 0 (lE [c,b] af dE [(1,s A af,B),(1,B,A)] rfl h0 (SM h1.symm))).elim
theorem MV{a b c:Nat}(h0:a=c)(h1:c<b):¬a=b:=fun e=>Tc 0 (lE [a,c,b] af dE [(1,A,B),(1,s B af,C),(1,C,A)] rfl (SM h0) h1 (SM e.symm))
theorem RJ{a b:Nat}(h0:¬b=a):a≠b:=(Uh h0).elim (fun q0=>fun e=>Tc 0 (lE [b,a] af dE [(1,s A af,B),(1,B,A)] rfl q0 (SM e))) fun q0=>fun e=>Tc 0 (lE [a,b] af dE [(1,s A af,B),(1,B,A)] rfl q0 (SM e.symm))
theorem Po{a b c d:Nat}(h0:a<c)(h1:d=c)(h2:d<=b):a<=b:=lE [a,b,c,d] A B [(1,s A af,C),(1,C,D),(1,D,B)] rfl h0 (SM h1.symm) h2
theorem Pn{a b c:Nat}(h0:b<c)(h1:c<=a):¬a=b:=fun e=>Tc 0 (lE [b,c,a] af dE [(1,s A af,B),(1,B,C),(1,C,A)] rfl h0 h1 (SM e))
theorem RI{a b c d:Nat}(h0:b=a+c)(h1:b<=2*d)(h2:d<=20):a<=40:=lE [a,c,b,d] A (k 40) [(1,s A B,C),(1,C,m 2 D),(2,D,k 20)] rfl (SM h0.symm) h1 h2
theorem RH{a b c d:Nat}(h0:b=a+c)(h1:b<=d)(h2:d<=20):a<=20:=lE [a,c,b,d] A ux [(1,s A B,C),(1,C,D),(1,D,k 20)] rfl (SM h0.symm) h1 h2
theorem RG{a b:Nat}(h0:b≠a):a≠b:=(Uh h0).elim (fun q0=>fun e=>Tc 0 (lE [b,a] af dE [(1,s A af,B),(1,B,A)] rfl q0 (SM e))) fun q0=>fun e=>Tc 0 (lE [a,b] af dE [(1,s A af,B),(1,B,A)] rfl q0 (SM e.symm))
theorem RE{a:Nat}:a<=a+2+1:=lE [a] A (s (s A fA) af) [] rfl
theorem RD{a b:Nat}(h0:a<b)(h1:a=b):False:=Tc 0 (lE [a,b] af dE [(1,s A af,B),(1,B,A)] rfl h0 (SM h1.symm))
theorem RC{a b:Nat}(h0:b<a):a+2≠b:=fun e=>Tc 0 (lE [b,a] af dE [(1,s A af,B),(1,s B fA,A)] rfl h0 (SM e))
theorem RB{a b:Nat}(h0:a<b):a≠b+2:=fun e=>Tc 0 (lE [a,b] af dE [(1,s A af,B),(1,s B fA,A)] rfl h0 (SM e.symm))
theorem RA{a b:Nat}(h0:a=b+2)(h1:a<b):False:=Tc 0 (lE [b,a] af dE [(1,s A fA,B),(1,s B af,A)] rfl (SM h0.symm) h1)
theorem Rz{a b c d e f g:Nat}(h0:e+1=g)(h1:d<=40)(h2:a+b+c+41*g<=43*f):a+b+(c+d)+41*e<=43*f:=lE [a,b,c,d,e,f,g] (s (s (s A B) (s C D)) (m 41 E)) (m 43 F) [(41,s E af,G),(1,D,k 40),(1,s (s (s A B) C) (m 41 G),m 43 F)] rfl (SM h0) h1 h2
theorem Ry{a b c d e:Nat}(h0:b+1=e)(h1:a+e<=c+d):a+1+b<=c+d:=lE [a,b,c,d,e] (s (s A af) B) (s C D) [(1,s B af,E),(1,s A E,s C D)] rfl (SM h0) h1
theorem Rx{a b c d:Nat}(h0:a+b<=c+d):a+1+b<=c+(d+1):=lE [a,b,c,d] (s (s A af) B) (s C (s D af)) [(1,s A B,s C D)] rfl h0
theorem Rw{a b c d:Nat}(h0:a+b<=c+d)(h1:d<=200)(h2:c<=20):a<=220:=lE [a,b,c,d] A (k 220) [(1,s A B,s C D),(1,D,k 200),(1,C,k 20)] rfl h0 h1 h2
theorem Pm{a:Nat}(h0:a<=220):a+1<=100000:=lE [a] (s A af) qj [(1,A,k 220)] rfl h0
theorem Rv{a b:Nat}(h0:a<=20)(h1:b<=20):a+b<=100000:=lE [a,b] (s A B) qj [(1,A,k 20),(1,B,k 20)] rfl h0 h1
theorem Pl{a b:Nat}(h0:b<=220)(h1:a<=b):a+1<=100000:=lE [a,b] (s A af) qj [(1,B,k 220),(1,A,B)] rfl h0 h1
theorem Ru{a b c d e:Nat}(h0:b+c+a+41*d<=43*e)(h1:e<=20):a<=860:=lE [a,b,c,d,e] A (k 860) [(1,s (s (s B C) A) (m 41 D),m 43 E),(43,E,k 20)] rfl h0 h1
theorem Rt{a b:Nat}(h0:b<=40)(h1:a<=860):a+b<=100000:=lE [a,b] (s A B) qj [(1,B,k 40),(1,A,k 860)] rfl h0 h1
theorem Rr{a b:Nat}(h0:b<=40)(h1:a<=40):a+b<=100000:=lE [a,b] (s A B) qj [(1,B,k 40),(1,A,k 40)] rfl h0 h1
theorem Rq{a b c d e f:Nat}(h0:a+1=b)(h1:c+d+e+41*b<=43*f)(h2:f<=20):a<=100000:=lE [a,b,c,d,e,f] A qj [(1,s A af,B),(1,s (s (s C D) E) (m 41 B),m 43 F),(43,F,k 20)] rfl (SM h0) h1 h2
theorem Rp{a:Nat}:17≠a+19:=fun e=>Tc 0 (lE [a] af dE [(1,s A (k 19),k 17)] rfl (SM e.symm))
theorem Ro{a b c d:Nat}(h0:c+1=d)(h1:b<=40):a+b+41*c<=a+41*d:=lE [a,b,c,d] (s (s A B) (m 41 C)) (s A (m 41 D)) [(41,s C af,D),(1,B,k 40)] rfl (SM h0) h1
theorem Rn{a b c d e:Nat}(h0:a+b+c+41*d<=43*e)(h1:e<=20):a+1<=100000:=lE [a,b,c,d,e] (s A af) qj [(1,s (s (s A B) C) (m 41 D),m 43 E),(43,E,k 20)] rfl h0 h1
theorem Pk{a b c d e:Nat}(h0:a+e+b+41*c<=43*d):a+0+b+41*c<=43*d:=lE [a,b,c,d,e] (s (s (s A dE) B) (m 41 C)) (m 43 D) [(1,s (s (s A E) B) (m 41 C),m 43 D)] rfl h0
theorem Rm{a b:Nat}:¬a+41*b<0:=fun e=>Tc 0 (lE [a,b] af dE [(1,s (s A (m 41 B)) af,k 0)] rfl e)
theorem Rl{a b c d:Nat}(h0:a+(b+1)+41*c<=43*d):a+1+b+41*c<=43*d:=lE [a,b,c,d] (s (s (s A af) B) (m 41 C)) (m 43 D) [(1,s (s A (s B af)) (m 41 C),m 43 D)] rfl h0
theorem Rj{a b c d e f:Nat}(h0:d+41*e<c+1)(h1:a+41*b<=f+41*e)(h2:d=f+1):a+41*b<c:=lE [a,b,c,d,e,f] (s (s A (m 41 B)) af) C [(1,s (s D (m 41 E)) af,s C af),(1,s A (m 41 B),s F (m 41 E)),(1,s F af,D)] rfl h0 h1 (SM h2.symm)
theorem Ri{a b c d e:Nat}(h0:c+d+a+41*b<=43*e)(h1:e<=20):a+41*b<4000:=lE [a,b,c,d,e] (s (s A (m 41 B)) af) (k 4000) [(1,s (s (s C D) A) (m 41 B),m 43 E),(43,E,k 20)] rfl h0 h1
theorem Pj{a:Nat}(h0:1<=a/\a<=6):a≠9:=fun e=>Tc 0 (lE [a] af dE [(1,A,k 6),(1,k 9,A)] rfl h0.2 (SM e.symm))
theorem Rh{a b:Nat}:a<=a+b:=lE [a,b] A (s A B) [] rfl
theorem Rg{a b:Nat}:a+b-a=b:=UE ..
theorem LF{a b:Nat}(h0:a+(b+1)<=1000):a+1<=100000:=lE [a,b] (s A af) qj [(1,s A (s B af),k 1000)] rfl h0
theorem Rf{a b:Nat}(h0:a+(b+1)<=1000):a+1+b<=1000:=lE [a,b] (s (s A af) B) oM [(1,s A (s B af),k 1000)] rfl h0
theorem Re{a b:Nat}(h0:a+(b+1)<=1000):a+b<=1000:=lE [a,b] (s A B) oM [(1,s A (s B af),k 1000)] rfl h0
theorem Rd{a b c d:Nat}:a+b+(c+d)=a+c+(b+d):=TQ (lE [a,b,c,d] (s (s A B) (s C D)) (s (s A C) (s B D)) [] rfl) (lE [a,c,b,d] (s (s A B) (s C D)) (s (s A C) (s B D)) [] rfl)
theorem Rc{a b c d:Nat}(h0:c<=1)(h1:d<=b)(h2:a<=c+d):a<=b+1:=lE [a,b,c,d] A (s B af) [(1,C,k 1),(1,D,B),(1,A,s C D)] rfl h0 h1 h2
theorem Pi{a b:Nat}(h0:a>=b)(h1:a-b=0):a=b:=TQ (Nat.le_of_sub_eq_zero h1) h0
theorem Rb{a:Nat}(h0:a+1<=20):a<=19:=lE [a] A (k 19) [(1,s A af,k 20)] rfl h0
theorem Ph{a b:Nat}(h0:a>=b)(h1:a<b+1):a=b:=TQ (lE [a,b] A B [(1,s A af,s B af)] rfl h1) (lE [b,a] A B [(1,A,B)] rfl h0)
theorem Ra{a b c:Nat}(h0:a<c)(h1:c=b):¬a=b:=fun e=>Tc 0 (lE [a,c,b] af dE [(1,s A af,B),(1,B,C),(1,C,A)] rfl h0 (SM h1) (SM e.symm))
theorem Q9{a b c:Nat}(h0:a>=c)(h1:a-c=0)(h2:c=b):a=b:=(Pi h0 h1).trans h2
theorem Pg{a b:Nat}(h0:a=b)(h1:a<b):False:=Tc 0 (lE [b,a] af dE [(1,A,B),(1,s B af,A)] rfl (SM h0.symm) h1)
theorem Q8{a b c:Nat}(h0:a<b/\c=a):a<b+1:=lE [a,b] (s A af) (s B af) [(1,s A af,B)] rfl h0.1
theorem Q7{a b:Nat}(h0:a<b+1)(h1:a>=b):a=b:=TQ (lE [a,b] A B [(1,s A af,s B af)] rfl h0) (lE [b,a] A B [(1,A,B)] rfl h1)
theorem Pf{a b c d:Nat}(h0:a<=b)(h1:c=d)(h2:d=b)(h3:c<a):False:=Tc 0 (lE [a,b,d,c] af dE [(1,A,B),(1,C,D),(1,B,C),(1,s D af,A)] rfl h0 (SM h1.symm) (SM h2.symm) h3)
theorem LE{a b c:Nat}(h0:a<=b)(h1:c=b)(h2:c<a):False:=Tc 0 (lE [a,b,c] af dE [(1,A,B),(1,B,C),(1,s C af,A)] rfl h0 (SM h1.symm) h2)
theorem Q6{a b c:Nat}(h0:a≠b)(h1:c=a)(h2:c=b):False:=(Uh h0).elim (fun q0=>Tc 0 (lE [c,a,b] af dE [(1,A,B),(1,C,A),(1,s B af,C)] rfl (SM h1) (SM h2.symm) q0)) fun q0=>Tc 0 (lE [a,c,b] af dE [(1,A,B),(1,B,C),(1,s C af,A)] rfl (SM h1.symm) (SM h2) q0)
theorem Q5{a b c d:Nat}(h0:c<b)(h1:d<c)(h2:a<=d):a≠b:=fun e=>Tc 0 (lE [c,b,d,a] af dE [(1,s A af,B),(1,s C af,A),(1,D,C),(1,B,D)] rfl h0 h1 h2 (SM e.symm))
theorem Q4{a b:Nat}(h0:a=b):a<b+1:=lE [a,b] (s A af) (s B af) [(1,A,B)] rfl (SM h0)
theorem Q3{a b c d e:Nat}(h0:c<=2*b)(h1:d<=e)(h2:e<=2)(h3:a<=c+d):a<=2*(b+1):=lE [a,b,c,d,e] A (m 2 (s B af)) [(1,C,m 2 B),(1,D,E),(1,E,k 2),(1,A,s C D)] rfl h0 h1 h2 h3
theorem Q2{a b c d:Nat}(h0:a+b+41*c<=43*d):a+1+b+41*(c+1)<=43*(d+1):=lE [a,b,c,d] (s (s (s A af) B) (m 41 (s C af))) (m 43 (s D af)) [(1,s (s A B) (m 41 C),m 43 D)] rfl h0
theorem Q1{a b c d:Nat}(h0:a+b<=c+d):a+(b+1)<=c+1+d:=lE [a,b,c,d] (s A (s B af)) (s (s C af) D) [(1,s A B,s C D)] rfl h0
theorem Pe{a:Nat}(h0:a<=100):a+1<=100000:=lE [a] (s A af) qj [(1,A,k 100)] rfl h0
theorem Q0{a b c d e:Nat}(h0:b+1<=20)(h1:c+d+e+41*a<=43*b):a+1<=100000:=lE [a,b,c,d,e] (s A af) qj [(43,s B af,k 20),(1,s (s (s C D) E) (m 41 A),m 43 B)] rfl h0 h1
theorem QZ{a b:Nat}(h0:b+1<=20)(h1:a=b):a<=99:=lE [a,b] A (k 99) [(1,s B af,k 20),(1,A,B)] rfl h0 (SM h1)
theorem QY{a:Nat}(h0:a+1<=20):a<=100:=lE [a] A (k 100) [(1,s A af,k 20)] rfl h0
theorem QX{a b c:Nat}(h0:a<c)(h1:b=c):a<b+1:=lE [a,b,c] (s A af) (s B af) [(1,s A af,C),(1,C,B)] rfl h0 (SM h1.symm)
theorem QW{a b:Nat}:a+(b+2)=a+b+2:=TQ (lE [a,b] (s A (s B fA)) (s (s A B) fA) [] rfl) (lE [a,b] (s (s A B) fA) (s A (s B fA)) [] rfl)
theorem QV{a b c:Nat}(h0:a<b):a<b+(c+2):=lE [a,b,c] (s A af) (s B (s C fA)) [(1,s A af,B)] rfl h0
theorem QU{a b c d:Nat}(h0:a=b)(h1:a<c)(h2:b=c+d+1):False:=Tc 0 (lE [b,a,c,d] af dE [(1,A,B),(1,s B af,C),(1,s (s C D) af,A)] rfl (SM h0.symm) h1 (SM h2.symm))
theorem QT{a b c d:Nat}(h0:a=b+2)(h1:c<=b)(h2:d=a+1)(h3:d<c):False:=Tc 0 (lE [b,a,c,d] af dE [(1,s A fA,B),(1,C,A),(1,s B af,D),(1,s D af,C)] rfl (SM h0.symm) h1 (SM h2.symm) h3)
theorem QS{a b:Nat}(h0:a=b+2)(h1:a+1=b+1):False:=Tc 0 (lE [b,a] af dE [(1,s A fA,B),(1,s B af,s A af)] rfl (SM h0.symm) (SM h1))
theorem QR{a b:Nat}(h0:b<=2)(h1:a<=40):a+b<=1000:=lE [a,b] (s A B) oM [(1,B,k 2),(1,A,k 40)] rfl h0 h1
theorem Pd{a:Nat}:a≠a+1:=fun e=>Tc 0 (lE [a] af dE [(1,s A af,A)] rfl (SM e.symm))
theorem Pc{a b c:Nat}(h0:a<b)(h1:a=b+c+1):False:=Tc 0 (lE [a,b,c] af dE [(1,s A af,B),(1,s (s B C) af,A)] rfl h0 (SM h1.symm))
theorem QQ{a b c:Nat}(h0:b=c)(h1:a<=c):a<=b:=lE [a,b,c] A B [(1,C,B),(1,A,C)] rfl (SM h0.symm) h1
theorem QP{a b c:Nat}(h0:b=a+c):a<=b:=lE [a,b,c] A B [(1,s A C,B)] rfl (SM h0.symm)
theorem QO{a b c:Nat}(h0:b=a+c+1):a<=b:=lE [a,b,c] A B [(1,s (s A C) af,B)] rfl (SM h0.symm)
theorem QN{a:Nat}(h0:1<=a/\a<=6):a=1\/a=2\/a=3\/a=4\/a=5\/a=6:=(Nat.eq_or_lt_of_le h0.1).elim (fun e=>.inl e.symm) fun h=>.inr ((Nat.eq_or_lt_of_le h).elim (fun e=>.inl e.symm) fun h=>.inr ((Nat.eq_or_lt_of_le h).elim (fun e=>.inl e.symm) fun h=>.inr ((Nat.eq_or_lt_of_le h).elim (fun e=>.inl e.symm) fun h=>.inr ((Nat.eq_or_lt_of_le h).elim (fun e=>.inl e.symm) fun h=>.inr (TQ h0.2 h)))))
theorem Pb{a b:Nat}(h0:2<=b)(h1:b<=a):1<=a:=lE [a,b] af A [(1,k 2,B),(1,B,A)] rfl h0 h1
theorem Pa{a b:Nat}(h0:2<=b)(h1:b<=a):2<=a:=lE [a,b] fA A [(1,k 2,B),(1,B,A)] rfl h0 h1
theorem NA{a:Nat}(h0:(a:Int)=-1):False:=Int.noConfusion h0
theorem Nz{a b c d:Nat}(h0:c=b)(h1:d=a)(h2:c<=a)(h3:d<=b):a=b:=TQ (lE [a,b,d] A B [(1,A,C),(1,C,B)] rfl (SM h1.symm) h3) (lE [b,a,c] A B [(1,A,C),(1,C,B)] rfl (SM h0.symm) h2)
theorem Ny{a b c d e:Nat}(h0:c=d)(h1:e<d)(h2:b<=e)(h3:b=c):a=b:=(Tc 0 (lE [d,c,e,b] af dE [(1,A,B),(1,s C af,A),(1,D,C),(1,B,D)] rfl (SM h0.symm) h1 h2 (SM h3.symm))).elim
theorem Nw{a b c d e:Nat}(h0:c=d)(h1:e<d)(h2:a<=e)(h3:a=c):a=b:=(Tc 0 (lE [d,c,e,a] af dE [(1,A,B),(1,s C af,A),(1,D,C),(1,B,D)] rfl (SM h0.symm) h1 h2 (SM h3.symm))).elim
theorem Nv{a b c:Nat}(h0:c=3\/c=4)(h1:c=0):a<b:=(SP (h1▸h0) (by decide:¬(0=3\/0=4)))
theorem Nu{a b c:Nat}(h0:a<b/\c<b):a<b+1/\c<b+1:=⟨lE [a,b] (s A af) (s B af) [(1,s A af,B)] rfl h0.1,lE [c,b] (s A af) (s B af) [(1,s A af,B)] rfl h0.2⟩
theorem Nt{a:Nat}(h0:a=3\/a=4)(h1:a=5):False:=(by decide:¬(5=3\/5=4)) (h1▸h0)
theorem Nr{a b:Nat}(h0:a≠b)(h1:a<b+1):a<b:=(Uh h0).elim (fun q0=>lE [a,b] (s A af) B [(1,s A af,B)] rfl q0) fun q0=>lE [a,b] (s A af) B [(2,s A af,s B af),(1,s B af,A)] rfl h1 q0
theorem I3(h0:5=3\/5=4):False:=(by decide:¬(5=3\/5=4)) h0
theorem Nq{a:Nat}(h0:a=3\/a=4)(h1:a=5\/a=6):False:=h0.elim (fun e=>(by decide:¬(3=5\/3=6)) (e▸h1)) fun e=>(by decide:¬(4=5\/4=6)) (e▸h1)
theorem Np{a b:Nat}(h0:a=b):a<=b+1:=lE [a,b] A (s B af) [(1,A,B)] rfl (SM h0)
theorem I2{a:Nat}(h0:8<=a):9<=a+1:=lE [a] (k 9) (s A af) [(1,k 8,A)] rfl h0
theorem No{a b c d:Nat}(h0:c=b)(h1:d=c)(h2:a<=d+1):a<=b+1:=lE [a,b,c,d] A (s B af) [(1,C,B),(1,D,C),(1,A,s D af)] rfl (SM h0) (SM h1) h2
theorem Nn{a:Nat}(h0:8<=a):3+1<=a:=lE [a] (s sL af) A [(1,k 8,A)] rfl h0
theorem I1{a b:Nat}(h0:a+(b+1)<=20):a+1<=20:=lE [a,b] (s A af) ux [(1,s A (s B af),k 20)] rfl h0
theorem Nl{a b:Nat}(h0:a+(b+1)<=200):a+1<=200:=lE [a,b] (s A af) (k 200) [(1,s A (s B af),k 200)] rfl h0
theorem Nk{a b:Nat}(h0:b<=1):a+b<=a+1:=lE [a,b] (s A B) (s A af) [(1,B,k 1)] rfl h0
theorem Nj{a b c:Nat}(h0:c+(b+1)<=20)(h1:a<=c+1):a+b<=20:=lE [a,b,c] (s A B) ux [(1,s C (s B af),k 20),(1,A,s C af)] rfl h0 h1
theorem Ni{a b c:Nat}(h0:c+(b+1)<=200)(h1:a<=c+1):a+b<=200:=lE [a,b,c] (s A B) (k 200) [(1,s C (s B af),k 200),(1,A,s C af)] rfl h0 h1
theorem I0{a b c d:Nat}(h0:d<=b+1)(h1:a<=d+c):a<=b+(c+1):=lE [a,b,c,d] A (s B (s C af)) [(1,D,s B af),(1,A,s D C)] rfl h0 h1
theorem IZ{a b:Nat}(h0:a+(b+1)<=20):a+b<=20:=lE [a,b] (s A B) ux [(1,s A (s B af),k 20)] rfl h0
theorem Nh{a b:Nat}(h0:a+(b+1)<=200):a+b<=200:=lE [a,b] (s A B) (k 200) [(1,s A (s B af),k 200)] rfl h0
theorem Ng{a b c:Nat}(h0:a<=b+c):a<=b+(c+1):=lE [a,b,c] A (s B (s C af)) [(1,A,s B C)] rfl h0
theorem Nf{a b c d:Nat}(h0:a<c)(h1:b<=d):a+b<c+d:=lE [a,b,c,d] (s (s A B) af) (s C D) [(1,s A af,C),(1,B,D)] rfl h0 h1
theorem Nc{a b c d:Nat}(h0:a<=c)(h1:b<d):a+b<c+d:=lE [a,b,c,d] (s (s A B) af) (s C D) [(1,A,C),(1,s B af,D)] rfl h0 h1
theorem Nb{a b c:Nat}(h0:b=c)(h1:a<c):a<b:=lE [a,b,c] (s A af) B [(1,C,B),(1,s A af,C)] rfl (SM h0.symm) h1
theorem Na{a b c d e:Nat}(h0:b<=c)(h1:e<=d)(h2:a<=e):a+b<=c+1*d:=lE [a,b,c,d,e] (s A B) (s C (m 1 D)) [(1,B,C),(1,E,D),(1,A,E)] rfl h0 h1 h2
theorem IY{a b:Nat}:a+(b+1)=a+1+b:=TQ (lE [a,b] (s A (s B af)) (s (s A af) B) [] rfl) (lE [a,b] (s (s A af) B) (s A (s B af)) [] rfl)
theorem IX{a b:Nat}:a+b+1=a+(b+1):=TQ (lE [a,b] (s (s A B) af) (s A (s B af)) [] rfl) (lE [a,b] (s A (s B af)) (s (s A B) af) [] rfl)
theorem EX{a b:Nat}(h0:a<b+1)(h1:¬a=b):a<b:=(Uh h1).elim (fun q0=>lE [a,b] (s A af) B [(1,s A af,B)] rfl q0) fun q0=>lE [a,b] (s A af) B [(2,s A af,s B af),(1,s B af,A)] rfl h0 q0
theorem M9{a:Nat}:a<a+1:=lE [a] (s A af) (s A af) [] rfl
theorem M8{a b:Nat}(h0:¬a=b):a<b/\min a b=a/\max a b=b\/b<a/\min a b=b/\max a b=a:=(Uh h0).elim (fun h=>.inl ⟨h,Nat.min_eq_left (TU h),Nat.max_eq_right (TU h)⟩) fun h=>.inr ⟨h,Nat.min_eq_right (TU h),Nat.max_eq_left (TU h)⟩
theorem IW{a b c d:Nat}(h0:c<d/\a=c/\b=d\/d<c/\a=d/\b=c):a<b:=h0.elim (fun h=>h.2.1.symm▸h.2.2.symm▸h.1) fun h=>h.2.1.symm▸h.2.2.symm▸h.1
theorem M7{a b c d e f g:Nat}(h0:c<b)(h1:d<b)(h2:e<=c)(h3:f<=d)(h4:e<f/\g=e/\a=f\/f<e/\g=f/\a=e):a<b:=h4.elim (fun h=>h.2.2.symm▸Tj h3 h1) fun h=>h.2.2.symm▸Tj h2 h0
theorem M5{a b:Nat}(h0:a+(b+1)<=1000):a<=99999:=lE [a,b] A (k 99999) [(1,s A (s B af),k 1000)] rfl h0
theorem IV{a b c:Nat}(h0:c+(b+1)<=1000)(h1:a<=c+1):a+b<=1000:=lE [a,b,c] (s A B) oM [(1,s C (s B af),k 1000),(1,A,s C af)] rfl h0 h1
theorem M4{a b:Nat}:a<b/\min b a=a/\max b a=b\/¬a<b/\min b a=b/\max b a=a:=(Nat.lt_or_ge a b).elim (fun h=>.inl ⟨h,Nat.min_eq_right (TU h),Nat.max_eq_left (TU h)⟩) fun h=>.inr ⟨Ux h,Nat.min_eq_left h,Nat.max_eq_right h⟩
theorem M3{a b:Nat}(h0:a=b):min a b=max a b:=h0▸(Nat.min_self a).trans (Nat.max_self a).symm
theorem M2{a b:Nat}(h0:¬a=b):min a b≠max a b:=fun e=>h0 (TQ (SJ (Nat.le_max_left a b) (e▸Nat.min_le_right a b)) (SJ (Nat.le_max_right a b) (e▸Uo a b)))
theorem EW{a b:Nat}(h0:a<b):a≠b+1:=fun e=>Tc 0 (lE [a,b] af dE [(1,s A af,B),(1,s B af,A)] rfl h0 (SM e.symm))
theorem M1{a b c:Nat}(h0:c<=b)(h1:c=a+2):a<=b:=lE [a,b,c] A B [(1,C,B),(1,s A fA,C)] rfl h0 (SM h1.symm)
theorem MZ{a:Nat}:¬a+2<0:=fun e=>Tc 0 (lE [a] af dE [(1,s (s A fA) af,k 0)] rfl e)
theorem MY{a b c:Nat}(h0:c+2<b+1)(h1:a<c):a+2<b:=lE [a,b,c] (s (s A fA) af) B [(1,s (s C fA) af,s B af),(1,s A af,C)] rfl h0 h1
theorem MX{a b:Nat}(h0:b+2<a+1):a=a-1+1:=(Uz (lE [a,b] af A [(1,s (s B fA) af,s A af)] rfl h0)).symm
theorem MW{a b:Nat}(h0:a<=b)(h1:b<=20*20):a+2<4000:=lE [a,b] (s (s A fA) af) (k 4000) [(1,A,B),(1,B,m 20 ux)] rfl h0 h1
theorem MU{a:Nat}(h0:a<=20):a+1<=100000:=lE [a] (s A af) qj [(1,A,k 20)] rfl h0
theorem MT{a b c d:Nat}(h0:a<b/\d<b):a<b+c/\d<b+c:=⟨lE [a,b,c] (s A af) (s B C) [(1,s A af,B)] rfl h0.1,lE [d,b,c] (s A af) (s B C) [(1,s A af,B)] rfl h0.2⟩
theorem MS{a b:Nat}(h0:a+1<=20)(h1:b<=1):a+b<=20:=lE [a,b] (s A B) ux [(1,s A af,k 20),(1,B,k 1)] rfl h0 h1
theorem MR{a:Nat}(h0:0<a):(a:Int)≠0:=fun e=>T8 h0 (Int.ofNat.inj e)
theorem IU{a:Nat}(h0:0<a):0<(a:Int):=Int.ofNat_lt.mpr h0
theorem MQ{a b:Nat}(h0:a<b):(a:Int)<(b:Int):=Int.ofNat_lt.mpr h0
theorem MP{a b:Nat}(h0:¬a<b):¬(a:Int)<(b:Int):=fun h=>h0 (Int.ofNat_lt.mp h)
theorem MO{a:Nat}(h0:a+3<=1000):a<=1000:=lE [a] A oM [(1,s A sL,k 1000)] rfl h0
theorem IT{a b c:Nat}(h0:c<=b+3)(h1:a<=c):a<=b+3:=lE [a,b,c] A (s B sL) [(1,C,s B sL),(1,A,C)] rfl h0 h1
theorem IS{a:Nat}(h0:a<2):a=0\/a=1:=(Nat.eq_or_lt_of_le (Nat.le_of_lt_succ h0)).elim .inr fun h=>.inl (Nat.lt_one_iff.mp h)
theorem IR{a:Nat}(h0:a+3<=1000):a+1<=1000:=lE [a] (s A af) oM [(1,s A sL,k 1000)] rfl h0
theorem MN{a:Nat}:a+1+1<=a+3:=lE [a] (s (s A af) af) (s A sL) [] rfl
theorem MM{a:Nat}(h0:a+3<=1000):a+1+1<=1000:=lE [a] (s (s A af) af) oM [(1,s A sL,k 1000)] rfl h0
theorem ML{a:Nat}:a+1+1+1<=a+3:=lE [a] (s (s (s A af) af) af) (s A sL) [] rfl
theorem MK{a b:Nat}(h0:a+3*(b+1)<=1000):a+3<=1000:=lE [a,b] (s A sL) oM [(1,s A (m 3 (s B af)),k 1000)] rfl h0
theorem MJ{a b:Nat}(h0:a+(b+1)<=100):a<=100:=lE [a,b] A (k 100) [(1,s A (s B af),k 100)] rfl h0
theorem MH{a b:Nat}(h0:a+3*(b+1)<=1000):a+3+3*b<=1000:=lE [a,b] (s (s A sL) (m 3 B)) oM [(1,s A (m 3 (s B af)),k 1000)] rfl h0
theorem MG{a b c:Nat}(h0:c+(b+1)<=100)(h1:a<=c+1):a+b<=100:=lE [a,b,c] (s A B) (k 100) [(1,s C (s B af),k 100),(1,A,s C af)] rfl h0 h1
theorem MF{a b c:Nat}(h0:a<=b+3+3*c):a<=b+3*(c+1):=lE [a,b,c] A (s B (m 3 (s C af))) [(1,A,s (s B sL) (m 3 C))] rfl h0
theorem ME{a b:Nat}(h0:a<=900)(h1:b<4):a+1+3*(2+b)<=1000:=lE [a,b] (s (s A af) (m 3 (s fA B))) oM [(1,A,k 900),(3,s B af,k 4)] rfl h0 h1
theorem MD{a:Nat}(h0:a<4):2+(2+a)<=100:=lE [a] (s fA (s fA A)) (k 100) [(1,s A af,k 4)] rfl h0
theorem MC{a b:Nat}(h0:b<4)(h1:a<=2+(2+b)):a<=7:=lE [a,b] A (k 7) [(1,s B af,k 4),(1,A,s fA (s fA B))] rfl h0 h1
theorem MB{a:Nat}:2+(a:Int)=↑(2+a):=rfl
theorem MA{a:Nat}(h0:a<4):2+a<=50000:=lE [a] (s fA A) (k 50000) [(1,s A af,k 4)] rfl h0
theorem Mz{a b c:Nat}(h0:c<4)(h1:a<=b+1+3*(2+c)):a<=b+20:=lE [a,b,c] A (s B ux) [(3,s C af,k 4),(1,A,s (s B af) (m 3 (s fA C)))] rfl h0 h1
theorem My{a b:Nat}(h0:b<=7)(h1:a+1<=b):a+1<=20:=lE [a,b] (s A af) ux [(1,B,k 7),(1,s A af,B)] rfl h0 h1
theorem Mx{a b c d:Nat}(h0:a<=c)(h1:b=c\/a+d<=b):a<=b:=h1.elim (fun e=>e.symm▸h0) fun h=>SJ (TH a d) h
theorem Mw{a b:Nat}(h0:5<=b)(h1:b<=a):1<=a:=lE [a,b] af A [(1,k 5,B),(1,B,A)] rfl h0 h1
theorem Mv{a b:Nat}(h0:5<=b)(h1:b<=a):5<=a:=lE [a,b] (k 5) A [(1,k 5,B),(1,B,A)] rfl h0 h1
theorem Mu{a b c d e:Nat}(h0:b=c\/d<=b)(h1:c=a+1+e)(h2:d=c+2):a≠b:=fun q=>Uq a (have h:a<c:=h1▸TH (a+1) e;h0.elim (fun r=>q.trans r▸h) fun r=>TJ h (SJ (h2▸TH c 2) (q▸r)))
theorem Mt(h0:3=1\/3=2):False:=(by decide:¬(3=1\/3=2)) h0
theorem Ms(h0:3=4):False:=Tc 0 (lE [] af dE [(1,k 4,k 3)] rfl (SM h0.symm))
theorem Mr(h0:4=1\/4=2):False:=(by decide:¬(4=1\/4=2)) h0
theorem Mq(h0:4=3):False:=Tc 0 (lE [] af dE [(1,k 4,k 3)] rfl (SM h0))
theorem Mp{a b c:Nat}(h0:b<=c)(h1:a<=1):a+b<=c+1:=lE [a,b,c] (s A B) (s C af) [(1,B,C),(1,A,k 1)] rfl h0 h1
theorem Mo{a b:Nat}(h0:b<=20)(h1:a<=b):a<=100000:=lE [a,b] A qj [(1,B,k 20),(1,A,B)] rfl h0 h1
theorem Mm{a:Nat}(h0:a<=1000):a+1<=100000:=lE [a] (s A af) qj [(1,A,k 1000)] rfl h0
theorem Ml{a b:Nat}(h0:a+(b+1)<=1000):a<=1000:=lE [a,b] A oM [(1,s A (s B af),k 1000)] rfl h0
theorem Mk{a b c:Nat}(h0:a+(c+1)<=1000)(h1:b<=1):a+b+c<=1000:=lE [a,b,c] (s (s A B) C) oM [(1,s A (s C af),k 1000),(1,B,k 1)] rfl h0 h1
theorem IQ{a b:Nat}(h0:a>=b):a=b+(a-b):=(Nat.add_sub_cancel' h0).symm
theorem Mj{a b c:Nat}(h0:a<b):a<b+(c+1):=lE [a,b,c] (s A af) (s B (s C af)) [(1,s A af,B)] rfl h0
theorem Mi{a b c d:Nat}(h0:b=d)(h1:a+(d+c)<=1000):a+b+c<=1000:=lE [a,b,c,d] (s (s A B) C) oM [(1,B,D),(1,s A (s D C),k 1000)] rfl (SM h0) h1
theorem Mh{a b:Nat}:a+(b+1)=a+b+1:=TQ (lE [a,b] (s A (s B af)) (s (s A B) af) [] rfl) (lE [a,b] (s (s A B) af) (s A (s B af)) [] rfl)
theorem Mg{a b c d:Nat}(h0:c<=b)(h1:c=a+d+1):a<=b:=lE [a,b,c,d] A B [(1,C,B),(1,s (s A D) af,C)] rfl h0 (SM h1.symm)
theorem Mf{a b c d:Nat}(h0:a=b)(h1:c+(b+d)<=1000):a<=100000:=lE [a,b,c,d] A qj [(1,A,B),(1,s C (s B D),k 1000)] rfl (SM h0) h1
theorem Me{a b c:Nat}(h0:a<b):¬a=b+c:=fun e=>Tc 0 (lE [a,b,c] af dE [(1,s A af,B),(1,s B C,A)] rfl h0 (SM e.symm))
theorem Md{a b c d:Nat}(h0:b=c)(h1:a+(c+d)<=1000):a+b<=100000:=lE [a,b,c,d] (s A B) qj [(1,B,C),(1,s A (s C D),k 1000)] rfl (SM h0) h1
theorem Mc{a:Nat}(h0:a<=900):1+a<=1000:=lE [a] (s af A) oM [(1,A,k 900)] rfl h0
theorem Mb{a b:Nat}(h0:1<=b/\b<=50)(h1:b<=a):1<=a:=lE [a,b] af A [(1,k 1,B),(1,B,A)] rfl h0.1 h1
theorem Ma{a b:Nat}(h0:a+b<=100):a+b<=100000:=lE [a,b] (s A B) qj [(1,s A B,k 100)] rfl h0
theorem L9{a:Nat}(h0:29<=a):a=a-3+3:=(Uz (SJ (by decide) h0)).symm
theorem L7{a:Nat}(h0:a<=0+20):a<=40:=lE [a] A (k 40) [(1,A,s dE ux)] rfl h0
theorem IP{a:Nat}(h0:a<=900):a+1<=1000:=lE [a] (s A af) oM [(1,A,k 900)] rfl h0
theorem IO{a:Nat}(h0:a<=900):a+1+1<=1000:=lE [a] (s (s A af) af) oM [(1,A,k 900)] rfl h0
theorem L0{a:Nat}(h0:a<=900):a+3<=1000:=lE [a] (s A sL) oM [(1,A,k 900)] rfl h0
theorem LZ{a:Nat}(h0:a<=900):a+3+1<=1000:=lE [a] (s (s A sL) af) oM [(1,A,k 900)] rfl h0
theorem LY{a b c d e:Nat}(h0:c=d+2)(h1:a<d)(h2:e<=b)(h3:e=c+10):a<=b:=lE [a,b,d,c,e] A B [(1,s C fA,D),(1,s A af,C),(1,E,B),(1,s D (k 10),E)] rfl (SM h0.symm) h1 h2 (SM h3.symm)
theorem IN{a b:Nat}(h0:b<=7)(h1:a<=b):a<=7:=lE [a,b] A (k 7) [(1,B,k 7),(1,A,B)] rfl h0 h1
theorem LW{a:Nat}(h0:a<=7):a+1<=100000:=lE [a] (s A af) qj [(1,A,k 7)] rfl h0
theorem LV{a:Nat}(h0:a<=7):a+min 1 a<=100000:=SJ (Ug h0 (Uo 1 a)) (by decide)
theorem LU{a:Nat}(h0:a<=7):a+min 1 a<=8:=Ug h0 (Uo 1 a)
theorem LT{a:Nat}(h0:a=0):a<=1:=lE [a] A af [(1,A,k 0)] rfl (SM h0)
theorem IM{a:Nat}(h0:a<=7):a+1<=20:=lE [a] (s A af) ux [(1,A,k 7)] rfl h0
theorem LS{a:Nat}(h0:a=0):a+1<=200:=lE [a] (s A af) (k 200) [(1,A,k 0)] rfl (SM h0)
theorem LQ{a b:Nat}(h0:a+(b+1)<=30):a+1<=30:=lE [a,b] (s A af) (k 30) [(1,s A (s B af),k 30)] rfl h0
theorem LP{a b c:Nat}(h0:a+(c+1)<=20)(h1:b<=1):a+b+c<=20:=lE [a,b,c] (s (s A B) C) ux [(1,s A (s C af),k 20),(1,B,k 1)] rfl h0 h1
theorem LO{a b c:Nat}(h0:c+(b+1)<=30)(h1:a<=c+1):a+b<=30:=lE [a,b,c] (s A B) (k 30) [(1,s C (s B af),k 30),(1,A,s C af)] rfl h0 h1
theorem LN{a b:Nat}(h0:a+(b+1)<=30):a+b<=30:=lE [a,b] (s A B) (k 30) [(1,s A (s B af),k 30)] rfl h0
theorem LM{a b:Nat}(h0:a+b<=199):a+b<=200:=lE [a,b] (s A B) (k 200) [(1,s A B,k 199)] rfl h0
theorem LL{a b c:Nat}(h0:b+c<=199)(h1:a<=b+c):a+1<=200:=lE [a,b,c] (s A af) (k 200) [(1,s B C,k 199),(1,A,s B C)] rfl h0 h1
theorem LK{a b c:Nat}(h0:a<c)(h1:c<=b):a≠b:=fun e=>Tc 0 (lE [a,c,b] af dE [(1,s A af,B),(1,B,C),(1,C,A)] rfl h0 h1 (SM e.symm))
theorem LJ{a b c:Nat}(h0:b+1<c)(h1:c<=a):a≠b/\a≠b+1:=⟨fun e=>Tc 0 (lE [b,c,a] af dE [(1,s (s A af) af,B),(1,B,C),(1,C,A)] rfl h0 h1 (SM e)),fun e=>Tc 0 (lE [b,c,a] af dE [(1,s (s A af) af,B),(1,B,C),(1,C,s A af)] rfl h0 h1 (SM e))⟩
theorem LI{a b:Nat}(h0:a<=7)(h1:b<=1):a+b<=8:=lE [a,b] (s A B) (k 8) [(1,A,k 7),(1,B,k 1)] rfl h0 h1
theorem IL{a b:Nat}(h0:b<=8)(h1:a<=8):a+b<=20:=lE [a,b] (s A B) ux [(1,B,k 8),(1,A,k 8)] rfl h0 h1
theorem LH{a b:Nat}(h0:b<=8)(h1:a<=1):a+b<=30:=lE [a,b] (s A B) (k 30) [(1,B,k 8),(1,A,k 1)] rfl h0 h1
theorem LG{a b:Nat}(h0:b<=8)(h1:a<=1):a+b<=199:=lE [a,b] (s A B) (k 199) [(1,B,k 8),(1,A,k 1)] rfl h0 h1
theorem Nm{a:Int}{b:Nat}(h0:¬(b:Int)<=a):a<(b:Int):=Int.not_le.mp h0
end
theorem rn{x y a b:Nat}:(if x=b then a else x)=(if y=b then a else y)↔x=y\/(x=a/\y=b)\/(x=b/\y=a):=by
 by_cases h:x=b<;>by_cases g:y=b
 ·rw[SQ h,SQ g];exact⟨fun _=>.inl (h.trans g.symm),fun _=>rfl⟩
 ·rw[SQ h,SL g];exact⟨fun e=>.inr (.inr ⟨h,e.symm⟩),fun e=>e.elim (fun e=>SP (e.symm.trans h) g) fun e=>e.elim (fun e=>SP e.2 g) fun e=>e.2.symm⟩
 ·rw[SL h,SQ g];exact⟨fun e=>.inr (.inl ⟨e,g⟩),fun e=>e.elim (fun e=>SP (e.trans g) h) fun e=>e.elim (fun e=>e.1) fun e=>SP e.1 h⟩
 ·rw[SL h,SL g];exact⟨.inl,fun e=>e.elim id fun e=>e.elim (fun e=>SP e.2 g) fun e=>SP e.1 h⟩
theorem bZ{α:Type u}{a:α}{P:Prop}(h:none=some a):P:=nomatch h
noncomputable def lN{α:Type u}(n:α)(P:α->Prop):α:=@Classical.epsilon α ⟨n⟩ fun a=>¬P a
theorem bF{α:Type u}{n:α}(P:α->Prop)(h:P (lN n P))(a:α):P a:=Classical.byContradiction fun e=>@Classical.epsilon_spec α (fun a=>¬P a) ⟨a,e⟩ h
end
section
open PySem
noncomputable def aT:List String:=["","a","b","f","g","h","c","?x","?y","?","fg","alike","unlike","rule","like","r","order","together","turns","rests","nodes","most","pairs","cells","at","()[]{},:"]
noncomputable def bP:List String:=["nodes","numbers","weights","depths","above","lots","merged","bank","unions","edges","forest","known","waiting","backs","heap","name","left","right","needs","rules","options","walker","placer","history","rounds","rests","wakes",
 "append","extend","pop","index","get","setdefault","isspace","items",
 "size","take","require","op","kids","make","find","merge","members","classes","node","add","look_at","join","settle","nodes_of","seek","extended","found_in","found","put","class_of","holds","is_full","matches","apply","apply_all"]
set_option genInjectivity true in
inductive AV where
 | none
 | bool (b:Bool)
 | int (i:Int)
 | sym (k:Nat)
 | tup (vs:List AV)
 | ref (n:Nat)
 | frz (vs:List AV)
 | fset (vs:List AV)
 | view (r:Nat)
 | rng (n:Nat)
 | enm (v:AV)
 | zp (a b:AV)
mutual
noncomputable def AV.bq:AV->AV->Bool
 | .bool a,.bool b=>a==b
 | .int a,.int b=>decide (a=b)
 | .sym a,.sym b=>decide (a=b)
 | .tup a,.tup b=>AV.bqs a b
 | .ref a,.ref b=>decide (a=b)
 | .frz a,.frz b=>AV.bqs a b
 | .fset a,.fset b=>AV.bqs a b
 | .view a,.view b=>decide (a=b)
 | .rng a,.rng b=>decide (a=b)
 | .enm a,.enm b=>Nat.beq a.ctorIdx b.ctorIdx&&AV.bq a b
 | .zp a b,.zp a' b'=>(Nat.beq a.ctorIdx a'.ctorIdx&&AV.bq a a')&&(Nat.beq b.ctorIdx b'.ctorIdx&&AV.bq b b')
 | _,_=>true
noncomputable def AV.bqs:List AV->List AV->Bool
 | [],[]=>true
 | a::as,b::bs=>(Nat.beq a.ctorIdx b.ctorIdx&&AV.bq a b)&&AV.bqs as bs
 | _,_=>false
end
noncomputable def AV.beq(a b:AV):Bool:=Nat.beq a.ctorIdx b.ctorIdx&&AV.bq a b
theorem AV.bq_up{a b:AV}(k:b.ctorIdx=a.ctorIdx->AV.bq a b=true->a=b)(h:(Nat.beq a.ctorIdx b.ctorIdx&&AV.bq a b)=true):a=b:=
 have h:=SU.mp h
 k (Ui h.1).symm h.2
mutual
theorem AV.bq_eq:∀ a b:AV,b.ctorIdx=a.ctorIdx->AV.bq a b=true->a=b
 | .none,b,i,h=>@AV.none.elim (fun b=>AV.none=b) b i rfl
 | .bool a,b,i,h=>@AV.bool.elim (fun b=>AV.bq (.bool a) b=true->AV.bool a=b) b i (fun _ h=>SI _ (eq_of_beq h)) h
 | .int a,b,i,h=>@AV.int.elim (fun b=>AV.bq (.int a) b=true->AV.int a=b) b i (fun _ h=>SI _ (SO h)) h
 | .sym a,b,i,h=>@AV.sym.elim (fun b=>AV.bq (.sym a) b=true->AV.sym a=b) b i (fun _ h=>SI _ (SO h)) h
 | .tup a,b,i,h=>@AV.tup.elim (fun b=>AV.bq (.tup a) b=true->AV.tup a=b) b i (fun _ h=>SI _ (AV.bqs_eq a _ h)) h
 | .ref a,b,i,h=>@AV.ref.elim (fun b=>AV.bq (.ref a) b=true->AV.ref a=b) b i (fun _ h=>SI _ (SO h)) h
 | .frz a,b,i,h=>@AV.frz.elim (fun b=>AV.bq (.frz a) b=true->AV.frz a=b) b i (fun _ h=>SI _ (AV.bqs_eq a _ h)) h
 | .fset a,b,i,h=>@AV.fset.elim (fun b=>AV.bq (.fset a) b=true->AV.fset a=b) b i (fun _ h=>SI _ (AV.bqs_eq a _ h)) h
 | .view a,b,i,h=>@AV.view.elim (fun b=>AV.bq (.view a) b=true->AV.view a=b) b i (fun _ h=>SI _ (SO h)) h
 | .rng a,b,i,h=>@AV.rng.elim (fun b=>AV.bq (.rng a) b=true->AV.rng a=b) b i (fun _ h=>SI _ (SO h)) h
 | .enm a,b,i,h=>@AV.enm.elim (fun b=>AV.bq (.enm a) b=true->AV.enm a=b) b i (fun _ h=>SI _ (AV.bq_up (AV.bq_eq a _) h)) h
 | .zp a c,b,i,h=>@AV.zp.elim (fun b=>AV.bq (.zp a c) b=true->AV.zp a c=b) b i (fun _ _ h=>have h:=SU.mp h;congr (SI _ (AV.bq_up (AV.bq_eq a _) h.1)) (AV.bq_up (AV.bq_eq c _) h.2)) h
theorem AV.bqs_eq:∀ a b:List AV,AV.bqs a b=true->a=b
 | [],[]=>fun _=>rfl
 | [],_::_=>fun h=>nomatch(show false=true from h)
 | _::_,[]=>fun h=>nomatch(show false=true from h)
 | a::as,b::bs=>fun h=>have h:=SU.mp h;congr (SI _ (AV.bq_up (AV.bq_eq a b) h.1)) (AV.bqs_eq as bs h.2)
end
theorem AV.bq_dn{a:AV}(h:AV.bq a a=true):(Nat.beq a.ctorIdx a.ctorIdx&&AV.bq a a)=true:=SU.mpr ⟨Nat.beq_refl _,h⟩
mutual
theorem AV.bq_rfl:∀ a:AV,AV.bq a a=true
 | .none=>rfl
 | .bool a=>beq_self_eq_true a
 | .int a=>SV rfl
 | .sym a=>SV rfl
 | .tup a=>AV.bqs_rfl a
 | .ref a=>SV rfl
 | .frz a=>AV.bqs_rfl a
 | .fset a=>AV.bqs_rfl a
 | .view a=>SV rfl
 | .rng a=>SV rfl
 | .enm a=>AV.bq_dn (AV.bq_rfl a)
 | .zp a c=>SU.mpr ⟨AV.bq_dn (AV.bq_rfl a),AV.bq_dn (AV.bq_rfl c)⟩
theorem AV.bqs_rfl:∀ a:List AV,AV.bqs a a=true
 | []=>rfl
 | a::as=>SU.mpr ⟨AV.bq_dn (AV.bq_rfl a),AV.bqs_rfl as⟩
end
theorem AV.beq_iff(a b:AV):AV.beq a b=true↔a=b:=⟨AV.bq_up (AV.bq_eq a b),fun e=>e▸AV.bq_dn (AV.bq_rfl a)⟩
noncomputable instance:DecidableEq AV:=fun a b=>decidable_of_iff (AV.beq a b=true) (AV.beq_iff a b)
inductive AO where
 | list (vs:List AV)
 | dict (es:List (AV×AV))
 | inst (c:Nat) (fs:List (Nat×AV))
 | hid
noncomputable abbrev St:=List AO
noncomputable abbrev En:=Nat->Option AV
inductive ax where
 | one (i:Nat)
 | many (is:List Nat)
set_option genCtorIdx false in
inductive am where
 | none | bool (b:Bool) | int (i:Int) | sym (k:Nat)
noncomputable def am.av:am->AV
 | .none=>.none | .bool b=>.bool b | .int i=>.int i | .sym k=>.sym k
noncomputable def Kn:List String:=["is_op","is_variable","variables","parts","_law_dip","_law_nodes","_law_picked","_law_right","_law_same","_law_done","_law_homes","law"]
inductive cQ where | add | sub | mul | mod
inductive aS where | eq | ne | lt | le | gt | ge | isIn | notIn | is
inductive Sl where | tail | first | rev | first30
inductive aO where | len | int | max | sum | dict | sorted | set | listOf | tupleOf | range | enum | zip
 deriving DecidableEq
set_option genCtorIdx false in
inductive X where
 | cst (c:am)
 | loc (i:Nat)
 | glob (k:Nat)
 | attr (e:X) (a:Nat)
 | sub (e i:X)
 | slc (e:X) (k:Sl)
 | neg (e:X)
 | bin (op:cQ) (a b:X)
 | cmp (op:aS) (a b:X)
 | cmp2 (op op':aS) (a b c:X)
 | and (a b:X)
 | or (a b:X)
 | not (a:X)
 | ite (c a b:X)
 | tup (es:List X)
 | lst (es:List X)
 | dct (ks:List Nat) (vs:List X)
 | call (f:Nat) (es:List X)
 | new (c:Nat) (es:List X)
 | meth (e:X) (m:Nat) (es:List X)
 | blt (b:aO) (es:List X)
 | comp (e:X) (p:ax) (it:X) (c:List X)
 | comp2 (e:X) (p:ax) (it:X) (p':ax) (it':X)
set_option genCtorIdx false in
inductive S where
 | expr (e:X)
 | ret (e:X)
 | retNone
 | asg (p:ax) (e:X)
 | setAttr (o:X) (a:Nat) (e:X)
 | setSub (o i e:X)
 | ite (c:X) (a b:List S)
 | whl (c:X) (b:List S)
 | for_ (p:ax) (it:X) (b:List S)
 | raise
structure Cx where
 sc:List (Str×NameKind)
 sl:List (Str×Nat)
noncomputable def be(tab:List String)(s:Str):Option Nat:=tab.findIdx? fun t=>Str.ofString t==s
structure oH where
 fns:List String
 clss:List String
 globs:List String
noncomputable def TB:oH:=⟨Kn,["Bank","Unions","Heap","Walker","Rule","Placer","Runner"],["_law_lefts","_law_rights","ORDERS"]⟩
noncomputable def ef:CmpOp->Option aS
 | .Eq=>some .eq | .NotEq=>some .ne | .Lt=>some .lt | .LtE=>some .le | .Gt=>some .gt | .GtE=>some .ge | .In=>some .isIn | .NotIn=>some .notIn | .Is=>some .is | _=>none
noncomputable def Aa:Operator->Option cQ
 | .Add=>some .add | .Sub=>some .sub | .Mult=>some .mul | .Mod=>some .mod | _=>none
noncomputable def mH:Option NameKind->Bool
 | some .local | some .cell | some .free=>true
 | _=>false
noncomputable def dz:Option NameKind->Bool
 | some .globalImplicit=>true
 | _=>false
noncomputable def Bg{α:Type}(d:α)(n:Str->α)(t:List Expr->α)(c:Const->α)(u:UnaryOp->Expr->α)(s:Option Expr->Option Expr->Option Expr->α)(a:Expr->Str->α)(b:Expr->Expr->α)(l:α):Expr->α
 | .Name x _=>n x
 | .Tuple es _ _=>t es
 | .Constant k _ _=>c k
 | .UnaryOp o e _=>u o e
 | .Slice p q r _=>s p q r
 | .Attribute o m _=>a o m
 | .Subscript o i _=>b o i
 | .ListComp ..=>l
 | _=>d
theorem vw{α:Type}{d r:α}{n:Str->α}{t:List Expr->α}{c:Const->α}{u:UnaryOp->Expr->α}{s:Option Expr->Option Expr->Option Expr->α}{a:Expr->Str->α}{b:Expr->Expr->α}{l:α}{C:Expr->Prop}{e:Expr}(h:Bg d n t c u s a b l e=r)
  (hd:d=r->C e) (hn:∀ x p,n x=r->C (.Name x p)) (ht:∀ es k p,t es=r->C (.Tuple es k p)) (hc:∀ k x p,c k=r->C (.Constant k x p)) (hu:∀ o e p,u o e=r->C (.UnaryOp o e p)) (hs:∀ x y z p,s x y z=r->C (.Slice x y z p))
  (ha:∀ o m p,a o m=r->C (.Attribute o m p)) (hb:∀ o i p,b o i=r->C (.Subscript o i p)) (hl:l=r->C e):C e:=by
 cases e with
 | Name=>exact hn _ _ h
 | Tuple=>exact ht _ _ _ h
 | Constant=>exact hc _ _ _ h
 | UnaryOp=>exact hu _ _ _ h
 | Slice=>exact hs _ _ _ _ h
 | Attribute=>exact ha _ _ _ h
 | Subscript=>exact hb _ _ _ h
 | ListComp=>exact hl h
 | _=>exact hd h
noncomputable def ul(e:Expr):Option Str:=Bg none some (fun _=>none) (fun _=>none) (fun _ _=>none) (fun _ _ _=>none) (fun _ _=>none) (fun _ _=>none) none e
noncomputable def ro(e:Expr):Option (List Expr):=Bg none (fun _=>none) some (fun _=>none) (fun _ _=>none) (fun _ _ _=>none) (fun _ _=>none) (fun _ _=>none) none e
noncomputable def ka(cx:Cx)(e:Expr):Option Nat:=(ul e).bind fun x=>bif mH (cx.sc.lookup x) then cx.sl.lookup x else none
noncomputable def nQ(cx:Cx):List Expr->Option (List Nat)
 | []=>some []
 | e::r=>(ka cx e).bind fun i=>(nQ cx r).map (i::·)
noncomputable def bD(cx:Cx)(e:Expr):Option ax:=match ka cx e with
 | some i=>some (.one i)
 | none=>(ro e).bind fun es=>(nQ cx es).map .many
noncomputable def aM(sc:List (Str×NameKind)):List Str:=(sc.filter fun x=>x.2==.local||x.2==.cell).map (·.1)
noncomputable def eu(cx:Cx)(sc:Scope):Bool:=decide (sc.kind=.function)&&decide ((sc.names.map (·.1)).Nodup)&&sc.names.all fun x=>decide (x.2=.local)||decide (x.2=.globalImplicit)||(decide (x.2=.free)&&decide (cx.sc.lookup x.1=some .cell))
noncomputable def yv(sc:Scope):Bool:=decide (sc.kind=.function)&&!sc.isGenerator&&!sc.isCoroutine&&decide ((sc.names.map (·.1)).Nodup)&&sc.names.all fun x=>decide (x.2=.local)||decide (x.2=.globalImplicit)||decide (x.2=.cell)
noncomputable def bo(n:Nat):List Str->List (Str×Nat)
 | []=>[]
 | x::r=>(x,n)::bo (n+1) r
noncomputable def Cx.inner(cx:Cx)(sc:Scope):Cx:=⟨sc.names,bo cx.sl.length (aM sc.names)++cx.sl⟩
noncomputable def cP{α:Type}(x y:Option α):Option α:=match x with | some a=>some a | none=>y
noncomputable def de{α:Type}(c:Bool)(x:α):Option α:=bif c then some x else none
section
variable{α β:Type}{x y:Option α}{r:β}{a s:α}{c:Bool}{P:Prop}
theorem ae{f:α->Option β}(h:x.bind f=some r)(k:∀ a,x=some a->f a=some r->P):P:=by
 cases x with
 | none=>cases h
 | some a=>exact k a rfl h
theorem aI{f:α->β}(h:x.map f=some r)(k:∀ a,x=some a->f a=r->P):P:=by
 cases x with
 | none=>cases h
 | some a=>exact k a rfl (S0 h)
theorem bu(h:cP x y=some s)(k1:x=some s->P)(k2:y=some s->P):P:=by
 cases x with
 | none=>exact k2 h
 | some a=>exact k1 h
theorem cO(h:de c a=some s)(k:c=true->a=s->P):P:=by
 cases c with
 | false=>cases h
 | true=>exact k rfl (S0 h)
theorem bj(h:(bif c then x else y)=some s)(k1:c=true->x=some s->P)(k2:c=false->y=some s->P):P:=by
 cases c with
 | false=>exact k2 rfl h
 | true=>exact k1 rfl h
end
noncomputable def dU{α β:Type}(vs:List α)(f:α->Option β):Option β:=match vs with
 | [v]=>f v
 | _=>none
noncomputable def qV{α β:Type}(vs:List α)(f:α->α->Option β):Option β:=match vs with
 | [v,u]=>f v u
 | _=>none
theorem gW{α β:Type}{P:Prop}{vs:List α}{f:α->Option β}{r:β}(h:dU vs f=some r)(k:∀ v,vs=[v]->f v=some r->P):P:=by
 match vs,h with
 | [v],h=>exact k v rfl h
theorem kU{α β:Type}{P:Prop}{vs:List α}{f:α->α->Option β}{r:β}(h:qV vs f=some r)(k:∀ v u,vs=[v,u]->f v u=some r->P):P:=by
 match vs,h with
 | [v,u],h=>exact k v u rfl h
noncomputable def Ol(e:Expr):Option Const:=Bg none (fun _=>none) (fun _=>none) some (fun _ _=>none) (fun _ _ _=>none) (fun _ _=>none) (fun _ _=>none) none e
noncomputable def uM(o:Option Expr):Option Const:=o.bind Ol
noncomputable def Jz:Const->Option Int
 | .int i=>some i
 | _=>none
noncomputable def Ek:Const->Option Str
 | .str s=>some s
 | _=>none
noncomputable def vX(e:Option Expr):Option Int:=(uM e).bind Jz
noncomputable def uI(op:UnaryOp)(e:Expr):Option Int:=match op with | .USub=>vX (some e) | _=>none
noncomputable def EY(o:Option Expr):Option Int:=o.bind (Bg none (fun _=>none) (fun _=>none) (fun _=>none) uI (fun _ _ _=>none) (fun _ _=>none) (fun _ _=>none) none)
noncomputable def f8(l u st:Option Expr):Option Sl:=
 cP (de (decide (vX l=some 1)&&u.isNone&&st.isNone) .tail) (cP (de (l.isNone&&decide (vX u=some 1)&&st.isNone) .first) (cP (de (l.isNone&&decide (vX u=some 30)&&st.isNone) .first30) (de (l.isNone&&u.isNone&&decide (EY st=some 1)) .rev)))
noncomputable def jA:List (Option Expr)->Option (List Nat)
 | []=>some []
 | o::r=>((uM o).bind Ek).bind fun s=>(be aT s).bind fun k=>(jA r).map (k::·)
noncomputable def ti:aO->Str
 | .len=>"len" | .int=>"int" | .max=>"max" | .sum=>"sum" | .dict=>"dict" | .sorted=>"sorted" | .set=>"set" | .listOf=>"list" | .tupleOf=>"tuple" | .range=>"range" | .enum=>"enumerate" | .zip=>"zip"
noncomputable def mS(x:Str):Option aO:=[aO.len,.int,.max,.sum,.dict,.sorted,.set,.listOf,.tupleOf,.range,.enum,.zip].find? fun b=>ti b==x
noncomputable def yP(sc:List (Str×NameKind))(e:Expr):Bool:=((ul e).map fun x=>decide (sc.lookup x=some .local)).getD false
noncomputable def du(sc:List (Str×NameKind))(e:Expr):Bool:=yP sc e||((ro e).map (·.all (yP sc))).getD false
noncomputable def g9(T:oH)(x:Str)(es:List X):Option X:=match mS x with
 | some b=>some (.blt b es)
 | none=>match be T.fns x with
  | some f=>some (.call f es)
  | none=>(be T.clss x).map fun c=>.new c es
noncomputable def OM:Const->Option X
 | .none=>some (.cst .none)
 | .bool b=>some (.cst (.bool b))
 | .int i=>some (.cst (.int i))
 | .str s=>(be aT s).map fun k=>.cst (.sym k)
 | _=>none
noncomputable def xB(T:oH)(cx:Cx)(x:Str):Option X:=bif x==("__debug__":Str) then none else bif mH (cx.sc.lookup x) then(cx.sl.lookup x).map .loc else bif dz (cx.sc.lookup x) then(be T.globs x).map .glob else none
noncomputable def HR(e:Expr):Option Sl:=Bg none (fun _=>none) (fun _=>none) (fun _=>none) (fun _ _=>none) f8 (fun _ _=>none) (fun _ _=>none) none e
noncomputable def K7(op:UnaryOp)(a:X):Option X:=match op with
 | .USub=>some (.neg a)
 | .Not=>some (.not a)
 | _=>none
noncomputable def HT(a:X)(ops:List CmpOp)(bs:List X):Option X:=
 cP (dU ops fun op=>dU bs fun b=>(ef op).map fun o=>.cmp o a b) (qV ops fun op op'=>qV bs fun b c=>(ef op).bind fun o=>(ef op').map fun o'=>.cmp2 o o' a b c)
noncomputable def DV(op:BoolOp)(bs:List X):Option X:=qV bs fun a b=>some (match op with | .And=>.and a b | .Or=>.or a b)
mutual
noncomputable def tr(T:oH)(cx:Cx):Expr->Option X
 | .Constant c _ _=>OM c
 | .Name x _=>xB T cx x
 | .Attribute e n _=>(tr T cx e).bind fun a=>(be bP n).bind fun k=>de (decide (k<27)) (.attr a k)
 | .Subscript e i _=>(tr T cx e).bind fun a=>cP ((HR i).map (.slc a)) ((tr T cx i).map (.sub a))
 | .UnaryOp op e _=>(tr T cx e).bind (K7 op)
 | .BinOp l op r _=>(tr T cx l).bind fun a=>(Aa op).bind fun o=>(tr T cx r).map (.bin o a)
 | .Compare l ops rs _=>(tr T cx l).bind fun a=>(vd T cx rs).bind (HT a ops)
 | .BoolOp op es _=>(vd T cx es).bind (DV op)
 | .IfExp c a b _=>(tr T cx c).bind fun c=>(tr T cx a).bind fun a=>(tr T cx b).map (.ite c a)
 | .Tuple es _ _=>(vd T cx es).map .tup
 | .List es _=>(vd T cx es).map .lst
 | .Dict ks vs _=>(jA ks).bind fun ks=>(vd T cx vs).bind fun vs=>de (decide (ks.length=vs.length)) (.dct ks vs)
 | .Call f es kws pos=>bif kws.isEmpty then match f with
   | .Name x _=>bif dz (cx.sc.lookup x) then(vd T cx es).bind (g9 T x) else none
   | .Attribute o m ap=>bif decide (ap.endLine=pos.line)&&decide (es.length<30) then(tr T cx o).bind fun a=>(be bP m).bind fun k=>(vd T cx es).map (.meth a k) else none
   | _=>none
  else none
 | .ListComp e gs sc _=>match gs with
   | [⟨t,it,cs,z⟩]=>bif decide (z=0)&&(eu cx sc&&du sc.names t) then(tr T cx it).bind fun i=>(bD (cx.inner sc) t).bind fun p=>(vd T (cx.inner sc) cs).bind fun c=>(tr T (cx.inner sc) e).map fun a=>.comp a p i c else none
   | [⟨t,it,cs,z⟩,⟨t',it',cs',z'⟩]=>bif decide (z=0)&&decide (z'=0)&&cs.isEmpty&&cs'.isEmpty&&(eu cx sc&&du sc.names t&&du sc.names t') then(tr T cx it).bind fun i=>(bD (cx.inner sc) t).bind fun p=>(tr T (cx.inner sc) it').bind fun i'=>(bD (cx.inner sc) t').bind fun p'=>(tr T (cx.inner sc) e).map fun a=>.comp2 a p i p' i' else none
   | _=>none
 | _=>none
noncomputable def vd(T:oH)(cx:Cx):List Expr->Option (List X)
 | []=>some []
 | e::r=>(tr T cx e).bind fun a=>(vd T cx r).map (a::·)
end
noncomputable def dn(t e:Expr):Bool:=match t,e with
 | .Tuple ..,.Tuple vs _ _=>vs.all (foldedForSure 8)||!vs.all (constantsAlone 8)
 | _,_=>true
noncomputable def ax.nodup:ax->Bool
 | .one _=>true
 | .many is=>decide is.Nodup
noncomputable def uk(e:Expr):Bool:=Bg true (fun _=>true) (fun _=>true) (fun _=>true) (fun _ _=>true) (fun _ _ _=>true) (fun _ _=>true) (fun _ _=>true) false e
noncomputable def C3(T:oH)(cx:Cx)(t:Expr)(b:X):Option S:=Bg none (fun _=>none) (fun _=>none) (fun _=>none) (fun _ _=>none) (fun _ _ _=>none) (fun o n=>(tr T cx o).bind fun a=>(be bP n).bind fun k=>de (decide (k<27)) (.setAttr a k b)) (fun o i=>(tr T cx o).bind fun a=>(tr T cx i).map fun k=>.setSub a k b) none t
noncomputable def HU(T:oH)(cx:Cx)(e:Expr)(ts:List Expr):Option S:=dU ts fun t=>
 (tr T cx e).bind fun b=>cP (C3 T cx t b) (bif dn t e then(bD cx t).bind fun p=>de (ax.nodup p) (.asg p b) else none)
mutual
noncomputable def K9(T:oH)(cx:Cx):Stmt->Option S
 | .Expr e _=>bif uk e then(tr T cx e).map .expr else none
 | .Return v _=>match v with
  | some e=>(tr T cx e).map .ret
  | none=>some .retNone
 | .Assign ts e _=>HU T cx e ts
 | .If c a b _=>(tr T cx c).bind fun c=>(trSs T cx a).bind fun a=>(trSs T cx b).map (.ite c a)
 | .While c b z _=>bif z.isEmpty then(tr T cx c).bind fun c=>(trSs T cx b).map (.whl c) else none
 | .For t it b z _=>bif z.isEmpty then(bD cx t).bind fun p=>(tr T cx it).bind fun i=>(trSs T cx b).map (.for_ p i) else none
 | .Raise _ _ _=>some .raise
 | _=>none
noncomputable def trSs(T:oH)(cx:Cx):List Stmt->Option (List S)
 | []=>some []
 | s::r=>(K9 T cx s).bind fun a=>(trSs T cx r).map (a::·)
end
noncomputable def i5(sc:Scope):Cx:=⟨sc.names,bo 0 (aM sc.names)⟩
noncomputable def ay:Nat:=100000
noncomputable def AV.purF(f:List AV->Bool):AV->Bool
 | .int _=>true
 | .sym _=>true
 | .tup vs=>f vs
 | _=>false
noncomputable def AV.purD:Nat->AV->Bool
 | 0=>AV.purF fun _=>false
 | d+1=>AV.purF fun vs=>vs.all (AV.purD d)
noncomputable def AV.pur(v:AV):Bool:=v.purD 6
noncomputable def AV.purs(vs:List AV):Bool:=vs.all AV.pur
noncomputable def AV.isIt:AV->Bool
 | .enm _=>true
 | .zp _ _=>true
 | _=>false
noncomputable def bx:AV->Option (List AV)
 | .tup vs=>some vs
 | _=>none
noncomputable def bG:AV->Option Nat
 | .ref r=>some r
 | _=>none
noncomputable def cI:AV->Option Int
 | .int i=>some i
 | _=>none
noncomputable def d7:AV->Option Nat
 | .sym i=>some i
 | _=>none
noncomputable def iz:AV->Option Bool
 | .bool b=>some b
 | _=>none
noncomputable def oa:AV->Option (List AV)
 | .fset vs=>some vs
 | _=>none
noncomputable def Dt:AV->Option (List AV)
 | .frz vs=>some vs
 | _=>none
noncomputable def yh:AV->Option Nat
 | .rng n=>some n
 | _=>none
noncomputable def xk:AV->Option Nat
 | .view n=>some n
 | _=>none
noncomputable def nY:AV->Bool
 | .none=>true
 | _=>false
noncomputable def cu{α β:Type}(x:Option (α×St))(f:α->St->Option β):Option β:=match x with
 | some (a,Y)=>f a Y
 | none=>none
noncomputable def ret{α:Type}(x:Option α)(Y:St):Option (α×St):=x.map (·,Y)
section
variable{α β:Type}{v:AV}{P:Prop}
theorem aF{x:Option (α×St)}{f:α->St->Option β}{r:β}(h:cu x f=some r)(k:∀ a Y,x=some (a,Y)->f a Y=some r->P):P:=by
 cases x with
 | none=>cases h
 | some p=>exact k _ _ rfl h
theorem ao{x:Option (α×St)}{f:α->St->Option β}{a:α}{Y:St}(h:x=some (a,Y)):cu x f=f a Y:=by rw[h];rfl
theorem jX{x:Option α}{a:α}{Y τ:St}{P:α->St->Prop}(h:ret x Y=some (a,τ))(k:∀ b,x=some b->P b Y):P a τ:=by
 cases x with
 | none=>cases h
 | some b=>cases h;exact k _ rfl
theorem fK{x:Option α}{a:α}{Y:St}(h:x=some a):ret x Y=some (a,Y):=by rw[h];rfl
theorem cX{a b:α}{Y τ:St}{P:α->St->Prop}(h:some (a,Y)=some (b,τ))(k:P a Y):P b τ:=by cases h;exact k
theorem nn{α:Type}{x:α}{P:Prop}(h:none=some x):P:=nomatch h
theorem aC{x:List AV}(h:bx v=some x):v=.tup x:=by cases v<;>first | (cases h;rfl) | exact nn h
theorem bc{x:Nat}(h:bG v=some x):v=.ref x:=by cases v<;>first | (cases h;rfl) | exact nn h
theorem br{x:Int}(h:cI v=some x):v=.int x:=by cases v<;>first | (cases h;rfl) | exact nn h
theorem cy{x:Nat}(h:d7 v=some x):v=.sym x:=by cases v<;>first | (cases h;rfl) | exact nn h
theorem fq{x:Bool}(h:iz v=some x):v=.bool x:=by cases v<;>first | (cases h;rfl) | exact nn h
theorem mL{x:List AV}(h:oa v=some x):v=.fset x:=by cases v<;>first | (cases h;rfl) | exact nn h
theorem zm{x:List AV}(h:Dt v=some x):v=.frz x:=by cases v<;>first | (cases h;rfl) | exact nn h
theorem pG{x:Nat}(h:yh v=some x):v=.rng x:=by cases v<;>first | (cases h;rfl) | exact nn h
theorem uX{x:Nat}(h:xk v=some x):v=.view x:=by cases v<;>first | (cases h;rfl) | exact nn h
theorem fV(h:nY v=true):v=.none:=by cases v<;>first | rfl | exact nomatch(show false=true from h)
end
noncomputable def AV.isSym:AV->Bool
 | .sym _=>true
 | _=>false
noncomputable def gb(k:Nat):Option (List Nat):=bif Nat.ble 1 k&&Nat.ble k 6 then some [k] else none
noncomputable def eL(k:Nat):Option Nat:=bif Nat.ble 1 k&&Nat.ble k 6 then some k else bif Nat.beq k 7||Nat.beq k 8 then some 9 else none
noncomputable def pc(k:Nat)(i:Int):Option Nat:=bif Nat.ble 1 k&&Nat.ble k 6&&decide (i=0) then some k else bif Nat.beq k 10&&decide (i=0) then some 3 else bif Nat.beq k 10&&decide (i=1) then some 4 else none
noncomputable def f9(a b:Nat):Option Bool:=bif (Nat.beq a 7||Nat.beq a 8)&&(Nat.beq b 7||Nat.beq b 8) then some (Nat.blt a b) else none
noncomputable def xK(c s:Nat):Option Bool:=bif Nat.ble 1 c&&Nat.ble c 6&&Nat.beq s 25 then some false else none
noncomputable def eJ(c:Nat):Option Bool:=bif Nat.ble 1 c&&Nat.ble c 6 then some false else none
noncomputable def qq:Nat->Option AV
 | 0=>some (.tup [.tup [.sym 3,.tup [.sym 7]],.tup [.sym 3,.tup [.sym 3,.tup [.sym 7]]],.tup [.sym 4,.tup [.sym 7],.tup [.sym 8]],.tup [.sym 4,.tup [.sym 7],.tup [.sym 7]]])
 | 1=>some (.tup [.tup [.sym 6],.tup [.sym 7],.tup [.sym 5,.tup [.sym 7]]])
 | 2=>some (.tup [.sym 17,.sym 18,.sym 19])
 | _=>none
noncomputable def ah(U:En)(i:Nat)(v:AV):En:=fun j=>if j=i then some v else U j
noncomputable def eI:En->List Nat->List AV->Option En
 | U,[],[]=>some U
 | U,i::is,v::vs=>eI (ah U i v) is vs
 | _,_,_=>none
noncomputable def AO.lst:AO->Option (List AV)
 | .list vs=>some vs
 | _=>none
noncomputable def AO.dct:AO->Option (List (AV×AV))
 | .dict es=>some es
 | _=>none
noncomputable def AO.ins:AO->Option (Nat×List (Nat×AV))
 | .inst c fs=>some (c,fs)
 | _=>none
noncomputable def AO.isHid:AO->Bool
 | .hid=>true
 | _=>false
noncomputable def aj(Y:St)(r:Nat):Option (List AV):=Y[r]?.bind AO.lst
noncomputable def aN(Y:St)(r:Nat):Option (List (AV×AV)):=Y[r]?.bind AO.dct
noncomputable def dR(Y:St)(r:Nat):Option (Nat×List (Nat×AV)):=Y[r]?.bind AO.ins
theorem vZ{Y:St}{r:Nat}{x:List AV}(h:aj Y r=some x):Y[r]?=some (.list x):=ae h fun a h1 h2=>by cases a<;>first | (cases h2;exact h1) | exact nomatch(show none=some x from h2)
theorem wF{Y:St}{r:Nat}{x:List (AV×AV)}(h:aN Y r=some x):Y[r]?=some (.dict x):=ae h fun a h1 h2=>by cases a<;>first | (cases h2;exact h1) | exact nomatch(show none=some x from h2)
theorem wr{Y:St}{r:Nat}{x:Nat×List (Nat×AV)}(h:dR Y r=some x):Y[r]?=some (.inst x.1 x.2):=ae h fun a h1 h2=>by cases a<;>first | (cases h2;exact h1) | exact nomatch(show none=some x from h2)
noncomputable def bV(p:ax)(v:AV)(U:En)(Y:St):Option En:=match p with
 | .one i=>some (ah U i v)
 | .many is=>(cP (bx v) ((bG v).bind (aj Y))).bind (eI U is)
noncomputable def aA(es:List (AV×AV))(k:AV):Option AV:=(es.find? fun e=>decide (e.1=k)).map (·.2)
noncomputable def aU{κ:Type}[DecidableEq κ](es:List (κ×AV))(k:κ)(v:AV):List (κ×AV):=if es.any (fun e=>decide (e.1=k)) then es.map (fun e=>if e.1=k then(e.1,v) else e) else es++[(k,v)]
noncomputable def eU(es:List (AV×AV))(k:AV):List (AV×AV):=es.filter fun e=>!decide (e.1=k)
noncomputable def ww(Y:St)(v:AV)(a:Nat):Option AV:=(bG v).bind fun r=>(dR Y r).bind fun q=>q.2.lookup a
noncomputable def Bf(Y:St)(o:AV)(a:Nat)(v:AV):Option St:=(bG o).bind fun r=>(dR Y r).bind fun q=>de (decide ((aU q.2 a v).length<=100)) (Y.set r (.inst q.1 (aU q.2 a v)))
noncomputable def BC(vs:List AV)(i:Int):Option AV:=bif decide (0<=i) then vs[i.toNat]? else none
noncomputable def ph(Y:St)(v i:AV):Option AV:=
 cP ((bx v).bind fun vs=>(cI i).bind (BC vs)) (cP ((d7 v).bind fun s=>(cI i).bind fun k=>(pc s k).map .sym)
  ((bG v).bind fun r=>cP ((aj Y r).bind fun vs=>(cI i).bind (BC vs)) ((aN Y r).bind fun es=>bif i.pur then aA es i else none)))
noncomputable def x8(Y:St)(o i v:AV):Option St:=(bG o).bind fun r=>
 cP ((aj Y r).bind fun vs=>(cI i).bind fun k=>de (decide (0<=k)&&decide (k.toNat<vs.length)) (Y.set r (.list (vs.set k.toNat v))))
  ((aN Y r).bind fun es=>de (i.pur&&decide ((aU es i v).length<=ay)) (Y.set r (.dict (aU es i v))))
noncomputable def wU(Y:St)(vs:List AV):AV×St:=(.ref Y.length,Y++[.list vs])
noncomputable def nr(Y:St)(v:AV)(k:Sl):Option (AV×St):=match k with
 | .tail=>(bx v).bind fun vs=>bif vs.isEmpty then none else some (.tup vs.tail,Y)
 | .first=>cP ((bx v).bind fun vs=>vs.head?.map fun u=>(.tup [u],Y)) (cP ((d7 v).bind fun s=>(eL s).map fun k=>(.sym k,Y)) ((bG v).bind fun r=>(aj Y r).map fun vs=>wU Y (vs.take 1)))
 | .rev=>(bG v).bind fun r=>(aj Y r).map fun vs=>wU Y vs.reverse
 | .first30=>(Dt v).map fun vs=>wU Y (vs.take 30)
noncomputable def y5(a b:AV)(f:Int->Int->Option (AV×St)):Option (AV×St):=(cI a).bind fun i=>(cI b).bind (f i)
noncomputable def i7(op:cQ)(Y:St)(a b:AV):Option (AV×St):=match op with
 | .add=>cP (y5 a b fun i j=>some (.int (i+j),Y)) (cP ((bx a).bind fun x=>(bx b).bind fun y=>de (!x.isEmpty&&decide ((x++y).length<=ay)) (.tup (x++y),Y))
   ((bG a).bind fun r=>(bG b).bind fun r'=>(aj Y r).bind fun x=>(aj Y r').bind fun y=>de (decide ((x++y).length<=ay)) (wU Y (x++y))))
 | .sub=>y5 a b fun i j=>some (.int (i-j),Y)
 | .mul=>cP (y5 a b fun i j=>de (decide (i.natAbs<2^31)&&decide (j.natAbs<2^31)) (.int (i*j),Y)) ((bG a).bind fun r=>(cI b).bind fun j=>(aj Y r).bind fun x=>dU x fun y=>de (decide (j=1)) (wU Y [y]))
 | .mod=>y5 a b fun i j=>de (decide (0<j)) (.int (i%j),Y)
noncomputable def Of(Y:St)(a b:AV):Option Bool:=
 cP ((iz a).bind fun x=>(iz b).map fun y=>x==y) (cP (de (a.pur&&b.pur) (decide (a=b)))
  ((bG a).bind fun r=>(bG b).bind fun r'=>(aj Y r).bind fun x=>(aj Y r').bind fun y=>de (AV.purs x&&AV.purs y) (decide (x=y))))
noncomputable def NZ(Y:St)(a b:AV):Option Bool:=
 cP ((bG b).bind fun r=>cP ((aN Y r).bind fun es=>de a.pur (aA es a).isSome) ((aj Y r).bind fun vs=>de (a.pur&&AV.purs vs) (decide (a∈vs))))
  (cP ((bx b).bind fun vs=>de (a.pur&&AV.purs vs) (decide (a∈vs))) ((d7 b).bind fun s=>(d7 a).bind fun c=>xK c s))
noncomputable def zS(a b:AV)(f:Int->Int->Bool):Option Bool:=(cI a).bind fun i=>(cI b).map (f i)
noncomputable def bi(op:aS)(Y:St)(a b:AV):Option Bool:=match op with
 | .eq=>Of Y a b
 | .ne=>(Of Y a b).map (!·)
 | .lt=>zS a b fun i j=>decide (i<j)
 | .le=>zS a b fun i j=>decide (i<=j)
 | .gt=>zS a b fun i j=>decide (i > j)
 | .ge=>zS a b fun i j=>decide (i>=j)
 | .isIn=>NZ Y a b
 | .notIn=>(NZ Y a b).map (!·)
 | .is=>bif nY b then cP (de (nY a) true) (de (bx a).isSome false) else none
noncomputable def nk(v:AV):Option Nat:=(bx v).bind fun vs=>vs.head?.bind d7
noncomputable def BQ(a b:AV):Option Bool:=
 cP ((cI a).bind fun i=>(cI b).map fun j=>decide (i<j)) (cP ((d7 a).bind fun i=>(d7 b).bind (f9 i)) ((nk a).bind fun i=>(nk b).bind fun j=>bif Nat.beq i j then none else f9 i j))
noncomputable def b7:List AV->Option (List AV)
 | []=>some []
 | [a]=>some [a]
 | [a,b]=>(BQ b a).map fun t=>bif t then[b,a] else[a,b]
 | _=>none
noncomputable def ce(a b:AV):Bool:=((cI a).isSome&&(cI b).isSome)||((d7 a).isSome&&(d7 b).isSome)||((bx a).isSome&&(bx b).isSome)
noncomputable def lv:List AV->Option (List AV)
 | []=>some []
 | [a]=>de a.pur [a]
 | [a,b]=>de (a.pur&&b.pur&&ce a b) (bif decide (a=b) then[a] else[a,b])
 | _=>none
structure wX where
 items:List AV
 gd:List (Nat×Option (List AV))
noncomputable def Du:AV->Option AV
 | .enm v=>some v
 | _=>none
noncomputable def Ho:AV->Option (AV×AV)
 | .zp a b=>some (a,b)
 | _=>none
noncomputable def lF(vs:List AV):List AV:=vs.zipIdx.map fun x=>.tup [.int (x.2:Nat),x.1]
noncomputable def cW(Y:St)(v:AV):Option wX:=
 cP ((bx v).map fun vs=>⟨vs,[]⟩) (cP ((bG v).bind fun r=>(aj Y r).map fun vs=>⟨vs,[(r,some vs)]⟩) (cP ((d7 v).bind fun k=>(gb k).map fun cs=>⟨cs.map .sym,[]⟩)
  (cP ((yh v).map fun n=>⟨(List.range n).map fun(i:Nat)=>.int i,[]⟩) (cP ((Du v).bind fun u=>cP ((bx u).map fun vs=>⟨lF vs,[]⟩) ((bG u).bind fun r=>(aj Y r).map fun vs=>⟨lF vs,[(r,some vs)]⟩))
   ((Ho v).bind fun p=>(bx p.1).bind fun a=>(bx p.2).bind fun b=>a.head?.bind fun k=>(bG k).map fun k=>⟨(a.tail.zip b).map fun x=>.tup [x.1,x.2],[(k,none)]⟩)))))
noncomputable def IB(Y:St)(g:Nat×Option (List AV)):Bool:=match g.2 with
 | some us=>decide (aj Y g.1=some us)
 | none=>(Y[g.1]?.map AO.isHid).getD false
noncomputable def ip(Y:St)(gd:List (Nat×Option (List AV))):Bool:=gd.all (IB Y)
noncomputable def dp(p:ax)(v:AV):Bool:=match p with | .one _=>!v.isIt | .many _=>true
noncomputable abbrev Rs:=Option (AV×St)
noncomputable def nv(r:Rs):Rs:=cu r fun v Y=>bif v.isIt then none else some (v,Y)
noncomputable def jN(r:Rs):Option (Bool×St):=cu r fun v Y=>ret (iz v) Y
structure Calls where
 fn:Nat->List AV->St->Rs
noncomputable def BH:List (List (Nat×Nat)):=[[(1000,12),(35,13),(36,14),(37,15),(38,16),(39,17)],[(1000,18),(40,19),(35,20),(41,21),(42,22),(43,23),(44,24)],
 [(1000,25),(35,26),(45,27),(46,28),(47,29),(41,30),(42,31),(48,32),(49,33),(44,34),(43,35),(50,36),(51,37)],[(1000,38),(52,39),(53,40),(54,41)],[(1000,42)],[(1000,43),(55,44),(56,45),(57,46)],[(1000,47),(58,48),(59,49),(60,50),(61,51)]]
noncomputable def dq(c m:Nat):Option Nat:=BH[c]?.bind (·.lookup m)
noncomputable def I4(C:Calls)(c:Nat)(vs:List AV)(Y:St):Rs:=(dq c 1000).bind fun f=>cu (C.fn f (.ref Y.length::vs) (Y++[.inst c []])) fun u Y'=>de (nY u) (.ref Y.length,Y')
noncomputable def kj(r m:Nat)(vs:List AV)(Y:St):Rs:=(aj Y r).bind fun xs=>
 bif Nat.beq m 27 then dU vs fun v=>de (decide (xs.length+1<=ay)) (.none,Y.set r (.list (xs++[v])))
 else bif Nat.beq m 28 then dU vs fun v=>(bG v).bind fun r'=>(aj Y r').bind fun ys=>de (decide (r≠r')&&decide ((xs++ys).length<=ay)) (.none,Y.set r (.list (xs++ys)))
 else bif Nat.beq m 30 then dU vs fun v=>bif v.pur&&AV.purs xs then(xs.findIdx? fun x=>decide (x=v)).map fun i=>(.int (i:Nat),Y) else none
 else bif Nat.beq m 29&&vs.isEmpty then xs.getLast?.map fun x=>(x,Y.set r (.list xs.dropLast)) else none
noncomputable def kA(r m:Nat)(vs:List AV)(Y:St):Rs:=(aN Y r).bind fun es=>
 bif Nat.beq m 31 then qV vs fun k d=>de k.pur ((aA es k).getD d,Y)
 else bif Nat.beq m 32 then qV vs fun k d=>bif k.pur then cP ((aA es k).map fun v=>(v,Y)) (de (decide (es.length+1<=ay)&&(aA es k).isNone) (d,Y.set r (.dict (es++[(k,d)])))) else none
 else bif Nat.beq m 29 then dU vs fun k=>bif k.pur then(aA es k).map fun v=>(v,Y.set r (.dict (eU es k))) else none
 else de (Nat.beq m 34&&vs.isEmpty) (.view r,Y)
set_option genCtorIdx false in
inductive oK | fn (f:Nat) | list | dict | sym
noncomputable def fm(Y:St)(v:AV)(m:Nat):Option oK:=
 cP ((bG v).bind fun r=>cP ((dR Y r).bind fun q=>bif (q.2.lookup m).isNone then(dq q.1 m).map .fn else none) (cP ((aj Y r).map fun _=>.list) ((aN Y r).map fun _=>.dict))) ((d7 v).map fun _=>.sym)
noncomputable def kE(C:Calls)(k:oK)(v:AV)(m:Nat)(vs:List AV)(Y:St):Rs:=match k with
 | .fn f=>C.fn f (v::vs) Y
 | .list=>(bG v).bind fun r=>kj r m vs Y
 | .dict=>(bG v).bind fun r=>kA r m vs Y
 | .sym=>(d7 v).bind fun s=>bif Nat.beq m 33&&vs.isEmpty then ret ((eJ s).map .bool) Y else none
noncomputable def cC:List AV->Option (List Int)
 | []=>some []
 | v::r=>(cI v).bind fun i=>(cC r).map (i::·)
noncomputable def yo(v:AV):Option (AV×AV):=(bx v).bind fun l=>qV l fun a b=>de a.pur (a,b)
noncomputable def ff:List AV->Option (List (AV×AV))
 | []=>some []
 | v::r=>(yo v).bind fun p=>(ff r).map (p::·)
noncomputable def cT(Y:St)(v:AV):Option (List AV):=(bG v).bind (aj Y)
noncomputable def sorted(Y:St)(xs:List AV):Rs:=(b7 xs).map fun ys=>wU Y ys
noncomputable def cq(b:aO)(vs:List AV)(Y:St):Rs:=match b with
 | .len=>dU vs fun v=>(cP (bx v) (cP (oa v) (cT Y v))).map fun xs=>(.int xs.length,Y)
 | .int=>dU vs fun v=>(iz v).map fun b=>(.int (bif b then 1 else 0),Y)
 | .max=>dU vs fun v=>(cT Y v).bind fun xs=>(cC xs).bind fun is=>is.head?.map fun i=>(.int (is.tail.foldl max i),Y)
 | .sum=>dU vs fun v=>(cT Y v).bind fun xs=>(cC xs).map fun is=>(.int is.sum,Y)
 | .dict=>dU vs fun v=>cP ((bG v).bind fun r=>(aN Y r).bind fun es=>de (decide (es.length<=8)&&es.all (fun e=>e.1.isSym)) (.ref Y.length,Y++[.dict es]))
   ((bx v).bind fun xs=>(ff xs).bind fun ps=>de (decide (ps.length<=8)) (.ref Y.length,Y++[.dict (ps.foldl (fun es p=>aU es p.1 p.2) [])]))
 | .sorted=>dU vs fun v=>cP ((cT Y v).bind (sorted Y)) (cP ((oa v).bind (sorted Y)) (cP ((bG v).bind fun r=>(aN Y r).bind fun es=>sorted Y (es.map (·.1)))
   ((xk v).bind fun r=>(aN Y r).bind fun es=>bif es.all (fun e=>e.1.isSym) then sorted Y (es.map fun e=>.tup [e.1,e.2]) else none)))
 | .set=>dU vs fun v=>(cT Y v).bind fun xs=>(lv xs).map fun ys=>(.fset ys,Y)
 | .listOf=>dU vs fun v=>cP ((bx v).map (wU Y)) (cP ((cT Y v).map (wU Y)) ((yh v).map fun n=>wU Y ((List.range n).map fun(i:Nat)=>.int i)))
 | .tupleOf=>dU vs fun v=>(cP (bx v) (cT Y v)).map fun xs=>(.tup xs,Y)
 | .range=>dU vs fun v=>(cI v).bind fun i=>de (decide (0<=i)&&decide (i<=50000)) (.rng i.toNat,Y)
 | .enum=>dU vs fun v=>(cP (bx v) (cT Y v)).map fun _=>(.enm v,Y)
 | .zip=>qV vs fun v u=>(bx v).bind fun a=>(bx u).map fun b=>(.zp (.tup (.ref Y.length::a)) (.tup b),Y++[.hid])
noncomputable def Dw(t:Bool)(k:St->Option (List AV×St))(e:Option (List AV×St))(Y:St):Option (List AV×St):=bif t then cu e fun xs Y2=>cu (k Y2) fun ys Y3=>some (xs++ys,Y3) else k Y
noncomputable def bz(gd:List (Nat×Option (List AV)))(p:ax)(U:En)(conds:En->St->Option (Bool×St))(elt:En->St->Option (List AV×St)):List AV->St->Option (List AV×St)
 | [],Y=>de (ip Y gd) ([],Y)
 | v::vs,Y=>bif ip Y gd then(bV p v U Y).bind fun U'=>cu (conds U' Y) fun t Y1=>Dw t (bz gd p U conds elt vs) (elt U' Y1) Y1 else none
noncomputable def one(r:Rs):Option (List AV×St):=cu (nv r) fun v Y=>some ([v],Y)
mutual
noncomputable def au(C:Calls):X->En->St->Rs
 | .cst c,_,Y=>some (c.av,Y)
 | .loc i,U,Y=>ret (U i) Y
 | .glob k,_,Y=>ret (qq k) Y
 | .attr e a,U,Y=>cu (nv (au C e U Y)) fun v Y1=>ret (ww Y1 v a) Y1
 | .sub e i,U,Y=>cu (nv (au C e U Y)) fun v Y1=>cu (nv (au C i U Y1)) fun k Y2=>ret (ph Y2 v k) Y2
 | .slc e k,U,Y=>cu (nv (au C e U Y)) fun v Y1=>nr Y1 v k
 | .neg e,U,Y=>cu (au C e U Y) fun v Y1=>ret ((cI v).map fun i=>.int (-i)) Y1
 | .bin op a b,U,Y=>cu (nv (au C a U Y)) fun v Y1=>cu (nv (au C b U Y1)) fun u Y2=>i7 op Y2 v u
 | .cmp op a b,U,Y=>cu (nv (au C a U Y)) fun v Y1=>cu (nv (au C b U Y1)) fun u Y2=>ret ((bi op Y2 v u).map .bool) Y2
 | .cmp2 op op' a b c,U,Y=>cu (nv (au C a U Y)) fun v Y1=>cu (nv (au C b U Y1)) fun u Y2=>(bi op Y2 v u).bind fun t=>
   bif t then cu (nv (au C c U Y2)) fun w Y3=>ret ((bi op' Y3 u w).map .bool) Y3 else some (.bool false,Y2)
 | .and a b,U,Y=>cu (jN (au C a U Y)) fun t Y1=>bif t then cu (jN (au C b U Y1)) fun t Y2=>some (.bool t,Y2) else some (.bool false,Y1)
 | .or a b,U,Y=>cu (jN (au C a U Y)) fun t Y1=>bif t then some (.bool true,Y1) else cu (jN (au C b U Y1)) fun t Y2=>some (.bool t,Y2)
 | .not a,U,Y=>cu (jN (au C a U Y)) fun t Y1=>some (.bool (!t),Y1)
 | .ite c a b,U,Y=>cu (jN (au C c U Y)) fun t Y1=>bif t then nv (au C a U Y1) else nv (au C b U Y1)
 | .tup es,U,Y=>cu (cU C es U Y) fun vs Y1=>de (decide (vs.length<=50)) (.tup vs,Y1)
 | .lst es,U,Y=>cu (cU C es U Y) fun vs Y1=>de (decide (vs.length<=50)) (wU Y1 vs)
 | .dct ks es,U,Y=>cu (cU C es U Y) fun vs Y1=>de (decide ks.Nodup&&decide (ks.length=vs.length)&&decide (vs.length<=10)) (.ref Y1.length,Y1++[.dict ((ks.map .sym).zip vs)])
 | .call f es,U,Y=>cu (cU C es U Y) (C.fn f)
 | .new c es,U,Y=>cu (cU C es U Y) (I4 C c)
 | .meth e m es,U,Y=>cu (nv (au C e U Y)) fun v Y1=>(fm Y1 v m).bind fun k=>cu (cU C es U Y1) (kE C k v m)
 | .blt b es,U,Y=>cu (cU C es U Y) (cq b)
 | .comp e p it cs,U,Y=>cu (au C it U Y) fun v Y1=>bif dp p v then(cW Y1 v).bind fun s=>cu (bz s.gd p U (Cy C cs) (fun U' Y'=>one (au C e U' Y')) s.items Y1) fun vs Y2=>de (decide (vs.length<=ay)) (wU Y2 vs) else none
 | .comp2 e p it p' it',U,Y=>cu (au C it U Y) fun v Y1=>bif dp p v then(cW Y1 v).bind fun s=>cu (bz s.gd p U (fun _ Y'=>some (true,Y')) (fun U' Y'=>cu (au C it' U' Y') fun u Y3=>
   bif dp p' u then(cW Y3 u).bind fun s'=>bz s'.gd p' U' (fun _ Y'=>some (true,Y')) (fun U'' Y'=>one (au C e U'' Y')) s'.items Y3 else none) s.items Y1) fun vs Y2=>de (decide (vs.length<=ay)) (wU Y2 vs) else none
noncomputable def cU(C:Calls):List X->En->St->Option (List AV×St)
 | [],_,Y=>some ([],Y)
 | e::r,U,Y=>cu (nv (au C e U Y)) fun v Y1=>cu (cU C r U Y1) fun vs Y2=>some (v::vs,Y2)
noncomputable def Cy(C:Calls):List X->En->St->Option (Bool×St)
 | [],_,Y=>some (true,Y)
 | e::r,U,Y=>cu (jN (au C e U Y)) fun t Y1=>bif t then Cy C r U Y1 else some (false,Y1)
end
noncomputable abbrev Fl:=Option AV
noncomputable abbrev RS:=Option (Fl×En×St)
noncomputable def vu(x:RS)(f:En->St->RS):RS:=x.bind fun q=>match q.1 with
 | none=>f q.2.1 q.2.2
 | some _=>x
theorem ED{x:RS}{f:En->St->RS}{r:Fl×En×St}{P:Prop}(h:vu x f=some r)(k1:∀ U1 Y1,x=some (none,U1,Y1)->f U1 Y1=some r->P)(k2:∀ v U1 Y1,r=(some v,U1,Y1)->x=some (some v,U1,Y1)->P):P:=
 ae h fun q=>match q with
  | (none,U1,Y1)=>k1 U1 Y1
  | (some v,U1,Y1)=>fun e h=>k2 v U1 Y1 (S0 (h.symm.trans e)) e
noncomputable def dN(t:En->St->Option (Bool×St))(b:En->St->RS):Nat->En->St->RS
 | 0,_,_=>none
 | n+1,U,Y=>cu (t U Y) fun c Y1=>bif c then vu (b U Y1) (dN t b n) else some (none,U,Y1)
noncomputable def dT(gd:List (Nat×Option (List AV)))(p:ax)(b:En->St->RS):List AV->En->St->RS
 | [],U,Y=>de (ip Y gd) (none,U,Y)
 | v::vs,U,Y=>bif ip Y gd then(bV p v U Y).bind fun U'=>vu (b U' Y) (dT gd p b vs) else none
noncomputable def bB:Nat:=4000
mutual
noncomputable def dS(C:Calls):S->En->St->RS
 | .expr e,U,Y=>cu (nv (au C e U Y)) fun _ Y1=>some (none,U,Y1)
 | .ret e,U,Y=>cu (nv (au C e U Y)) fun v Y1=>some (some v,U,Y1)
 | .retNone,U,Y=>some (some .none,U,Y)
 | .asg p e,U,Y=>cu (nv (au C e U Y)) fun v Y1=>(bV p v U Y1).map fun U'=>(none,U',Y1)
 | .setAttr o a e,U,Y=>cu (nv (au C e U Y)) fun v Y1=>cu (nv (au C o U Y1)) fun u Y2=>(Bf Y2 u a v).map fun Y3=>(none,U,Y3)
 | .setSub o i e,U,Y=>cu (nv (au C e U Y)) fun v Y1=>cu (nv (au C o U Y1)) fun u Y2=>cu (nv (au C i U Y2)) fun k Y3=>(x8 Y3 u k v).map fun Y4=>(none,U,Y4)
 | .ite c a b,U,Y=>cu (jN (au C c U Y)) fun t Y1=>bif t then bn C a U Y1 else bn C b U Y1
 | .whl c b,U,Y=>dN (fun U Y=>jN (au C c U Y)) (bn C b) bB U Y
 | .for_ p it b,U,Y=>cu (au C it U Y) fun v Y1=>bif dp p v then(cW Y1 v).bind fun s=>dT s.gd p (bn C b) s.items U Y1 else none
 | .raise,_,_=>none
noncomputable def bn(C:Calls):List S->En->St->RS
 | [],U,Y=>some (none,U,Y)
 | s::r,U,Y=>vu (dS C s U Y) (bn C r)
end
noncomputable abbrev OB:=List (Nat×List S)
noncomputable def az(P:OB):Nat->Nat->List AV->St->Rs
 | 0,_,_,_=>none
 | n+1,f,vs,Y=>P[f]?.bind fun q=>bif decide (vs.length=q.1) then(bn ⟨az P n⟩ q.2 (fun i=>vs[i]?) Y).map fun r=>(r.1.getD .none,r.2.2) else none
noncomputable def CR:Nat×List S:=(1,[S.ret (X.and (X.cmp aS.ne (X.loc 0) (X.cst (am.sym 0))) (X.cmp aS.eq (X.comp (X.loc 2) (ax.one 2) (X.loc 0) [X.or (X.meth (X.loc 2) 33 []) (X.cmp aS.isIn (X.loc 2) (X.cst (am.sym 25)))]) (X.lst [])))])
noncomputable def lQ:Nat×List S:=(1,[S.ret (X.and (X.cmp aS.eq (X.blt aO.len [X.loc 0]) (X.cst (am.int 1))) (X.cmp aS.eq (X.slc (X.sub (X.loc 0) (X.cst (am.int 0))) Sl.first) (X.cst (am.sym 9))))])
noncomputable def qK:Nat×List S:=(1,[S.ret (X.blt aO.sorted [X.blt aO.set [X.comp (X.sub (X.loc 3) (X.cst (am.int 0))) (ax.many [2,3]) (X.call 3 [X.loc 0]) [X.call 1 [X.loc 3]]]])])
noncomputable def CQ:Nat×List S:=(1,[S.asg (ax.one 1) (X.lst [X.tup [X.tup [],X.loc 0]]),S.for_ (ax.many [2,3]) (X.blt aO.enum [X.slc (X.loc 0) Sl.tail]) [S.expr (X.meth (X.loc 1) 28 [X.comp (X.tup [X.bin cQ.add (X.tup [X.loc 2]) (X.loc 5),X.loc 6]) (ax.many [5,6]) (X.call 3 [X.loc 3]) []])],S.ret (X.loc 1)])
noncomputable def tv:Nat×List S:=(2,[S.asg (ax.one 2) (X.sub (X.loc 0) (X.cst (am.sym 24))),S.setSub (X.loc 0) (X.cst (am.sym 24)) (X.bin cQ.add (X.loc 2) (X.cst (am.int 1))),S.ite (X.cmp aS.lt (X.loc 2) (X.blt aO.len [X.sub (X.loc 0) (X.cst (am.sym 23))])) [S.ret (X.bin cQ.mod (X.sub (X.sub (X.loc 0) (X.cst (am.sym 23))) (X.loc 2)) (X.loc 1))] [],S.ret (X.bin cQ.mod (X.bin cQ.mod (X.bin cQ.add (X.bin cQ.add (X.bin cQ.mul (X.bin cQ.mul (X.cst (am.int 4)) (X.loc 2)) (X.loc 2)) (X.bin cQ.mul (X.cst (am.int 3)) (X.loc 2))) (X.cst (am.int 5))) (X.cst (am.int 73))) (X.loc 1))])
noncomputable def oz:Nat×List S:=(1,[S.asg (ax.one 1) (X.lst [X.tup [X.cst (am.sym 1)],X.tup [X.cst (am.sym 2)]]),S.for_ (ax.one 2) (X.blt aO.range [X.bin cQ.add (X.cst (am.int 2)) (X.call 4 [X.loc 0,X.cst (am.int 4)])]) [S.asg (ax.one 3) (X.bin cQ.add (X.cst (am.int 1)) (X.call 4 [X.loc 0,X.cst (am.int 2)])),S.asg (ax.one 4) (X.bin cQ.add (X.tup [X.sub (X.cst (am.sym 10)) (X.bin cQ.sub (X.loc 3) (X.cst (am.int 1)))]) (X.blt aO.tupleOf [X.comp (X.call 4 [X.loc 0,X.blt aO.len [X.loc 1]]) (ax.one 6) (X.blt aO.range [X.loc 3]) []])),S.ite (X.cmp aS.notIn (X.loc 4) (X.loc 1)) [S.expr (X.meth (X.loc 1) 27 [X.loc 4])] []],S.ret (X.loc 1)])
noncomputable def lR:Nat×List S:=(2,[S.asg (ax.one 2) (X.lst []),S.for_ (ax.many [3,4]) (X.blt aO.enum [X.loc 0]) [S.ite (X.and (X.cmp2 aS.eq aS.eq (X.sub (X.loc 4) (X.cst (am.int 0))) (X.sub (X.loc 1) (X.cst (am.int 0))) (X.cst (am.sym 4))) (X.or (X.cmp aS.ne (X.sub (X.loc 1) (X.cst (am.int 1))) (X.sub (X.loc 1) (X.cst (am.int 2)))) (X.cmp aS.eq (X.sub (X.loc 4) (X.cst (am.int 1))) (X.sub (X.loc 4) (X.cst (am.int 2)))))) [S.expr (X.meth (X.loc 2) 27 [X.tup [X.loc 3,X.blt aO.tupleOf [X.blt aO.sorted [X.blt aO.set [X.lst [X.tup [X.sub (X.sub (X.loc 1) (X.cst (am.int 1))) (X.cst (am.int 0)),X.sub (X.loc 4) (X.cst (am.int 1))],X.tup [X.sub (X.sub (X.loc 1) (X.cst (am.int 2))) (X.cst (am.int 0)),X.sub (X.loc 4) (X.cst (am.int 2))]]]]]]])] [],S.ite (X.cmp2 aS.eq aS.eq (X.sub (X.loc 4) (X.cst (am.int 0))) (X.sub (X.loc 1) (X.cst (am.int 0))) (X.cst (am.sym 3))) [S.asg (ax.one 5) (X.sub (X.loc 0) (X.sub (X.loc 4) (X.cst (am.int 1)))),S.ite (X.cmp aS.eq (X.sub (X.sub (X.loc 1) (X.cst (am.int 1))) (X.cst (am.int 0))) (X.cst (am.sym 7))) [S.expr (X.meth (X.loc 2) 27 [X.tup [X.loc 3,X.tup [X.tup [X.cst (am.sym 7),X.sub (X.loc 4) (X.cst (am.int 1))]]]])] [S.ite (X.cmp aS.eq (X.sub (X.loc 5) (X.cst (am.int 0))) (X.cst (am.sym 3))) [S.expr (X.meth (X.loc 2) 27 [X.tup [X.loc 3,X.tup [X.tup [X.cst (am.sym 7),X.sub (X.loc 5) (X.cst (am.int 1))]]]])] []]] []],S.ret (X.loc 2)])
noncomputable def oy:Nat×List S:=(3,[S.asg (ax.one 3) (X.ite (X.cmp aS.eq (X.loc 1) (X.tup [X.cst (am.sym 6)])) (X.tup [X.cst (am.sym 6)]) (X.tup [X.cst (am.sym 5),X.loc 2])),S.ite (X.cmp aS.eq (X.loc 1) (X.tup [X.cst (am.sym 7)])) [S.ret (X.loc 2)] [],S.ite (X.cmp aS.notIn (X.loc 3) (X.sub (X.loc 0) (X.cst (am.sym 20)))) [S.expr (X.meth (X.sub (X.loc 0) (X.cst (am.sym 20))) 27 [X.loc 3])] [],S.ret (X.meth (X.sub (X.loc 0) (X.cst (am.sym 20))) 30 [X.loc 3])])
noncomputable def qL:Nat×List S:=(4,[S.asg (ax.one 4) (X.ite (X.loc 3) (X.call 10 [X.loc 0]) (X.blt aO.listOf [X.blt aO.range [X.blt aO.len [X.sub (X.loc 0) (X.cst (am.sym 20))]]])),S.for_ (ax.many [5,6]) (X.sub (X.loc 0) (X.cst (am.sym 22))) [S.asg (ax.one 4) (X.comp (X.ite (X.cmp aS.eq (X.loc 8) (X.sub (X.loc 4) (X.loc 6))) (X.sub (X.loc 4) (X.loc 5)) (X.loc 8)) (ax.one 8) (X.loc 4) [])],S.ret (X.cmp aS.eq (X.sub (X.loc 4) (X.loc 1)) (X.sub (X.loc 4) (X.loc 2)))])
noncomputable def qM:Nat×List S:=(3,[S.asg (ax.many [3,4]) (X.loc 2),S.asg (ax.many [5,6]) (X.tup [X.sub (X.blt aO.dict [X.loc 4]) (X.cst (am.sym 7)),X.cmp aS.ne (X.attr (X.loc 1) 18) (X.tup [])]),S.ite (X.and (X.loc 6) (X.cmp aS.ne (X.call 8 [X.loc 0,X.loc 5,X.cst (am.int 0),X.cst (am.bool true)]) (X.cmp aS.eq (X.sub (X.sub (X.attr (X.loc 1) 18) (X.cst (am.int 0))) (X.cst (am.int 0))) (X.cst (am.sym 11))))) [S.ret (X.cst (am.bool false))] [],S.asg (ax.one 7) (X.call 7 [X.loc 0,X.attr (X.loc 1) 17,X.loc 5]),S.ite (X.call 8 [X.loc 0,X.loc 3,X.loc 7,X.loc 6]) [S.ret (X.cst (am.bool false))] [],S.expr (X.meth (X.sub (X.loc 0) (X.cst (am.sym 22))) 27 [X.tup [X.loc 3,X.loc 7]]),S.ret (X.cst (am.bool true))])
noncomputable def oA:Nat×List S:=(1,[S.asg (ax.many [1,2,3]) (X.tup [X.sub (X.loc 0) (X.cst (am.sym 20)),X.blt aO.listOf [X.blt aO.range [X.blt aO.len [X.sub (X.loc 0) (X.cst (am.sym 20))]]],X.cst (am.bool true)]),S.whl (X.loc 3) [S.asg (ax.many [4,3,5]) (X.tup [X.dct [] [],X.cst (am.bool false),X.blt aO.listOf [X.sub (X.loc 0) (X.cst (am.sym 22))]]),S.for_ (ax.many [6,7]) (X.blt aO.enum [X.loc 1]) [S.expr (X.meth (X.loc 5) 27 [X.tup [X.meth (X.loc 4) 32 [X.bin cQ.add (X.slc (X.loc 7) Sl.first) (X.blt aO.tupleOf [X.comp (X.sub (X.loc 2) (X.loc 13)) (ax.one 13) (X.slc (X.loc 7) Sl.tail) []]),X.loc 6],X.loc 6]])],S.for_ (ax.many [8,9]) (X.loc 5) [S.asg (ax.many [10,11]) (X.blt aO.sorted [X.lst [X.sub (X.loc 2) (X.loc 8),X.sub (X.loc 2) (X.loc 9)]]),S.ite (X.cmp aS.ne (X.loc 10) (X.loc 11)) [S.asg (ax.many [2,3]) (X.tup [X.comp (X.ite (X.cmp aS.eq (X.loc 13) (X.loc 11)) (X.loc 10) (X.loc 13)) (ax.one 13) (X.loc 2) [],X.cst (am.bool true)])] []]],S.ret (X.loc 2)])
noncomputable def eG:Nat×List S:=(1,[S.asg (ax.many [1,2]) (X.tup [X.dct [23,24] [X.blt aO.listOf [X.slc (X.loc 0) Sl.first30],X.cst (am.int 0)],X.new 2 []]),S.asg (ax.one 3) (X.dct [20,22] [X.call 5 [X.loc 1],X.lst []]),S.for_ (ax.one 4) (X.sub (X.loc 3) (X.cst (am.sym 20))) [S.expr (X.meth (X.loc 2) 46 [X.sub (X.loc 4) (X.cst (am.int 0)),X.slc (X.loc 4) Sl.tail])],S.asg (ax.many [5,6]) (X.tup [X.sub (X.glob 0) (X.call 4 [X.loc 1,X.cst (am.int 4)]),X.sub (X.glob 1) (X.call 4 [X.loc 1,X.cst (am.int 3)])]),S.asg (ax.one 7) (X.ite (X.cmp aS.ne (X.sub (X.loc 6) (X.cst (am.int 0))) (X.cst (am.sym 6))) (X.call 4 [X.loc 1,X.cst (am.int 4)]) (X.cst (am.int 0))),S.asg (ax.one 8) (X.ite (X.cmp aS.gt (X.loc 7) (X.cst (am.int 1))) (X.tup [X.tup [X.ite (X.cmp aS.eq (X.loc 7) (X.cst (am.int 2))) (X.cst (am.sym 11)) (X.cst (am.sym 12)),X.tup [X.cst (am.sym 7)],X.tup [X.cst (am.sym 1)]]]) (X.tup [])),S.asg (ax.one 9) (X.bin cQ.sub (X.bin cQ.add (X.meth (X.loc 2) 35 []) (X.ite (X.cmp aS.eq (X.call 4 [X.loc 1,X.cst (am.int 3)]) (X.cst (am.int 2))) (X.call 4 [X.loc 1,X.cst (am.int 4)]) (X.cst (am.int 40)))) (X.cst (am.int 1))),S.asg (ax.one 10) (X.new 4 [X.cst (am.sym 15),X.loc 5,X.loc 6,X.loc 8]),S.asg (ax.one 11) (X.new 6 [X.loc 2,X.lst [X.loc 10],X.dct [20] [X.loc 9]]),S.asg (ax.one 12) (X.call 6 [X.sub (X.loc 3) (X.cst (am.sym 20)),X.loc 5]),S.ite (X.cmp aS.ne (X.meth (X.loc 11) 59 [X.cst (am.int 0)]) (X.loc 12)) [S.ret (X.cst (am.bool false))] [],S.ite (X.cmp aS.eq (X.call 4 [X.loc 1,X.cst (am.int 2)]) (X.cst (am.int 1))) [S.asg (ax.one 12) (X.slc (X.loc 12) Sl.rev)] [],S.ite (X.and (X.cmp aS.ne (X.loc 12) (X.lst [])) (X.cmp aS.eq (X.call 4 [X.loc 1,X.cst (am.int 2)]) (X.cst (am.int 0)))) [S.asg (ax.one 12) (X.bin cQ.add (X.loc 12) (X.slc (X.loc 12) Sl.first))] [],S.ite (X.and (X.cmp aS.ne (X.loc 12) (X.lst [])) (X.cmp aS.ne (X.meth (X.loc 11) 60 [X.loc 10,X.sub (X.sub (X.loc 12) (X.cst (am.int 0))) (X.cst (am.int 1))]) (X.call 9 [X.loc 3,X.loc 10,X.sub (X.loc 12) (X.cst (am.int 0))]))) [S.ret (X.cst (am.bool false))] [],S.asg (ax.one 13) (X.cst (am.int 0)),S.for_ (ax.one 14) (X.loc 12) [S.ite (X.cmp aS.le (X.blt aO.len [X.sub (X.loc 3) (X.cst (am.sym 20))]) (X.loc 9)) [S.asg (ax.one 13) (X.bin cQ.add (X.loc 13) (X.blt aO.int [X.call 9 [X.loc 3,X.loc 10,X.loc 14]]))] []],S.ite (X.or (X.cmp aS.ne (X.meth (X.loc 11) 61 [X.cst (am.int 0),X.loc 12]) (X.loc 13)) (X.cmp aS.ne (X.attr (X.loc 11) 23) (X.lst [X.tup [X.cst (am.int 0),X.cst (am.sym 15),X.blt aO.len [X.loc 12],X.loc 13]]))) [S.ret (X.cst (am.bool false))] [],S.expr (X.meth (X.loc 2) 49 []),S.ret (X.and (X.cmp aS.eq (X.meth (X.loc 2) 35 []) (X.blt aO.len [X.sub (X.loc 3) (X.cst (am.sym 20))])) (X.cmp aS.eq (X.comp (X.meth (X.loc 2) 41 [X.loc 16]) (ax.one 16) (X.blt aO.range [X.meth (X.loc 2) 35 []]) []) (X.call 10 [X.loc 3])))])
noncomputable def ji:Nat×List S:=(1,[S.setAttr (X.loc 0) 0 (X.lst []),S.setAttr (X.loc 0) 1 (X.dct [] []),S.setAttr (X.loc 0) 2 (X.lst []),S.setAttr (X.loc 0) 3 (X.lst [])])
noncomputable def qT:Nat×List S:=(1,[S.ret (X.blt aO.len [X.attr (X.loc 0) 0])])
noncomputable def qS:Nat×List S:=(3,[S.asg (ax.one 3) (X.bin cQ.add (X.tup [X.loc 1]) (X.blt aO.tupleOf [X.loc 2])),S.ite (X.cmp aS.isIn (X.loc 3) (X.attr (X.loc 0) 1)) [S.ret (X.sub (X.attr (X.loc 0) 1) (X.loc 3))] [],S.expr (X.meth (X.loc 0) 37 [X.loc 1]),S.for_ (ax.one 4) (X.slc (X.loc 3) Sl.tail) [S.ite (X.not (X.cmp2 aS.le aS.lt (X.cst (am.int 0)) (X.loc 4) (X.blt aO.len [X.attr (X.loc 0) 0]))) [S.raise] []],S.setSub (X.attr (X.loc 0) 1) (X.loc 3) (X.blt aO.len [X.attr (X.loc 0) 0]),S.expr (X.meth (X.attr (X.loc 0) 0) 27 [X.loc 3]),S.expr (X.meth (X.attr (X.loc 0) 2) 27 [X.bin cQ.add (X.cst (am.int 1)) (X.blt aO.sum [X.comp (X.sub (X.attr (X.loc 0) 2) (X.loc 6)) (ax.one 6) (X.slc (X.loc 3) Sl.tail) []])]),S.expr (X.meth (X.attr (X.loc 0) 3) 27 [X.bin cQ.add (X.cst (am.int 1)) (X.blt aO.max [X.bin cQ.add (X.comp (X.sub (X.attr (X.loc 0) 3) (X.loc 6)) (ax.one 6) (X.slc (X.loc 3) Sl.tail) []) (X.lst [X.cst (am.int 0)])])]),S.ret (X.bin cQ.sub (X.blt aO.len [X.attr (X.loc 0) 0]) (X.cst (am.int 1)))])
noncomputable def kR:Nat×List S:=(2,[S.ite (X.or (X.not (X.call 0 [X.loc 1])) (X.cmp aS.eq (X.sub (X.loc 1) (X.cst (am.int 0))) (X.cst (am.sym 9)))) [S.raise] []])
noncomputable def wL:Nat×List S:=(2,[S.ret (X.sub (X.sub (X.attr (X.loc 0) 0) (X.loc 1)) (X.cst (am.int 0)))])
noncomputable def qU:Nat×List S:=(2,[S.ret (X.slc (X.sub (X.attr (X.loc 0) 0) (X.loc 1)) Sl.tail)])
noncomputable def gR:Nat×List S:=(1,[S.setAttr (X.loc 0) 4 (X.lst []),S.setAttr (X.loc 0) 5 (X.lst []),S.setAttr (X.loc 0) 6 (X.lst [])])
noncomputable def lT:Nat×List S:=(1,[S.expr (X.meth (X.attr (X.loc 0) 4) 27 [X.blt aO.len [X.attr (X.loc 0) 4]]),S.expr (X.meth (X.attr (X.loc 0) 5) 27 [X.lst [X.blt aO.len [X.attr (X.loc 0) 5]]]),S.ret (X.bin cQ.sub (X.blt aO.len [X.attr (X.loc 0) 4]) (X.cst (am.int 1)))])
noncomputable def lS:Nat×List S:=(1,[S.ret (X.blt aO.len [X.attr (X.loc 0) 4])])
noncomputable def lU:Nat×List S:=(2,[S.whl (X.cmp aS.ne (X.sub (X.attr (X.loc 0) 4) (X.loc 1)) (X.loc 1)) [S.asg (ax.one 1) (X.sub (X.attr (X.loc 0) 4) (X.loc 1))],S.ret (X.loc 1)])
noncomputable def kL:Nat×List S:=(3,[S.asg (ax.many [3,4]) (X.blt aO.sorted [X.lst [X.meth (X.loc 0) 41 [X.loc 1],X.meth (X.loc 0) 41 [X.loc 2]]]),S.ite (X.cmp aS.eq (X.loc 3) (X.loc 4)) [S.ret (X.cst (am.none))] [],S.setSub (X.attr (X.loc 0) 4) (X.loc 4) (X.loc 3),S.expr (X.meth (X.sub (X.attr (X.loc 0) 5) (X.loc 3)) 28 [X.sub (X.attr (X.loc 0) 5) (X.loc 4)]),S.expr (X.meth (X.attr (X.loc 0) 6) 27 [X.tup [X.loc 3,X.loc 4]]),S.ret (X.tup [X.loc 3,X.loc 4])])
noncomputable def iD:Nat×List S:=(2,[S.ret (X.blt aO.sorted [X.sub (X.attr (X.loc 0) 5) (X.meth (X.loc 0) 41 [X.loc 1])])])
noncomputable def iE:Nat×List S:=(1,[S.ret (X.comp (X.loc 2) (ax.one 2) (X.blt aO.range [X.blt aO.len [X.attr (X.loc 0) 4]]) [X.cmp aS.eq (X.sub (X.attr (X.loc 0) 4) (X.loc 2)) (X.loc 2)])])
noncomputable def je:Nat×List S:=(1,[S.setAttr (X.loc 0) 7 (X.new 0 []),S.setAttr (X.loc 0) 8 (X.new 1 []),S.setAttr (X.loc 0) 9 (X.lst []),S.setAttr (X.loc 0) 10 (X.lst []),S.setAttr (X.loc 0) 11 (X.dct [] []),S.setAttr (X.loc 0) 4 (X.dct [] []),S.setAttr (X.loc 0) 12 (X.lst []),S.setAttr (X.loc 0) 13 (X.cst (am.int 0))])
noncomputable def qN:Nat×List S:=(1,[S.ret (X.meth (X.attr (X.loc 0) 7) 35 [])])
noncomputable def qP:Nat×List S:=(2,[S.ret (X.bin cQ.add (X.tup [X.meth (X.attr (X.loc 0) 7) 38 [X.loc 1]]) (X.blt aO.tupleOf [X.comp (X.meth (X.loc 0) 41 [X.loc 3]) (ax.one 3) (X.meth (X.attr (X.loc 0) 7) 39 [X.loc 1]) []]))])
noncomputable def tx:Nat×List S:=(3,[S.asg (ax.one 3) (X.meth (X.attr (X.loc 0) 7) 36 [X.loc 1,X.loc 2]),S.ite (X.cmp aS.lt (X.loc 3) (X.meth (X.attr (X.loc 0) 8) 35 [])) [S.ret (X.loc 3)] [],S.expr (X.meth (X.attr (X.loc 0) 8) 40 []),S.setSub (X.attr (X.loc 0) 4) (X.loc 3) (X.lst []),S.for_ (ax.one 4) (X.blt aO.sorted [X.blt aO.set [X.comp (X.meth (X.loc 0) 41 [X.loc 6]) (ax.one 6) (X.loc 2) []]]) [S.expr (X.meth (X.sub (X.attr (X.loc 0) 4) (X.loc 4)) 27 [X.loc 3])],S.expr (X.meth (X.loc 0) 47 [X.loc 3]),S.ret (X.loc 3)])
noncomputable def kP:Nat×List S:=(2,[S.asg (ax.one 2) (X.meth (X.attr (X.loc 0) 11) 32 [X.meth (X.loc 0) 45 [X.loc 1],X.loc 1]),S.ite (X.cmp aS.ne (X.meth (X.loc 0) 41 [X.loc 2]) (X.meth (X.loc 0) 41 [X.loc 1])) [S.expr (X.meth (X.loc 0) 48 [X.loc 2,X.loc 1,X.tup [X.cst (am.sym 14)]])] []])
noncomputable def qR:Nat×List S:=(2,[S.ret (X.meth (X.attr (X.loc 0) 8) 41 [X.loc 1])])
noncomputable def oD:Nat×List S:=(4,[S.ret (X.meth (X.loc 0) 48 [X.loc 1,X.loc 2,X.loc 3])])
noncomputable def qQ:Nat×List S:=(4,[S.expr (X.meth (X.attr (X.loc 0) 9) 27 [X.tup [X.loc 1,X.loc 2,X.loc 3]]),S.asg (ax.one 4) (X.meth (X.attr (X.loc 0) 8) 42 [X.loc 1,X.loc 2]),S.ite (X.cmp aS.is (X.loc 4) (X.cst (am.none))) [S.ret (X.cst (am.bool false))] [],S.asg (ax.many [5,6]) (X.loc 4),S.expr (X.meth (X.attr (X.loc 0) 10) 27 [X.bin cQ.sub (X.blt aO.len [X.attr (X.loc 0) 9]) (X.cst (am.int 1))]),S.expr (X.meth (X.attr (X.loc 0) 12) 28 [X.sub (X.attr (X.loc 0) 4) (X.loc 6)]),S.setSub (X.attr (X.loc 0) 4) (X.loc 5) (X.bin cQ.add (X.sub (X.attr (X.loc 0) 4) (X.loc 5)) (X.meth (X.attr (X.loc 0) 4) 29 [X.loc 6])),S.ret (X.cst (am.bool true))])
noncomputable def lV:Nat×List S:=(1,[S.whl (X.cmp aS.gt (X.blt aO.len [X.attr (X.loc 0) 12]) (X.cst (am.int 0))) [S.expr (X.meth (X.loc 0) 47 [X.meth (X.attr (X.loc 0) 12) 29 []])]])
noncomputable def kQ:Nat×List S:=(1,[S.ret (X.meth (X.attr (X.loc 0) 8) 44 [])])
noncomputable def kO:Nat×List S:=(2,[S.ret (X.meth (X.attr (X.loc 0) 8) 43 [X.loc 1])])
noncomputable def i9:Nat×List S:=(2,[S.ret (X.blt aO.sorted [X.blt aO.set [X.comp (X.meth (X.loc 0) 45 [X.loc 3]) (ax.one 3) (X.meth (X.loc 0) 43 [X.loc 1]) []]])])
noncomputable def qO:Nat×List S:=(3,[S.asg (ax.one 3) (X.meth (X.attr (X.loc 0) 11) 31 [X.bin cQ.add (X.tup [X.loc 1]) (X.blt aO.tupleOf [X.comp (X.meth (X.loc 0) 41 [X.loc 5]) (ax.one 5) (X.loc 2) []]),X.neg (X.cst (am.int 1))]),S.ret (X.ite (X.cmp aS.lt (X.loc 3) (X.cst (am.int 0))) (X.neg (X.cst (am.int 1))) (X.meth (X.loc 0) 41 [X.loc 3]))])
noncomputable def gQ:Nat×List S:=(2,[S.setAttr (X.loc 0) 14 (X.loc 1)])
noncomputable def gP:Nat×List S:=(4,[S.asg (ax.one 4) (X.sub (X.loc 3) (X.cst (am.int 0))),S.ite (X.call 1 [X.loc 3]) [S.asg (ax.one 5) (X.blt aO.dict [X.loc 1]),S.setSub (X.loc 5) (X.loc 4) (X.loc 2),S.ret (X.ite (X.cmp aS.eq (X.meth (X.loc 1) 31 [X.loc 4,X.loc 2]) (X.loc 2)) (X.lst [X.loc 5]) (X.lst []))] [],S.asg (ax.one 6) (X.lst []),S.for_ (ax.one 7) (X.meth (X.attr (X.loc 0) 14) 50 [X.loc 2]) [S.ite (X.and (X.cmp aS.eq (X.sub (X.loc 7) (X.cst (am.int 0))) (X.loc 4)) (X.cmp aS.eq (X.blt aO.len [X.loc 7]) (X.blt aO.len [X.loc 3]))) [S.asg (ax.one 8) (X.lst [X.loc 1]),S.for_ (ax.many [9,10]) (X.blt aO.zip [X.slc (X.loc 7) Sl.tail,X.slc (X.loc 3) Sl.tail]) [S.asg (ax.one 8) (X.comp2 (X.loc 13) (ax.one 12) (X.loc 8) (ax.one 13) (X.meth (X.loc 0) 52 [X.loc 12,X.loc 9,X.loc 10]))],S.expr (X.meth (X.loc 6) 28 [X.loc 8])] []],S.ret (X.loc 6)])
noncomputable def gN:Nat×List S:=(3,[S.asg (ax.one 3) (X.dct [] []),S.for_ (ax.one 4) (X.meth (X.loc 0) 52 [X.dct [] [],X.meth (X.attr (X.loc 0) 14) 41 [X.loc 1],X.loc 2]) [S.setSub (X.loc 3) (X.blt aO.tupleOf [X.blt aO.sorted [X.meth (X.loc 4) 34 []]]) (X.cst (am.bool true))],S.ret (X.blt aO.sorted [X.loc 3])])
noncomputable def kK:Nat×List S:=(2,[S.ret (X.comp2 (X.tup [X.loc 3,X.loc 4]) (ax.one 3) (X.meth (X.attr (X.loc 0) 14) 44 []) (ax.one 4) (X.meth (X.loc 0) 53 [X.loc 3,X.loc 1]))])
noncomputable def i8:Nat×List S:=(5,[S.ite (X.call 1 [X.loc 2]) [S.raise] [],S.asg (ax.one 5) (X.call 2 [X.loc 2]),S.asg (ax.one 6) (X.bin cQ.add (X.lst [X.tup [X.cst (am.sym 11),X.loc 3,X.loc 3]]) (X.blt aO.listOf [X.loc 4])),S.for_ (ax.many [7,8,9]) (X.loc 6) [S.ite (X.cmp aS.notIn (X.loc 7) (X.tup [X.cst (am.sym 11),X.cst (am.sym 12)])) [S.raise] [],S.asg (ax.one 10) (X.comp (X.loc 12) (ax.one 12) (X.bin cQ.add (X.call 2 [X.loc 8]) (X.call 2 [X.loc 9])) [X.cmp aS.notIn (X.loc 12) (X.loc 5)]),S.ite (X.cmp aS.ne (X.loc 10) (X.lst [])) [S.raise] []],S.setAttr (X.loc 0) 15 (X.loc 1),S.setAttr (X.loc 0) 16 (X.loc 2),S.setAttr (X.loc 0) 17 (X.loc 3),S.setAttr (X.loc 0) 18 (X.blt aO.tupleOf [X.loc 4])])
noncomputable def gV:Nat×List S:=(2,[S.setAttr (X.loc 0) 14 (X.loc 1)])
noncomputable def oB:Nat×List S:=(3,[S.ite (X.call 1 [X.loc 1]) [S.ret (X.sub (X.loc 2) (X.sub (X.loc 1) (X.cst (am.int 0))))] [],S.ret (X.meth (X.attr (X.loc 0) 14) 46 [X.sub (X.loc 1) (X.cst (am.int 0)),X.comp (X.meth (X.loc 0) 55 [X.loc 4,X.loc 2]) (ax.one 4) (X.slc (X.loc 1) Sl.tail) []])])
noncomputable def gT:Nat×List S:=(3,[S.ite (X.call 1 [X.loc 1]) [S.ret (X.meth (X.attr (X.loc 0) 14) 41 [X.sub (X.loc 2) (X.sub (X.loc 1) (X.cst (am.int 0)))])] [],S.asg (ax.one 3) (X.comp (X.meth (X.loc 0) 56 [X.loc 5,X.loc 2]) (ax.one 5) (X.slc (X.loc 1) Sl.tail) []),S.ret (X.ite (X.cmp aS.isIn (X.neg (X.cst (am.int 1))) (X.loc 3)) (X.neg (X.cst (am.int 1))) (X.meth (X.attr (X.loc 0) 14) 51 [X.sub (X.loc 1) (X.cst (am.int 0)),X.loc 3]))])
noncomputable def kN:Nat×List S:=(3,[S.asg (ax.many [3,4,5]) (X.loc 1),S.asg (ax.one 6) (X.meth (X.loc 0) 56 [X.loc 4,X.loc 2]),S.ret (X.cmp aS.eq (X.and (X.cmp aS.ne (X.loc 6) (X.neg (X.cst (am.int 1)))) (X.cmp aS.eq (X.loc 6) (X.meth (X.loc 0) 56 [X.loc 5,X.loc 2]))) (X.cmp aS.eq (X.loc 3) (X.cst (am.sym 11))))])
noncomputable def gS:Nat×List S:=(4,[S.ite (X.cmp aS.notIn (X.meth (X.loc 3) 31 [X.cst (am.sym 16),X.cst (am.sym 17)]) (X.glob 2)) [S.raise] [],S.asg (ax.one 4) (X.comp (X.attr (X.loc 6) 15) (ax.one 6) (X.loc 2) []),S.ite (X.cmp aS.lt (X.blt aO.len [X.blt aO.set [X.loc 4]]) (X.blt aO.len [X.loc 4])) [S.raise] [],S.setAttr (X.loc 0) 14 (X.loc 1),S.setAttr (X.loc 0) 19 (X.blt aO.listOf [X.loc 2]),S.setAttr (X.loc 0) 20 (X.loc 3),S.setAttr (X.loc 0) 21 (X.new 3 [X.loc 1]),S.setAttr (X.loc 0) 22 (X.new 5 [X.loc 1]),S.setAttr (X.loc 0) 23 (X.lst []),S.setAttr (X.loc 0) 24 (X.cst (am.int 0)),S.setAttr (X.loc 0) 25 (X.bin cQ.mul (X.lst [X.cst (am.int 0)]) (X.blt aO.len [X.attr (X.loc 0) 19])),S.setAttr (X.loc 0) 26 (X.bin cQ.mul (X.lst [X.cst (am.int 0)]) (X.blt aO.len [X.attr (X.loc 0) 19]))])
noncomputable def iG:Nat×List S:=(1,[S.ret (X.cmp aS.gt (X.meth (X.attr (X.loc 0) 14) 35 []) (X.meth (X.attr (X.loc 0) 20) 31 [X.cst (am.sym 20),X.cst (am.int 10000)]))])
noncomputable def iF:Nat×List S:=(2,[S.ite (X.cmp aS.gt (X.sub (X.attr (X.loc 0) 26) (X.loc 1)) (X.attr (X.loc 0) 24)) [S.ret (X.cst (am.none))] [],S.asg (ax.one 2) (X.meth (X.attr (X.loc 0) 21) 54 [X.attr (X.sub (X.attr (X.loc 0) 19) (X.loc 1)) 16]),S.ite (X.and (X.cmp aS.eq (X.meth (X.attr (X.loc 0) 20) 31 [X.cst (am.sym 16),X.cst (am.sym 17)]) (X.cst (am.sym 19))) (X.cmp aS.gt (X.blt aO.len [X.loc 2]) (X.meth (X.attr (X.loc 0) 20) 31 [X.cst (am.sym 21),X.cst (am.int 100)]))) [S.setSub (X.attr (X.loc 0) 25) (X.loc 1) (X.blt aO.max [X.cst (am.int 1),X.bin cQ.mul (X.cst (am.int 2)) (X.sub (X.attr (X.loc 0) 25) (X.loc 1))]),S.setSub (X.attr (X.loc 0) 26) (X.loc 1) (X.bin cQ.add (X.bin cQ.add (X.attr (X.loc 0) 24) (X.cst (am.int 1))) (X.sub (X.attr (X.loc 0) 25) (X.loc 1))),S.expr (X.meth (X.attr (X.loc 0) 23) 27 [X.tup [X.attr (X.loc 0) 24,X.attr (X.sub (X.attr (X.loc 0) 19) (X.loc 1)) 15,X.blt aO.len [X.loc 2],X.cst (am.int 0)]]),S.ret (X.cst (am.none))] [],S.ret (X.loc 2)])
noncomputable def kM:Nat×List S:=(3,[S.asg (ax.one 3) (X.blt aO.dict [X.loc 2]),S.ite (X.cmp aS.ne (X.attr (X.loc 1) 18) (X.tup [])) [S.expr (X.meth (X.attr (X.loc 0) 14) 49 [])] [],S.ite (X.cmp aS.ne (X.comp (X.loc 7) (ax.one 7) (X.attr (X.loc 1) 18) [X.not (X.meth (X.attr (X.loc 0) 22) 57 [X.loc 7,X.loc 3])]) (X.lst [])) [S.ret (X.cst (am.bool false))] [],S.asg (ax.many [4,5]) (X.tup [X.meth (X.attr (X.loc 0) 22) 55 [X.attr (X.loc 1) 16,X.loc 3],X.meth (X.attr (X.loc 0) 22) 55 [X.attr (X.loc 1) 17,X.loc 3]]),S.ret (X.meth (X.attr (X.loc 0) 14) 42 [X.loc 4,X.loc 5,X.tup [X.cst (am.sym 13),X.attr (X.loc 1) 15,X.blt aO.tupleOf [X.loc 2]]])])
noncomputable def fY:Nat×List S:=(3,[S.asg (ax.one 3) (X.cst (am.int 0)),S.for_ (ax.many [4,5]) (X.loc 2) [S.ite (X.and (X.not (X.meth (X.loc 0) 58 [])) (X.meth (X.loc 0) 60 [X.sub (X.attr (X.loc 0) 19) (X.loc 1),X.loc 5])) [S.asg (ax.one 3) (X.bin cQ.add (X.loc 3) (X.cst (am.int 1)))] []],S.expr (X.meth (X.attr (X.loc 0) 23) 27 [X.tup [X.attr (X.loc 0) 24,X.attr (X.sub (X.attr (X.loc 0) 19) (X.loc 1)) 15,X.blt aO.len [X.loc 2],X.loc 3]]),S.ret (X.loc 3)])
noncomputable def ak:OB:=[CR,lQ,qK,CQ,tv,oz,lR,oy,qL,qM,oA,eG,ji,qT,qS,kR,wL,qU,gR,lT,lS,lU,kL,iD,iE,je,qN,qP,tx,kP,qR,oD,qQ,lV,kQ,kO,i9,qO,gQ,gP,gN,kK,i8,gV,oB,gT,kN,gS,iG,iF,kM,fY]
end
section
open PySem PySem.W PyProof.Rows
noncomputable def qu:List (Nat×List String):=[(79,["text"]),(86,["t"]),(91,["t"]),(96,["t"]),(600,["pail","many"]),(605,["pail"]),(612,["nodes","left"]),(619,["world","right","x"]),(624,["world","a","b","is_asked"]),(631,["world","rule","match"]),(636,["world"]),(641,["script"]),(110,["self"]),(117,["self"]),(122,["self","op","kids"]),(129,["self","op"]),(155,["self","n"]),(162,["self","n"]),(378,["self"]),(385,["self"]),(392,["self"]),(399,["self","a"]),(406,["self","a","b"]),(413,["self","a"]),(418,["self"]),(460,["self"]),(467,["self"]),(472,["self","n"]),(477,["self","op","numbers"]),(489,["self","n"]),(496,["self","n"]),(510,["self","a","b","reason"]),(517,["self","a","b","reason"]),(524,["self"]),(538,["self"]),(545,["self","c"]),(550,["self","c"]),(562,["self","op","classes"]),(216,["self","heap"]),(221,["self","table","c","pattern"]),(228,["self","c","pattern"]),(233,["self","pattern"]),(253,["self","name","left","right","needs"]),(281,["self","heap"]),(286,["self","pattern","table"]),(291,["self","pattern","table"]),(298,["self","need","table"]),(317,["self","heap","rules","options"]),(324,["self"]),(331,["self","k"]),(336,["self","rule","subst"]),(343,["self","k","found"])]
noncomputable def bw(i:Nat):Addr:=(qu.getD i (0,[])).1
noncomputable def ba(i:Nat):Addr:=([198,442,572,236,263,301,360]:List Addr).getD i 0
noncomputable def aw(k:Nat):Str:=Str.ofString (aT.getD k "")
noncomputable def dX(k:Nat):Str:=Str.ofString (bP.getD k "")
noncomputable def i6:aO->Value
 | .len=>.builtin "len" | .int=>.type "int" | .max=>.builtin "max" | .sum=>.builtin "sum" | .dict=>.type "dict" | .sorted=>.builtin "sorted" | .set=>.type "set" | .listOf=>.type "list"
 | .tupleOf=>.type "tuple" | .range=>.type "range" | .enum=>.type "enumerate" | .zip=>.type "zip"
noncomputable section
noncomputable def JU:Option Obj->FuncData
 | some ⟨_,_,.func fd,_⟩=>fd
 | _=>default
noncomputable abbrev i0(K:Frag)(a:Addr):FuncData:=JU (K.lookup a)
noncomputable def iA:FuncBody->List Stmt
 | .stmts b=>b
 | _=>[]
noncomputable def nX:FuncBody->Bool
 | .stmts _=>true
 | _=>false
noncomputable def sN:Option Obj->Bool
 | some ⟨_,_,.func _,_⟩=>true
 | _=>false
noncomputable def JR(K:Frag)(r:Nat×List String)(fd:FuncData):Bool:=nX fd.body&&decide (fd.globals=mainGlobals)&&decide (fd.closure=[])&&decide (fd.builtins=builtinsNs)&&codeIn K fd.code fd.qualname&&yv fd.scope &&
 decide (fd.params.args.map (·.arg)=(aM fd.scope.names).take r.2.length)&&decide (fd.params.args.map (·.arg)=r.2.map Str.ofString)&&keepIn K (.ref r.1)&&sN (K.lookup r.1)
noncomputable def NY(K:Frag)(a:Addr):Bool:=decide (typeIn K (.ref a)=some (.type "function"))
noncomputable def sE(K:Frag)(C:Addr)(n:Str):Option Nat->Bool
 | some f=>decide (findIn K (.ref C) n=some (some (.ref (bw f))))&&NY K (bw f)
 | none=>true
noncomputable def Dx(K:Frag)(c:Nat)(C:Addr):Bool:=makesIn K C&&(dq c 1000).isSome&&sE K C "__init__" (dq c 1000)&&decide (findIn K (.ref C) "__getattribute__"=some (some (.builtin "object.__getattribute__"))) &&
 decide (findIn K (.ref C) "__getattr__"=some none)&&decide (findIn K (.ref C) "__setattr__"=some (some (.builtin "object.__setattr__")))&&plainOver K C&&hasDictIn K C&&keepIn K (.ref C) &&
 ((List.range bP.length).all fun m=>sE K C (dX m) (dq c m))&&(List.range 27).all fun a=>((findIn K (.ref C) (dX a)).any (noGet K))&&decide (takerIn K C (dX a)=some none)
noncomputable def xI(k:Nat):Value->Bool
 | .str x _=>decide (x=aw k)
 | _=>false
noncomputable def C6:Data->Option (Array Value×Nat)
 | .seq ws n=>some (ws,n)
 | _=>none
noncomputable def Ai:Value->Option Addr
 | .ref a=>some a
 | _=>none
noncomputable def xz(K:Frag)(v:Value):Option (Array Value×Nat):=(Ai v).bind fun a=>(K.lookup a).bind fun o=>bif decide (o.cls=.type "tuple")&&(o.dict.isNone&&o.slots.isEmpty) then C6 o.data else none
mutual
noncomputable def tO(K:Frag):AV->Value->Bool
 | .sym k,w=>decide (k<aT.length)&&xI k w
 | .tup vs,w=>decide (vs.length<=ay)&&(xz K w).any fun r=>jJ K vs r.1.toList
 | _,_=>false
noncomputable def jJ(K:Frag):List AV->List Value->Bool
 | [],ws=>ws.isEmpty
 | v::vs,ws=>match ws with
  | []=>false
  | w::ws=>tO K v w&&jJ K vs ws
end
noncomputable def Dh(K:Frag)(x:Str):Value:=((nsIn K mainGlobals x).getD none).getD .none
noncomputable def yD(K:Frag)(x:String)(v:Value):Bool:=decide (nsIn K mainGlobals (Str.ofString x)=some (some v))
noncomputable def Ki(K:Frag):Bool:=(qu.all fun r=>JR K r (i0 K r.1))&&((List.range 7).all fun c=>Dx K c (ba c)) &&
 ((List.range 12).all fun i=>yD K (TB.fns.getD i "") (.ref (bw i)))&&((List.range 7).all fun i=>yD K (TB.clss.getD i "") (.ref (ba i))) &&
 ((List.range 3).all fun i=>(qq i).any fun av=>yD K (TB.globs.getD i "") (Dh K (Str.ofString (TB.globs.getD i "")))&&tO K av (Dh K (Str.ofString (TB.globs.getD i "")))) &&
 ([aO.len,.int,.max,.sum,.dict,.sorted,.set,.listOf,.tupleOf,.range,.enum,.zip].all fun b=>decide (nsIn K mainGlobals (ti b)=some none)&&decide (bootBuiltins (ti b)=some (i6 b))&&!decide (ti b=("__name__":Str)))&&yD K "law" (.ref 641)
noncomputable def iT(K:Frag):=(Ki K,qu.map fun r=>(r.2.length,trSs TB (i5 (i0 K r.1).scope) (iA (i0 K r.1).body)),fun g:Nat->Value=>qu.map fun r=>bindArgs (i0 K r.1) ⟨(List.range r.2.length).map g,[]⟩)
noncomputable def iv:Bool×List (Nat×Option (List S))×((Nat->Value)->List (Sem (List (Str×Value)))):=(true,ak.map fun b=>(b.1,some b.2),fun g=>qu.map fun r=>pure ((r.2.map Str.ofString).zip ((List.range r.2.length).map g)))
def qY(w:World)(H:Heap)(K:Frag):Prop:=K.In H->iT K=iv->H.NoLimit->(∃ o,H.get? sysModules=some o)->∀{mg mb:Str->Option Value},H.Ns mainGlobals mg->H.Ns builtinsNs mb->(∀ x:Str,x≠"__name__"->mb x=bootBuiltins x)->
 ∀{s:Shared} {script:Addr} {ws:List Value} {is:List Int} {R:Result->Shared->Prop},s.heap=H->H.IsList script ws.toArray->IntsAre ws is->is.length<=63->(∃ Y',az ak 30 11 [.frz (is.map .int)] []=some (.bool true,Y'))->
 (∀ h' t' d',(∀ b o,H.get? b=some o->h'.get? b=some o)->R (.ok (.ret (.bool true))) { s with heap:=h',toks:=t',drawn:=d' })->codeAny (model PySem.Challenge.rw_rh0018_01.row.prog w) callerA (.call (.ref 641) ⟨[.ref script],[]⟩) R s
noncomputable def KU:World×Heap×Frag:=@Classical.epsilon _ ⟨⟨⟨fun _ _=>0,{ strHash:=fun _=>0,shareClass:=fun _=>0,mergeTok:=fun t=>t,idOf:=fun _=>0,idOfShared:=fun _ _=>0,followText:=fun _=>false,idOfImm:=fun _=>0 }⟩,{},[]⟩⟩ fun x=>¬qY x.1 x.2.1 x.2.2
@[irreducible] noncomputable def w0:World:=KU.1
@[irreducible] noncomputable def H0:Heap:=KU.2.1
@[irreducible] noncomputable def K0:Frag:=KU.2.2
end
theorem dw{α β:Type}[BEq α][LawfulBEq α]{x:α}{p:α×β}{l:List (α×β)}(e:x=p.1):(p::l).lookup x=some p.2:=by
 rw[show List.lookup x (p::l)=_ from List.lookup_cons,beq_iff_eq.mpr e]
theorem fR{α β:Type}[BEq α][LawfulBEq α]{x:α}{p:α×β}{l:List (α×β)}(e:x≠p.1):(p::l).lookup x=l.lookup x:=by
 rw[show List.lookup x (p::l)=_ from List.lookup_cons,beq_eq_false_iff_ne.mpr e]
theorem aE{α β:Type}[BEq α][LawfulBEq α]{l:List (α×β)}{x:α}{c:β}:l.lookup x=some c->(x,c)∈l:=by
 induction l with
 | nil=>exact fun h=>bZ h
 | cons p l ih=>exact fun h=>(Tu (x=p.1)).elim (fun e=>SW.mpr (.inl (Prod.ext e (S0 ((dw e).symm.trans h)).symm))) fun e=>.tail _ (ih ((fR e).symm.trans h))
theorem BY(h:qY w0 H0 K0)(w:World)(H:Heap)(K:Frag):qY w H K:=Classical.not_not.mp fun n=>by
 unfold w0 H0 K0 at h;exact(Classical.epsilon_spec (p:=fun x:World×Heap×Frag=>¬qY x.1 x.2.1 x.2.2) ⟨(w,H,K),n⟩) h
abbrev RR:=PySem.Challenge.rw_rh0018_01
noncomputable def pg:Program:=RR.row.prog
noncomputable def qv:Program:=PySem.W.view pg [0,2,3,4,6,7,8,9,10,12,14,15,16,17,19,21,23,24,25,26,27,28,29,30,31,32]
noncomputable def ye(ok:Thread->Bool)(st:SharedT->Thread->Option (SharedT×Thread)):Nat->SharedT->Thread->Option SharedT
 | 0,_,_=>none
 | n+1,s,t=>match through t with
  | true=>some s
  | false=>match ok t with
   | false=>none
   | true=>match st s t with
    | some (s',t')=>ye ok st n s' t'
    | none=>none
theorem tZ{tb:String->Option Builtin}{p:Program}{w:World}{n₀:Nat}{ann:Option Value}:∀{n:Nat} {s s':SharedT} {t:Thread},ye (stepOk n₀ ann) (stepT (denote tb) p w) n s t=some s'->topRun tb p w n₀ ann n s.abs t=some s'.abs
 | 0,_,_,_,h=>by cases h
 | n+1,s,s',t,h=>by
  unfold ye at h;unfold topRun
  cases he:through t with
  | true=>rw[he] at h;cases h;rfl
  | false=>
   rw[he] at h
   cases hk:stepOk n₀ ann t with
   | false=>rw[hk] at h;cases h
   | true=>
    rw[hk] at h
    cases hs:stepT (denote tb) p w s t with
    | none=>rw[hs] at h;cases h
    | some r=>obtain⟨s₂,t₂⟩:=r;rw[hs] at h;rw[stepT_spec hs];exact tZ h
noncomputable def J9(P:Params):BT:=((boot_heap P).objs.toList.foldl (fun(x:BT×Nat) o=>(x.1.ins x.2 o,x.2+1)) (BT.nil,0)).1
noncomputable def zZ(w:World)(os:OsState):SharedT:=⟨J9 w.params,(boot_heap w.params).objs.size,(boot_heap w.params).life,#[],boot_drawn,boot_toks,os⟩
theorem zY(w:World)(os:OsState):(zZ w os).abs=⟨boot_heap w.params,#[],boot_drawn,boot_toks,os⟩:=by kernel_rfl
noncomputable def JS(w:World)(os:OsState):Option SharedT:=
 ye (stepOk (boot_heap w.params).objs.size ((boot_heap w.params).nsMap mainGlobals "__annotations__")) (stepT (denote treeTable) pg w) 5000 (zZ w os) (topStub pg)
open PySem.W.Fast in
noncomputable def wy(w:World)(os:OsState):Option SharedT:=
 ye (tw6613529449190102663 (boot_heap w.params).objs.size ((boot_heap w.params).nsMap mainGlobals "__annotations__")) (tw10156331382660048174 (tw11892475500146522536 tw14364793385576792824) pg w) 5000 (zZ w os) (topStub pg)
theorem Cq:wy=JS:=by
 unfold wy JS;rw[PySem.W.Fast.te6613529449190102663,PySem.W.Fast.te10156331382660048174,PySem.W.Fast.te11892475500146522536,PySem.W.Fast.te14364793385576792824]
noncomputable def Xt(s:Shared):Bool:=xlAt qv [] s&&recOk (RowW.records RR.row.toRowW) s
noncomputable def tX(w:World)(s₁:Shared):=(staticsOk (importedModules pg.main.body) (boot_heap w.params) s₁.heap&&namesBound pg s₁.heap&&gensDone s₁&&laidKept (boot_heap w.params) s₁.heap,openSeen qv [] (importedModules pg.main.body) Xt true s₁)
theorem Iz:∀ w:World,(fencedOpening treeTable pg w 5000).map (fun s=>(s.heap,s.gens,s.drawn,s.toks))=some (boot_heap w.params,Array.mk [],boot_drawn,boot_toks):=boot_open (by kernel_rfl) rfl fun s=>by kernel_rfl
noncomputable def Do(h:Heap):Frag:=((List.range 642).filter fun a=>Nat.testBit 0x339db9dbb73b7fffe7f6e76e76eddbb76eddbb76e739dbb401fdbb76e76eddbb76ed007f6eddb9dbb7200fedce76803fb72027f3b73b401fdbb76e76eddbb73b76e76ed019cedc9c09c09fb76c276800c a).filterMap fun a=>(h.get? a).map fun o=>(a,o)
theorem ya(w:World)(os:OsState):(wy w os).map (fun s=>tX w s.abs)=some (true,openGood qv []):=by kernel_rfl
theorem rM(w:World)(os:OsState):(wy w os).map (fun s=>iT (Do s.abs.heap))=some iv:=by kernel_rfl
noncomputable def zg:Option Shared->Heap
 | some s=>s.heap
 | none=>default
theorem BX{β:Type}{E:Option Shared}{s:Shared}{f:Shared->β}{g:β}(e:E=some s)(h:f s=g):E.map (fun s=>(f s,s.heap))=some (g,zg E):=by
 subst e;rw[Option.map_some,h];rfl
theorem GC{tb:String->Option Builtin}{p:Program}{w:World}{N:Nat}{H:Heap}{d:Drawn}{k:Nat}{Good:Shared->Prop}(o:(fencedOpening tb p w N).map (fun s=>(s.heap,s.gens,s.drawn,s.toks))=some (H,Array.mk [],d,k))(z:H.isNs mainGlobals=true)
  (r:∀ os,∃ s₁:Shared,topRun tb p w H.objs.size (H.nsMap mainGlobals "__annotations__") N ⟨H,#[],d,k,os⟩ (topStub p)=some s₁/\(staticsOk (importedModules p.main.body) H s₁.heap&&namesBound p s₁.heap&&gensDone s₁&&laidKept H s₁.heap)=true/\Good s₁):∃ s₁,openEnds tb p w N=some s₁/\Good s₁:=by
 obtain⟨⟨h,gs,d',k',os⟩,e,e'⟩:=Ur.mp o;simp only[Prod.mk.injEq] at e';obtain⟨rfl,rfl,rfl,rfl⟩:=e';obtain⟨s₁,r1,r2,r3⟩:=r os;refine⟨s₁,?_,r3⟩;unfold openEnds;rw[e,Option.bind_some];unfold topFrom;dsimp only;rw[z];show(topRun tb p w _ _ N _ (topStub p)).bind _=_;rw[r1,Option.bind_some,r2]
theorem CF(w:World):(boot_heap w.params).isNs mainGlobals=true:=by kernel_rfl
theorem A7{α β:Type}{x:Option α}{f:α->β}{b:β}(h:x.map f=some b):∃ a,x=some a/\f a=b:=Ur.mp h
theorem BJ{α β:Type}{x:Option α}{a:α}{f:α->β}{b:β}(h:x=some a)(g:x.map f=some b):f a=b:=by subst h;exact S0 g
theorem EI(w:World)(os:OsState):∃ s:SharedT,wy w os=some s/\tX w s.abs=(true,openGood qv [])/\iT (Do s.abs.heap)=iv:=(A7 (ya w os)).imp fun s h=>⟨h.1,h.2,BJ (f:=fun s:SharedT=>iT (Do s.abs.heap)) h.1 (rM w os)⟩
theorem DW{w:World}{os:OsState}{s:SharedT}(a:wy w os=some s):topRun treeTable pg w (boot_heap w.params).objs.size ((boot_heap w.params).nsMap mainGlobals "__annotations__") 5000 ⟨boot_heap w.params,#[],boot_drawn,boot_toks,os⟩ (topStub pg)=some s.abs:=by
 rw[Cq] at a;rw[<- zY w os];exact tZ a
theorem zr(w:World):∃ s₁,openEnds treeTable pg w 5000=some s₁/\(openSeen qv [] (importedModules pg.main.body) Xt true s₁=openGood qv []/\iT (Do s₁.heap)=iv):=
 GC (Iz w) (CF w) fun os=>(EI w os).elim fun s h=>⟨s.abs,DW h.1,SI Prod.fst h.2.1,SI Prod.snd h.2.1,h.2.2⟩
noncomputable def Ya(w:World):Heap:=zg (openEnds treeTable pg w 5000)
theorem qg:LeftO pg qv [] Xt Shared.heap Ya 5000:=fun w=>let⟨_,e,h,_⟩:=zr w;BX (f:=fun s=>openSeen qv [] (importedModules pg.main.body) Xt true s) e h
theorem oP(w:World):iT (Do (Ya w))=iv:=(zr w).elim fun s h=>by
 unfold Ya;rw[h.1];exact h.2.2
theorem Ft(h:Heap):(Do h).In h:=fun a o e=>by
 have m:=aE e;obtain⟨b,_,hb⟩:=List.mem_filterMap.mp m;obtain⟨o',h1,h2⟩:=Ur.mp hb
 cases h2
 exact h1
theorem Lv:RR.wellSaid=true:=by kernel_rfl
def YP(w:World)(h:Heap):Prop:=∀ b o,(Ya w).get? b=some o->h.get? b=some o
noncomputable def Fh:DefRec×List (Str×PySem.Expr):=(defOf qv RR.row.name).get (by kernel_rfl)
theorem Lc(walk:WalkO qv [] (XL qv []) YP RR.row.toRowW Fh.1 Fh.2 fun f vs=>PySem.call f vs):RR.Holds:=
 holds_law Lv fun _=>W.holds_open (r:=RR.row) (q:=qv) (loose:=[]) (Xt:=Xt) (XP:=XL qv []) (Yf:=Shared.heap) (Ya:=Ya) (YP:=YP) (N:=5000) qg
  (fun w s e b o h=>by rw[e];exact h) (fun w h h' y k b o e=>k b o (y b o e)) (fun s e=>xl_of s (SU.mp e).1) XL.keeps (by kernel_rfl) (by kernel_rfl) (by kernel_rfl)
  (fun s e=>recFacts_of (SU.mp e).2) (by kernel_rfl) (by assumption) (by kernel_rfl) ⟨rfl,rfl,rfl,rfl,rfl,by kernel_rfl⟩ (by w_witness2) walk
noncomputable abbrev G7:=List (Addr×Addr)
noncomputable def c9(ι:G7):List Addr:=ι.map (·.2)
noncomputable abbrev bW(ws:Array Value)(n:Nat):Obj:={ cls:=.type "tuple",data:=.seq ws n }
noncomputable abbrev gy(ws:Array Value)(n:Nat):Obj:={ cls:=.type "list",data:=.seq ws n }
noncomputable abbrev bT(es:Array DictEntry)(n:Nat):Obj:={ cls:=.type "dict",data:=.dict es n }
noncomputable abbrev Id(es:Array (Int×Value))(n:Nat)(t:SetTable):Obj:={ cls:=.type "set",data:=.set es n t }
noncomputable abbrev HH(a:Addr):Obj:={ cls:=.type "dict_items",data:=.fields #[.ref a] }
noncomputable abbrev Lw(n:Nat)(t u y:Tok):Obj:={ cls:=.type "range",dict:=none,data:=.fields #[.int 0 t,.int n u,.int 1 y],slots:=#[] }
noncomputable abbrev M0:=model PySem.Challenge.rw_rh0018_01.row.prog w0
structure Hp where
 ι:G7
 κ:List Addr
 h:Heap
noncomputable def Hp.F(x:Hp):List Addr:=c9 x.ι++x.κ
structure fH(x:Hp)(a:Addr)(o:Obj):Prop where
 h:x.h.get? a=some o
 out:a∉x.F
noncomputable def kG:Bool:=w0.params.followText "set-order"
def Kp(es:Array (Int×Value))(t:SetTable)(ws:List Value):Prop:=t.fits es.size=true/\es.toList.map (·.2)=ws/\(t.led=true\/kG=true)/\es.size<=2/\∀ x y,t.place=#[x,y]->x<y
mutual
noncomputable def aq(x:Hp):AV->Value->Prop
 | .none,v=>v=.none
 | .bool b,v=>v=.bool b
 | .int i,v=>∃ t,v=.int i t
 | .sym k,v=>k<aT.length/\∃ t,v=.str (aw k) t
 | .ref n,v=>∃ p,x.ι[n]?=some p/\v=.ref p.1
 | .tup vs,v=>vs.length<=ay/\∃ a ws n,v=.ref a/\fH x a (bW ws n)/\bQ x vs ws.toList
 | .frz vs,v=>vs.length<=ay/\∃ a ws n o,v=.ref a/\(H0.get? a=some o/\o.cls=.type "list"/\o.data=.seq ws n)/\fH x a o/\bQ x vs ws.toList
 | .fset vs,v=>∃ a ws us es n t,v=.ref a/\(Kp es t ws/\us.Perm ws)/\fH x a (Id es n t)/\bQ x vs us
 | .view r,v=>∃ a p,v=.ref a/\x.ι[r]?=some p/\fH x a (HH p.1)
 | .rng n,v=>n<=50000/\∃ a t u y,v=.ref a/\fH x a (Lw n t u y)
 | .enm _,_=>False
 | .zp _ _,_=>False
noncomputable def bQ(x:Hp):List AV->List Value->Prop
 | [],ws=>ws=[]
 | v::vs,ws=>∃ w r,ws=w::r/\aq x v w/\bQ x vs r
end
mutual
noncomputable def bL:AV->Int
 | .int i=>hashInt i
 | .sym k=>hashStr w0 (aw k)
 | .tup vs=>reduceHash (Builtin.Tuple.tupleHashOf (fX vs))
 | _=>0
noncomputable def fX:List AV->List Int
 | []=>[]
 | v::vs=>bL v::fX vs
end
structure DE(x:Hp)(e:AV×AV)(d:DictEntry):Prop where
 pur:e.1.pur=true
 hash:d.hash=bL e.1
 key:aq x e.1 d.key
 val:aq x e.2 d.val
structure FE(x:Hp)(e:Nat×AV)(d:DictEntry):Prop where
 lt:e.1<bP.length
 key:∃ t,d.key=.str (dX e.1) t
 val:aq x e.2 d.val
noncomputable def ai{α β:Type}(R:α->β->Prop):List α->List β->Prop
 | [],ds=>ds=[]
 | e::es,ds=>∃ d r,ds=d::r/\R e d/\ai R es r
structure OC(x:Hp)(a:Addr)(vs:List AV):Prop where
 len:vs.length<=ay
 ex:∃ ws n,x.h.get? a=some (gy ws n)/\ai (aq x) vs ws.toList
structure OD(x:Hp)(a:Addr)(es:List (AV×AV)):Prop where
 len:es.length<=ay
 nodup:(es.map (·.1)).Nodup
 ex:∃ ds n,x.h.get? a=some (bT ds n)/\ai (DE x) es ds.toList
structure G2(x:Hp)(p:Addr×Addr)(c:Nat)(fs:List (Nat×AV)):Prop where
 lt:c<7
 len:fs.length<=100
 nodup:(fs.map (·.1)).Nodup
 obj:fH x p.1 (instObj (ba c) p.2)
 ex:∃ ds n,x.h.get? p.2=some (bT ds n)/\ai (FE x) fs ds.toList
noncomputable def eg(x:Hp)(p:Addr×Addr):AO->Prop
 | .list vs=>p.1=p.2/\OC x p.2 vs
 | .dict es=>p.1=p.2/\OD x p.2 es
 | .hid=>p.1=p.2/\∃ a b,x.h.get? p.2=some (bW #[a,b] 0)
 | .inst c fs=>G2 x p c fs
structure Wk(x y:Hp):Prop where
 get:∀{n:Nat} {p:Addr×Addr},x.ι[n]?=some p->y.ι[n]?=some p
 imm:∀{a:Addr} {o:Obj},fH x a o->fH y a o
theorem Wk.refl(x:Hp):Wk x x:=⟨fun h=>h,fun h=>h⟩
theorem Wk.trans{x y z:Hp}(a:Wk x y)(b:Wk y z):Wk x z:=⟨fun h=>b.get (a.get h),fun h=>b.imm (a.imm h)⟩
section
variable{x y:Hp}
mutual
theorem aq.wk(k:Wk x y):∀{v:AV} {w:Value},aq x v w->aq y v w
 | .none,_,e=>e
 | .bool _,_,e=>e
 | .int _,_,e=>e
 | .sym _,_,e=>e
 | .ref _,_,e=>e.imp fun _ h=>⟨k.get h.1,h.2⟩
 | .tup _,_,e=>⟨e.1,e.2.imp fun _ h=>h.imp fun _ h=>h.imp fun _ h=>⟨h.1,k.imm h.2.1,bQ.wk k h.2.2⟩⟩
 | .frz _,_,e=>⟨e.1,e.2.imp fun _ h=>h.imp fun _ h=>h.imp fun _ h=>h.imp fun _ h=>⟨h.1,h.2.1,k.imm h.2.2.1,bQ.wk k h.2.2.2⟩⟩
 | .fset _,_,e=>e.imp fun _ h=>h.imp fun _ h=>h.imp fun _ h=>h.imp fun _ h=>h.imp fun _ h=>h.imp fun _ h=>⟨h.1,h.2.1,k.imm h.2.2.1,bQ.wk k h.2.2.2⟩
 | .view _,_,e=>e.imp fun _ h=>h.imp fun _ h=>⟨h.1,k.get h.2.1,k.imm h.2.2⟩
 | .rng _,_,e=>⟨e.1,e.2.imp fun _ h=>h.imp fun _ h=>h.imp fun _ h=>h.imp fun _ h=>⟨h.1,k.imm h.2⟩⟩
 | .enm _,_,e=>e
 | .zp _ _,_,e=>e
theorem bQ.wk(k:Wk x y):∀{vs:List AV} {ws:List Value},bQ x vs ws->bQ y vs ws
 | [],_,e=>e
 | _::_,_,e=>e.imp fun _ h=>h.imp fun _ h=>⟨h.1,aq.wk k h.2.1,bQ.wk k h.2.2⟩
end
section
variable{α β:Type}{R:α->β->Prop}
theorem ai.nil:ai R [] []:=rfl
theorem ai.cons{a:α}{b:β}{es:List α}{ds:List β}(h:R a b)(t:ai R es ds):ai R (a::es) (b::ds):=⟨b,ds,rfl,h,t⟩
theorem ai.nilE{ds:List β}{P:List β->Prop}(h:ai R [] ds)(k:P []):P ds:=(show ds=[] from h)▸k
theorem ai.consE{a:α}{es:List α}{ds:List β}{P:List β->Prop}(h:ai R (a::es) ds)(k:∀ b r,R a b->ai R es r->P (b::r)):P ds:=h.elim fun b h=>h.elim fun r h=>h.1▸k b r h.2.1 h.2.2
theorem ai.ind{P:List α->List β->Prop}(h0:P [] [])(h1:∀{a b es ds},R a b->ai R es ds->P es ds->P (a::es) (b::ds)){es:List α}:∀{ds:List β},ai R es ds->P es ds:=by
 induction es with
 | nil=>exact fun h=>h.nilE (P:=P []) h0
 | cons a es ih=>exact fun h=>h.consE (P:=P (a::es)) fun _ _ h t=>h1 h t (ih t)
variable{es es':List α}{ds ds':List β}
theorem ai.mono{S:α->β->Prop}(k:∀{a b},R a b->S a b)(h:ai R es ds):ai S es ds:=h.ind (P:=ai S) .nil fun h _ t=>.cons (k h) t
theorem ai.length(h:ai R es ds):es.length=ds.length:=by
 have:=ai.ind (R:=R) (P:=fun es ds=>es.length=ds.length) rfl (fun _ _ t=>SI (·+1) t) h;exact this
theorem ai.append(h:ai R es ds)(g:ai R es' ds'):ai R (es++es') (ds++ds'):=h.ind (P:=fun es ds=>ai R (es++es') (ds++ds')) g fun h _ t=>.cons h t
theorem ai.snoc{a:α}{b:β}(h:ai R es ds)(g:R a b):ai R (es++[a]) (ds++[b]):=h.append (.cons g .nil)
theorem ai.reverse(h:ai R es ds):ai R es.reverse ds.reverse:=h.ind (P:=fun es ds=>ai R es.reverse ds.reverse) .nil fun h _ t=>by rw[List.reverse_cons,List.reverse_cons];exact t.snoc h
theorem ai.at{i:Nat}:ai R es ds->(es[i]?=none/\ds[i]?=none)\/∃ a b,es[i]?=some a/\ds[i]?=some b/\R a b:=
 fun h=>ai.ind (P:=fun es ds=>∀ i:Nat,(es[i]?=none/\ds[i]?=none)\/∃ a b,es[i]?=some a/\ds[i]?=some b/\R a b) (fun _=>.inl ⟨rfl,rfl⟩) (fun h _ t i=>i.casesOn (.inr ⟨_,_,rfl,rfl,h⟩) t) h i
theorem ai.get{i:Nat}{a:α}(h:ai R es ds)(e:es[i]?=some a){P:Prop}(k:∀ b,ds[i]?=some b->R a b->P):P:=
 h.at.elim (fun q=>nomatch e.symm.trans q.1) fun q=>q.elim fun _ q=>q.elim fun b q=>k b q.2.1 (S0 (e.symm.trans q.1)▸q.2.2)
theorem ai.get'{i:Nat}{b:β}(h:ai R es ds)(e:ds[i]?=some b){P:Prop}(k:∀ a,es[i]?=some a->R a b->P):P:=
 h.at.elim (fun q=>nomatch e.symm.trans q.2) fun q=>q.elim fun a q=>q.elim fun _ q=>k a q.1 (S0 (e.symm.trans q.2.1)▸q.2.2)
theorem ai.drop(k:Nat):∀{es:List α} {ds:List β},ai R es ds->ai R (es.drop k) (ds.drop k):=by
 induction k with
 | zero=>exact fun h=>h
 | succ k ih=>
  refine @fun es ds h=>?_
  cases es with
  | nil=>exact h.nilE (P:=fun ds=>ai R [] (ds.drop _)) rfl
  | cons a es=>exact h.consE (P:=fun ds=>ai R (es.drop k) (ds.drop (k+1))) fun _ _ _ t=>ih t
theorem ai.take(k:Nat):∀{es:List α} {ds:List β},ai R es ds->ai R (es.take k) (ds.take k):=by
 induction k with
 | zero=>exact fun _=>(rfl:ai R [] [])
 | succ k ih=>
  refine @fun es ds h=>?_
  cases es with
  | nil=>exact h.nilE (P:=fun ds=>ai R [] (ds.take _)) rfl
  | cons a es=>exact h.consE (P:=fun ds=>ai R (a::es.take k) (ds.take (k+1))) fun _ _ h t=>.cons h (ih t)
theorem ai.set(i:Nat){a:α}{b:β}(h:ai R es ds)(g:R a b):ai R (es.set i a) (ds.set i b):=
 ai.ind (P:=fun es ds=>∀ i,ai R (es.set i a) (ds.set i b)) (fun _=>.nil) (fun h t s i=>i.casesOn (.cons g t) fun i=>.cons h (s i)) h i
theorem ai.eraseIdx(i:Nat)(h:ai R es ds):ai R (es.eraseIdx i) (ds.eraseIdx i):=
 ai.ind (P:=fun es ds=>∀ i,ai R (es.eraseIdx i) (ds.eraseIdx i)) (fun _=>.nil) (fun h t s i=>i.casesOn t fun i=>.cons h (s i)) h i
theorem ai.modify{f:α->α}{g:β->β}(i:Nat)(h:ai R es ds)(k:∀ a b,es[i]?=some a->R a b->R (f a) (g b)):ai R (es.modify i f) (ds.modify i g):=
 ai.ind (P:=fun es ds=>∀ i,(∀ a b,es[i]?=some a->R a b->R (f a) (g b))->ai R (es.modify i f) (ds.modify i g)) (fun i _=>by cases i<;>exact .nil)
  (fun h t s i=>i.casesOn (fun k=>.cons (k _ _ rfl h) t) fun i k=>.cons h (s i k)) h i k
end
theorem bQ.both:∀{vs:List AV} {ws:List Value},bQ x vs ws->ai (aq x) vs ws
 | [],_,e=>e
 | _::_,_,e=>e.imp fun _ h=>h.imp fun _ h=>⟨h.1,h.2.1,bQ.both h.2.2⟩
theorem ai.vrels{vs:List AV}{ws:List Value}(h:ai (aq x) vs ws):bQ x vs ws:=h.ind (P:=bQ x) rfl fun h _ t=>⟨_,_,rfl,h,t⟩
theorem DE.wk(k:Wk x y){e:AV×AV}{d:DictEntry}(h:DE x e d):DE y e d:=⟨h.pur,h.hash,h.key.wk k,h.val.wk k⟩
theorem FE.wk(k:Wk x y){e:Nat×AV}{d:DictEntry}(h:FE x e d):FE y e d:=⟨h.lt,h.key,h.val.wk k⟩
theorem eg.wk(k:Wk x y){p:Addr×Addr}(hp:y.h.get? p.2=x.h.get? p.2):∀{o:AO},eg x p o->eg y p o
 | .list _,e=>⟨e.1,e.2.len,e.2.ex.imp fun _ h=>h.imp fun _ h=>⟨hp.trans h.1,h.2.mono (·.wk k)⟩⟩
 | .dict _,e=>⟨e.1,e.2.len,e.2.nodup,e.2.ex.imp fun _ h=>h.imp fun _ h=>⟨hp.trans h.1,h.2.mono (DE.wk k)⟩⟩
 | .hid,e=>⟨e.1,e.2.imp fun _ h=>h.imp fun _ h=>hp.trans h⟩
 | .inst _ _,e=>⟨e.lt,e.len,e.nodup,k.imm e.obj,e.ex.imp fun _ h=>h.imp fun _ h=>⟨hp.trans h.1,h.2.mono (FE.wk k)⟩⟩
theorem eg.alive{p:Addr×Addr}:∀{o:AO},eg x p o->∃ o',x.h.get? p.2=some o'
 | .list _,e=>e.2.ex.elim fun _ h=>h.elim fun _ h=>⟨_,h.1⟩
 | .dict _,e=>e.2.ex.elim fun _ h=>h.elim fun _ h=>⟨_,h.1⟩
 | .hid,e=>e.2.elim fun _ h=>h.elim fun _ h=>⟨_,h⟩
 | .inst _ _,e=>e.ex.elim fun _ h=>h.elim fun _ h=>⟨_,h.1⟩
theorem dJ(ι e:G7):c9 (ι++e)=c9 ι++c9 e:=Th
end
structure tJ(f k:Nat)(b:List S):Prop where
 ex:∃(nm qual:Str) (params:Arguments) (body:List Stmt) (scope:Scope) (dV kV doc pm cdv ct:Value) (an:Option Addr) (fo:Obj),
  H0.get? (bw f)=some fo/\fo.data=.func (fnX nm qual params body scope [] dV kV doc pm an cdv ct)/\H0.CodeRec cdv qual/\yv scope=true/\
  params.args.map (·.arg)=(aM scope.names).take k/\params.args.length=k/\
  (∀(s:Shared) (vs:List Value),vs.length=k->BindsTo s (fnX nm qual params body scope [] dV kV doc pm an cdv ct) ⟨vs,[]⟩ ((params.args.map (·.arg)).zip vs))/\
  trSs TB (i5 scope) body=some b
 keep:keepIn K0 (.ref (bw f))=true
structure uT(c:Nat):Prop where
 makes:makesIn K0 (ba c)=true
 init:∃ f,dq c 1000=some f/\findIn K0 (.ref (ba c)) "__init__"=some (some (.ref (bw f)))/\typeIn K0 (.ref (bw f))=some (.type "function")
 ga:findIn K0 (.ref (ba c)) "__getattribute__"=some (some (.builtin "object.__getattribute__"))
 gx:findIn K0 (.ref (ba c)) "__getattr__"=some none
 sa:findIn K0 (.ref (ba c)) "__setattr__"=some (some (.builtin "object.__setattr__"))
 plain:plainOver K0 (ba c)=true
 hasDict:hasDictIn K0 (ba c)=true
 keep:keepIn K0 (.ref (ba c))=true
 meth:∀ m f,dq c m=some f->m<bP.length->findIn K0 (.ref (ba c)) (dX m)=some (some (.ref (bw f)))/\typeIn K0 (.ref (bw f))=some (.type "function")
 attr:∀ a,a<27->∃ r,findIn K0 (.ref (ba c)) (dX a)=some r/\noGet K0 r=true
 taker:∀ a,a<27->takerIn K0 (ba c) (dX a)=some none
structure PF:Prop where
 kin:K0.In H0
 nolimit:H0.NoLimit
 sysm:∃ o,H0.get? sysModules=some o
 ns:∃ mg mb,H0.Ns mainGlobals mg/\H0.Ns builtinsNs mb/\
  (∀ i x,TB.fns[i]?=some x->mg (Str.ofString x)=some (.ref (bw i)))/\(∀ i x,TB.clss[i]?=some x->mg (Str.ofString x)=some (.ref (ba i)))/\
  (∀ i x,TB.globs[i]?=some x->∃ v av,mg (Str.ofString x)=some v/\qq i=some av/\aq ⟨[],[],H0⟩ av v)/\
  (∀ b,mg (ti b)=none/\mb (ti b)=some (i6 b))
 fns:∀ f k b,ak[f]?=some (k,b)->tJ f k b
 clss:∀ c,c<7->uT c
structure iJ(x:Hp)(Y:St):Prop where
 pf:PF
 len:x.ι.length=Y.length
 nodup:x.F.Nodup
 alive:∀ a,a∈x.F->H0.get? a=none/\∃ o,x.h.get? a=some o
 keep:∀ a o,H0.get? a=some o->x.h.get? a=some o
 objs:∀(i:Nat) (p:Addr×Addr) (o:AO),x.ι[i]?=some p->Y[i]?=some o->eg x p o
structure Pt(Y:St) where
 ι:G7
 κ:List Addr
 s:Shared
 r:iJ ⟨ι,κ,s.heap⟩ Y
noncomputable abbrev Pt.x{Y:St}(p:Pt Y):Hp:=⟨p.ι,p.κ,p.s.heap⟩
structure Nx(X:List Addr){Y Y':St}(p:Pt Y)(q:Pt Y'):Prop where
 wk:Wk p.x q.x
 prv:∀ a,a∈p.κ->a∈X\/(a∈q.κ/\q.s.heap.get? a=p.s.heap.get? a)
 gens:q.s.gens=p.s.gens
 os:q.s.os=p.s.os
def V{Y:St}(v:AV)(p:Pt Y)(w:Value):Prop:=aq p.x v w
def VL{Y:St}(vs:List AV)(p:Pt Y)(ws:List Value):Prop:=ai (aq p.x) vs ws
section
variable{Y Y' Y'':St}{p:Pt Y}{q:Pt Y'}{r:Pt Y''}{X YY:List Addr}
theorem Nx.refl(p:Pt Y):Nx X p p:=⟨.refl _,fun _ h=>.inr ⟨h,rfl⟩,rfl,rfl⟩
theorem Nx.trans(a:Nx X p q)(b:Nx X q r):Nx X p r:=
 ⟨a.wk.trans b.wk,fun c h=>(a.prv c h).elim .inl fun g=>(b.prv c g.1).imp id fun g'=>⟨g'.1,g'.2.trans g.2⟩,b.gens.trans a.gens,b.os.trans a.os⟩
theorem Nx.more(a:Nx X p q)(h:∀ c,c∈X->c∈p.κ->c∈YY):Nx YY p q:=⟨a.wk,fun c hc=>(a.prv c hc).imp (fun g=>h c g hc) id,a.gens,a.os⟩
theorem Nx.weak(a:Nx [] p q):Nx X p q:=a.more fun _ h=>nomatch h
theorem V.nx{v:AV}{w:Value}(h:V v p w)(n:Nx X p q):V v q w:=aq.wk n.wk h
theorem VL.nx{v:List AV}{w:List Value}(h:VL v p w)(n:Nx X p q):VL v q w:=ai.mono (aq.wk n.wk) h
theorem Nx.kept(n:Nx [] p q){a:Addr}(h:a∈p.κ):a∈q.κ/\q.s.heap.get? a=p.s.heap.get? a:=(n.prv a h).elim (fun h=>nomatch h) id
theorem Hp.mem_of{x:Hp}{i:Nat}{pr:Addr×Addr}(h:x.ι[i]?=some pr):pr.2∈x.F:=Tl _ (Ut (Tm h))
theorem Hp.mem_κ{x:Hp}{a:Addr}(h:a∈x.κ):a∈x.F:=Tx _ h
theorem iJ.none_not{x:Hp}(r:iJ x Y){a:Addr}(h:x.h.get? a=none):a∉x.F:=fun hm=>(r.alive a hm).2.elim fun _ e=>nomatch e.symm.trans h
theorem iJ.base_not{x:Hp}(r:iJ x Y){a:Addr}{o:Obj}(h:H0.get? a=some o):a∉x.F:=fun hm=>nomatch(r.alive a hm).1.symm.trans h
theorem iJ.none_base{x:Hp}(r:iJ x Y){a:Addr}(h:x.h.get? a=none):H0.get? a=none:=match e:H0.get? a with
 | none=>rfl
 | some o=>nomatch(r.keep a o e).symm.trans h
theorem iJ.base{x:Hp}(r:iJ x Y){a:Addr}{o:Obj}(h:H0.get? a=some o):fH x a o:=⟨r.keep a o h,r.base_not h⟩
theorem iJ.at{x:Hp}(r:iJ x Y){i:Nat}{o:AO}(h:Y[i]?=some o){P:Prop}(k:∀ pr,x.ι[i]?=some pr->eg x pr o->P):P:=
 have hi:i<x.ι.length:=r.len▸(SR.mp h).1
 k _ (TC hi) (r.objs i _ o (TC hi) h)
theorem Pt.lst(p:Pt Y){i:Nat}{vs:List AV}(h:aj Y i=some vs){P:Prop}(k:∀ a ws n,p.ι[i]?=some (a,a)->vs.length<=ay->p.s.heap.get? a=some (gy ws n)->VL vs p ws.toList->P):P:=
 p.r.at (vZ h) fun⟨a,b⟩ h1 h2=>by obtain⟨e,l,ws,n,g,r⟩:=h2;cases e;exact k a ws n h1 l g r
theorem Pt.dct(p:Pt Y){i:Nat}{es:List (AV×AV)}(h:aN Y i=some es){P:Prop}(k:∀ a ds n,p.ι[i]?=some (a,a)->es.length<=ay->(es.map (·.1)).Nodup->p.s.heap.get? a=some (bT ds n)->ai (DE p.x) es ds.toList->P):P:=
 p.r.at (wF h) fun⟨a,b⟩ h1 h2=>by obtain⟨e,l,nd,ds,n,g,r⟩:=h2;cases e;exact k a ds n h1 l nd g r
theorem Pt.ins(p:Pt Y){i:Nat}{c:Nat×List (Nat×AV)}(h:dR Y i=some c){P:Prop}(k:∀ pr,p.ι[i]?=some pr->G2 p.x pr c.1 c.2->P):P:=p.r.at (wr h) k
theorem Wk.same{x:Hp}{h':Heap}(hk:∀ a o,x.h.get? a=some o->a∉x.F->h'.get? a=some o):Wk x ⟨x.ι,x.κ,h'⟩:=⟨id,fun i=>⟨hk _ _ i.h i.out,i.out⟩⟩
theorem iJ.put{x:Hp}{Y':St}{h':Heap}{a:Addr}(r:iJ x Y)(ha:a∈x.F)(hs:Heap.SameBut a x.h h')(hl:∃ o,h'.get? a=some o)(hY:Y'.length=Y.length)
  (ho:∀(i:Nat) (p:Addr×Addr) (o:AO),x.ι[i]?=some p->Y'[i]?=some o->(p.2=a->eg ⟨x.ι,x.κ,h'⟩ p o)/\(p.2≠a->Y[i]?=some o)):iJ ⟨x.ι,x.κ,h'⟩ Y':=
 have wk:Wk x ⟨x.ι,x.κ,h'⟩:=.same fun b o e hb=>(hs.2 b fun q=>hb (q▸ha)).trans e
 ⟨r.pf,r.len.trans hY.symm,r.nodup,fun b hb=>⟨(r.alive b hb).1,(Tu (b=a)).elim (fun e=>e▸hl) fun e=>(r.alive b hb).2.imp fun _ g=>(hs.2 b e).trans g⟩,
  fun b o e=>(wk.imm (r.base e)).h,fun i p o h1 h2=>(Tu (p.2=a)).elim (ho i p o h1 h2).1 fun e=>(r.objs i p o h1 ((ho i p o h1 h2).2 e)).wk wk (hs.2 _ e)⟩
theorem iJ.idx{x:Hp}(r:iJ x Y){i j:Nat}{p q:Addr×Addr}(h1:x.ι[i]?=some p)(h2:x.ι[j]?=some q)(e:p.2=q.2):i=j:=
 have e1:(c9 x.ι)[i]?=some p.2:=by rw[c9,TD,h1];rfl
 have e2:(c9 x.ι)[j]?=some q.2:=by rw[c9,TD,h2];rfl
 (List.getElem?_inj (SR.mp e1).1 (Ts.mp r.nodup).1).mp (e1.trans (e▸e2.symm))
theorem iJ.set{x:Hp}{h':Heap}{i:Nat}{pr:Addr×Addr}{o:AO}(r:iJ x Y)(hp:x.ι[i]?=some pr)(hs:Heap.SameBut pr.2 x.h h')(ho:eg ⟨x.ι,x.κ,h'⟩ pr o):iJ ⟨x.ι,x.κ,h'⟩ (Y.set i o):=
 r.put (Hp.mem_of hp) hs ho.alive Uu fun j q o' h1 h2=>by
  by_cases hij:i=j
  ·subst hij
   cases hp.symm.trans h1
   rw[TY (r.len▸(SR.mp hp).1)] at h2
   cases h2
   exact⟨fun _=>ho,fun e=>SP rfl e⟩
  ·rw[Tt hij] at h2;exact⟨fun e=>SP (r.idx hp h1 e.symm) hij,fun _=>h2⟩
variable{Q:Shared->Prop}{h':Heap}{t:Nat}{d:Drawn}
theorem iJ.apart{x:Hp}(r:iJ x Y){i:Nat}{pr:Addr×Addr}{a:Addr}(hp:x.ι[i]?=some pr)(ha:a∈x.κ):a≠pr.2:=fun e=>(Ts.mp r.nodup).2.2 _ (Ut (Tm hp)) _ ha e.symm
theorem Pt.setH(p:Pt Y){i:Nat}{pr:Addr×Addr}{o:AO}(hp:p.ι[i]?=some pr)(hs:Heap.SameBut pr.2 p.s.heap h')(ho:Wk p.x ⟨p.ι,p.κ,h'⟩->eg ⟨p.ι,p.κ,h'⟩ pr o)(k:∀ q:Pt (Y.set i o),Nx [] p q->q.s.heap=h'->Q q.s) :
  Q ⟨h',p.s.gens,d,t,p.s.os⟩:=
 have wk:Wk p.x ⟨p.ι,p.κ,h'⟩:=.same fun b o e hb=>(hs.2 b fun q=>hb (q▸Hp.mem_of (x:=p.x) hp)).trans e
 k ⟨p.ι,p.κ,⟨h',p.s.gens,d,t,p.s.os⟩,p.r.set hp hs (ho wk)⟩ ⟨wk,fun _ h=>.inr ⟨h,hs.2 _ (p.r.apart hp h)⟩,rfl,rfl⟩ rfl
theorem Pt.set(p:Pt Y){i:Nat}{pr:Addr×Addr}{o:AO}(hp:p.ι[i]?=some pr)(hs:Heap.SameBut pr.2 p.s.heap h')(ho:Wk p.x ⟨p.ι,p.κ,h'⟩->eg ⟨p.ι,p.κ,h'⟩ pr o)(k:∀ q:Pt (Y.set i o),Nx [] p q->Q q.s) :
  Q ⟨h',p.s.gens,d,t,p.s.os⟩:=p.setH hp hs ho fun q n _=>k q n
theorem Pt.setL(p:Pt Y){i:Nat}{a:Addr}{vs:List AV}{ws:Array Value}{n:Nat}(hp:p.ι[i]?=some (a,a))(hs:Heap.SameBut a p.s.heap h')(ho:h'.get? a=some (gy ws n))(hl:vs.length<=ay)(hv:VL vs p ws.toList)
  (k:∀ q:Pt (Y.set i (.list vs)),Nx [] p q->Q q.s):Q ⟨h',p.s.gens,d,t,p.s.os⟩:=p.set (o:=.list vs) hp hs (fun wk=>⟨rfl,hl,ws,n,ho,hv.mono (aq.wk wk)⟩) k
theorem Pt.setD(p:Pt Y){i:Nat}{a:Addr}{es:List (AV×AV)}{ds:Array DictEntry}{n:Nat}(hp:p.ι[i]?=some (a,a))(hs:Heap.SameBut a p.s.heap h')(ho:h'.get? a=some (bT ds n))(hl:es.length<=ay)(nd:(es.map (·.1)).Nodup)(hv:ai (DE p.x) es ds.toList)
  (k:∀ q:Pt (Y.set i (.dict es)),Nx [] p q->Q q.s):Q ⟨h',p.s.gens,d,t,p.s.os⟩:=p.set (o:=.dict es) hp hs (fun wk=>⟨rfl,hl,nd,ds,n,ho,hv.mono (DE.wk wk)⟩) k
theorem Pt.setDH(p:Pt Y){i:Nat}{a:Addr}{es:List (AV×AV)}{ds:Array DictEntry}{n:Nat}(hp:p.ι[i]?=some (a,a))(hs:Heap.SameBut a p.s.heap h')(ho:h'.get? a=some (bT ds n))(hl:es.length<=ay)(nd:(es.map (·.1)).Nodup)(hv:ai (DE p.x) es ds.toList)
  (k:∀ q:Pt (Y.set i (.dict es)),Nx [] p q->(∀ b,b≠a->q.s.heap.get? b=p.s.heap.get? b)->Q q.s):Q ⟨h',p.s.gens,d,t,p.s.os⟩:=p.setH (o:=.dict es) hp hs (fun wk=>⟨rfl,hl,nd,ds,n,ho,hv.mono (DE.wk wk)⟩) fun q n e=>k q n (e▸hs.2)
theorem Pt.put(p:Pt Y){a:Addr}{o:Obj}(ha:a∈p.κ)(hs:Heap.SameBut a p.s.heap h')(ho:h'.get? a=some o)(k:∀ q:Pt Y,Nx [a] p q->a∈q.κ->q.s.heap.get? a=some o->Q q.s):Q ⟨h',p.s.gens,d,t,p.s.os⟩:=
 have wk:Wk p.x ⟨p.ι,p.κ,h'⟩:=.same fun b o e hb=>(hs.2 b fun q=>hb (q▸Hp.mem_κ (x:=p.x) ha)).trans e
 k ⟨p.ι,p.κ,⟨h',p.s.gens,d,t,p.s.os⟩,p.r.put (Hp.mem_κ (x:=p.x) ha) hs ⟨o,ho⟩ rfl fun _ _ _ h1 h2=>⟨fun e=>SP e.symm (p.r.apart h1 ha),fun _=>h2⟩⟩
  ⟨wk,fun b h=>(Tu (b=a)).elim (fun e=>.inl (e▸.head _)) fun e=>.inr ⟨h,hs.2 b e⟩,rfl,rfl⟩ ha ho
theorem mT{ι e:G7}{os:List AO}{i:Nat}{pr:Addr×Addr}{o:AO}{P:Prop}(hl:ι.length=Y.length)(h1:(ι++e)[i]?=some pr)(h2:(Y++os)[i]?=some o)(k1:ι[i]?=some pr->Y[i]?=some o->P)(k2:∀ j:Nat,e[j]?=some pr->os[j]?=some o->P):P:=by
 by_cases hi:i<ι.length
 ·rw[Tf hi] at h1;rw[Tf (hl▸hi)] at h2;exact k1 h1 h2
 ·have hi:=Nat.le_of_not_lt hi;rw[TR hi] at h1;rw[TR (hl▸hi),<- hl] at h2;exact k2 _ h1 h2
theorem rX{α β:Type}{a pr:α}{b o:β}{P:α->β->Prop}(k:P a b):∀(j:Nat),[a][j]?=some pr->[b][j]?=some o->P pr o
 | 0,h1,h2=>S0 h1▸S0 h2▸k
 | _+1,h1,_=>nomatch h1
theorem iJ.grow{x y:Hp}{os:List AO}(r:iJ x Y){e:G7}{L:List Addr}(hι:y.ι=x.ι++e)(hκ:y.κ=L++x.κ)(hk:∀ a o,x.h.get? a=some o->y.h.get? a=some o)(hn:∀ a,a∈c9 e++L->x.h.get? a=none/\∃ o,y.h.get? a=some o)
  (nd:(c9 e++L).Nodup) (hl:e.length=os.length) (ho:Wk x y->∀(i:Nat) (p:Addr×Addr) (o:AO),e[i]?=some p->os[i]?=some o->eg y p o):Wk x y/\iJ y (Y++os):=by
 obtain⟨ι,κ,h⟩:=x;obtain⟨ι',κ',h'⟩:=y;dsimp only at hι hκ hk hn;subst hι hκ;have mem:∀ a,a∈(Hp.mk (ι++e) (L++κ) h').F->a∈(Hp.mk ι κ h).F\/a∈c9 e++L:=fun a ha=>by
  simp only[Hp.F,dJ,List.mem_append] at ha ⊢
  rcases ha with(a | a) | a | a
  ·exact .inl (.inl a)
  ·exact .inr (.inl a)
  ·exact .inr (.inr a)
  ·exact .inl (.inr a)
 have wk:Wk ⟨ι,κ,h⟩ ⟨ι++e,L++κ,h'⟩:=⟨fun{n p} g=>(Tf (SR.mp g).1).trans g,fun i=>⟨hk _ _ i.h,fun hm=>(mem _ hm).elim i.out fun hm=>nomatch(hn _ hm).1.symm.trans i.h⟩⟩
 refine⟨wk,r.pf,by rw[SZ,SZ,hl,r.len],?_,fun a ha=>(mem a ha).elim (fun g=>(r.alive a g).imp id fun q=>q.imp fun o q=>hk a o q) fun g=>⟨r.none_base (hn a g).1,(hn a g).2⟩,fun a o q=>hk a o (r.keep a o q),fun i p o h1 h2=>?_⟩
 ·have ap:∀ a,a∈(Hp.mk ι κ h).F->∀ b,b∈c9 e++L->a≠b:=fun a ha b hb q=>r.none_not (hn b hb).1 (q▸ha);have big:((c9 ι++κ)++(c9 e++L)).Nodup:=Ts.mpr ⟨r.nodup,nd,ap⟩;refine(List.Perm.nodup_iff ?_).mp big;rw[Hp.F,dJ,S6,S6];refine List.Perm.append_left _ ?_;rw[<- S6 (c9 e) L κ];exact List.perm_append_comm
 ·exact mT r.len h1 h2 (fun h1 h2=>let g:=r.objs i p o h1 h2;g.wk wk (g.alive.elim fun o' q=>(hk _ _ q).trans q.symm)) fun j=>ho wk j p o
theorem tz{ι:G7}{pr:Addr×Addr}(hl:ι.length=Y.length):(ι++[pr])[Y.length]?=some pr:=hl▸UI
theorem Pt.newOH(p:Pt Y){pr:Addr×Addr}{o:AO}(hn:p.s.heap.get? pr.2=none)(hk:∀ a o,p.s.heap.get? a=some o->h'.get? a=some o)(ho:Wk p.x ⟨p.ι++[pr],p.κ,h'⟩->eg ⟨p.ι++[pr],p.κ,h'⟩ pr o)
  (k:∀ q:Pt (Y++[o]),Nx [] p q->q.ι[Y.length]?=some pr->q.s.heap=h'->Q q.s) (hw:∃ o,h'.get? pr.2=some o):Q ⟨h',p.s.gens,d,t,p.s.os⟩:=
 have g:=p.r.grow (y:=⟨p.ι++[pr],p.κ,h'⟩) (os:=[o]) (e:=[pr]) (L:=[]) rfl rfl hk (fun a ha=>SY.mp ha▸⟨hn,hw⟩) (Tq.mpr ⟨nofun,.nil⟩) rfl
  fun wk i _ _=>rX (P:=eg ⟨p.ι++[pr],p.κ,h'⟩) (ho wk) i
 k ⟨p.ι++[pr],p.κ,⟨h',p.s.gens,d,t,p.s.os⟩,g.2⟩ ⟨g.1,fun _ h=>.inr ⟨h,(p.r.alive _ (Hp.mem_κ (x:=p.x) h)).2.elim fun _ e=>(hk _ _ e).trans e.symm⟩,rfl,rfl⟩
  (tz p.r.len) rfl
theorem Pt.newO(p:Pt Y){pr:Addr×Addr}{o:AO}(hn:p.s.heap.get? pr.2=none)(hk:∀ a o,p.s.heap.get? a=some o->h'.get? a=some o)(ho:Wk p.x ⟨p.ι++[pr],p.κ,h'⟩->eg ⟨p.ι++[pr],p.κ,h'⟩ pr o)
  (k:∀ q:Pt (Y++[o]),Nx [] p q->V (.ref Y.length) q (.ref pr.1)->Q q.s) (hw:∃ o,h'.get? pr.2=some o):Q ⟨h',p.s.gens,d,t,p.s.os⟩:=p.newOH hn hk ho (fun q n g _=>k q n ⟨pr,g,rfl⟩) hw
theorem Pt.newL(p:Pt Y){a:Addr}{vs:List AV}{ws:Array Value}{n:Nat}(hn:p.s.heap.get? a=none)(hk:∀ a o,p.s.heap.get? a=some o->h'.get? a=some o)(ho:h'.get? a=some (gy ws n))(hl:vs.length<=ay)(hv:VL vs p ws.toList)
  (k:∀ q:Pt (Y++[.list vs]),Nx [] p q->V (.ref Y.length) q (.ref a)->Q q.s):Q ⟨h',p.s.gens,d,t,p.s.os⟩:=
 p.newO (pr:=(a,a)) (o:=.list vs) hn hk (fun wk=>⟨rfl,hl,ws,n,ho,hv.mono (aq.wk wk)⟩) k ⟨_,ho⟩
theorem Pt.newD(p:Pt Y){a:Addr}{es:List (AV×AV)}{ds:Array DictEntry}{n:Nat}(hn:p.s.heap.get? a=none)(hk:∀ a o,p.s.heap.get? a=some o->h'.get? a=some o)(ho:h'.get? a=some (bT ds n))(hl:es.length<=ay)(nd:(es.map (·.1)).Nodup)
  (hv:ai (DE p.x) es ds.toList) (k:∀ q:Pt (Y++[.dict es]),Nx [] p q->V (.ref Y.length) q (.ref a)->Q q.s):Q ⟨h',p.s.gens,d,t,p.s.os⟩:=
 p.newO (pr:=(a,a)) (o:=.dict es) hn hk (fun wk=>⟨rfl,hl,nd,ds,n,ho,hv.mono (DE.wk wk)⟩) k ⟨_,ho⟩
theorem Pt.grow(p:Pt Y)(L:List Addr)(hk:∀ a o,p.s.heap.get? a=some o->h'.get? a=some o)(hn:∀ a,a∈L->p.s.heap.get? a=none/\∃ o,h'.get? a=some o)(nd:L.Nodup)
  (k:∀ q:Pt Y,Nx [] p q->q.s.heap=h'->(∀ a,a∈L->a∈q.κ/\a∉p.κ)->(∀ a o,p.s.heap.get? a=none->a∉L->h'.get? a=some o->fH q.x a o)->Q q.s):Q ⟨h',p.s.gens,d,t,p.s.os⟩:=
 have g:=p.r.grow (y:=⟨p.ι,L++p.κ,h'⟩) (os:=[]) (e:=[]) (L:=L) (Tr _).symm rfl hk hn nd rfl fun _ _ _ _ h=>nomatch h
 k ⟨p.ι,L++p.κ,⟨h',p.s.gens,d,t,p.s.os⟩,by have:=g.2;rwa [Tr] at this⟩ ⟨g.1,fun _ h=>.inr ⟨Tx _ h,(p.r.alive _ (Hp.mem_κ (x:=p.x) h)).2.elim fun _ e=>(hk _ _ e).trans e.symm⟩,rfl,rfl⟩ rfl
  (fun a ha=>⟨Tl _ ha,fun hm=>p.r.none_not (hn a ha).1 (Hp.mem_κ (x:=p.x) hm)⟩)
  fun a o h1 h2 h3=>⟨h3,fun hm=>(Tg.mp hm).elim (fun hm=>p.r.none_not h1 (Tl _ hm)) fun hm=>(Tg.mp hm).elim h2 fun hm=>p.r.none_not h1 (Hp.mem_κ (x:=p.x) hm)⟩
theorem Nx.sub(n:Nx X p q)(hX:∀ a,a∈X->a∈p.κ->a∈q.κ){a:Addr}(h:a∈p.κ):a∈q.κ:=(n.prv a h).elim (fun g=>hX a g h) And.left
theorem Pt.adopt(p:Pt Y)(q:Pt Y')(n:Nx X p q){L:List Addr}(hL:∀ a,a∈L->a∈q.κ)(nd:L.Nodup)(hp:∀ a,a∈p.κ->a∈L){a:Addr}{o:AO}(ha:a∈q.κ)(hn:a∉L)(ho:Wk q.x ⟨q.ι++[(a,a)],L,q.s.heap⟩->eg ⟨q.ι++[(a,a)],L,q.s.heap⟩ (a,a) o)
  (k:∀ r:Pt (Y'++[o]),Nx X p r->Wk q.x r.x->r.ι[Y'.length]?=some (a,a)->r.κ=L->r.s=q.s->Q r.s):Q q.s:=
 have fe:(Hp.mk (q.ι++[(a,a)]) L q.s.heap).F=c9 q.ι++(a::L):=by rw[Hp.F,dJ,S6];rfl
 have sub:∀ b,b∈(Hp.mk (q.ι++[(a,a)]) L q.s.heap).F->b∈q.x.F:=fun b h=>(Tg.mp (fe▸h)).elim (Tl _) fun h=>Tx _ ((SW.mp h).elim (fun e=>e▸ha) (hL b));have wk:Wk q.x ⟨q.ι++[(a,a)],L,q.s.heap⟩:=⟨fun{n p} g=>(Tf (SR.mp g).1).trans g,fun i=>⟨i.h,fun h=>i.out (sub _ h)⟩⟩;have len:(q.ι++[(a,a)]).length=(Y'++[o]).length:=by rw[SZ,SZ,show q.ι.length=Y'.length from q.r.len];rfl
 k ⟨q.ι++[(a,a)],L,q.s,q.r.pf,len,
   fe▸Ts.mpr ⟨(Ts.mp q.r.nodup).1,Tq.mpr ⟨hn,nd⟩,fun b h c h'=>(Ts.mp q.r.nodup).2.2 b h c ((SW.mp h').elim (fun e=>e▸ha) (hL c))⟩,
   fun b h=>q.r.alive b (sub b h),q.r.keep,fun i pr o' h1 h2=>mT q.r.len h1 h2 (fun h1 h2=>(q.r.objs i pr o' h1 h2).wk wk rfl) (rX (P:=eg ⟨q.ι++[(a,a)],L,q.s.heap⟩) (b:=o) (ho wk))⟩
  ⟨n.wk.trans wk,fun b h=>(n.prv b h).imp id fun g=>⟨hp b h,g.2⟩,n.gens,n.os⟩ wk (tz q.r.len) rfl rfl
theorem Pt.moves(p:Pt Y){it:Addr}(hit:it∈p.κ)(hk:Heap.ExtBut it p.s.heap h')(k:∀ q:Pt Y,Nx [it] p q->Q q.s):Q ⟨h',p.s.gens,d,t,p.s.os⟩:=
 have nf:it∉c9 p.ι:=fun h=>(Ts.mp p.r.nodup).2.2 it h it hit rfl;have sub:∀ b,b∈(Hp.mk p.ι (p.κ.filter fun b=>decide (b≠it)) h').F->b∈p.x.F/\b≠it:=fun b hb=>(Tg.mp hb).elim (fun h=>⟨Tl _ h,fun e=>nf (e▸h)⟩) fun h=>⟨Tx _ (TS.mp h).1,SO (TS.mp h).2⟩;have wk:Wk p.x ⟨p.ι,p.κ.filter fun b=>decide (b≠it),h'⟩:=⟨_root_.id,fun{a o} i=>⟨hk a o (fun e=>i.out (e▸Hp.mem_κ (x:=p.x) hit)) i.h,fun h=>i.out (sub _ h).1⟩⟩
 k ⟨p.ι,p.κ.filter fun b=>decide (b≠it),⟨h',p.s.gens,d,t,p.s.os⟩,p.r.pf,p.r.len,p.r.nodup.sublist (List.Sublist.append_left UA _),fun b hb=>(p.r.alive b (sub b hb).1).imp _root_.id fun g=>g.imp fun o e=>hk b o (sub b hb).2 e,
   fun a o e=>(wk.imm (p.r.base e)).h,fun i pr o h1 h2=>(p.r.objs i pr o h1 h2).wk wk ((p.r.objs i pr o h1 h2).alive.elim fun o' e=>(hk _ _ (fun q=>nf (q▸Ut (Tm h1))) e).trans e.symm)⟩
  ⟨wk,fun b hb=>(Tu (b=it)).elim (fun e=>.inl (e▸.head _)) fun e=>.inr ⟨TS.mpr ⟨hb,SV e⟩,(p.r.alive b (Hp.mem_κ (x:=p.x) hb)).2.elim fun o g=>(hk b o e g).trans g.symm⟩,rfl,rfl⟩
theorem Pt.push(p:Pt Y){o:Obj}(k:∀ q:Pt Y,Nx [] p q->q.s.heap=p.s.heap.push o->fH q.x p.s.heap.objs.size o->Q q.s)(ho:o.isFreed=false:=by rfl):Q ⟨p.s.heap.push o,p.s.gens,d,t,p.s.os⟩:=
 p.grow [] (fun _ _ e=>S9 o e) (fun _ h=>nomatch h) .nil fun q n e _ f=>k q n e (f _ _ (TV (SN _)) nofun (Ti _ ho))
end
theorem kH{x:Str}{b:aO}(h:mS x=some b):x=ti b:=by
 unfold mS at h;have h':=List.find?_some h;exact(eq_of_beq h').symm
theorem ci{tab:List String}{s:Str}{i:Nat}(h:be tab s=some i):∃ x,tab[i]?=some x/\Str.ofString x=s/\i<tab.length:=
 (List.findIdx?_eq_some_iff_getElem.mp h).elim fun hi h1=>⟨tab[i],TC hi,eq_of_beq h1.1,hi⟩
theorem uB{tab:List String}{i:Nat}{x:String}(h:tab[i]?=some x):tab.getD i ""=x:=by rw[UJ,h];rfl
theorem dG{s:Str}{i:Nat}(h:be aT s=some i):i<aT.length/\s=aw i:=(ci h).elim fun _ h=>⟨h.2.2,(SI Str.ofString (uB h.1)).trans h.2.1 |>.symm⟩
theorem ew{s:Str}{i:Nat}(h:be bP s=some i):i<bP.length/\s=dX i:=(ci h).elim fun _ h=>⟨h.2.2,(SI Str.ofString (uB h.1)).trans h.2.1 |>.symm⟩
structure ch(A:Around)(n:Nat):Prop where
 depth:A.depth+3*n+10<recursionLimit
 units:A.units+20*n+100<cLine
 handled:A.handled=none
structure FS(env:Env)(cx:Cx):Prop where
 kind:env.scope.kind=.function
 glob:env.globals=mainGlobals
 blt:env.builtins=builtinsNs
 sc:∀ x,(cx.sc.lookup x=some .local->env.kindOf x=some .local)/\(cx.sc.lookup x=some .cell->env.kindOf x=some .cell)/\(cx.sc.lookup x=some .free->env.kindOf x=some .cell)/\
  (cx.sc.lookup x=some .globalImplicit->env.kindOf x=some .globalImplicit)
 inj:∀ x y i,cx.sl.lookup x=some i->cx.sl.lookup y=some i->x=y
 apart:∀ x y c,env.cells.lookup x=some c->env.cells.lookup y=some c->x=y
 slots:∀ x i,cx.sl.lookup x=some i->i<cx.sl.length
structure FR(x:Hp)(env:Env)(cx:Cx)(U:En):Prop where
 st:FS env cx
 ownL:env.locals∈x.κ
 ownC:∀ y c,env.cells.lookup y=some c->c∈x.κ
 ns:∃ m,x.h.Ns env.locals m/\∀ y i v,cx.sc.lookup y=some .local->cx.sl.lookup y=some i->U i=some v->∃ v',m y=some v'/\aq x v v'
 cells:∀ y i,cx.sc.lookup y=some .cell\/cx.sc.lookup y=some .free->cx.sl.lookup y=some i->∃ c cv,env.cells.lookup y=some c/\x.h.IsCell c cv/\∀ v,U i=some v->∃ v',cv=some v'/\aq x v v'
 top:∀ i,cx.sl.length<=i->U i=none
structure kZ(A:Around)(n:Nat):Prop where
 depth:A.depth+3*n+8<recursionLimit
 units:A.units+20*n+90<cLine
 handled:A.handled=none
structure ft(n:Nat)(C:Calls):Prop where
 keep:∀{f:Nat} {vs:List AV} {Y Y':St} {v:AV},C.fn f vs Y=some (v,Y')->keepIn K0 (.ref (bw f))=true
 go:∀{f:Nat} {vs:List AV} {Y Y':St} {v:AV},C.fn f vs Y=some (v,Y')->∀{A:Around} {p:Pt Y} {ws:List Value} {R:Result->Shared->Prop},kZ A n->VL vs p ws->
  (∀(q:Pt Y') w,Nx [] p q->V v q w->R (.ok (.ret w)) q.s)->codeAny M0 A (.call (.ref (bw f)) ⟨ws,[]⟩) R p.s
structure Cc where
 n:Nat
 C:Calls
 cx:Cx
 ok:ft n C
structure Fm(c:Cc)(U:En){Y:St}(p:Pt Y) where
 A:Around
 env:Env
 R:ch A c.n
 F:FR p.x env c.cx U
section
variable{Y Y' Y'':St}{p:Pt Y}{q:Pt Y'}{Z:List Addr}{c:Cc}{U:En}
theorem FR.nx{env:Env}{cx:Cx}(f:FR p.x env cx U)(n:Nx Z p q)(hL:env.locals∉Z)(hC:∀ y c,env.cells.lookup y=some c->c∉Z):FR q.x env cx U:=
 have k:∀{a:Addr},a∈p.κ->a∉Z->a∈q.κ/\q.s.heap.get? a=p.s.heap.get? a:=fun h h'=>(n.prv _ h).elim (fun g=>SP g h') id;have hL':=k f.ownL hL
 ⟨f.st,hL'.1,fun y c h=>(k (f.ownC y c h) (hC y c h)).1,f.ns.imp fun m h=>⟨h.1.imp fun o h=>h.imp fun _ h=>h.imp fun _ h=>⟨hL'.2.trans h.1,h.2⟩,fun y i v h1 h2 h3=>(h.2 y i v h1 h2 h3).imp fun _ h=>⟨h.1,h.2.wk n.wk⟩⟩,
  fun y i h1 h2=>(f.cells y i h1 h2).imp fun c h=>h.imp fun cv h=>⟨h.1,h.2.1.imp fun o g=>⟨(k (f.ownC y c h.1) (hC y c h.1)).2.trans g.1,g.2⟩,fun v e=>(h.2.2 v e).imp fun _ g=>⟨g.1,g.2.wk n.wk⟩⟩,f.top⟩
noncomputable def Fm.nx(f:Fm c U p)(n:Nx [] p q):Fm c U q:=⟨f.A,f.env,f.R,f.F.nx n nofun fun _ _ _=>nofun⟩
structure Ev{α:Type}(k:Pt Y'->α->Prop)(A:Around)(p:Pt Y)(m:Sem α):Prop where
 go:∀{E:Value->Shared->Prop} {Q:α->Shared->Prop},(∀ q a,Nx [] p q->k q a->Q a q.s)->wpAny M0 A m Q E p.s
abbrev aR(A:Around)(p:Pt Y)(m:Sem Value)(v:AV)(Y':St):Prop:=Ev (Y':=Y') (V v) A p m
variable{α β:Type}{A:Around}
theorem Ev.pure{k:Pt Y->α->Prop}{a:α}(h:k p a):Ev k A p (Pure.pure a):=⟨fun g=>SH (g p a (.refl p) h)⟩
theorem Ev.bind{k:Pt Y'->α->Prop}{k':Pt Y''->β->Prop}{m:Sem α}{f:α->Sem β}(h:Ev k A p m)(g:∀ q a,Nx [] p q->k q a->Ev k' A q (f a)):Ev k' A p (m >>= f):=
 ⟨fun w=>SF (h.go fun q a n r=>(g q a n r).go fun q' b n' r'=>w q' b (n.trans n') r')⟩
theorem Ev.mono{k k':Pt Y'->α->Prop}{m:Sem α}(h:Ev k A p m)(g:∀ q a,Nx [] p q->k q a->k' q a):Ev k' A p m:=⟨fun w=>h.go fun q a n r=>w q a n (g q a n r)⟩
theorem Ev.after{k:Pt Y''->α->Prop}{m:Sem α}(n:Nx [] p q)(h:Ev k A q m){E:Value->Shared->Prop}{Q:α->Shared->Prop}(w:∀ r a,Nx [] p r->k r a->Q a r.s):wpAny M0 A m Q E q.s:=h.go fun r a n' g=>w r a (n.trans n') g
noncomputable def Pt.tok(p:Pt Y)(t:Nat):Pt Y:=⟨p.ι,p.κ,{ p.s with toks:=t },p.r⟩
theorem Nx.tok{t:Nat}:Nx Z p (p.tok t):=⟨.refl _,fun _ h=>.inr ⟨h,rfl⟩,rfl,rfl⟩
structure Sz(p:Pt Y)(κ:List Addr)(I J l:Addr)(vs:List AV)(ws:Array Value)(n:Nat):Prop where
 own:(I∈p.κ/\I∉κ)/\(J∈p.κ/\J∉κ)/\I≠J
 at_:IsEnum p.s.heap I J 0 .none/\p.s.heap.IsTupleIter J l 0
 src:vs.length<=ay/\fH p.x l (bW ws n)/\VL vs p ws.toList
structure SD(p:Pt Y)(κ:List Addr)(I J:Addr)(a:Addr)(r:Nat):Prop where
 own:(I∈p.κ/\I∉κ)/\(J∈p.κ/\J∉κ)/\I≠J
 at_:IsEnum p.s.heap I J 0 .none/\p.s.heap.IsListIter J a 0
 src:p.ι[r]?=some (a,a)
structure Su(p:Pt Y)(κ:List Addr)(z TI TO i1 i2 l1 l2:Addr)(k:Nat)(xs ys:List AV)(ws us:Array Value)(n m:Nat):Prop where
 own:(∀ a,a∈[z,TI,i1,i2]->a∈p.κ/\a∉κ)/\[z,TI,TO,i1,i2].Nodup
 to:p.ι[k]?=some (TO,TO)
 at_:IsZip p.s.heap z TI TO .none/\IsPair p.s.heap TI (.ref i1) (.ref i2)/\IsPair p.s.heap TO .none .none/\p.s.heap.IsTupleIter i1 l1 0/\p.s.heap.IsTupleIter i2 l2 0
 src1:xs.length<=ay/\fH p.x l1 (bW ws n)/\VL xs p ws.toList
 src2:ys.length<=ay/\fH p.x l2 (bW us m)/\VL ys p us.toList
noncomputable def Hm(κ:List Addr)(p:Pt Y)(w:Value):AV->Prop
 | .enm (.tup xs)=>∃ I J l ws n,w=.ref I/\Sz p κ I J l xs ws n
 | .enm (.ref r)=>∃ I J a,w=.ref I/\SD p κ I J a r
 | .zp (.tup (.ref k::xs)) (.tup ys)=>∃ z TI TO i1 i2 l1 l2 ws us n m,w=.ref z/\Su p κ z TI TO i1 i2 l1 l2 k xs ys ws us n m
 | _=>False
structure E(κ:List Addr)(v:AV)(p:Pt Y)(w:Value):Prop where
 val:v.isIt=false->V v p w
 it:v.isIt=true->∃ κ',(∀ a,a∈κ->a∈κ')/\Hm κ' p w v
theorem aq.notIt{x:Hp}:∀{v:AV} {w:Value},aq x v w->v.isIt=false
 | .enm _,_,r=>r.elim
 | .zp _ _,_,r=>r.elim
 | .none,_,_ | .bool _,_,_ | .int _,_,_ | .sym _,_,_ | .ref _,_,_ | .tup _,_,_ | .frz _,_,_ | .fset _,_,_ | .view _,_,_ | .rng _,_,_=>rfl
theorem V.toE{v:AV}{w:Value}{κ:List Addr}(h:V v p w):E κ v p w:=⟨fun _=>h,fun e=>nomatch e.symm.trans h.notIt⟩
structure SX(c:Cc)(e:Expr)(x:X):Prop where
 ev:∀{U:En} {Y Y':St} {p:Pt Y} (f:Fm c U p) {v:AV},au c.C x U Y=some (v,Y')->Ev (Y':=Y') (E p.κ v) f.A p (eval e f.env)
 base:∀(attr:Str) (env:Env) (whole:Sem Value),attributeBase e attr env whole=whole
 star:∀(es:List Expr) (env:Env),starEach (e::es) env=(false,eval e env)::starEach es env
structure GY(c:Cc)(es:List Expr)(xs:List X):Prop where
 ev:∀{U:En} {Y Y':St} {p:Pt Y} (f:Fm c U p) {vs:List AV},cU c.C xs U Y=some (vs,Y')->∀ pos,Ev (Y':=Y') (VL vs) f.A p (spliced (backTo pos (starEach es f.env)))
theorem fC{α:Type}{P:α->St->Prop}{c:Bool}{a b:α}{τ υ:St}(h:de c (a,τ)=some (b,υ))(k:c=true->P a τ):P b υ:=cO h fun h e=>(Prod.mk.inj e).1▸(Prod.mk.inj e).2▸k h
theorem dt{α β:Type}{P:α->St->Prop}{x:Option β}{f:β->α×St}{b:α}{υ:St}(h:x.map f=some (b,υ))(k:∀ a,x=some a->P (f a).1 (f a).2):P b υ:=aI h fun a h e=>(e▸k a h:P (b,υ).1 (b,υ).2)
theorem KD{r:Rs}{v:AV}{τ:St}(h:nv r=some (v,τ)):r=some (v,τ)/\v.isIt=false:=
 aF h fun u τ' h1 h2=>bj h2 (fun _ h=>nomatch h) fun hu h=>by cases h;exact⟨h1,hu⟩
theorem SX.v{e:Expr}{x:X}(sx:SX c e x)(f:Fm c U p){v:AV}(h:nv (au c.C x U Y)=some (v,Y')):aR f.A p (eval e f.env) v Y':=(sx.ev f (KD h).1).mono fun _ _ _ r=>r.val (KD h).2
theorem SX.of{e:Expr}{x:X}(h:∀{U:En} {Y Y':St} {p:Pt Y} (f:Fm c U p) {v:AV},au c.C x U Y=some (v,Y')->aR f.A p (eval e f.env) v Y')
  (base:∀(attr:Str) (env:Env) (whole:Sem Value),attributeBase e attr env whole=whole:=by intros;rfl) (star:∀(es:List Expr) (env:Env),starEach (e::es) env=(false,eval e env)::starEach es env:=by intros;rfl):SX c e x:=⟨fun f _ hd=>(h f hd).mono fun _ _ _ r=>r.toE,base,star⟩
theorem xN{x:Str}{pos:Pos}{i:Nat}(hd:(x==("__debug__":Str))=false)(ho:mH (c.cx.sc.lookup x)=true)(hi:c.cx.sl.lookup x=some i):SX c (.Name x pos) (.loc i):=.of fun{U Y Y' p} f v h=>jX h fun v hv=>by
 obtain⟨sl,sc,sf,_⟩:=f.F.st.sc x;refine⟨fun{Er Q} g=>wpAny_Name ?_ hd⟩;have cell:c.cx.sc.lookup x=some .cell\/c.cx.sc.lookup x=some .free->f.env.kindOf x=some .cell->wpAny M0 f.A (loadName f.env x) Q Er p.s:=fun hk hc=>(f.F.cells x i hk hi).elim fun _ h=>h.elim fun _ h=>(h.2.2 v hv).elim fun v' e=>
  wpAny_loadName_cell f.F.st.kind hc h.1 (e.1▸h.2.1) (g p v' (.refl p) e.2)
 cases hk:c.cx.sc.lookup x with
 | none=>rw[hk] at ho;cases ho
 | some k=>exact match k,hk with
  | .local,hk=>f.F.ns.elim fun _ h=>(h.2 x i v hk hi hv).elim fun v' e=>wpAny_loadName_local f.F.st.kind (sl hk) h.1 e.1 (g p v' (.refl p) e.2)
  | .cell,hk=>cell (.inl hk) (sc hk)
  | .free,hk=>cell (.inr hk) (sf hk)
  | .globalImplicit,hk | .globalExplicit,hk=>by rw[hk] at ho;cases ho
theorem Pt.kin(p:Pt Y):K0.In p.s.heap:=p.r.pf.kin.keeps p.r.keep
theorem ko{x:Str}{f:Fm c U p}(hg:dz (c.cx.sc.lookup x)=true):f.env.kindOf x=some .globalImplicit:=(f.F.st.sc x).2.2.2 <| by
 cases hk:c.cx.sc.lookup x with
 | none=>rw[hk] at hg;cases hg
 | some k=>cases k<;>first | rfl | (rw[hk] at hg;cases hg)
theorem uu{env:Env}{x:Str}(h1:env.scope.kind=.function)(h2:env.kindOf x=some .globalImplicit):loadName env x=loadGlobal env x:=by
 unfold loadName Env.blockKind;rw[h1,h2];rfl
theorem mA{x:Str}{w:Value}{Q E:Value->Shared->Prop}{mg:Str->Option Value}(f:Fm c U p)(hg:dz (c.cx.sc.lookup x)=true)(hm:H0.Ns mainGlobals mg)(hv:mg x=some w)(h:Q w p.s):wpAny M0 A (loadName f.env x) Q E p.s:=
 uu f.F.st.kind (ko hg)▸Calls.loadGlobal_global (f.F.st.glob▸hm.keeps p.r.keep) hv h
theorem yQ{x:Str}{w:Value}{Q E:Value->Shared->Prop}{mg mb:Str->Option Value}(f:Fm c U p)(hg:dz (c.cx.sc.lookup x)=true)(hm:H0.Ns mainGlobals mg)(hv:mg x=none)(hb:H0.Ns builtinsNs mb)(hu:mb x=some w)(h:Q w p.s):wpAny M0 A (loadName f.env x) Q E p.s:=
 uu f.F.st.kind (ko hg)▸Calls.loadGlobal_builtin (f.F.st.glob▸hm.keeps p.r.keep) hv (f.F.st.blt▸hb.keeps p.r.keep) hu h
theorem Pt.base(p:Pt Y):Wk ⟨[],[],H0⟩ p.x:=⟨nofun,fun i=>p.r.base i.h⟩
theorem AQ{x:Str}{pos:Pos}{i:Nat}(hd:(x==("__debug__":Str))=false)(hg:dz (c.cx.sc.lookup x)=true)(hi:be TB.globs x=some i):SX c (.Name x pos) (.glob i):=.of fun{U Y Y' p} f v h=>
 jX h fun v hv=>⟨fun g=>wpAny_Name ((ci hi).elim fun _ hx=>p.r.pf.ns.elim fun _ h=>h.elim fun _ h=>(h.2.2.2.2.1 i _ hx.1).elim fun w e=>e.elim fun _ e=>
  mA f hg h.1 (hx.2.1▸e.1) (g p w (.refl p) (S0 (e.2.1.symm.trans hv)▸e.2.2.wk p.base))) hd⟩
theorem gh{k:Const}{n:Nat}{pos:Pos}{x:am}(h:∀{Y:St} (p:Pt Y) (A:Around) (env:Env),aR A p (eval (.Constant k n pos) env) x.av Y):SX c (.Constant k n pos) (.cst x):=.of fun{U Y Y' p} f v hd=>
 cX hd (h p f.A f.env)
theorem AN{k:Nat}{pos:Pos}:SX c (.Constant .none k pos) (.cst .none):=gh fun _ _ _=>.pure rfl
theorem AT{b:Bool}{k:Nat}{pos:Pos}:SX c (.Constant (.bool b) k pos) (.cst (.bool b)):=gh fun _ _ _=>.pure rfl
theorem Ec{i:Int}{k:Nat}{pos:Pos}:SX c (.Constant (.int i) k pos) (.cst (.int i)):=gh (x:=.int i) fun p _ _=>⟨fun g=>wpAny_Constant_int (g (p.tok _) _ .tok ⟨_,rfl⟩)⟩
theorem DZ{y:Str}{i:Nat}{k:Nat}{pos:Pos}(hi:be aT y=some i):SX c (.Constant (.str y) k pos) (.cst (.sym i)):=gh (x:=.sym i) fun p _ _=>⟨fun g=>Calls.Constant_str (g (p.tok _) _ .tok ⟨(dG hi).1,_,SI (Value.str · _) (dG hi).2⟩)⟩
theorem AM:GY c [] []:=⟨fun{U Y Y' p} f vs h pos=>cX (P:=fun v Y'=>Ev (Y':=Y') (VL v) f.A p (spliced (backTo pos (starEach [] f.env)))) h (.pure .nil)⟩
theorem xM{e:Expr}{x:X}{es:List Expr}{xs:List X}(sx:SX c e x)(sxs:GY c es xs):GY c (e::es) (x::xs):=⟨fun{U Y Y' p} f vs h pos=>
 aF h fun v Y1 h1 h=>aF h fun us Y2 h2 h=>cX (P:=fun v Y'=>Ev (Y':=Y') (VL v) f.A p (spliced (backTo pos (starEach (e::es) f.env)))) h <| by
  rw[sx.star];exact(sx.v f h1).bind fun q w n r=>.bind (k:=fun q' a=>q'=q/\a=[w]) (.pure ⟨rfl,rfl⟩) fun q' a _ e=>by
   obtain⟨rfl,rfl⟩:=e;exact⟨fun g=>SF (Td ((sxs.ev (f.nx n) h2 pos).go fun q2 ws n2 r2=>SH (g q2 _ n2 (.cons (r.nx n2) r2))))⟩⟩
end
mutual
noncomputable def hJ:AV->PyData
 | .int i=>.int i
 | .sym k=>.str (aw k)
 | .bool b=>.bool b
 | .tup vs=>.tuple (cw vs)
 | _=>.none
noncomputable def cw:List AV->List PyData
 | []=>[]
 | v::vs=>hJ v::cw vs
end
theorem d6:∀ k,k<aT.length->PyData.strOk (aw k)=true/\∀ j,j<aT.length->aw j=aw k->j=k:=by decide +kernel
theorem BD:∀ k,k<bP.length->∀ j,j<bP.length->dX j=dX k->j=k:=by decide +kernel
theorem Dc{v:AV}{C:Prop}(p:v.purD 0=true)(h1:∀ i,v=.int i->C)(h2:∀ k,v=.sym k->C):C:=by
 cases v<;>first | exact h1 _ rfl | exact h2 _ rfl | exact SP p Tp
theorem Db{d:Nat}{v:AV}{C:Prop}(p:v.purD (d+1)=true)(h1:∀ i,v=.int i->C)(h2:∀ k,v=.sym k->C)(h3:∀ vs,v=.tup vs->vs.all (AV.purD d)=true->C):C:=by
 cases v<;>first | exact h1 _ rfl | exact h2 _ rfl | exact h3 _ rfl p | exact SP p Tp
section
variable{x:Hp}{P:Nat->AV->Value->Prop}{Ps:Nat->List AV->List Value->Prop}
theorem gq{d:Nat}(h:∀{v w},v.purD d=true->aq x v w->P d v w)(h0:∀{d},Ps d [] [])(hc:∀{d v w vs ws},P d v w->Ps d vs ws->Ps d (v::vs) (w::ws)){vs:List AV}:∀{ws:List Value},vs.all (AV.purD d)=true->bQ x vs ws->Ps d vs ws:=by
 induction vs with
 | nil=>exact fun _ r=>(show _=[] from r)▸h0
 | cons v vs ih=>exact fun p r=>r.elim fun w g=>g.elim fun ws g=>g.1▸hc (h (SU.mp p).1 g.2.1) (ih (SU.mp p).2 g.2.2)
theorem bI(hi:∀{d i t},P d (.int i) (.int i t))(hs:∀{d k t},k<aT.length->P d (.sym k) (.str (aw k) t))
  (ht:∀{d vs a ws n},fH x a (bW ws n)->Ps d vs ws.toList->P (d+1) (.tup vs) (.ref a)) (h0:∀{d},Ps d [] []) (hc:∀{d v w vs ws},P d v w->Ps d vs ws->Ps d (v::vs) (w::ws)) :
  ∀{d:Nat} {v:AV} {w:Value},v.purD d=true->aq x v w->P d v w:=fun{d}=>by
 have I:∀{d i w},aq x (.int i) w->P d (.int i) w:=fun r=>r.elim fun _ e=>e▸hi;have S:∀{d k w},aq x (.sym k) w->P d (.sym k) w:=fun r=>r.2.elim fun _ e=>e▸hs r.1
 induction d with
 | zero=>exact fun{v w} p=>Dc (C:=aq x v w->P 0 v w) p (fun i e=>e▸I) fun k e=>e▸S
 | succ d ih=>exact fun{v w} p=>Db (C:=aq x v w->P (d+1) v w) p (fun i e=>e▸I) (fun k e=>e▸S) fun vs e p=>e▸fun r=>r.2.elim fun a h=>h.elim fun ws h=>h.elim fun n h=>h.1▸ht h.2.1 (gq ih h0 hc p h.2.2)
end
section
variable{x:Hp}
structure OA(x:Hp)(d:Nat)(v:AV)(w:Value):Prop where
 rd:∃ as,Reads x.h w (hJ v) as
 lay:(hJ v).canLay0=true
 dep:(hJ v).depth<=d
structure GZ(x:Hp)(d:Nat)(vs:List AV)(ws:List Value):Prop where
 rd:∃ as,ReadsAll x.h ws (cw vs) as
 lay:PyData.canLayAll0 (cw vs)=true
 dep:PyData.depthAll (cw vs)<=d
theorem bp{d:Nat}{v:AV}{w:Value}:v.purD d=true->aq x v w->OA x d v w:=
 bI (P:=OA x) (Ps:=GZ x) ⟨⟨[],.int _ _⟩,rfl,Tb _⟩ (fun h=>⟨⟨[],.str _ _⟩,(d6 _ h).1,Tb _⟩) (fun i r=>⟨r.rd.imp fun _ g=>.tuple i.h rfl rfl g,r.lay,T9 r.dep⟩) ⟨⟨[],.nil⟩,rfl,Tb _⟩
  fun r t=>⟨r.rd.elim fun _ g=>t.rd.elim fun _ g'=>⟨_,.cons g g'⟩,SU.mpr ⟨r.lay,t.lay⟩,Nat.max_le.mpr ⟨r.dep,t.dep⟩⟩
def Kr(x:Hp)(v:AV):Prop:=∀{e:Nat} {u:AV} {w:Value},u.purD e=true->aq x u w->PyData.eqv (hJ v) (hJ u)=decide (v=u)
def wQ(x:Hp)(vs:List AV):Prop:=∀{e:Nat} {us:List AV} {ws:List Value},us.all (AV.purD e)=true->bQ x us ws->PyData.eqvAll (cw vs) (cw us)=decide (vs=us)
theorem d8{p:Prop}[Decidable p](h:¬p):false=decide p:=(Tk h).symm
theorem qA:wQ x []
 | _,[],_,_,_=>rfl
 | _,_::_,_,_,_=>d8 nofun
theorem mO{v:AV}{vs:List AV}(h:Kr x v)(t:wQ x vs):wQ x (v::vs)
 | _,[],_,_,_=>d8 nofun
 | _,u::us,_,p,r=>r.elim fun _ g=>g.elim fun _ g=>by
  show(PyData.eqv (hJ v) (hJ u)&&PyData.eqvAll (cw vs) (cw us))=_;rw[h (SU.mp p).1 g.2.1,t (SU.mp p).2 g.2.2,<- Bool.decide_and];exact decide_eq_decide.mpr ⟨fun q=>q.1▸q.2▸rfl,fun q=>List.cons.inj q⟩
theorem sX{v:AV}{C:AV->Prop}(hi:∀ i,C (.int i))(hs:∀ k,k<aT.length->C (.sym k))(ht:∀ e us ws,us.all (AV.purD e)=true->bQ x us ws->C (.tup us)):∀{e:Nat} {u:AV} {w:Value},u.purD e=true->aq x u w->C u
 | 0,u,w,p,r=>Dc p (fun i e=>e▸hi i) fun k e=>by subst e;exact hs k r.1
 | e+1,u,w,p,r=>Db p (fun i e=>e▸hi i) (fun k e=>by subst e;exact hs k r.1) fun us e p=>by subst e;exact r.2.elim fun _ h=>h.elim fun ws h=>h.elim fun _ h=>ht _ us _ p h.2.2
theorem eS{d:Nat}{v:AV}{w:Value}:v.purD d=true->aq x v w->Kr x v:=
 bI (P:=fun _ v _=>Kr x v) (Ps:=fun _ vs _=>wQ x vs)
  (fun{_ i _}=>sX (v:=.int i) (C:=fun u=>PyData.eqv (.int i) (hJ u)=decide (.int i=u)) (fun _=>decide_eq_decide.mpr ⟨SI _,AV.int.inj⟩) (fun _ _=>d8 nofun) fun _ _ _ _ _=>d8 nofun)
  (fun{_ k _} hk=>sX (v:=.sym k) (C:=fun u=>PyData.eqv (.str (aw k)) (hJ u)=decide (.sym k=u)) (fun _=>d8 nofun) (fun j hj=>by
   show(aw k==aw j)=_
   by_cases e:k=j
   ·subst e;rw[beq_self_eq_true];exact(SV rfl).symm
   ·rw[beq_eq_false_iff_ne.mpr fun q=>e ((d6 j hj).2 k hk q)];exact d8 fun q=>e (AV.sym.inj q)) fun _ _ _ _ _=>d8 nofun)
  (fun{_ vs _ _ _} _ r=>sX (v:=.tup vs) (C:=fun u=>PyData.eqv (.tuple (cw vs)) (hJ u)=decide (.tup vs=u)) (fun _=>d8 nofun) (fun _ _=>d8 nofun) fun e us ws p g=>(r p g).trans (decide_eq_decide.mpr ⟨SI _,AV.tup.inj⟩))
  qA mO
theorem aq.inj{a b:AV}{v:Value}{d e:Nat}(pa:a.purD d=true)(pb:b.purD e=true)(ra:aq x a v)(rb:aq x b v):a=b:=
 (bp pa ra).rd.elim fun _ xa=>(bp pb rb).rd.elim fun _ xb=>SO ((eS pa ra pb rb).symm.trans (SeqAt.Reads.unique _ _ _ _ _ (bp pa ra).lay xa xb▸SeqAt.eqv_refl _ (bp pa ra).lay))
end
section
variable{Y:St}{p:Pt Y}{A:Around}{E:Value->Shared->Prop}{s:Shared}
theorem sY{a b:AV}{v u:Value}{Q:Bool->Shared->Prop}(hu:A.units+6<cLine)(pa:a.pur=true)(pb:b.pur=true)(ra:aq p.x a v)(rb:aq p.x b u)(h:Q (decide (a=b)) p.s):wpAny M0 A (eqBool v u) Q E p.s:=
 (bp pa ra).rd.elim fun _ xa=>(bp pb rb).rd.elim fun _ xb=>SeqAt.eqBoolOverData _ _ _ _ _ _ _ _ _ _ _ _ xa xb (bp pa ra).lay (bp pb rb).lay (Tj (Tw (SJ (Uo _ _) (bp pa ra).dep) _) hu) (eS pa ra pb rb▸h)
theorem FV{a b:AV}{v u:Value}{Q:Value->Shared->Prop}(hu:A.units+6<cLine)(pa:a.pur=true)(pb:b.pur=true)(ra:aq p.x a v)(rb:aq p.x b u)(h:Q (.bool (decide (a=b))) p.s):wpAny M0 A (compareOp .Eq v u) Q E p.s:=
 (bp pa ra).rd.elim fun _ xa=>(bp pb rb).rd.elim fun _ xb=>SeqAt.compareEq_reads xa xb (bp pa ra).lay (bp pb rb).lay (Tj (Tw (SJ (Uo _ _) (bp pa ra).dep) _) hu) (eS pa ra pb rb▸h)
theorem EZ{a b:AV}{v u:Value}{Q:Value->Shared->Prop}(hu:A.units+6<cLine)(pa:a.pur=true)(pb:b.pur=true)(ra:aq p.x a v)(rb:aq p.x b u)(h:Q (.bool (!decide (a=b))) p.s):wpAny M0 A (compareOp .NotEq v u) Q E p.s:=
 (bp pa ra).rd.elim fun _ xa=>(bp pb rb).rd.elim fun _ xb=>SeqAt.compareNe_reads xa xb (bp pa ra).lay (bp pb rb).lay (Tj (Tw (SJ (Uo _ _) (bp pa ra).dep) _) hu) (eS pa ra pb rb▸h)
def As(x:Hp)(d:Nat)(v:AV)(w:Value):Prop:=∀{A:Around} {s:Shared} {Q:Int->Shared->Prop} {E:Value->Shared->Prop},s.heap=x.h->A.units+d<cLine->(∀ t,Q (bL v) { s with toks:=t })->wpAny M0 A (pyHash w) Q E s
def Ar(x:Hp)(d:Nat)(vs:List AV)(ws:List Value):Prop:=∀{A:Around} {s:Shared} {Q:Array Int->Shared->Prop} {E:Value->Shared->Prop} (b₀:Array Int),s.heap=x.h->A.units+d<cLine->(∀(t:Nat) (b:Array Int),b.toList=b₀.toList++fX vs->Q b { s with toks:=t })->
 wpAny M0 A (forIn ws b₀ fun x r=>do let h <- pyHash x;pure (ForInStep.yield (r.push h))) Q E s
theorem zi{x:Hp}{d:Nat}{vs:List AV}{a:Addr}{ws:Array Value}{n:Nat}(i:fH x a (bW ws n))(r:Ar x d vs ws.toList):As x (d+1) (.tup vs) (.ref a):=fun{A s Q E} hs hu h=>by
 have ho:s.heap.get? a=some (bW ws n):=hs▸i.h;have hT:s.TypeIs (.ref a) "tuple":=⟨_,ho,rfl⟩;show wpAny _ A (pyHashByItsType (.ref a)) Q E s;unfold pyHashByItsType;refine SF (wpAny_cRoomFor (u0 hu) ?_);refine SF (wpAny_specialOf hT F.slot_tuple_hash.lookup ?_);show wpAny _ _ (if(some (Value.builtin "tuple.__hash__")==some Value.none)=true then _ else _) Q E s
 rw[SL (by rw[beq_builtin_none];exact Tp)]
 refine SF (wpAny_specialOf hT F.slot_tuple_hash.lookup ?_);show wpAny _ _ (callSpecialIfBoundUnlessNone? (.ref a) "__hash__" _ >>= _) Q E s;refine SF (wpAny_callSpecialIfBoundUnlessNone?_slot hT F.slot_tuple_hash (TK F.slot_tuple_hash hT F.entry_tuple_hash ?_ (F.args_tuple_hash_1 _)));refine SF (m:=Builtin.Tuple.tupleItemsOf (.ref a)) (wpAny_tupleItemsOf ho rfl (SF ?_));rw[<- Array.forIn_toList];refine r (A:=A.in1) #[] hs (by show A.units+1+d<cLine;exact u1 hu) fun t b hb=>?_
 show wpAny _ _ (retInt (Builtin.Tuple.tupleHashOf b.toList)) _ _ _;rw[hb,show(#[]:Array Int).toList++fX vs=fX vs from rfl];refine wpAny_ret_mkInt ?_;have h':∀ t,Q (reduceHash (Builtin.Tuple.tupleHashOf (fX vs))) { s with toks:=t }:=h;clear h hb r
 revert h'
 generalize Builtin.Tuple.tupleHashOf (fX vs)=m;intro h;show wpAny _ _ (if(decide (-(2:Int)^63<=m)&&decide (m<2^63))=true then _ else _) Q E _
 unfold reduceHash at h
 cases hr:decide (-(2:Int)^63<=m)&&decide (m<2^63) with
 | true=>rw[hr] at h;exact SH (h _)
 | false=>rw[hr] at h;exact SF (TM (SH (h _)))
theorem eC{x:Hp}{d:Nat}{v:AV}{w:Value}:v.purD d=true->aq x v w->As x d v w:=
 bI (P:=As x) (Ps:=Ar x) (fun _ _ h=>wpAny_pyHash_int (h _)) (fun _=>fun _ _ h=>wpAny_pyHash_str (h _)) zi
  (fun b hs hu h=>by rw[List.forIn_nil];exact SH (h _ b (Tr _).symm))
  fun{d v w vs ws} r t {A s Q E} b hs hu h=>by
   rw[Uj];refine SF (SF (r hs hu fun t'=>SH ?_));exact t (s:={ s with toks:=t' }) (b.push (bL v)) hs hu fun t'' b' hb=>h t'' b' (by rw[hb,Uv,S6];rfl)
def G0(x:Hp)(d:Nat)(w:Value):Prop:=∀{k:Nat} {A:Around} {s:Shared} {Q:Bool->Shared->Prop} {E:Value->Shared->Prop},s.heap=x.h->d<=k->Q true s->wpAny M0 A (eqIsQuiet k w) Q E s
def DG(x:Hp)(d:Nat)(ws:List Value):Prop:=∀{k:Nat} {A:Around} {s:Shared} {Q:Option Bool×Unit->Shared->Prop} {E:Value->Shared->Prop},s.heap=x.h->d<=k->Q (none,()) s->
 wpAny M0 A (forIn ws (none,()) fun y (_:Option Bool×Unit)=>do
   let x <- eqIsQuiet k y
   if(!x)=true then pure (ForInStep.done (some false,())) else pure (ForInStep.yield (none,()))) Q E s
theorem vC{x:Hp}{d:Nat}{a:Addr}{ws:Array Value}{n:Nat}(i:fH x a (bW ws n))(r:DG x d ws.toList):G0 x (d+1) (.ref a)
 | 0,_,_,_,_,_,hk,_=>SP hk (Tc _)
 | k+1,A,s,Q,E,hs,hk,h=>by
  have ho:s.heap.get? a=some (bW ws n):=hs▸i.h;have hT:s.TypeIs (.ref a) "tuple":=⟨_,ho,rfl⟩;unfold eqIsQuiet;refine SF (wpAny_specialOf hT F.slot_tuple_eq.lookup ?_);refine SF (m:=isInstance (.ref a) (.type "tuple")) (wpAny_isInstance hT isSubtype_tuple_tuple ?_);rw[Bool.not_true,SL Tp];refine SF (Uk ho rfl (SF ?_));show wpAny _ _ (forIn ws _ _) _ _ s;rw[<- Array.forIn_toList];exact r hs (Nat.le_of_succ_le_succ hk) (SH h)
theorem gp{x:Hp}{d:Nat}{v:AV}{w:Value}:v.purD d=true->aq x v w->G0 x d w:=
 bI (P:=fun d _ w=>G0 x d w) (Ps:=fun d _ ws=>DG x d ws) (fun{_ _ _} {k} {A s Q E} _ _ h=>by rw[eqIsQuiet_byValue k rfl];exact SH h) (fun{_ _ _} _ {k} {A s Q E} _ _ h=>by rw[eqIsQuiet_byValue k rfl];exact SH h) vC
  (fun{_} {k} {A s Q E} _ _ h=>by rw[List.forIn_nil];exact SH h)
  fun{_ _ _ _ _} r t {k} {A s Q E} hs hk h=>by
   rw[Uj];refine SF (SF (r hs hk ?_));rw[Bool.not_true,SL Tp];exact SH (t hs hk h)
end
structure FK(A:Around)(s:Shared)(da:Addr)(ds:Array DictEntry)(ep:Nat)(key:Value)(hh:Int)(P:Nat->Bool):Prop where
 obj:s.heap.get? da=some (bT ds ep)
 same:∀(i:Nat) (d:DictEntry),ds[i]?=some d->∀{Q:Bool->Shared->Prop} {E:Value->Shared->Prop},Q (P i) s->wpAny M0 A (eqBool d.key key) Q E s
 hash:∀(i:Nat) (d:DictEntry),ds[i]?=some d->P i=true->d.hash=hh
 inj:∀ i j,P i=true->P j=true->i=j
 lt:∀ i,P i=true->i<ds.size
 quiet:∀{k:Nat} {Q:Bool->Shared->Prop} {E:Value->Shared->Prop},6<=k->Q true s->wpAny M0 A (eqIsQuiet k key) Q E s
 quiets:∀(i:Nat) (d:DictEntry),ds[i]?=some d->∀{k:Nat} {Q:Bool->Shared->Prop} {E:Value->Shared->Prop},6<=k->Q true s->wpAny M0 A (eqIsQuiet k d.key) Q E s
 refs:∀(i:Nat) (d:DictEntry),ds[i]?=some d->d.key=key->d.hash=hh
 strk:∀(i:Nat) (d:DictEntry) (x:Str) (t:Tok),ds[i]?=some d->key=.str x t->d.key.isStr x=P i
 kind:(∃ i t,key=.int i t)\/(∃ x t,key=.str x t)\/∃ a,key=.ref a
section
variable{A:Around}{s:Shared}{da:Addr}{ds:Array DictEntry}{ep:Nat}{key:Value}{hh:Int}{P:Nat->Bool}{Q:Option Nat->Shared->Prop}{E:Value->Shared->Prop}
noncomputable abbrev iX(ds:Array DictEntry)(hh:Int):List Nat:=placesWithHash ds.size (fun i=>ds[i]?.map (·.hash)) hh
theorem gv{i:Nat}:i∈iX ds hh↔∃ d,ds[i]?=some d/\d.hash=hh:=by
 unfold iX placesWithHash;rw[TS]
 constructor
 ·intro h;have h:(ds[i]?.map (·.hash)==some hh)=true:=h.2
  cases hd:ds[i]? with
  | none=>rw[hd] at h;exact nomatch h
  | some d=>rw[hd] at h;exact⟨d,rfl,S0 (eq_of_beq h)⟩
 ·intro h;obtain⟨d,h1,h2⟩:=h;refine⟨List.mem_range.mpr (UG.mp h1).1,?_⟩;show(ds[i]?.map (·.hash)==some hh)=true;rw[h1,<- h2];exact beq_self_eq_true _
theorem FK.mem(K:FK A s da ds ep key hh P){i:Nat}(h:P i=true):i∈iX ds hh:=gv.mpr ⟨_,TT (K.lt i h),K.hash i _ (TT (K.lt i h)) h⟩
theorem jE{α:Type}{n:Nat}{x y:α}:(if(n != n)=true then x else y)=y:=SL (by rw[bne_self_eq_false];exact Tp)
theorem zj{α:Type}{d:DictEntry}{x y:α}(h:d.hash=hh):(if(d.hash==hh)=true then x else y)=x:=SQ (h▸beq_self_eq_true _)
theorem uW(K:FK A s da ds ep key hh P)(hs:∀ i,P i=true->Q (some i) s)(hn:(∀ i,P i=false)->Q none s):wpAny M0 A (dictWalkPlain da key hh ds (iX ds hh)) Q E s:=by
 refine SF (wpAny_forIn_list _ (fun rest b s'=>s'=s/\b=(none,())/\(∀ i,i∈rest->i∈iX ds hh)/\∀ i,P i=true->i∈rest) _ ?_ ?_ _ _ ⟨rfl,rfl,fun _ h=>h,fun _ h=>K.mem h⟩)
 ·intro x rest b s' hI;obtain⟨rfl,rfl,hm,hP⟩:=hI;obtain⟨d,h1,h2⟩:=gv.mp (hm x (.head _));rw[h1];dsimp only;rw[zj h2];refine SF (Ua K.obj rfl (SF (K.same x d h1 (SF (Ua K.obj rfl ?_)))));rw[jE]
  cases hx:P x with
  | true=>exact SF (TM (SH (SH (hs x hx))))
  | false=>exact SF (TM (SH ⟨rfl,rfl,fun i hi=>hm i (.tail _ hi),fun i hi=>(SW.mp (hP i hi)).resolve_left fun e=>nomatch(e▸hi).symm.trans hx⟩))
 ·intro b s' hI;obtain⟨rfl,rfl,_,hP⟩:=hI;exact SH (hn fun i=>Bool.eq_false_iff.mpr fun h=>nomatch hP i h)
def FJ(A:Around)(s:Shared)(da:Addr)(ds:Array DictEntry)(ep:Nat)(key:Value)(hh:Int)(P:Nat->Bool)(Q:Option Nat->Shared->Prop)(E:Value->Shared->Prop)(n:List Value):Prop:=∀(K:FK A s da ds ep key hh P) (hs:∀ i,P i=true->Q (some i) s) (hn:(∀ i,P i=false)->Q none s),wpAny M0 A (show Sem (Option Nat) from do
  let mut hit:Option Nat:=none
  for i in iX ds hh do
   if let some e:=ds[i]? then
    if e.hash==hh then
     let before <- dictEpoch da (keyPart key)
     let same <- eqBool e.key key
     if(<- dictEpoch da (keyPart key)) != before then unsupported "dict.changed-during-lookup"
     if same then
      if hit.isSome then unsupported "dict.find:order-among-keys-of-one-hash"
      rule "dict.find.hit"
      if n.length<2 then return some i
      hit:=some i
     else
      rule "dict.find.same-hash-other-key"
      if false&&!(0<=hh&&hh<32) then unsupported "dict.find:asked-again-or-not-hangs-on-the-table"
  return hit) Q E s
def JH(a:Around×Shared×Addr×Array DictEntry×Nat×Value×Int×(Nat->Bool)×(Option Nat->Shared->Prop)×(Value->Shared->Prop)×List Value):Prop:=FJ a.1 a.2.1 a.2.2.1 a.2.2.2.1 a.2.2.2.2.1 a.2.2.2.2.2.1 a.2.2.2.2.2.2.1 a.2.2.2.2.2.2.2.1 a.2.2.2.2.2.2.2.2.1 a.2.2.2.2.2.2.2.2.2.1 a.2.2.2.2.2.2.2.2.2.2
noncomputable def kt:=lN ({},{},default) JH
noncomputable def Se:=kt.1
noncomputable def Hi:=kt.2.1
noncomputable def N5:=kt.2.2.1
noncomputable def FH:=kt.2.2.2.1
noncomputable def N4:=kt.2.2.2.2.1
noncomputable def JG:=kt.2.2.2.2.2.1
noncomputable def FG:=kt.2.2.2.2.2.2.1
noncomputable def KG:=kt.2.2.2.2.2.2.2.1
noncomputable def Sc:=kt.2.2.2.2.2.2.2.2.1
noncomputable def Sd:=kt.2.2.2.2.2.2.2.2.2.1
noncomputable def Sb:=kt.2.2.2.2.2.2.2.2.2.2
theorem N6:FJ Se Hi N5 FH N4 JG FG KG Sc Sd Sb:=fun K hs hn=>by
 refine SF (wpAny_forIn_list _ (fun rest b s'=>s'=Hi/\b.1=none/\(∀ i,i∈rest->i∈iX FH FG)/\rest.Nodup/\(∀ i,KG i=true->b.2=none->i∈rest)/\∀ i,b.2=some i->KG i=true/\i∉rest) _ ?_ ?_ _ _
  ⟨rfl,rfl,fun _ h=>h,List.Pairwise.filter _ List.nodup_range,fun _ h _=>K.mem h,fun _ h=>nomatch h⟩)
 ·intro x rest b s' hI;obtain⟨rfl,hb,hm,nd,hP,hH⟩:=hI;obtain⟨b,hit⟩:=b
  cases hb
  obtain⟨d,h1,h2⟩:=gv.mp (hm x (.head _));rw[h1];dsimp only;rw[zj h2];refine SF (Ua K.obj rfl (SF (K.same x d h1 (SF (Ua K.obj rfl ?_)))));rw[jE];have hm':∀ i,i∈rest->i∈iX FH FG:=fun i hi=>hm i (.tail _ hi);have nd':=Tq.mp nd
  cases hx:KG x with
  | true=>
   cases hit with
   | some j=>exact SP (.head _) ((K.inj x j hx (hH j rfl).1)▸(hH j rfl).2)
   | none=>
    refine SF (TM ?_);refine Ty (fun _=>SH (SH (hs x hx))) fun _=>SH ⟨rfl,rfl,hm',nd'.2,fun _ _ h=>(nomatch h),fun i h=>?_⟩
    cases h
    exact⟨hx,nd'.1⟩
  | false=>exact SF (TM (SH ⟨rfl,rfl,hm',nd'.2,fun i hi h=>(SW.mp (hP i hi h)).resolve_left (fun e=>nomatch(e▸hi).symm.trans hx),fun i h=>⟨(hH i h).1,fun g=>(hH i h).2 (.tail _ g)⟩⟩))
 ·intro b s' hI;obtain⟨rfl,hb,_,_,hP,hH⟩:=hI;obtain⟨b,hit⟩:=b
  cases hb
  cases hit with
  | none=>exact SH (hn fun i=>Bool.eq_false_iff.mpr fun h=>nomatch hP i h rfl)
  | some j=>exact SH (hs j (hH j rfl).1)
theorem Ce(n:List Value):FJ A s da ds ep key hh P Q E n:=bF JH N6 (A,s,da,ds,ep,key,hh,P,Q,E,n)
theorem BI(K:FK A s da ds ep key hh P){Q:Bool->Shared->Prop}(h:Q false s):wpAny M0 A (tableMayTell key ((iX ds hh).filterMap fun i=>ds[i]?.map (·.key))) Q E s:=by
 unfold tableMayTell;refine Ty (fun _=>SH h) fun _=>SF (K.quiet (by decide) ?_)
 rw[Bool.not_true,SL Tp];refine SF (wpAny_forIn_list _ (fun rest r s'=>s'=s/\r=(none,())/\∀ v,v∈rest->∃(i:Nat) (d:DictEntry),ds[i]?=some d/\d.key=v) _ ?_ ?_ _ _ ⟨rfl,rfl,fun v hv=>?_⟩)
 ·intro x rest r s' hI;obtain⟨rfl,rfl,hr⟩:=hI;obtain⟨i,d,h1,rfl⟩:=hr x (.head _);refine SF (K.quiets i d h1 (by decide) ?_)
  rw[Bool.not_true,SL Tp];exact SH ⟨rfl,rfl,fun v hv=>hr v (.tail _ hv)⟩
 ·intro r s' hI;obtain⟨rfl,rfl,_⟩:=hI;exact SH h
 ·obtain⟨i,hi,h⟩:=List.mem_filterMap.mp hv;obtain⟨d,h1,_⟩:=gv.mp hi;rw[h1] at h;exact⟨i,d,h1,S0 h⟩
theorem ox(K:FK A s da ds ep key hh P){x:Str}{t:Tok}(hk:key=.str x t)(hs:∀ i,P i=true->Q (some i) s)(hn:(∀ i,P i=false)->Q none s):wpAny M0 A (foundByValue da key ds x) Q E s:=by
 unfold foundByValue
 cases hf:ds.findIdx? (fun e=>e.key.isStr x) with
 | none=>exact SH (hn fun i=>Bool.eq_false_iff.mpr fun h=>by
   have g:=TT (K.lt i h);have:=Array.findIdx?_eq_none_iff.mp hf _ (Array.mem_of_getElem? g);rw[K.strk i _ x t g hk,h] at this;exact nomatch this)
 | some i=>
  obtain⟨hi,h1,_⟩:=Array.findIdx?_eq_some_iff_getElem.mp hf;have g:=TT hi;rw[K.strk i _ x t g hk] at h1;dsimp only;rw[g];refine SF (Ua K.obj rfl (SF (K.same i _ g (SF (Ua K.obj rfl ?_)))));rw[jE,h1];exact SF (TM (SH (hs i h1)))
theorem fJ(K:FK A s da ds ep key hh P)(c:Bool)(hs:∀ i,P i=true->Q (some i) s)(hn:(∀ i,P i=false)->Q none s):wpAny M0 A (show Sem (Option Nat) from do
 let stored:=(iX ds hh).filterMap fun i=>ds[i]?.map (·.key)
 let tells <- if c then pure false else tableMayTell key stored
 if tells&&stored.length>=2 then unsupported "dict.find:order-among-keys-of-one-hash"
 let mut hit:Option Nat:=none
 for i in iX ds hh do
  if let some e:=ds[i]? then
   if e.hash==hh then
    let before <- dictEpoch da (keyPart key)
    let same <- eqBool e.key key
    if(<- dictEpoch da (keyPart key)) != before then unsupported "dict.changed-during-lookup"
    if same then
     if hit.isSome then unsupported "dict.find:order-among-keys-of-one-hash"
     rule "dict.find.hit"
     if stored.length<2 then return some i
     hit:=some i
    else
     rule "dict.find.same-hash-other-key"
     if tells&&!(0<=hh&&hh<32) then unsupported "dict.find:asked-again-or-not-hangs-on-the-table"
 return hit) Q E s:=by
 refine Ty (fun _=>SF (SH ?_)) (fun _=>SF (BI K ?_))<;>exact Ce _ K hs hn
def FT(A:Around)(s:Shared)(da:Addr)(ds:Array DictEntry)(ep:Nat)(hh:Int)(P:Nat->Bool)(Q:Option Nat->Shared->Prop)(E:Value->Shared->Prop):Prop:=∀{key:Value} (K:FK A s da ds ep key hh P) (hs:∀ i,P i=true->Q (some i) s) (hn:(∀ i,P i=false)->Q none s),wpAny M0 A (dictFind da key hh) Q E s
def JP(a:Around×Shared×Addr×Array DictEntry×Nat×Int×(Nat->Bool)×(Option Nat->Shared->Prop)×(Value->Shared->Prop)):Prop:=FT a.1 a.2.1 a.2.2.1 a.2.2.2.1 a.2.2.2.2.1 a.2.2.2.2.2.1 a.2.2.2.2.2.2.1 a.2.2.2.2.2.2.2.1 a.2.2.2.2.2.2.2.2
noncomputable def oe:=lN ({},{},default) JP
noncomputable def PM:=oe.1
noncomputable def PD:=oe.2.1
noncomputable def JO:=oe.2.2.1
noncomputable def Cn:=oe.2.2.2.1
noncomputable def Od:=oe.2.2.2.2.1
noncomputable def Cm:=oe.2.2.2.2.2.1
noncomputable def Sf:=oe.2.2.2.2.2.2.1
noncomputable def PH:=oe.2.2.2.2.2.2.2.1
noncomputable def PJ:=oe.2.2.2.2.2.2.2.2
theorem Oe:FT PM PD JO Cn Od Cm Sf PH PJ:=fun{key} K hs hn=>by
 unfold dictFind;refine Td (SF (Ub K.obj rfl ?_));have old:wpAny M0 PM (dictWalkPlain JO key Cm Cn (iX Cn Cm)) PH PJ PD:=uW K hs hn;have hany:¬(Cn.any fun e=>e.key==key&&e.hash != Cm)=true:=by
  rw[<- Array.any_toList,List.any_eq_true];intro⟨e,hin,hc⟩;obtain⟨i,hi⟩:=Uc.mp hin;have hc:=SU.mp hc;exact(bne_iff_ne.mp hc.2) (K.refs i e (by rw[<- Tz];exact hi) (eq_of_beq hc.1))
 rcases K.kind with⟨i,t,rfl⟩ | ⟨x,t,rfl⟩ | ⟨a,rfl⟩
 ·exact Ty (fun _=>old) fun _=>fJ K _ hs hn
 ·exact Ty (fun _=>ox K rfl hs hn) fun _=>Ty (fun _=>old) fun _=>fJ K _ hs hn
 ·refine Ty (fun _=>old) fun _=>?_;dsimp only;rw[SL hany];exact fJ K _ hs hn
theorem Co :FT A s da ds ep hh P Q E:=bF JP Oe (A,s,da,ds,ep,hh,P,Q,E)
end
def At{κ:Type}(es:List (κ×AV))(k:κ)(i:Nat):Prop:=es[i]?.map (·.1)=some k
noncomputable instance {κ:Type} [DecidableEq κ] (es:List (κ×AV)) (k:κ) (i:Nat):Decidable (At es k i):=inferInstanceAs (Decidable (_=_))
section
variable{κ:Type}{k:κ}{v:AV}{e:κ×AV}{es:List (κ×AV)}{i:Nat}
theorem At.mem{es:List (κ×AV)}{i:Nat}(h:At es k i):k∈es.map (·.1):=(aI (show es[i]?.map (·.1)=some k from h) fun _ h e=>e▸Ut (Tm h))
theorem j9(h:k∉es.map (·.1)):∀ x,x∈es->x.1≠k:=fun x hx e=>h (e▸Ut hx)
theorem mE(h:∀ i,¬At es k i):k∉es.map (·.1):=fun hm=>by
 obtain⟨i,hi⟩:=Uc.mp hm;exact h i (by unfold At;rw[<- TD];exact hi)
theorem fj{k:AV}{es:List (AV×AV)}(h:k∉es.map (·.1)):aA es k=none:=by
 unfold aA;rw[List.find?_eq_none.mpr fun x hx q=>j9 h x hx (SO q)];rfl
theorem jy(nd:((e::es).map (·.1)).Nodup):e.1∉es.map (·.1)/\(es.map (·.1)).Nodup:=Tq.mp nd
theorem oi{es:List (AV×AV)}:∀{i:Nat} {e:AV×AV},(es.map (·.1)).Nodup->es[i]?=some e->aA es e.1=some e.2:=by
 induction es with
 | nil=>exact fun _ h=>bZ h
 | cons x es ih=>
  refine @fun i e nd h=>?_;have nd:=jy nd;show((x::es).find? _).map _=_
  cases i with
  | zero=>
   cases h
   rw[List.find?_cons_of_pos (p:=fun y:AV×AV=>decide (y.1=x.1)) (SV rfl)];rfl
  | succ i=>
   rw[List.find?_cons_of_neg (p:=fun y:AV×AV=>decide (y.1=e.1)) fun q=>nd.1 (SO q▸Ut (Tm h))];exact ih nd.2 h
theorem yI(f:κ×AV->κ×AV)(h:∀ x,x∈es->f x=x):es.map f=es:=(TN h).trans (List.map_id _)
variable[DecidableEq κ]
theorem EN{es:List (κ×AV)}:∀{i:Nat},(es.map (·.1)).Nodup->At es k i->es.map (fun e=>if e.1=k then(e.1,v) else e)=es.modify i fun e=>(e.1,v):=by
 induction es with
 | nil=>exact fun _ h=>bZ h
 | cons x es ih=>
  refine @fun i nd h=>?_;have nd:=jy nd
  cases i with
  | zero=>
   have hx:x.1=k:=S0 h;rw[List.map_cons,SQ hx,yI _ fun y hy=>SL (j9 (hx▸nd.1) y hy)];rfl
  | succ i=>rw[List.map_cons,SL fun q:x.1=k=>nd.1 (q▸At.mem h),ih nd.2 h];rfl
theorem gI(nd:(es.map (·.1)).Nodup)(h:At es k i):aU es k v=es.modify i fun e=>(e.1,v):=by
 unfold aU;obtain⟨x,hx,e⟩:=Ta.mp (At.mem h);rw[SQ (List.any_eq_true.mpr ⟨x,hx,SV e⟩)];exact EN nd h
theorem cN(h:k∉es.map (·.1)):aU es k v=es++[(k,v)]:=by
 unfold aU;refine SL fun q=>?_;obtain⟨x,hx,e⟩:=List.any_eq_true.mp q;exact j9 h x hx (SO e)
theorem Cw{k:AV}{es:List (AV×AV)}:∀{i:Nat},(es.map (·.1)).Nodup->At es k i->eU es k=es.eraseIdx i:=by
 induction es with
 | nil=>exact fun _ h=>bZ h
 | cons x es ih=>
  refine @fun i nd h=>?_;have nd:=jy nd;show(x::es).filter _=_
  cases i with
  | zero=>
   have hx:x.1=k:=S0 h;rw[List.filter_cons_of_neg (by rw[SV hx];decide)]
   exact List.filter_eq_self.mpr fun y hy=>by rw[Tk (j9 (hx▸nd.1) y hy)];rfl
  | succ i=>
   rw[List.filter_cons_of_pos (by rw[Tk fun q:x.1=k=>nd.1 (q▸At.mem h)];rfl)]
   exact SI _ (ih nd.2 h)
omit [DecidableEq κ] in
theorem p9{es:List (κ×AV)}:∀{i:Nat},(es.modify i fun e=>(e.1,v)).map (·.1)=es.map (·.1):=by
 induction es with
 | nil=>exact @fun i=>by cases i<;>rfl
 | cons x es ih=>
  refine @fun i=>?_
  cases i with
  | zero=>rfl
  | succ i=>exact SI (x.1::·) ih
omit [DecidableEq κ] in
theorem mf(nd:(es.map (·.1)).Nodup)(h:k∉es.map (·.1)):((es++[(k,v)]).map (·.1)).Nodup:=by
 rw[Th];exact Ts.mpr ⟨nd,Tq.mpr ⟨nofun,.nil⟩,fun a ha b hb e=>h (by rw[show k=b from(SY.mp hb).symm,<- e];exact ha)⟩
omit [DecidableEq κ] in
theorem Ov(nd:(es.map (·.1)).Nodup){P:Prop}(h0:k∉es.map (·.1)->P)(h1:∀ i,At es k i->P):P:=(Tu (∃ i,At es k i)).elim (fun h=>h.elim h1) fun h=>h0 (mE fun i g=>h ⟨i,g⟩)
theorem eD(nd:(es.map (·.1)).Nodup):((aU es k v).map (·.1)).Nodup:=Ov (k:=k) nd (fun h=>cN (v:=v) h▸mf nd h) fun i h=>by rw[gI nd h,p9];exact nd
end
section
variable{Y:St}{A:Around}{es:List (AV×AV)}{ds:Array DictEntry}{ep:Nat}{k v:AV}{key w:Value}{a:Addr}{r:Nat}{E:Value->Shared->Prop}
theorem aX{n:Nat}(h:n<=ay):n<=sizeLine:=SJ h (by rw[sizeLine_eq];decide)
theorem eZ{p:Pt Y}(hd:ai (DE p.x) es ds.toList):ds.size=es.length:=hd.length.symm
theorem FK.of(p:Pt Y)(hu:A.units+6<cLine)(ho:p.s.heap.get? a=some (bT ds ep))(hd:ai (DE p.x) es ds.toList)(nd:(es.map (·.1)).Nodup)(hk:k.pur=true)(rk:V k p key):FK A p.s a ds ep key (bL k) fun i=>decide (At es k i):=by
 have tA:∀(i:Nat) (d:DictEntry) {C:Prop},ds[i]?=some d->(∀ e,es[i]?=some e->DE p.x e d->C)->C:=fun i d _ h=>hd.get' (Tz▸h);have pe:∀{i:Nat} {e:AV×AV},es[i]?=some e->(e.1=k↔At es k i):=fun h=>by unfold At;rw[h];exact⟨SI some,S0⟩
 refine⟨ho,fun i d h {Q E} hq=>tA i d h fun e h1 h2=>sY hu h2.pur hk h2.key rk ((decide_eq_decide.mpr (pe h1)).symm▸hq),fun i d h hp=>tA i d h fun e h1 h2=>h2.hash.trans (SI _ ((pe h1).mpr (SO hp))),
  fun i j hi hj=>?_,fun i hi=>?_,fun h6 hq=>gp hk rk rfl h6 hq,fun i d h {k Q E} h6 hq=>tA i d h fun e h1 h2=>gp h2.pur h2.key rfl h6 hq,fun i d h hq=>tA i d h fun e h1 h2=>h2.hash.trans (SI _ (aq.inj h2.pur hk (hq▸h2.key) rk)),
  fun i d x t h hq=>tA i d h fun e h1 h2=>?_,?_⟩
 ·have hi:=SO hi;have hj:=SO hj;unfold At at hi hj;rw[<- TD] at hi hj;exact(List.getElem?_inj (SR.mp hi).1 nd).mp (hi.trans hj.symm)
 ·have hi:=SO hi;unfold At at hi;rw[<- TD] at hi;have:=(SR.mp hi).1;rwa [S7,hd.length] at this
 ·rw[<- decide_eq_decide.mpr (pe h1)];refine bI (x:=p.x) (P:=fun _ v w=>w=.str x t->d.key.isStr x=decide (e.1=v)) (Ps:=fun _ _ _=>True) (fun h=>nomatch h) (fun{_ j _} hj q=>?_) (fun _ _ h=>nomatch h) trivial (fun _ _=>trivial) hk rk hq
  cases q
  exact bI (x:=p.x) (P:=fun _ v w=>w.isStr (aw j)=decide (v=.sym j)) (Ps:=fun _ _ _=>True) (d8 nofun) (fun{_ i _} hi=>by
   show(aw i==aw j)=_
   by_cases q:i=j
   ·subst q;rw[beq_self_eq_true];exact(SV rfl).symm
   ·rw[beq_eq_false_iff_ne.mpr fun g=>q ((d6 j hj).2 i hi g)];exact d8 fun g=>q (AV.sym.inj g)) (fun _ _=>d8 nofun) trivial (fun _ _=>trivial) h2.pur h2.key
 ·exact bI (x:=p.x) (P:=fun _ _ key=>(∃ i t,key=.int i t)\/(∃ x t,key=.str x t)\/∃ a,key=.ref a) (Ps:=fun _ _ _=>True) (.inl ⟨_,_,rfl⟩) (fun _=>.inr (.inl ⟨_,_,rfl⟩)) (fun _ _=>.inr (.inr ⟨_,rfl⟩)) trivial (fun _ _=>trivial) hk rk
theorem gD(p:Pt Y){Q:Option Nat->Shared->Prop}(hu:A.units+6<cLine)(ho:p.s.heap.get? a=some (bT ds ep))(hd:ai (DE p.x) es ds.toList)(nd:(es.map (·.1)).Nodup)(hk:k.pur=true)(rk:V k p key)
  (hn:k∉es.map (·.1)->Q none p.s) (hs:∀(i:Nat) e d,es[i]?=some e->e.1=k->ds[i]?=some d->DE p.x e d->Q (some i) p.s):wpAny M0 A (dictFind a key (bL k)) Q E p.s:=
 Co (FK.of p hu ho hd nd hk rk) (fun i hi=>by
  have hi:=SO hi;unfold At at hi
  cases he:es[i]? with
  | none=>rw[he] at hi;exact nomatch hi
  | some e=>rw[he] at hi;exact hd.get he fun d h1 h2=>hs i e d he (S0 hi) (Tz▸h1) h2)
  fun h=>hn (mE fun i g=>nomatch(SV g).symm.trans (h i))
theorem gC(p:Pt Y){Q:Int->Shared->Prop}(hu:A.units+6<cLine)(hk:k.pur=true)(rk:V k p key)(h:∀ t,Q (bL k) (p.tok t).s):wpAny M0 A (pyHash key) Q E p.s:=eC hk rk rfl hu h
theorem sW(p:Pt Y)(hu:A.units+6<cLine)(ho:p.s.heap.get? a=some (bT ds ep))(hd:ai (DE p.x) es ds.toList)(nd:(es.map (·.1)).Nodup)(hk:k.pur=true)(rk:V k p key) :
  Ev (Y':=Y) (fun q o=>(aA es k=none/\o=none)\/∃ v w,aA es k=some v/\o=some w/\V v q w) A p (dictGet a key):=⟨fun g=>Td (SF (gC p hu hk rk fun t=>SF (gD (p.tok t) hu ho hd nd hk rk
   (fun h=>SH (g (p.tok t) _ .tok (.inl ⟨fj h,rfl⟩))) fun i e d h1 h2 h3 h4=>SF (Ub (s:=(p.tok t).s) ho rfl (SH (g (p.tok t) _ .tok (.inr ⟨e.2,d.val,h2▸oi nd h1,SI _ h3,h4.val⟩)))))))⟩
theorem uG(p:Pt Y)(hp:p.ι[r]?=some (a,a))(hu:A.units+6<cLine)(ho:p.s.heap.get? a=some (bT ds ep))(hd:ai (DE p.x) es ds.toList)(nd:(es.map (·.1)).Nodup)(hk:k.pur=true)(rk:V k p key)(rv:V v p w)(hz:es.length<=ay)
  (hl:(aU es k v).length<=ay):Ev (Y':=Y.set r (.dict (aU es k v))) (fun q (_:Unit)=>∀ b,b≠a->q.s.heap.get? b=p.s.heap.get? b) A p (dictSetHashed a key (bL k) w):=⟨fun g=>Td (SF (gD p hu ho hd nd hk rk
   (fun h=>SF (TM (wpAny_updateDictKeys ho rfl (Pt.setDH p (h':=p.s.heap.update a (Obj.mapDictKeys (·.push ⟨bL k,key,w⟩))) hp (Tv ..) (TF _ ho rfl) hl (eD nd)
     (by rw[cN h,Uv];exact hd.snoc ⟨hk,rfl,rk,rv⟩) fun q n=>g q () n) (eZ hd▸aX hz) (by simp))))
   fun i e d h1 h2 h3 h4=>SF (TM (SF (wpAny_updateDict ho rfl (wpAny_point (Pt.setDH p (h':=p.s.heap.update a (Obj.mapDict (·.modify i fun e=>{ e with val:=w }))) hp (Tv ..) (TF _ ho rfl) hl (eD nd)
     (by rw[gI nd (show At es k i by unfold At;rw[h1,<- h2];rfl),Array.toList_modify];exact hd.modify i fun _ _ _ r=>⟨r.pur,r.hash,r.key,rv⟩) fun q n=>g q () n)) (by simp))))))⟩
theorem sV(p:Pt Y)(hp:p.ι[r]?=some (a,a))(hu:A.units+6<cLine)(ho:p.s.heap.get? a=some (bT ds ep))(hd:ai (DE p.x) es ds.toList)(nd:(es.map (·.1)).Nodup)(hk:k.pur=true)(rk:V k p key)(rv:V v p w)(hz:es.length<=ay)
  (hl:(aU es k v).length<=ay):Ev (Y':=Y.set r (.dict (aU es k v))) (fun _ (_:Unit)=>True) A p (dictSet a key w):=⟨fun g=>Td (SF (gC p hu hk rk fun t=>(uG (p.tok t) hp hu ho hd nd hk rk rv hz hl).go fun q _ n _=>g q () (Nx.trans .tok n) trivial))⟩
theorem li(p:Pt Y){Q:Value->Shared->Prop}(hp:p.ι[r]?=some (a,a))(hu:A.units+6<cLine)(ho:p.s.heap.get? a=some (bT ds ep))(hd:ai (DE p.x) es ds.toList)(nd:(es.map (·.1)).Nodup)(hk:k.pur=true)(rk:V k p key)(rv:V v p w)(hz:es.length<=ay)
  (hs:∀ u t w',aA es k=some u->V u (p.tok t) w'->Q w' (p.tok t).s) (hn:aA es k=none->es.length+1<=ay/\∀ q:Pt (Y.set r (.dict (es++[(k,v)]))),Nx [] p q->Q w q.s):wpAny M0 A (dictSetDefault a key w) Q E p.s:=
 Td (SF (gC p hu hk rk fun t=>SF (gD (p.tok t) hu ho hd nd hk rk
  (fun h=>SF (TM (SF (wpAny_updateDictKeys (s:=(p.tok t).s) ho rfl (SH (Pt.setD p (h':=p.s.heap.update a (Obj.mapDictKeys (·.push ⟨bL k,key,w⟩))) hp (Tv ..) (TF _ ho rfl)
     (by rw[SZ];exact(hn (fj h)).1) (mf nd h) (by rw[Uv];exact hd.snoc ⟨hk,rfl,rk,rv⟩) (hn (fj h)).2)) (eZ hd▸aX hz) (by simp)))))
  fun i e d h1 h2 h3 h4=>SF (Ub (s:=(p.tok t).s) ho rfl (by rw[h3];exact SF (TM (SH (hs e.2 t d.val (h2▸oi nd h1) h4.val))))))))
theorem ch.six{n:Nat}(R:ch A n):A.units+90<cLine:=Tj (Ug (TH _ _) (by decide)) R.units
end
section
variable{c:Cc}{A:Around}{env:Env}{U:En}{Y Y':St}{p:Pt Y}{E:Value->Shared->Prop}
theorem oW{x:Str}{es:List X}{a:X}(h:g9 TB x es=some a):x≠("super":Str):=fun e=>by
 subst e;unfold g9 at h;rw[show mS ("super":Str)=none by decide +kernel,show be TB.fns ("super":Str)=none by decide +kernel,show be TB.clss ("super":Str)=none by decide +kernel] at h
 cases h
theorem gG(value:Expr)(attr:Str)(pos:Pos):eval (.Attribute value attr pos) env=(do
  let o <- attributeBase value attr env (eval value env)
  standAt pos.atName
  let r <- holding [o] (getAttr o attr true)
  letTemporaryGo value o r
  pure r):=rfl
theorem FE.isStr{x:Hp}{e:Nat×AV}{d:DictEntry}(h:FE x e d){a:Nat}(ha:a<bP.length):d.key.isStr (dX a)=(a==e.1):=h.key.elim fun t hk=>by
 rw[hk];show(dX e.1==dX a)=_
 by_cases q:a=e.1
 ·rw[q,beq_self_eq_true,beq_self_eq_true]
 ·rw[beq_eq_false_iff_ne.mpr q,beq_eq_false_iff_ne.mpr fun g=>q (BD _ h.lt a ha g.symm)]
theorem iS{x:Hp}{a:Nat}(ha:a<bP.length):∀{fs:List (Nat×AV)} {ds:List DictEntry},ai (FE x) fs ds->
  (fs.lookup a=none/\ds.find? (·.key.isStr (dX a))=none/\ds.any (·.refKey)=false)\/∃ v d,fs.lookup a=some v/\ds.find? (·.key.isStr (dX a))=some d/\aq x v d.val:=
 ai.ind (P:=fun(fs:List (Nat×AV)) (ds:List DictEntry)=>(fs.lookup a=none/\ds.find? (·.key.isStr (dX a))=none/\ds.any (·.refKey)=false)\/∃ v d,fs.lookup a=some v/\ds.find? (·.key.isStr (dX a))=some d/\aq x v d.val) (.inl ⟨rfl,rfl,rfl⟩)
  fun{e d fs ds} h _ ih=>by
   rw[List.lookup_cons,List.find?_cons,h.isStr ha]
   cases a==e.1 with
   | true=>exact .inr ⟨_,_,rfl,rfl,h.val⟩
   | false=>exact ih.imp (fun g=>⟨g.1,g.2.1,by rw[List.any_cons,g.2.2,show d.refKey=false from h.key.elim fun t q=>by unfold DictEntry.refKey;rw[q]];rfl⟩) id
theorem mz{a:Nat}{ds:Array DictEntry}{n:Nat}:lookIn (dX a) (bT ds n)=(match ds.toList.find? (·.key.isStr (dX a)) with | some e=>some (some e.val) | none=>if ds.toList.any (·.refKey) then none else some none):=rfl
theorem zt{x:Hp}{a:Nat}{fs:List (Nat×AV)}{ds:Array DictEntry}{n:Nat}{v:AV}(ha:a<bP.length)(h:ai (FE x) fs ds.toList)(hv:fs.lookup a=some v):∃ w,lookIn (dX a) (bT ds n)=some (some w)/\aq x v w:=
 (iS ha h).elim (fun g=>nomatch g.1.symm.trans hv) fun g=>g.elim fun u g=>g.elim fun d g=>⟨d.val,by rw[mz,g.2.1],S0 (g.1.symm.trans hv)▸g.2.2⟩
theorem sU{x:Hp}{a:Nat}{fs:List (Nat×AV)}{ds:Array DictEntry}{n:Nat}(ha:a<bP.length)(h:ai (FE x) fs ds.toList)(hv:fs.lookup a=none):lookIn (dX a) (bT ds n)=some none:=
 (iS ha h).elim (fun g=>by rw[mz,g.2.1,g.2.2];rfl) fun g=>g.elim fun u g=>g.elim fun d g=>nomatch g.1.symm.trans hv
theorem aq.handed{x:Hp}:∀{v:AV} {w:Value},aq x v w->handedIn w=true
 | .none,_,r | .bool _,_,r=>(show _=_ from r)▸rfl
 | .int _,_,r=>r.elim fun _ r=>r▸rfl
 | .sym _,_,r=>r.2.elim fun _ r=>r▸rfl
 | .ref _,_,r=>r.elim fun _ r=>r.2▸rfl
 | .tup _,_,r=>r.2.elim fun _ r=>r.elim fun _ r=>r.elim fun _ r=>r.1▸rfl
 | .frz _,_,r=>r.2.elim fun _ r=>r.elim fun _ r=>r.elim fun _ r=>r.elim fun _ r=>r.1▸rfl
 | .fset _,_,r=>r.elim fun _ r=>r.elim fun _ r=>r.elim fun _ r=>r.elim fun _ r=>r.elim fun _ r=>r.elim fun _ r=>r.1▸rfl
 | .view _,_,r=>r.elim fun _ r=>r.elim fun _ r=>r.1▸rfl
 | .rng _,_,r=>r.2.elim fun _ r=>r.elim fun _ r=>r.elim fun _ r=>r.elim fun _ r=>r.1▸rfl
 | .enm _,_,r=>r.elim
 | .zp _ _,_,r=>r.elim
theorem V.int{i:Int}{w:Value}(r:V (.int i) p w){P:Value->Prop}(k:∀ t,P (.int i t)):P w:=r.elim fun t e=>e▸k t
theorem V.symE{i:Nat}{w:Value}(r:V (.sym i) p w){P:Value->Prop}(k:∀ t,i<aT.length->P (.str (aw i) t)):P w:=r.2.elim fun t e=>e▸k t r.1
theorem V.refE{i:Nat}{w:Value}(r:V (.ref i) p w){P:Value->Prop}(k:∀ pr,p.ι[i]?=some pr->P (.ref pr.1)):P w:=r.elim fun pr h=>h.2▸k pr h.1
theorem V.tupE{vs:List AV}{w:Value}(r:V (.tup vs) p w){P:Value->Prop}(k:∀ a ws n,vs.length<=ay->fH p.x a (bW ws n)->VL vs p ws.toList->P (.ref a)):P w:=
 r.2.elim fun a h=>h.elim fun ws h=>h.elim fun n h=>h.1▸k a ws n r.1 h.2.1 h.2.2.both
theorem V.lstE{i:Nat}{w:Value}{vs:List AV}(r:V (.ref i) p w)(h:aj Y i=some vs){P:Value->Prop}(k:∀ a ws n,p.ι[i]?=some (a,a)->vs.length<=ay->p.s.heap.get? a=some (gy ws n)->VL vs p ws.toList->P (.ref a)):P w:=
 r.refE fun pr h1=>p.lst h fun a ws n h2=>by cases h1.symm.trans h2;exact k a ws n h2
theorem V.dctE{i:Nat}{w:Value}{es:List (AV×AV)}(r:V (.ref i) p w)(h:aN Y i=some es){P:Value->Prop}(k:∀ a ds n,p.ι[i]?=some (a,a)->es.length<=ay->(es.map (·.1)).Nodup->p.s.heap.get? a=some (bT ds n)->ai (DE p.x) es ds.toList->P (.ref a)):P w:=
 r.refE fun pr h1=>p.dct h fun a ds n h2=>by cases h1.symm.trans h2;exact k a ds n h2
theorem V.insE{i:Nat}{w:Value}{q:Nat×List (Nat×AV)}(r:V (.ref i) p w)(h:dR Y i=some q){P:Value->Prop}(k:∀ pr,p.ι[i]?=some pr->G2 p.x pr q.1 q.2->P (.ref pr.1)):P w:=
 r.refE fun pr h1=>p.ins h fun pr' h2=>by cases h1.symm.trans h2;exact k pr h2
theorem ly{v:AV}{α:Type}{f:Nat->Option α}{b:α}{P:Prop}{w:Value}(r:V v p w)(h:(bG v).bind f=some b)(k:∀ i,V (.ref i) p w->f i=some b->P):P:=ae h fun i h1 h2=>k i (bc h1▸r) h2
theorem jC{s:Shared}{x dx c:Addr}{o:Obj}(hx:s.heap.get? x=some (instObj c dx))(hd:s.heap.get? dx=some o):InstAt s.heap x (instObj c dx) c (some o):=⟨hx,rfl,rfl,hd⟩
theorem lK{v u:AV}{w:Value}{a:Nat}{expr:Bool}(r:V u p w)(ha:a<27)(h:ww Y u a=some v):aR A p (getAttr w (dX a) expr) v Y:=
 ly r h fun i r h=>ae h fun q hi hv=>V.insE (P:=fun w=>aR A p (getAttr w (dX a) expr) v Y) r hi fun pr _ o=>o.ex.elim fun ds h=>h.elim fun n h=>
  have F:=p.r.pf.clss q.1 o.lt
  (zt (n:=n) (TJ ha (by decide)) h.2 hv).elim fun w e=>(F.attr a ha).elim fun r0 g=>
   ⟨fun k=>get_value p.kin (jC o.obj.h h.1) F.ga (findObj_own F.hasDict g.1 g.2 e.1) e.2.handed (k (p.tok _) w .tok e.2)⟩
theorem AU{e:Expr}{nm:Str}{pos:Pos}{x:X}{a:Nat}(sx:SX c e x)(hn:be bP nm=some a)(ha:a<27):SX c (.Attribute e nm pos) (.attr x a):=.of fun{U Y Y' p} f v h=>
 aF h fun u Y1 h1 h=>jX h fun v hv=>⟨fun k=>by
  rw[gG,sx.base,(ew hn).2];exact SF (((sx.v f h1).go fun q w n r=>SF (wpAny_standAt (SF (Td ((lK r ha hv).go fun q2 w2 n2 r2=>SF (wpAny_letTemporaryGo (SH (k q2 w2 (n.trans n2) r2)))))))))⟩
end
section
variable{c:Cc}{A:Around}{env:Env}{U:En}{Y Y':St}{p:Pt Y}{Er:Value->Shared->Prop}
theorem uv{n:Nat}(h:n<=ay):(n:Int)<2^63:=Int.lt_of_le_of_lt (TX.mpr h) (by decide)
theorem VL.size{vs:List AV}{ws:Array Value}(h:VL vs p ws.toList):ws.size=vs.length:=(ai.length h).symm
theorem yC{vs:List AV}{k:Int}{v:AV}(h:BC vs k=some v){P:Prop}(c:0<=k->vs[k.toNat]?=some v->k<vs.length->P):P:=
 bj h (fun h1 h2=>have h0:=SO h1;c h0 h2 ((Int.toNat_lt h0).mp (SR.mp h2).1)) fun _ h=>nomatch h
theorem xL{k:Nat}{i:Int}{j:Nat}(h:pc k i=some j):j<aT.length/\(decide (i< -(2^63:Int))||decide (i>=2^63))=false/\(seqIndex? i (aw k).length).bind ((aw k).cps[·]?)=some ((aw j).cps.getD 0 0)/\(⟨#[(aw j).cps.getD 0 0]⟩:Str)=aw j:=by
 have one:∀ k,k<=6->1<=k->k<aT.length/\(seqIndex? 0 (aw k).length).bind ((aw k).cps[·]?)=some ((aw k).cps.getD 0 0)/\(⟨#[(aw k).cps.getD 0 0]⟩:Str)=aw k:=by decide +kernel
 refine bj h (fun h1 h2=>?_) fun _ h=>bj h (fun h1 h2=>?_) fun _ h=>bj h (fun h1 h2=>?_) fun _ h=>nomatch h
 ·have h1:=SU.mp h1;have h3:=SU.mp h1.1
  cases SO h1.2
  cases h2
  have:=one k (S8 h3.2) (S8 h3.1);exact⟨this.1,rfl,this.2.1,this.2.2⟩
 ·have h1:=SU.mp h1
  cases SO h1.2
  cases Ui h1.1
  cases h2
  decide +kernel
 ·have h1:=SU.mp h1
  cases SO h1.2
  cases Ui h1.1
  cases h2
  decide +kernel
structure Gt(A:Around){Y:St}(p:Pt Y)(u:AV)(Y':St)(w key:Value):Prop where
 ty:∃ T id,p.s.TypeIs w T/\typeLookup (.type T) "__getitem__"=pure (some (.builtin id))
 ev:aR A p (getItem w key) u Y'
theorem cB{h:Heap}{a:Addr}{ws:Array Value}{m:Nat}(e:h.get? a=some (gy ws m)):h.IsList a ws:=⟨_,e,rfl,m,rfl⟩
theorem AX{vs:List AV}{i:Int}{u:AV}{w k:Value}(rv:V (.tup vs) p w)(rk:V (.int i) p k)(h:BC vs i=some u):Gt A p u Y w k:=
 yC h fun h0 h1 h2=>rv.tupE (P:=fun w=>Gt A p u Y w k) fun a ws n hl im r=>rk.int (P:=fun k=>Gt A p u Y (.ref a) k) fun t=>ai.get r h1 fun o h3 h4=>
  ⟨⟨_,_,⟨_,im.h,rfl⟩,slot_tuple_getitem.lookup⟩,⟨fun g=>PySem.P.getItem_tuple im.h (Int.le_trans (by decide) h0) (Int.lt_trans h2 (uv hl)) (seqIndex_of h0 (by rw[r.size];exact h2)) (Tz▸h3) (g p o (.refl p) h4)⟩⟩
theorem AZ{r:Nat}{vs:List AV}{i:Int}{u:AV}{w k:Value}(rv:V (.ref r) p w)(hr:aj Y r=some vs)(rk:V (.int i) p k)(h:BC vs i=some u):Gt A p u Y w k:=
 yC h fun h0 h1 h2=>rv.lstE hr (P:=fun w=>Gt A p u Y w k) fun a ws n _ hl ho r=>rk.int (P:=fun k=>Gt A p u Y (.ref a) k) fun t=>ai.get r h1 fun o h3 h4=>
  ⟨⟨_,_,⟨_,ho,rfl⟩,slot_list_getitem.lookup⟩,⟨fun g=>wpAny_getItem_list (cB ho) h0 (Int.lt_trans h2 (uv hl)) (Tz▸h3) (g p o (.refl p) h4)⟩⟩
theorem AY{y j:Nat}{i:Int}{w k:Value}(rv:V (.sym y) p w)(rk:V (.int i) p k)(h:pc y i=some j):Gt A p (.sym j) Y w k:=
 rv.symE (P:=fun w=>Gt A p (.sym j) Y w k) fun t _=>rk.int (P:=fun k=>Gt A p (.sym j) Y _ k) fun t'=>have g:=xL h
  ⟨⟨"str",_,rfl,PySem.F.slot_str_getitem.lookup⟩,⟨fun k=>PySem.P.getItem_str g.2.1 g.2.2.1 (k (p.tok _) _ .tok ⟨g.1,_,SI (Value.str · _) g.2.2.2⟩)⟩⟩
theorem A1{r:Nat}{es:List (AV×AV)}{i u:AV}{w k:Value}(hu:A.units+7<cLine)(rv:V (.ref r) p w)(hr:aN Y r=some es)(rk:V i p k)(hi:i.pur=true)(h:aA es i=some u):Gt A p u Y w k:=
 rv.dctE hr (P:=fun w=>Gt A p u Y w k) fun a ds n _ hl nd ho r=>have hT:p.s.TypeIs (.ref a) "dict":=⟨_,ho,rfl⟩
  ⟨⟨_,_,hT,slot_dict_getitem.lookup⟩,⟨fun{E Q} g=>getItem_slot hT (by decide) slot_dict_getitem (TK slot_dict_getitem hT entry_dict_getitem (by
   show wpAny _ _ (dictGet a k >>= _) _ _ p.s;exact SF ((sW (A:=A.in1) p hu ho r nd hi rk).go fun q o n e=>e.elim (fun e=>nomatch e.1.symm.trans h) fun e=>e.elim fun v e=>e.elim fun w e=>by
    cases e.1.symm.trans h
    rw[e.2.1];exact SH ⟨w,rfl,g q w n e.2.2⟩)) (args_dict_getitem _ _))⟩⟩
theorem vi{v i u:AV}{w k:Value}(hu:A.units+7<cLine)(rv:V v p w)(rk:V i p k)(h:ph Y v i=some u):Gt A p u Y w k:=
 bu h (fun h=>ae h fun vs h1 h=>ae h fun j h2 h=>AX (aC h1▸rv) (br h2▸rk) h) fun h=>bu h
  (fun h=>ae h fun y h1 h=>ae h fun j h2 h=>aI h fun z h e=>e▸AY (cy h1▸rv) (br h2▸rk) h)
  fun h=>ly rv h fun r rv h=>bu h (fun h=>ae h fun vs h1 h=>ae h fun j h2 h=>AZ rv h1 (br h2▸rk) h) fun h=>ae h fun es h1 h=>bj h (fun hi h=>A1 hu rv h1 rk hi h) fun _ h=>nomatch h
theorem tR{value slice:Expr}{u:AV}{w k:Value}{ops:List Value}{E Q:Value->Shared->Prop}(g:Gt A p u Y' w k)(hs:subscripted slice false w k=operate ops (getItem w k))(h:∀(q:Pt Y') w,Nx [] p q->V u q w->Q w q.s):wpAny M0 A (subscriptTail value slice w k) Q E p.s:=
 g.ty.elim fun T e=>e.elim fun id e=>tail_any e.1 e.2 (g.ev.go h) hs
theorem DY{e i:Expr}{pos:Pos}{x y:X}(hs:∀ o k,subscripted i false o k=operate [o,k] (getItem o k))(sx:SX c e x)(sy:SX c i y):SX c (.Subscript e i pos) (.sub x y):=.of fun{U Y Y' p} f v h=>
 aF h fun u Y1 h1 h=>aF h fun k Y2 h2 h=>jX h fun v hv=>
  ⟨fun g=>Subscript_ ((sx.v f h1).go fun q1 w1 n1 r1=>(sy.v (f.nx n1) h2).go fun q2 w2 n2 r2=>tR (vi (Tj (Tw (by decide) _) f.R.six) (r1.nx n2) r2 hv) (hs w1 w2) fun q3 w3 n3 r3=>g q3 w3 (n1.trans (n2.trans n3)) r3)⟩
theorem Pt.pushT{vs:List AV}{ws:List Value}{Q:Value->Shared->Prop}{t:Nat}{d:Drawn}(hl:vs.length<=ay)(r:VL vs p ws)(k:∀(q:Pt Y) w,Nx [] p q->V (.tup vs) q w->Q w q.s):Q (.ref p.s.heap.objs.size) ⟨p.s.heap.push (bW ws.toArray 0),p.s.gens,d,t,p.s.os⟩:=
 p.push fun q n e i=>k q _ n ⟨hl,_,_,_,rfl,i,(r.nx n).vrels⟩
theorem Pt.pushL{vs:List AV}{ws:List Value}{Q:Value->Shared->Prop}{t:Nat}{d:Drawn}(hl:vs.length<=ay)(r:VL vs p ws)(k:∀(q:Pt (Y++[.list vs])) w,Nx [] p q->V (.ref Y.length) q w->Q w q.s):Q (.ref p.s.heap.objs.size) ⟨p.s.heap.push (gy ws.toArray 0),p.s.gens,d,t,p.s.os⟩:=
 p.newL (TV (SN _)) (fun _ _ e=>S9 _ e) (Ti _ rfl) hl r fun q n v=>k q _ n v
theorem VL.fits{vs:List AV}{ws:List Value}(r:VL vs p ws)(hl:vs.length<=ay):ws.toArray.size<=sizeLine:=aX (by rw[List.size_toArray,<- ai.length r];exact hl)
theorem kc{vs:List AV}{ws:List Value}(r:VL vs p ws)(hl:vs.length<=ay):aR A p (newTuple ws) (.tup vs) Y:=⟨fun g=>TZ (Pt.pushT hl r g) (r.fits hl)⟩
theorem lG{vs:List AV}{ws:List Value}(r:VL vs p ws)(hl:vs.length<=ay):aR A p (newList ws) (.ref Y.length) (Y++[.list vs]):=⟨fun g=>TZ (Pt.pushL hl r g) (r.fits hl)⟩
theorem yT{n k:Nat}(h:decide (n<=k)=true)(hk:k<=ay):n<=ay:=SJ (SO h) hk
theorem DX{es:List Expr}{k:Nat}{pos:Pos}{xs:List X}(sx:GY c es xs):SX c (.Tuple es k pos) (.tup xs):=.of fun{U Y Y' p} f v h=>aF h fun vs Y1 h1 h=>fC h fun hl=>
 ⟨fun g=>Tuple_ ((sx.ev f h1 pos).go fun q ws n r=>(kc r (yT hl (by decide))).after n g)⟩
theorem Ea{es:List Expr}{pos:Pos}{xs:List X}(sx:GY c es xs):SX c (.List es pos) (.lst xs):=.of fun{U Y Y' p} f v h=>aF h fun vs Y1 h1 h=>fC (a:=.ref Y1.length) h fun hl=>
 ⟨fun g=>List_ ((sx.ev f h1 pos).go fun q ws n r=>(lG r (yT hl (by decide))).after n g)⟩
end
section
variable{c:Cc}{A:Around}{env:Env}{U:En}{Y Y':St}{p:Pt Y}{Er:Value->Shared->Prop}{s:Shared}
theorem tE(m:Nat)(hm:1<=m):Builtin.Slice.sliceAdjust none (some (1:Int)) 1 (m:Int)=(0,1):=by
 unfold Builtin.Slice.sliceAdjust;have h1:¬((1:Int)<0):=by decide
 simp only[h1,if_false];exact SI _ (Int.min_eq_left (TX.mpr hm))
theorem fB{t sl:Addr}{items:Array Value}{m:Nat}{u:Tok}{Q:Value->Shared->Prop}(ht:s.heap.get? t=some (bW items m))(hs:s.heap.IsSliceOf sl .none (.int 1 u) .none)(h1:1<=items.size)
  (hw:items.size=1->Q (.ref t) s) (h:items.size≠1->Q (.ref s.heap.objs.size) { s with heap:=s.heap.push (bW (items.toList.take 1).toArray 0) }):wpAny M0 A (getItem (.ref t) (.ref sl)) Q Er s:=by
 have hT:s.TypeIs (.ref t) "tuple":=⟨_,ht,rfl⟩;obtain⟨os,hos,hcs,hds⟩:=id hs;have hTs:s.TypeIs (.ref sl) "slice":=⟨os,hos,hcs⟩;refine getItem_slot hT (by decide) slot_tuple_getitem (TK slot_tuple_getitem hT entry_tuple_getitem ?_ (args_tuple_getitem _ _))
 refine SF (m:=Builtin.Tuple.tupleItemsOf (.ref t)) (wpAny_tupleItemsOf ht rfl ?_);refine SF (wpAny_typeOf hTs ?_);rw[SQ (by decide)]
 refine SF ?_;unfold Builtin.Slice.sliceApplied Builtin.Slice.sliceFields;refine SF (SF (wpAny_field hos hds (x:=.none) rfl (SF (wpAny_field hos hds (x:=.int 1 u) rfl (SF (wpAny_field hos hds (x:=.none) rfl (SH ?_)))))));refine SF (slicePart_none ?_);show wpAny _ _ (if((1:Int)==0)=true then _ else _) _ _ s
 rw[SL (by decide)]
 refine SF (slicePart_none (SF (slicePart_int (SF (SH ?_)))));show wpAny _ _ (match Builtin.Slice.sliceAdjust none (some (1:Int)) 1 (items.size:Int) with | (lo,hi)=>pure (lo,(1:Int),Builtin.Slice.slicePlaces lo hi 1)) _ _ s
 rw[tE _ h1];refine SH ?_;rw[show Builtin.Slice.slicePlaces 0 1 1=1 by decide]
 show wpAny _ _ (if((0:Int)==0&&(1:Int)==1&&1==items.size)=true then _ else _) _ _ s
 by_cases hone:items.size=1
 ·rw[SQ (by rw[hone];decide)]
  refine SF ?_;unfold Builtin.Tuple.tupleIsExact;refine SF (wpAny_typeOf hT (SH ?_));rw[SQ (by decide)]
  exact SF (TM (SF (SH (SH ⟨_,rfl,hw hone⟩))))
 ·rw[SL (by simp;exact PZ hone)]
  have e:((List.range 1).filterMap fun(k:Nat)=>items[((0:Int)+(k:Int)*1).toNat]?).toArray=(items.toList.take 1).toArray:=by
   obtain⟨l⟩:=items
   cases l with
   | nil=>exact SP h1 (by decide)
   | cons a l=>rfl
  rw[e];exact SF (m:=Builtin.Tuple.tupleExact _) (TZ (SH ⟨_,rfl,h hone⟩) (show(items.toList.take 1).toArray.size<=sizeLine by rw[sizeLine_eq,List.size_toArray,List.length_take];exact SJ (Uo _ _) (by decide)))
noncomputable abbrev jU(d:Array Value):Obj:={ cls:=.type "slice",data:=.fields d }
theorem wm{α:Type}{e:Option α}(h:e.isNone=true):e=none:=by cases e;rfl;cases h
theorem kB{e:Option Expr}{c:Const}(h:uM e=some c):∃ a b,e=some (.Constant c a b):=ae h fun e h g=>h▸vw (C:=fun e=>∃ a b,some e=some (.Constant c a b)) g bZ (fun _ _=>bZ) (fun _ _ _=>bZ) (fun y a b h=>⟨a,b,S0 h▸rfl⟩) (fun _ _ _=>bZ) (fun _ _ _ _=>bZ) (fun _ _ _=>bZ) (fun _ _ _=>bZ) bZ
theorem wq{c:Const}{i:Int}(h:Jz c=some i):c=.int i:=by
 cases c<;>first | (cases h;rfl) | exact nomatch(show none=some i from h)
theorem vj{c:Const}{i:Str}(h:Ek c=some i):c=.str i:=by
 cases c<;>first | (cases h;rfl) | exact nomatch(show none=some i from h)
theorem mB{e:Option Expr}{i:Int}(h:vX e=some i):∃ a b,e=some (.Constant (.int i) a b):=ae h fun c h1 h2=>wq h2▸kB h1
theorem vU{e:Option Expr}{i:Int}(h:EY e=some i):∃ a b d,e=some (.UnaryOp .USub (.Constant (.int i) a b) d):=ae h fun e h g=>h▸vw (C:=fun e=>∃ a b d,some e=some (.UnaryOp .USub (.Constant (.int i) a b) d)) g bZ (fun _ _=>bZ) (fun _ _ _=>bZ) (fun _ _ _=>bZ) (fun op f d h=>by
  cases op with
  | USub=>exact(mB (e:=some f) h).imp fun a g=>g.imp fun b g=>⟨d,(S0 g:f=_)▸rfl⟩
  | _=>exact bZ h) (fun _ _ _ _=>bZ) (fun _ _ _=>bZ) (fun _ _ _=>bZ) bZ
def wP(e:Option Expr)(v:Tok->Value):Prop:=∀{s:Shared} {A:Around} {env:Env} {Q E:Value->Shared->Prop},(∀ t u,Q (v u) { s with toks:=t })->wpAny M0 A (valueOrNone (evalOpt e env)) Q E s
theorem ck{e:Option Expr}(h:e.isNone=true):wP e fun _=>.none:=fun{s A env Q E} g=>wm h▸SH (g s.toks 0)
theorem j0{e:Option Expr}{i:Int}(h:vX e=some i):wP e fun u=>.int i u:=fun{s A env Q E} g=>(mB h).elim fun a h=>h.elim fun b h=>h▸(wpAny_Constant_int (g _ _):wpAny M0 A (eval (.Constant (.int i) a b) env) Q E s)
theorem yn{e:Option Expr}{i:Int}(h:EY e=some i):wP e fun u=>.int (-i) u:=fun{s A env Q E} g=>(vU h).elim fun a h=>h.elim fun b h=>h.elim fun d h=>
 h▸(wpAny_UnaryOp (wpAny_Constant_int (PySem.P.neg_int (s:={ s with toks:=s.toks+1 }) (g _ _))):wpAny M0 A (eval (.UnaryOp .USub (.Constant (.int i) a b) d) env) Q E s)
noncomputable def dP(k:Sl)(tl tu ts:Tok):Array Value:=match k with | .tail=>#[.int 1 tl,.none,.none] | .first=>#[.none,.int 1 tu,.none] | .first30=>#[.none,.int 30 tu,.none] | .rev=>#[.none,.none,.int (-1) ts]
theorem ek{l u st:Option Expr}{ps:Pos}{a b d:Tok->Value}(h1:wP l a)(h2:wP u b)(h3:wP st d):∀{Q E:Value->Shared->Prop},(∀ t x y z,Q (.ref s.heap.objs.size) { s with heap:=s.heap.push (jU #[a x,b y,d z]),toks:=t })->wpAny M0 A (eval (.Slice l u st ps) env) Q E s:=fun{Q E} g=>by
 show wpAny M0 A (valueOrNone (evalOpt l env) >>= fun l'=>holding [l'] (valueOrNone (evalOpt u env)) >>= fun u'=>holding [l',u'] (valueOrNone (evalOpt st env)) >>= fun s'=>newFields "slice" [l',u',s']) Q E s;exact SF (h1 fun t1 x=>SF (Td (h2 fun t2 y=>SF (Td (h3 fun t3 z=>TZ (g t3 x y z))))))
theorem eF{a b c:Bool}(h:(a&&b&&c)=true):a=true/\b=true/\c=true:=(SU.mp h).elim fun h g=>(SU.mp h).elim fun h h'=>⟨h,h',g⟩
theorem rJ{l u st:Option Expr}{ps:Pos}{k:Sl}{Q E:Value->Shared->Prop}(hk:f8 l u st=some k)(h:∀ t tl tu ts,Q (.ref s.heap.objs.size) { s with heap:=s.heap.push (jU (dP k tl tu ts)),toks:=t }):wpAny M0 A (eval (.Slice l u st ps) env) Q E s:=
 bu hk (fun h1=>cO h1 fun c e=>by subst e;exact ek (j0 (SO (eF c).1)) (ck (eF c).2.1) (ck (eF c).2.2) fun t x y z=>h t x y z) fun h2=>
 bu h2 (fun h1=>cO h1 fun c e=>by subst e;exact ek (ck (eF c).1) (j0 (SO (eF c).2.1)) (ck (eF c).2.2) fun t x y z=>h t x y z) fun h3=>
 bu h3 (fun h1=>cO h1 fun c e=>by subst e;exact ek (ck (eF c).1) (j0 (SO (eF c).2.1)) (ck (eF c).2.2) fun t x y z=>h t x y z) fun h4=>
 cO h4 fun c e=>by subst e;exact ek (ck (eF c).1) (ck (eF c).2.1) (yn (SO (eF c).2.2)) fun t x y z=>h t x y z
def jQ(k j:Nat):Prop:=j<aT.length/\∀(t:Tok) (u:Tok),(sliceMade (aw k) t none (some (1,u)) none=.val (.str (aw k) t)/\j=k)\/sliceMade (aw k) t none (some (1,u)) none=.str (aw j)
theorem fD(x:Str)(t u:Tok):sliceMade x t none (some (1,u)) none=if((1:Int)==1&&(Builtin.Str.strSliceIndices none (some 1) 1 x.length).length==x.length)=true then .val (.str x t) else .str ⟨((Builtin.Str.strSliceIndices none (some 1) 1 x.length).filterMap (x.cps[·]?)).toArray⟩:=rfl
theorem eK{k j:Nat}(h:eL k=some j):jQ k j:=by
 have one:∀ k,k<=6->1<=k->k<aT.length/\((1:Int)==1&&(Builtin.Str.strSliceIndices none (some 1) 1 (aw k).length).length==(aw k).length)=true:=by decide +kernel
 have two:∀ k,k<=8->7<=k->((1:Int)==1&&(Builtin.Str.strSliceIndices none (some 1) 1 (aw k).length).length==(aw k).length)=false/\(⟨((Builtin.Str.strSliceIndices none (some 1) 1 (aw k).length).filterMap ((aw k).cps[·]?)).toArray⟩:Str)=aw 9:=by decide +kernel
 have three:∀ k,7<=k->k<=8->jQ k 9:=fun k h1 h2=>⟨by decide,fun t u=>.inr (by rw[fD,(two k h2 h1).1,SL Tp,(two k h2 h1).2])⟩
 refine bj h (fun h1 h2=>?_) fun _ h=>bj h (fun h1 h2=>?_) fun _ h=>nomatch h
 ·have h1:=SU.mp h1;have:=one k (S8 h1.2) (S8 h1.1);exact S0 h2▸⟨this.1,fun t u=>.inl ⟨by rw[fD,SQ this.2],rfl⟩⟩
 ·exact S0 h2▸(T5.mp h1).elim (fun h=>Ui h▸three 7 (by decide) (by decide)) fun h=>Ui h▸three 8 (by decide) (by decide)
theorem gj{l u:Option Expr}{st:Option Expr}{ps:Pos}{o i:Value}:∃ ops,subscripted (.Slice l u st ps) false o i=operate ops (getItem o i):=by
 cases st<;>exact⟨_,rfl⟩
variable{sl:Addr}{tl tu ts:Tok}{w:Value}
theorem VL.tail{v:AV}{vs:List AV}{ws:List Value}(h:VL (v::vs) p ws):VL vs p (ws.drop 1):=ai.drop 1 h
theorem x0{v:AV}{vs:List AV}(rv:V (.tup (v::vs)) p w)(hs:p.s.heap.get? sl=some (jU (dP .tail tl tu ts))):Gt A p (.tup vs) Y w (.ref sl):=
 rv.tupE (P:=fun w=>Gt A p (.tup vs) Y w (.ref sl)) fun a ws n hl im r=>⟨⟨_,_,⟨_,im.h,rfl⟩,slot_tuple_getitem.lookup⟩,
  ⟨fun g=>getItem_tuple_from (a:=1) ⟨_,im.h,rfl,_,rfl⟩ ⟨_,hs,rfl,rfl⟩ (SN _) (by rw[r.size];exact T9 (Tb _)) (Pt.pushT (SJ (T0 _) hl) r.tail g) (r.size▸aX hl)⟩⟩
theorem vp{v:AV}{vs:List AV}(rv:V (.tup (v::vs)) p w)(hs:p.s.heap.get? sl=some (jU (dP .first tl tu ts))):Gt A p (.tup [v]) Y w (.ref sl):=
 rv.tupE (P:=fun w=>Gt A p (.tup [v]) Y w (.ref sl)) fun a ws n hl im r=>⟨⟨_,_,⟨_,im.h,rfl⟩,slot_tuple_getitem.lookup⟩,
  ⟨fun g=>fB im.h ⟨_,hs,rfl,rfl⟩ (by rw[r.size];exact T9 (Tb _)) (fun h1=>g p _ (.refl p) ⟨(by show 1<=ay;decide),a,ws,n,rfl,im,by
    have:vs=[]:=List.length_eq_zero_iff.mp (Nat.succ.inj (r.size.symm.trans h1));exact(this▸r).vrels⟩) fun _=>Pt.pushT (by show 1<=ay;decide) (ai.take 1 r) g⟩⟩
theorem A9{y j:Nat}(rv:V (.sym y) p w)(h:eL y=some j)(hs:p.s.heap.get? sl=some (jU (dP .first tl tu ts))):Gt A p (.sym j) Y w (.ref sl):=
 have small:∀ j,j<aT.length->(aw j).length<=100:=by decide +kernel
 rv.symE (P:=fun w=>Gt A p (.sym j) Y w (.ref sl)) fun t hy=>⟨⟨"str",_,rfl,PySem.F.slot_str_getitem.lookup⟩,⟨fun g=>wpAny_getItem_str_slice (l:=none) (u:=some (1,tu)) (st:=none) ⟨_,hs,rfl,rfl⟩ rfl <| ((eK h).2 t tu).elim
  (fun e=>by rw[e.1];exact g p _ (.refl p) (by rw[e.2];exact⟨hy,t,rfl⟩)) fun e=>by rw[e];exact⟨aX (SJ (small j (eK h).1) (by decide)),g (p.tok _) _ .tok ⟨(eK h).1,_,rfl⟩⟩⟩⟩
theorem jT{r:Nat}{vs:List AV}(rv:V (.ref r) p w)(hr:aj Y r=some vs)(hs:p.s.heap.get? sl=some (jU (dP .first tl tu ts))):Gt A p (.ref Y.length) (Y++[.list (vs.take 1)]) w (.ref sl):=
 rv.lstE hr (P:=fun w=>Gt A p (.ref Y.length) (Y++[.list (vs.take 1)]) w (.ref sl)) fun a ws n _ hl ho r=>⟨⟨_,_,⟨_,ho,rfl⟩,slot_list_getitem.lookup⟩,
  ⟨fun g=>wpAny_getItem_list_slice (lo:=none) (hi:=some 1) (st:=none) (cB ho) ⟨_,hs,rfl,rfl⟩ .none (.int _ _) .none (by decide) (by
   rw[show(some (1:Int))=some ((1:Nat):Int) from rfl,slicePick_upto'];exact Pt.pushL (SJ (List.length_take_le _ _) (by decide)) (ai.take 1 r) g) (r.size▸aX hl)⟩⟩
theorem Ba{r:Nat}{vs:List AV}(rv:V (.ref r) p w)(hr:aj Y r=some vs)(hs:p.s.heap.get? sl=some (jU (dP .rev tl tu ts))):Gt A p (.ref Y.length) (Y++[.list vs.reverse]) w (.ref sl):=
 rv.lstE hr (P:=fun w=>Gt A p (.ref Y.length) (Y++[.list vs.reverse]) w (.ref sl)) fun a ws n _ hl ho r=>⟨⟨_,_,⟨_,ho,rfl⟩,slot_list_getitem.lookup⟩,
  ⟨fun g=>wpAny_getItem_list_slice (lo:=none) (hi:=none) (st:=some (-1)) (cB ho) ⟨_,hs,rfl,rfl⟩ .none .none (.int _ _) (by decide) (by
   rw[krv_pick];exact Pt.pushL (by rw[List.length_reverse];exact hl) (ai.reverse r) g) (r.size▸aX hl)⟩⟩
theorem pC{vs:List AV}(rv:V (.frz vs) p w)(hs:p.s.heap.get? sl=some (jU (dP .first30 tl tu ts))):Gt A p (.ref Y.length) (Y++[.list (vs.take 30)]) w (.ref sl):=
 rv.2.elim fun a h=>h.elim fun ws h=>h.elim fun n h=>h.elim fun o h=>h.1▸have hli:p.s.heap.IsList a ws:=⟨o,h.2.2.1.h,h.2.1.2.1,n,h.2.1.2.2⟩
  have r:VL vs p ws.toList:=h.2.2.2.both
  ⟨⟨_,_,Heap.IsList.typeIs hli,slot_list_getitem.lookup⟩,⟨fun g=>wpAny_getItem_list_slice (lo:=none) (hi:=some 30) (st:=none) hli ⟨_,hs,rfl,rfl⟩ .none (.int _ _) .none (by decide) (by
   rw[show(some (30:Int))=some ((30:Nat):Int) from rfl,slicePick_upto'];exact Pt.pushL (SJ (List.length_take_le _ _) (by decide)) (ai.take 30 r) g) (r.size▸aX rv.1)⟩⟩
theorem AK{vs:List AV}(h2:vs.isEmpty=false)(rv:V (.tup vs) p w)(hs:p.s.heap.get? sl=some (jU (dP .tail tl tu ts))):Gt A p (.tup vs.tail) Y w (.ref sl):=by
 cases vs with
 | nil=>exact nomatch h2
 | cons v vs=>exact x0 rv hs
theorem xC{vs:List AV}{u:AV}(h2:vs.head?=some u)(rv:V (.tup vs) p w)(hs:p.s.heap.get? sl=some (jU (dP .first tl tu ts))):Gt A p (.tup [u]) Y w (.ref sl):=by
 cases vs with
 | nil=>exact nomatch h2
 | cons v vs=>exact S0 h2▸vp rv hs
theorem vo{v u:AV}(rv:V v p w):∀{k:Sl},p.s.heap.get? sl=some (jU (dP k tl tu ts))->nr Y v k=some (u,Y')->Gt A p u Y' w (.ref sl)
 | .tail,hs,h=>ae h fun vs h1 h=>bj h (fun _ h=>nomatch h) fun h2 h=>cX (P:=fun u Y'=>Gt A p u Y' w (.ref sl)) h (AK h2 (aC h1▸rv) hs)
 | .first,hs,h=>bu h (fun h=>ae h fun vs h1 h=>dt (P:=fun u Y'=>Gt A p u Y' w (.ref sl)) h fun u h2=>xC h2 (aC h1▸rv) hs) fun h=>
   bu h (fun h=>ae h fun y h1 h=>dt (P:=fun u Y'=>Gt A p u Y' w (.ref sl)) h fun j h2=>A9 (cy h1▸rv) h2 hs) fun h=>ly rv h fun r rv h=>dt (P:=fun u Y'=>Gt A p u Y' w (.ref sl)) h fun vs h2=>jT rv h2 hs
 | .rev,hs,h=>ly rv h fun r rv h=>dt (P:=fun u Y'=>Gt A p u Y' w (.ref sl)) h fun vs h2=>Ba rv h2 hs
 | .first30,hs,h=>dt (P:=fun u Y'=>Gt A p u Y' w (.ref sl)) h fun vs h2=>pC (zm h2▸rv) hs
theorem D6{e:Expr}{l u st:Option Expr}{pos ps:Pos}{x:X}{k:Sl}(hk:f8 l u st=some k)(sx:SX c e x):SX c (.Subscript e (.Slice l u st ps) pos) (.slc x k):=.of fun{U Y Y' p} f v h=>aF h fun u Y1 h1 h=>
 ⟨fun g=>Subscript_ ((sx.v f h1).go fun q1 w1 n1 r1=>rJ hk fun t tl tu ts=>q1.push fun q2 n2 e2 i2=>gj.elim fun ops ho=>tR (vo (r1.nx n2) i2.h h) ho fun q3 w3 n3 r3=>g q3 w3 (n1.trans (n2.trans n3)) r3)⟩
end
section
variable{c:Cc}{A:Around}{env:Env}{U:En}{Y Y':St}{p:Pt Y}{Er:Value->Shared->Prop}{s:Shared}
theorem I8{i j:Int}(hi:i.natAbs<2^31):IntMulOk i j:=by
 refine IntMulOk.of_left ?_;unfold Builtin.Int.intBits
 split
 ·decide
 ·rename_i h;have h0:i.natAbs≠0:=fun e=>h (by rw[Int.natAbs_eq_zero.mp e];rfl)
  have:Nat.log2 i.natAbs<31:=(Nat.log2_lt h0).mpr hi;exact PY this
noncomputable def Da:cQ->Operator
 | .add=>.Add | .sub=>.Sub | .mul=>.Mult | .mod=>.Mod
theorem z9{o:Operator}{b:cQ}(h:Aa o=some b):o=Da b:=by
 cases o<;>first | (cases h;rfl) | exact nomatch(show none=some b from h)
theorem C4{xs ys:Array Value}:(xs.toList++ys.toList).toArray=xs++ys:=by rw[<- Array.toList_append,Array.toArray_toList]
theorem VL.isEmpty{vs:List AV}{ws:Array Value}(h:VL vs p ws.toList):ws.isEmpty=vs.isEmpty:=by
 rw[Array.isEmpty,h.size];cases vs<;>rfl
theorem CJ{xs ys:List AV}{v u:Value}(rv:V (.tup xs) p v)(ru:V (.tup ys) p u)(h:(!xs.isEmpty)=true)(hl:(xs++ys).length<=ay):aR A p (binaryOp .Add v u) (.tup (xs++ys)) Y:=
 rv.tupE (P:=fun v=>aR A p (binaryOp .Add v u) (.tup (xs++ys)) Y) fun a ws n la ia ra=>ru.tupE (P:=fun u=>aR A p (binaryOp .Add (.ref a) u) (.tup (xs++ys)) Y) fun b zs m lb ib rb=>by
  have n1:¬ws.isEmpty=true:=by rw[ra.isEmpty];cases xs<;>first | exact Tp | exact nomatch h
  cases ys with
  | nil=>
   rw[Tr];exact⟨fun g=>concat_meets ⟨_,ia.h,rfl⟩ ⟨_,ib.h,rfl⟩ noFill_tuple_add seq_tuple_add F.slot_tuple_add F.entry_tuple_add (F.args_tuple_add_2 _ _) (AutoSeq1.tuple___add___tuple_tuple_1 a ws n b zs m n1 rb.isEmpty) ⟨ia.h,ib.h,g p _ (.refl p) ⟨la,a,ws,n,rfl,ia,ra.vrels⟩⟩⟩
  | cons y ys=>exact⟨fun g=>PySem.P.add_tuple ia.h ib.h n1 (by rw[rb.isEmpty];exact Tp) (C4▸Pt.pushT hl (ai.append ra rb) g) (by rw[ra.size,rb.size,<- SZ];exact aX hl)⟩
theorem CM{r r':Nat}{xs ys:List AV}{v u:Value}(rv:V (.ref r) p v)(ru:V (.ref r') p u)(h1:aj Y r=some xs)(h2:aj Y r'=some ys)(hl:(xs++ys).length<=ay):aR A p (binaryOp .Add v u) (.ref Y.length) (Y++[.list (xs++ys)]):=
 rv.lstE h1 (P:=fun v=>aR A p (binaryOp .Add v u) (.ref Y.length) (Y++[.list (xs++ys)])) fun a ws n _ la ha ra=>ru.lstE h2 (P:=fun u=>aR A p (binaryOp .Add (.ref a) u) (.ref Y.length) (Y++[.list (xs++ys)])) fun b zs m _ lb hb rb=>
  ⟨fun g=>PySem.P.add_list ha hb (C4▸Pt.pushL hl (ai.append ra rb) g) (by rw[ra.size,rb.size,<- SZ];exact aX hl)⟩
theorem CK{r:Nat}{x:AV}{v u:Value}(rv:V (.ref r) p v)(ru:V (.int 1) p u)(h1:aj Y r=some [x]):aR A p (binaryOp .Mult v u) (.ref Y.length) (Y++[.list [x]]):=
 rv.lstE h1 (P:=fun v=>aR A p (binaryOp .Mult v u) (.ref Y.length) (Y++[.list [x]])) fun a ws n _ la ha ra=>ru.int (P:=fun u=>aR A p (binaryOp .Mult (.ref a) u) (.ref Y.length) (Y++[.list [x]])) fun t=>⟨fun g=>by
  refine wpAny_binaryOp_repeat_ref (T:="list") (U:="int") (by decide) ⟨_,ha,rfl⟩ (fun s'=>typeIs_int s' 1 t) noFill_list_mul F.fills_int_mul F.slot_int_rmul repeat_list F.slot_int_index.lookup
     (call_meets F.slot_int_rmul (typeIs_int p.s 1 t) F.entry_int_rmul (F.args_int_rmul_2 _ _) (int___rmul___int_list 1 t a ws n)
      ⟨ha,rfl,⟨_,ha,rfl⟩,call_meets F.slot_list_mul ⟨_,ha,rfl⟩ F.entry_list_mul (F.args_list_mul_2 _ _)
       (lm_list_mul_any a ws n none #[] 1 t (by decide) (by rw[ra.size];show ¬1*Int.toNat 1 > (2^63-1) / 8;decide) (by rw[ra.size];show ¬Builtin.List.listTooLong (1*Int.toNat 1)=true;decide)) ⟨ha,?_⟩⟩)
  have e2:(List.foldl (fun x1 x2=>x1++x2) #[] (List.replicate (if ws.isEmpty=true then 0 else(1:Int).toNat) ws))=ws.toList.toArray:=by
   rw[ra.isEmpty,show(if([x]:List AV).isEmpty=true then 0 else(1:Int).toNat)=1 from rfl,Array.toArray_toList]
   exact Array.empty_append
  rw[e2];exact Pt.pushL la ra g⟩
theorem uy{a b:AV}{f:Int->Int->Option (AV×St)}{r:AV×St}{v u:Value}{op:Operator}{w:AV}{τ:St}(rv:V a p v)(ru:V b p u)(h:y5 a b f=some r)(k:∀ i t j t',f i j=some r->aR A p (binaryOp op (.int i t) (.int j t')) w τ):aR A p (binaryOp op v u) w τ:=
 ae h fun i h1 h=>ae h fun j h2 h=>V.int (P:=fun v=>aR A p (binaryOp op v u) w τ) (br h1▸rv) fun t=>V.int (P:=fun u=>aR A p (binaryOp op (.int i t) u) w τ) (br h2▸ru) fun t'=>k i t j t' h
theorem CN{v u w:AV}{v' u':Value}(rv:V v p v')(ru:V u p u')(h:i7 .add Y v u=some (w,Y')):aR A p (binaryOp .Add v' u') w Y':=
 bu h (fun h=>uy rv ru h fun i t j t' e=>cX e ⟨fun g=>PySem.P.add_int (g (p.tok _) _ .tok ⟨_,rfl⟩)⟩) fun h=>bu h
   (fun h=>ae h fun x h1 h=>ae h fun y h2 h=>fC h fun q=>CJ (aC h1▸rv) (aC h2▸ru) (SU.mp q).1 (SO (SU.mp q).2))
   fun h=>ae h fun r h1 h=>ae h fun r' h2 h=>ae h fun x h3 h=>ae h fun y h4 h=>fC (a:=.ref Y.length) h fun q=>CM (bc h1▸rv) (bc h2▸ru) h3 h4 (SO q)
theorem CL{v u w:AV}{v' u':Value}(rv:V v p v')(ru:V u p u')(h:i7 .mul Y v u=some (w,Y')):aR A p (binaryOp .Mult v' u') w Y':=
 bu h (fun h=>uy rv ru h fun i t j t' e=>fC e fun q=>⟨fun g=>PySem.P.mul_int (g (p.tok _) _ .tok ⟨_,rfl⟩) (I8 (SO (SU.mp q).1))⟩)
   fun h=>ae h fun r h1 h=>ae h fun j h2 h=>ae h fun x h3 h=>gW h fun y hy h=>fC (a:=.ref Y.length) h fun q=>CK (bc h1▸rv) ((SO q)▸br h2▸ru) (hy▸h3)
theorem wK{v u w:AV}{v' u':Value}(rv:V v p v')(ru:V u p u'):∀{op:cQ},i7 op Y v u=some (w,Y')->aR A p (binaryOp (Da op) v' u') w Y'
 | .add,h=>CN rv ru h
 | .sub,h=>uy rv ru h fun i t j t' e=>cX e ⟨fun g=>PySem.P.sub_int (g (p.tok _) _ .tok ⟨_,rfl⟩)⟩
 | .mul,h=>CL rv ru h
 | .mod,h=>uy rv ru h fun i t j t' e=>fC e fun q=>⟨fun g=>mod_int' (Int.ne_of_gt (SO q)) (g (p.tok _) _ .tok ⟨_,by rw[Int.fmod_eq_emod_of_nonneg _ (Int.le_of_lt (SO q))]⟩)⟩
theorem Eg{l r:Expr}{op:Operator}{b:cQ}{pos:Pos}{x y:X}(hop:Aa op=some b)(sx:SX c l x)(sy:SX c r y):SX c (.BinOp l op r pos) (.bin b x y):=.of fun{U Y Y' p} f v h=>
 aF h fun u Y1 h1 h=>aF h fun k Y2 h2 h=>⟨fun g=>wpAny_BinOp ((sx.v f h1).go fun q1 w1 n1 r1=>(sy.v (f.nx n1) h2).go fun q2 w2 n2 r2=>(z9 hop▸wK (r1.nx n2) r2 h:aR f.A q2 (binaryOp op w1 w2) v Y').after (n1.trans n2) g)⟩
theorem D9{e:Expr}{pos:Pos}{x:X}(sx:SX c e x):SX c (.UnaryOp .USub e pos) (.neg x):=.of fun{U Y Y' p} f v h=>aF h fun u Y1 h1 h=>jX h fun v hv=>aI hv fun i hi e=>by
 cases e
 cases br hi
 exact⟨fun{Er Q} g=>wpAny_UnaryOp ((sx.ev f h1).go fun q w n r=>(r.val rfl).int (P:=fun w=>wpAny M0 f.A (unaryOp .USub w) Q Er q.s) fun t=>PySem.P.neg_int (g (q.tok _) _ (n.trans .tok) ⟨_,rfl⟩))⟩
end
section
variable{c:Cc}{A:Around}{env:Env}{U:En}{Y Y':St}{p:Pt Y}{Er:Value->Shared->Prop}{s:Shared}
theorem iJ.sysm{x:Hp}(R:iJ x Y){a:Addr}(ha:a∈x.F):(a==sysModules)=false:=beq_eq_false_iff_ne.mpr fun e=>R.pf.sysm.elim fun _ h=>nomatch(e▸(R.alive a ha).1).symm.trans h
theorem yj{x:Hp}{vs:List AV}{ws:List Value}(h:AV.purs vs=true)(r:bQ x vs ws):GZ x 6 vs ws:=gq (P:=OA x) (Ps:=GZ x) bp ⟨⟨[],.nil⟩,rfl,Tb _⟩
  (fun r t=>⟨r.rd.elim fun _ g=>t.rd.elim fun _ g'=>⟨_,.cons g g'⟩,SU.mpr ⟨r.lay,t.lay⟩,Nat.max_le.mpr ⟨r.dep,t.dep⟩⟩) h r
theorem Cr{x:Hp}{vs:List AV}{ws:List Value}(h:AV.purs vs=true)(r:bQ x vs ws):wQ x vs:=gq (P:=fun _ v _=>Kr x v) (Ps:=fun _ vs _=>wQ x vs) eS qA mO h r
theorem mV{x:Hp}{vs:List AV}{ws:List Value}{a:AV}{w:Value}(h:AV.purs vs=true)(r:bQ x vs ws)(ha:a.pur=true)(ra:aq x a w):((cw vs).any fun y=>PyData.eqv y (hJ a))=decide (a∈vs):=
 gq (P:=fun _ v _=>Kr x v) (Ps:=fun _ vs _=>((cw vs).any fun y=>PyData.eqv y (hJ a))=decide (a∈vs)) eS (d8 nofun) (fun{_ v _ vs _} h t=>by
  rw[cw,List.any_cons,t,h ha ra,<- Bool.decide_or];exact decide_eq_decide.mpr ⟨fun q=>q.elim (fun e=>e▸.head _) (.tail _),fun q=>(SW.mp q).imp Eq.symm id⟩) h r
noncomputable def nb(neg b:Bool):Bool:=if neg then !b else b
theorem Ci{r:Nat}{es:List (AV×AV)}{k:AV}{key w:Value}(hu:A.units+12<cLine)(rv:V (.ref r) p w)(hr:aN Y r=some es)(hk:k.pur=true)(rk:V k p key):Ev (Y':=Y) (fun q b=>b=(aA es k).isSome) A p (contains w key):=
 rv.dctE hr (P:=fun w=>Ev (Y':=Y) (fun q b=>b=(aA es k).isSome) A p (contains w key)) fun a ds n hp hl nd ho hd=>⟨fun{E Q} g=>by
  have hT:p.s.TypeIs (.ref a) "dict":=⟨_,ho,rfl⟩;unfold contains;refine Td (SF (wpAny_specialOf hT slot_dict_contains.lookup ?_));show wpAny _ _ (if(some (Value.builtin "dict.__contains__")==some Value.none)=true then _ else _) _ E p.s
  rw[SL (by rw[beq_builtin_none];exact Tp)]
  refine SF (wpAny_callSpecialUnlessNone?_slot (name:=Str.ofString "__contains__") hT slot_dict_contains (TK slot_dict_contains hT entry_dict_contains ?_ (args_dict_contains _ _)));show wpAny _ _ (dictGet a key >>= _) _ _ p.s;refine SF ((sW (A:=A.in1) p (by show A.units+1+6<cLine;exact OL hu) ho hd nd hk rk).go fun q o n e=>e.elim (fun e=>?_) fun e=>e.elim fun v e=>e.elim fun w e=>?_)
  ·rw[e.2];show wpAny _ _ (Builtin.Dict.pendingKey? a key >>= _) _ _ _;exact SF (wpAny_pendingKey_other (p.r.sysm (Hp.mem_of (x:=p.x) hp)) (SH ⟨_,rfl,wpAny_truthy_bool (g q _ n (by rw[e.1];rfl))⟩))
  ·rw[e.2.1];show wpAny _ _ (PySem.ret (.bool true)) _ _ _;exact SH ⟨_,rfl,wpAny_truthy_bool (g q _ n (by rw[e.1];rfl))⟩⟩
theorem B8{r:Nat}{es:List (AV×AV)}{k:AV}{key w:Value}{neg:Bool}(hu:A.units+12<cLine)(rv:V (.ref r) p w)(hr:aN Y r=some es)(hk:k.pur=true)(rk:V k p key):aR A p (compareOp (if neg then .NotIn else .In) key w) (.bool (nb neg (aA es k).isSome)) Y:=by
 cases neg<;>exact(Ci hu rv hr hk rk).bind fun q b n e=>.pure (SI Value.bool (by rw[e];rfl))
theorem xJ{i k:Nat}{b:Bool}(h:xK i k=some b):(!(Builtin.Str.occurrences (aw k) (aw i) 0 (aw k).length 1).isEmpty)=b:=
 have all:∀ i,i<=6->1<=i->(!(Builtin.Str.occurrences (aw 25) (aw i) 0 (aw 25).length 1).isEmpty)=false:=by decide +kernel
 bj h (fun h1 h2=>Ui (eF h1).2.2▸S0 h2▸all i (S8 (eF h1).2.1) (S8 (eF h1).1)) fun _ h=>nomatch h
theorem Jq{a:Nat}(hu:a+12<cLine){k m:Nat}(h:k<=12):a+min k m<cLine:=Tj (Tw (SJ (Uo _ _) h) _) hu
theorem jY{a:Addr}{vs:List AV}{ws:Array Value}{n:Nat}(h:AV.purs vs=true)(ho:p.s.heap.get? a=some (gy ws n))(r:VL vs p ws.toList):(∃ as,Reads p.s.heap (.ref a) (.list (cw vs)) as)/\(PyData.list (cw vs)).canLay0=true/\(PyData.list (cw vs)).depth<=12:=
 have g:=yj h r.vrels
 ⟨g.rd.imp' _ fun _ g=>.list ho rfl rfl g,g.lay,SJ (T9 g.dep) (by decide)⟩
theorem Bn{a:Addr}{vs:List AV}{ws:Array Value}{n:Nat}(h:AV.purs vs=true)(ho:p.s.heap.get? a=some (bW ws n))(r:VL vs p ws.toList):(∃ as,Reads p.s.heap (.ref a) (.tuple (cw vs)) as)/\(PyData.tuple (cw vs)).canLay0=true/\(PyData.tuple (cw vs)).depth<=12:=
 have g:=yj h r.vrels
 ⟨g.rd.imp' _ fun _ g=>.tuple ho rfl rfl g,g.lay,SJ (T9 g.dep) (by decide)⟩
theorem B7{r:Nat}{vs:List AV}{k:AV}{key w:Value}{neg:Bool}(hu:A.units+12<cLine)(rv:V (.ref r) p w)(hr:aj Y r=some vs)(h:(k.pur&&AV.purs vs)=true)(rk:V k p key):aR A p (compareOp (if neg then .NotIn else .In) key w) (.bool (nb neg (decide (k∈vs)))) Y:=
 rv.lstE hr (P:=fun w=>aR A p (compareOp (if neg then .NotIn else .In) key w) (.bool (nb neg (decide (k∈vs)))) Y) fun a ws n _ _ ho r=>
  have h:=SU.mp h;have l:=jY h.2 ho r;have x:=bp h.1 rk
  l.1.elim fun _ rl=>x.rd.elim fun _ rx=>by
   rw[<- mV h.2 r.vrels h.1 rk]
   cases neg
   ·exact⟨fun g=>SeqAt.in_list_reads rl rx l.2.1 x.lay (oU x.dep hu) (g p _ (.refl p) rfl)⟩
   ·exact⟨fun g=>SeqAt.notIn_list_reads rl rx l.2.1 x.lay (oU x.dep hu) (g p _ (.refl p) rfl)⟩
theorem FC{vs:List AV}{k:AV}{key w:Value}{neg:Bool}(hu:A.units+12<cLine)(rv:V (.tup vs) p w)(h:(k.pur&&AV.purs vs)=true)(rk:V k p key):aR A p (compareOp (if neg then .NotIn else .In) key w) (.bool (nb neg (decide (k∈vs)))) Y:=
 rv.tupE (P:=fun w=>aR A p (compareOp (if neg then .NotIn else .In) key w) (.bool (nb neg (decide (k∈vs)))) Y) fun a ws n _ i r=>
  have h:=SU.mp h;have l:=Bn h.2 i.h r;have x:=bp h.1 rk
  l.1.elim fun _ rl=>x.rd.elim fun _ rx=>by
   rw[<- mV h.2 r.vrels h.1 rk]
   cases neg
   ·exact⟨fun g=>SeqAt.in_tuple_reads rl rx l.2.1 x.lay (oU x.dep hu) (g p _ (.refl p) rfl)⟩
   ·exact⟨fun g=>SeqAt.notIn_tuple_reads rl rx l.2.1 x.lay (oU x.dep hu) (g p _ (.refl p) rfl)⟩
theorem mJ{a b:AV}{v u:Value}{t:Bool}(neg:Bool)(hu:A.units+20<cLine)(ra:V a p v)(rb:V b p u)(h:NZ Y a b=some t):aR A p (compareOp (if neg then .NotIn else .In) v u) (.bool (nb neg t)) Y:=
 have hu:A.units+12<cLine:=Tj (Tw (by decide) _) hu
 bu h (fun h=>ly rb h fun r rb h=>bu h (fun h=>ae h fun es h1 h=>cO h fun q e=>e▸B8 hu rb h1 q ra) fun h=>ae h fun vs h1 h=>cO h fun q e=>e▸B7 hu rb h1 q ra) fun h=>
  bu h (fun h=>ae h fun vs h1 h=>cO h fun q e=>e▸FC hu (aC h1▸rb) q ra) fun h=>ae h fun k h1 h=>ae h fun i h2 h=>by
   refine V.symE (P:=fun v=>aR A p (compareOp (if neg then .NotIn else .In) v u) (.bool (nb neg t)) Y) (cy h2▸ra) fun t1 _=>V.symE (P:=fun u=>aR A p (compareOp (if neg then .NotIn else .In) _ u) (.bool (nb neg t)) Y) (cy h1▸rb) fun t2 _=>?_
   rw[<- xJ h]
   cases neg
   ·exact⟨fun g=>PySem.P.in_str (g p _ (.refl p) rfl)⟩
   ·exact⟨fun g=>PySem.P.notIn_str (g p _ (.refl p) rfl)⟩
theorem Ct{r r':Nat}{x y:List AV}{v u:Value}{neg:Bool}(hu:A.units+12<cLine)(ra:V (.ref r) p v)(rb:V (.ref r') p u)(h1:aj Y r=some x)(h2:aj Y r'=some y)(h:(AV.purs x&&AV.purs y)=true) :
  aR A p (compareOp (if neg then .NotEq else .Eq) v u) (.bool (nb neg (decide (x=y)))) Y:=
 ra.lstE h1 (P:=fun v=>aR A p (compareOp (if neg then .NotEq else .Eq) v u) (.bool (nb neg (decide (x=y)))) Y) fun a ws n _ _ ho ra=>rb.lstE h2 (P:=fun u=>aR A p (compareOp (if neg then .NotEq else .Eq) (.ref a) u) (.bool (nb neg (decide (x=y)))) Y) fun b zs m _ _ ho' rb=>
  have h:=SU.mp h;have l:=jY h.1 ho ra;have l':=jY h.2 ho' rb
  l.1.elim fun _ rl=>l'.1.elim fun _ rl'=>by
   rw[<- Cr h.1 ra.vrels h.2 rb.vrels]
   cases neg
   ·exact⟨fun g=>SeqAt.compareEq_reads rl rl' l.2.1 l'.2.1 (Jq hu l.2.2) (g p _ (.refl p) rfl)⟩
   ·exact⟨fun g=>SeqAt.compareNe_reads rl rl' l.2.1 l'.2.1 (Jq hu l.2.2) (g p _ (.refl p) rfl)⟩
theorem mM{a b:AV}{v u:Value}{t:Bool}(neg:Bool)(hu:A.units+20<cLine)(ra:V a p v)(rb:V b p u)(h:Of Y a b=some t):aR A p (compareOp (if neg then .NotEq else .Eq) v u) (.bool (nb neg t)) Y:=
 have hu:A.units+12<cLine:=Tj (Tw (by decide) _) hu
 bu h (fun h=>ae h fun x h1 h=>aI h fun y h2 e=>by
   cases fq h1
   cases fq h2
   cases(show v=.bool x from ra)
   cases(show u=.bool y from rb)
   cases e
   cases neg
   ·exact⟨fun g=>SeqAt.RcAt.bool_bool _ _ _ _ _ _ (g p _ (.refl p) rfl)⟩
   ·exact⟨fun g=>SeqAt.RcNeAt.bool_bool _ _ _ _ _ _ (g p _ (.refl p) rfl)⟩) fun h=>
  bu h (fun h=>cO h fun q e=>by
   have q:=SU.mp q;have hu:A.units+6<cLine:=Tj (Tw (by decide) _) hu
   cases e
   cases neg
   ·exact⟨fun g=>FV hu q.1 q.2 ra rb (g p _ (.refl p) rfl)⟩
   ·exact⟨fun g=>EZ hu q.1 q.2 ra rb (g p _ (.refl p) rfl)⟩) fun h=>ae h fun r h1 h=>ae h fun r' h2 h=>ae h fun x h3 h=>ae h fun y h4 h=>cO h fun q e=>e▸Ct hu (bc h1▸ra) (bc h2▸rb) h3 h4 q
noncomputable def C9:aS->CmpOp
 | .eq=>.Eq | .ne=>.NotEq | .lt=>.Lt | .le=>.LtE | .gt=>.Gt | .ge=>.GtE | .isIn=>.In | .notIn=>.NotIn | .is=>.Is
theorem zR{o:CmpOp}{b:aS}(h:ef o=some b):o=C9 b:=by
 cases o<;>first | (cases h;rfl) | exact nomatch(show none=some b from h)
theorem eE{a b:AV}{v u:Value}{t:Bool}{f:Int->Int->Bool}{op:CmpOp}(ra:V a p v)(rb:V b p u)(h:zS a b f=some t)(k:∀{i j:Int} {t t':Tok} {E Q:Value->Shared->Prop},Q (.bool (f i j)) p.s->wpAny M0 A (compareOp op (.int i t) (.int j t')) Q E p.s):aR A p (compareOp op v u) (.bool t) Y:=
 ae h fun i h1 h=>aI h fun j h2 e=>V.int (P:=fun v=>aR A p (compareOp op v u) (.bool t) Y) (br h1▸ra) fun t1=>V.int (P:=fun u=>aR A p (compareOp op (.int i t1) u) (.bool t) Y) (br h2▸rb) fun t2=>⟨fun g=>k (e▸g p _ (.refl p) rfl)⟩
theorem wH{a b:AV}{v u:Value}{t:Bool}(hu:A.units+20<cLine)(ra:V a p v)(rb:V b p u):∀{op:aS},bi op Y a b=some t->aR A p (compareOp (C9 op) v u) (.bool t) Y
 | .eq,h=>mM false hu ra rb h
 | .ne,h=>aI h fun t' h e=>e▸mM true hu ra rb h
 | .lt,h=>eE ra rb h PySem.P.lt_int
 | .le,h=>eE ra rb h PySem.P.le_int
 | .gt,h=>eE ra rb h PySem.P.gt_int
 | .ge,h=>eE ra rb h PySem.P.ge_int
 | .isIn,h=>mJ false hu ra rb h
 | .notIn,h=>aI h fun t' h e=>e▸mJ true hu ra rb h
 | .is,h=>bj h (fun hb h=>by
   cases fV hb
   cases(show u=.none from rb)
   exact bu h (fun h=>cO h fun q e=>by
     cases fV q
     cases(show v=.none from ra)
     cases e
     exact⟨fun g=>wpAny_is_plain rfl (g p _ (.refl p) rfl)⟩) fun h=>cO h fun q e=>by
     obtain⟨vs,hv⟩:=Option.isSome_iff_exists.mp q
     cases e
     exact V.tupE (P:=fun v=>aR A p (compareOp .Is v .none) (.bool false) Y) (aC hv▸ra) fun a ws n _ _ _=>⟨fun g=>wpAny_is_plain rfl (g p _ (.refl p) rfl)⟩) fun _ h=>nomatch h
end
section
variable{c:Cc}{A:Around}{env:Env}{U:En}{Y Y':St}{p:Pt Y}{Er:Value->Shared->Prop}{s:Shared}
abbrev Ay(A:Around)(p:Pt Y)(m:Sem Bool)(b:Bool)(Y':St):Prop:=Ev (Y':=Y') (fun _ t=>t=b) A p m
structure ST(c:Cc)(e:Expr)(x:X):Prop where
 ev:∀{U:En} {Y Y':St} {p:Pt Y} (f:Fm c U p) {b:Bool},jN (au c.C x U Y)=some (b,Y')->Ay f.A p (isTrue e f.env (eval e f.env)) b Y'
theorem rq{r:Rs}{b:Bool}{τ:St}(h:jN r=some (b,τ)):r=some (.bool b,τ):=aF h fun v Y1 h1 h=>jX (P:=fun b τ=>r=some (.bool b,τ)) h fun b hb=>fq hb▸h1
theorem SX.t{e:Expr}{x:X}(sx:SX c e x)(f:Fm c U p){b:Bool}(h:jN (au c.C x U Y)=some (b,Y')):aR f.A p (eval e f.env) (.bool b) Y':=(sx.ev f (rq h)).mono fun _ _ _ r=>r.val rfl
theorem V.boolE{b:Bool}{w:Value}(r:V (.bool b) p w){P:Value->Prop}(k:P (.bool b)):P w:=(show w=.bool b from r)▸k
theorem pk{e:Expr}{x:X}(sx:SX c e x)(he:∀ env whole,isTrue e env whole=(do let v <- whole;standAt e.pos;holding [v] (truthy v))):ST c e x:=
 ⟨fun f _ h=>⟨fun{Er Q} g=>wpAny_isTrue_value ((sx.t f h).go fun q w n r=>r.boolE (P:=fun w=>wpAny M0 f.A (truthy w) Q Er q.s) (wpAny_truthy_bool (g q _ n rfl))) (he _ _)⟩⟩
theorem eY{n:Nat}(R:ch A n):A.units+20<cLine:=Tj (Tw (by decide) _) R.six
theorem ix{op:CmpOp}{b:aS}{a u:AV}{v w:Value}{t:Bool}{n:Nat}(hop:ef op=some b)(R:ch A n)(ra:V a p v)(ru:V u p w)(h:bi b Y a u=some t):aR A p (compareOp op v w) (.bool t) Y:=zR hop▸wH (eY R) ra ru h
theorem Ee{l r:Expr}{op:CmpOp}{b:aS}{pos:Pos}{x y:X}(hop:ef op=some b)(hm:behindInMarks op r=false)(sx:SX c l x)(sy:SX c r y):SX c (.Compare l [op] [r] pos) (.cmp b x y):=.of fun{U Y Y' p} f v h=>
 aF h fun u Y1 h1 h=>aF h fun k Y2 h2 h=>jX h fun v hv=>aI hv fun t ht e=>e▸⟨fun g=>wpAny_Compare1 ((sx.v f h1).go fun q1 w1 n1 r1=>(sy.v (f.nx n1) h2).go fun q2 w2 n2 r2=>(ix hop f.R (r1.nx n2) r2 ht).after (n1.trans n2) g) hm⟩
theorem bt{b:Bool}{w:Value}{Q:Bool->Shared->Prop}(r:V (.bool b) p w)(h:Q b p.s):wpAny M0 A (truthy w) Q Er p.s:=r.boolE (P:=fun w=>wpAny M0 A (truthy w) Q Er p.s) (wpAny_truthy_bool h)
theorem Eo{l r:Expr}{op:CmpOp}{b:aS}{pos:Pos}{x y:X}(hop:ef op=some b)(hm:behindInMarks op r=false)(sx:SX c l x)(sy:SX c r y):ST c (.Compare l [op] [r] pos) (.cmp b x y):=⟨fun{U Y Y' p} f t h=>
 aF (rq h) fun u Y1 h1 h=>aF h fun k Y2 h2 h=>jX (P:=fun v Y'=>v=.bool t->Ay f.A p (isTrue (.Compare l [op] [r] pos) f.env (eval (.Compare l [op] [r] pos) f.env)) t Y') h (fun v hv=>aI hv fun t' ht e e'=>
  AV.bool.inj (e.trans e')▸⟨fun g=>wpAny_isTrue_Compare1 ((sx.v f h1).go fun q1 w1 n1 r1=>(sy.v (f.nx n1) h2).go fun q2 w2 n2 r2=>(ix hop f.R (r1.nx n2) r2 ht).go fun q3 w3 n3 r3=>bt r3 (g q3 _ (n1.trans (n2.trans n3)) rfl)) hm⟩) rfl⟩
section
variable{l m r:Expr}{op op':CmpOp}{b b':aS}{pos:Pos}{x y z:X}{f:Fm c U p}{u k:AV}{Y1 Y2:St}{t:Bool}
theorem yH(hm:behindInMarks op' r=false):lastMarks [op,op'] [m,r]=false:=by simpa[lastMarks] using hm
theorem qG{Q:Value->Shared->Prop}(hop:ef op=some b)(hm:behindInMarks op' r=false)(sx:SX c l x)(sy:SX c m y)(h1:nv (au c.C x U Y)=some (u,Y1))(h2:nv (au c.C y U Y1)=some (k,Y2))(ht:bi b Y2 u k=some t)
  (g:∀(q:Pt Y2) w w',Nx [] p q->V k q w->V (.bool t) q w'->if t=true then wpAny M0 f.A (compareChain pos w [op'] [eval r f.env]) Q Er q.s else Q w' q.s):wpAny M0 f.A (eval (.Compare l [op,op'] [m,r] pos) f.env) Q Er p.s:=
 Compare_chain ((sx.v f h1).go fun q1 w1 n1 r1=>chain_link ((sy.v (f.nx n1) h2).go fun q2 w2 n2 r2=>(ix hop f.R (r1.nx n2) r2 ht).go fun q3 w3 n3 r3=>bt r3 (g q3 w2 w3 (n1.trans (n2.trans n3)) (r2.nx n3) r3))) (yH hm)
theorem tQ{Q:Bool->Shared->Prop}(hop:ef op=some b)(hm:behindInMarks op' r=false)(sx:SX c l x)(sy:SX c m y)(h1:nv (au c.C x U Y)=some (u,Y1))(h2:nv (au c.C y U Y1)=some (k,Y2))(ht:bi b Y2 u k=some t)
  (g:∀(q:Pt Y2) w,Nx [] p q->V k q w->if t=true then wpAny M0 f.A (testChain pos w [op'] [eval r f.env]) Q Er q.s else Q false q.s):wpAny M0 f.A (isTrue (.Compare l [op,op'] [m,r] pos) f.env (eval (.Compare l [op,op'] [m,r] pos) f.env)) Q Er p.s:=
 isTrue_chain ((sx.v f h1).go fun q1 w1 n1 r1=>test_link ((sy.v (f.nx n1) h2).go fun q2 w2 n2 r2=>(ix hop f.R (r1.nx n2) r2 ht).go fun q3 w3 n3 r3=>bt r3 (g q3 w2 (n1.trans (n2.trans n3)) (r2.nx n3)))) (yH hm)
end
theorem AR{l m r:Expr}{op op':CmpOp}{b b':aS}{pos:Pos}{x y z:X}(hop:ef op=some b)(hop':ef op'=some b')(hm:behindInMarks op' r=false)(sx:SX c l x)(sy:SX c m y)(sz:SX c r z) :
  SX c (.Compare l [op,op'] [m,r] pos) (.cmp2 b b' x y z):=.of fun{U Y Y' p} f v h=>aF h fun u Y1 h1 h=>aF h fun k Y2 h2 h=>ae h fun t ht h=>match t,ht,h with
 | false,ht,h=>cX h ⟨fun g=>qG hop hm sx sy h1 h2 ht fun q w w' n _ r'=>g q w' n r'⟩
 | true,ht,h=>aF h fun o Y3 h4 h=>jX h fun v hv=>aI hv fun t2 ht2 e=>e▸⟨fun g=>qG hop hm sx sy h1 h2 ht fun q w w' n r _=>chain_last ((sz.v (f.nx n) h4).go fun q4 w4 n4 r4=>(ix hop' f.R (r.nx n4) r4 ht2).after (n.trans n4) g)⟩
theorem A3{l m r:Expr}{op op':CmpOp}{b b':aS}{pos:Pos}{x y z:X}(hop:ef op=some b)(hop':ef op'=some b')(hm:behindInMarks op' r=false)(sx:SX c l x)(sy:SX c m y)(sz:SX c r z) :
  ST c (.Compare l [op,op'] [m,r] pos) (.cmp2 b b' x y z):=⟨fun{U Y Y' p} f t0 h=>aF (rq h) fun u Y1 h1 h=>aF h fun k Y2 h2 h=>ae h fun t ht h=>match t,ht,h with
 | false,ht,h=>by cases h;exact⟨fun g=>tQ hop hm sx sy h1 h2 ht fun q w n _=>g q _ n rfl⟩
 | true,ht,h=>aF h fun o Y3 h4 h=>jX (P:=fun v Y'=>v=.bool t0->Ay f.A p _ t0 Y') h (fun v hv=>aI hv fun t2 ht2 e e'=>AV.bool.inj (e.trans e')▸⟨fun g=>tQ hop hm sx sy h1 h2 ht fun q w n r=>test_last ((sz.v (f.nx n) h4).go fun q4 w4 n4 r4=>(ix hop' f.R (r.nx n4) r4 ht2).go fun q5 w5 n5 r5=>bt r5 (g q5 _ (n.trans (n4.trans n5)) rfl))⟩) rfl⟩
theorem Eh{a b:Expr}{x y:X}{pos:Pos}(sx:SX c a x)(sy:SX c b y):SX c (.BoolOp .And [a,b] pos) (.and x y):=.of fun{U Y Y' p} f v h=>aF h fun t Y1 h1 h=>match t,h1,h with
 | false,h1,h=>cX h ⟨fun g=>wpAny_And2 ((sx.t f h1).go fun q w n r=>bt r (g q w n r))⟩
 | true,h1,h=>aF h fun t2 Y2 h2 h=>cX h ⟨fun g=>wpAny_And2 ((sx.t f h1).go fun q w n r=>bt r ((sy.t (f.nx n) h2).after n g))⟩
theorem HV{a b:Expr}{x y:X}{pos:Pos}(sx:SX c a x)(sy:SX c b y):SX c (.BoolOp .Or [a,b] pos) (.or x y):=.of fun{U Y Y' p} f v h=>aF h fun t Y1 h1 h=>match t,h1,h with
 | true,h1,h=>cX h ⟨fun g=>wpAny_Or2 ((sx.t f h1).go fun q w n r=>bt r (g q w n r))⟩
 | false,h1,h=>aF h fun t2 Y2 h2 h=>cX h ⟨fun g=>wpAny_Or2 ((sx.t f h1).go fun q w n r=>bt r ((sy.t (f.nx n) h2).after n g))⟩
theorem Ik{t b:Bool}{τ υ:St}{P:Bool->St->Prop}(h:some (AV.bool t,τ)=some (AV.bool b,υ))(k:P t τ):P b υ:=by cases h;exact k
theorem Ep{a b:Expr}{x y:X}{pos:Pos}(sx:ST c a x)(sy:ST c b y):ST c (.BoolOp .And [a,b] pos) (.and x y):=⟨fun{U Y Y' p} f v h=>aF (rq h) fun t Y1 h1 h=>match t,h1,h with
 | false,h1,h=>Ik (P:=Ay f.A p _) h ⟨fun g=>wpAny_isTrue_BoolOp (wpAny_allTrue_And_cons ((sx.ev f h1).go fun q w n r=>by cases r;exact g q _ n rfl))⟩
 | true,h1,h=>aF h fun t2 Y2 h2 h=>Ik (P:=Ay f.A p _) h ⟨fun g=>wpAny_isTrue_BoolOp (wpAny_allTrue_And_cons ((sx.ev f h1).go fun q w n r=>by cases r;exact wpAny_allTrue_And_cons ((sy.ev (f.nx n) h2).go fun q2 w2 n2 r2=>match w2,r2 with
  | true,r2=>wpAny_allTrue_And_nil (g q2 _ (n.trans n2) r2)
  | false,r2=>g q2 _ (n.trans n2) r2)))⟩⟩
theorem HX{a b:Expr}{x y:X}{pos:Pos}(sx:ST c a x)(sy:ST c b y):ST c (.BoolOp .Or [a,b] pos) (.or x y):=⟨fun{U Y Y' p} f v h=>aF (rq h) fun t Y1 h1 h=>match t,h1,h with
 | true,h1,h=>Ik (P:=Ay f.A p _) h ⟨fun g=>wpAny_isTrue_BoolOp (wpAny_allTrue_Or_cons ((sx.ev f h1).go fun q w n r=>by cases r;exact g q _ n rfl))⟩
 | false,h1,h=>aF h fun t2 Y2 h2 h=>Ik (P:=Ay f.A p _) h ⟨fun g=>wpAny_isTrue_BoolOp (wpAny_allTrue_Or_cons ((sx.ev f h1).go fun q w n r=>by cases r;exact wpAny_allTrue_Or_cons ((sy.ev (f.nx n) h2).go fun q2 w2 n2 r2=>match w2,r2 with
  | false,r2=>wpAny_allTrue_Or_nil (g q2 _ (n.trans n2) r2)
  | true,r2=>g q2 _ (n.trans n2) r2)))⟩⟩
theorem D7{a:Expr}{x:X}{pos:Pos}(sx:SX c a x):SX c (.UnaryOp .Not a pos) (.not x):=.of fun{U Y Y' p} f v h=>aF h fun t Y1 h1 h=>cX h ⟨fun g=>wpAny_UnaryOp ((sx.t f h1).go fun q w n r=>not_value (bt r (g q _ n rfl)))⟩
theorem El{a:Expr}{x:X}{pos:Pos}(sx:ST c a x):ST c (.UnaryOp .Not a pos) (.not x):=⟨fun{U Y Y' p} f v h=>aF (rq h) fun t Y1 h1 h=>Ik (P:=Ay f.A p _) h ⟨fun g=>wpAny_isTrue_Not ((sx.ev f h1).go fun q w n r=>g q _ n (SI (!·) r))⟩⟩
theorem Eb{d a b:Expr}{z x y:X}{pos:Pos}(sz:ST c d z)(sx:SX c a x)(sy:SX c b y):SX c (.IfExp d a b pos) (.ite z x y):=.of fun{U Y Y' p} f v h=>aF h fun t Y1 h1 h=>match t,h1,h with
 | true,h1,h=>⟨fun g=>wpAny_IfExp ((sz.ev f h1).go fun q w n r=>by cases r;exact(sx.v (f.nx n) h).after n g)⟩
 | false,h1,h=>⟨fun g=>wpAny_IfExp ((sz.ev f h1).go fun q w n r=>by cases r;exact(sy.v (f.nx n) h).after n g)⟩
theorem xA{r:Rs}{b:Bool}{τ:St}(h:nv r=some (.bool b,τ)):jN r=some (b,τ):=(KD h).1▸rfl
theorem Em{d a b:Expr}{z x y:X}{pos:Pos}(sz:ST c d z)(sx:ST c a x)(sy:ST c b y):ST c (.IfExp d a b pos) (.ite z x y):=⟨fun{U Y Y' p} f v h=>aF (rq h) fun t Y1 h1 h=>match t,h1,h with
 | true,h1,h=>⟨fun g=>by rw[arm_isTrue_IfExp];exact SF ((sz.ev f h1).go fun q w n r=>by cases r;exact(sx.ev (f.nx n) (xA h)).after n g)⟩
 | false,h1,h=>⟨fun g=>by rw[arm_isTrue_IfExp];exact SF ((sz.ev f h1).go fun q w n r=>by cases r;exact(sy.ev (f.nx n) (xA h)).after n g)⟩⟩
end
section
variable{c:Cc}{A:Around}{env:Env}{U:En}{Y Y':St}{p:Pt Y}{Er:Value->Shared->Prop}{s:Shared}
abbrev oN(c:Cc)(es:List Expr)(xs:List X):Prop:=ai (SX c) es xs
theorem oN.sxs{es:List Expr}{xs:List X}(h:oN c es xs):GY c es xs:=ai.ind (P:=GY c) AM (fun h _ t=>xM h t) h
noncomputable def ln(env:Env)(i:Nat):Sem Value:=eval (.Constant (.str (aw i)) 0 default) env
theorem wf{o:Option Expr}{i:Nat}{s:Str}(h:(uM o).bind Ek=some s)(hi:be aT s=some i):evalOpt o env=some (ln env i):=ae h fun c h1 h2=>(kB h1).elim fun _ h=>h.elim fun _ h=>by
 rw[h,vj h2,(dG hi).2];rfl
theorem wb{keys:List (Option Expr)}:∀{ks:List Nat},jA keys=some ks->evalEachOpt keys env=ks.map (fun i=>some (ln env i))/\∀ i,i∈ks->i<aT.length:=by
 induction keys with
 | nil=>exact fun h=>S0 h▸⟨rfl,fun _ h=>SP h Ud⟩
 | cons o r ih=>
  refine fun h=>ae h fun s h0 h=>ae h fun i h1 h=>aI h fun ks h2 e=>e▸⟨?_,fun j hj=>(SW.mp hj).elim (fun e=>e▸(dG h1).1) ((ih h2).2 j)⟩;show evalOpt o env::evalEachOpt r env=_;rw[wf h0 h1,(ih h2).1];rfl
theorem w7{α β:Type}{as:List α}:∀{bs:List β},(as.map some).zip bs=(as.zip bs).map fun p=>(some p.1,p.2):=by
 induction as with
 | nil=>exact rfl
 | cons a as ih=>
  refine @fun bs=>?_
  cases bs with
  | nil=>rfl
  | cons b bs=>exact SI ((some a,b)::·) ih
noncomputable def rh(env:Env)(pos:Pos)(es:List Expr):List (Sem Value):=(evalEach es env).map fun v=>do let x <- v;standAt pos;pure x
structure PE(x:Hp)(e:AV×AV)(w:Value×Value):Prop where
 pur:e.1.pur=true
 key:aq x e.1 w.1
 val:aq x e.2 w.2
def PL(kvs:List (AV×AV)){Y:St}(p:Pt Y)(ws:List (Value×Value)):Prop:=ai (PE p.x) kvs ws
theorem PL.wk{Y:St}{p:Pt Y}{q:Pt Y'}{kvs:List (AV×AV)}{ws:List (Value×Value)}(h:PL kvs p ws)(n:Wk p.x q.x):PL kvs q ws:=ai.mono (S:=PE q.x) (fun r=>⟨r.pur,r.key.wk n,r.val.wk n⟩) h
def k7(c:Cc)(U:En)(pos:Pos)(es:List Expr)(xs:List X):Prop:=∀{ks:List Nat} {Y Y':St} {p:Pt Y} (f:Fm c U p) {vs:List AV},ks.length=es.length->(∀ i,i∈ks->i<aT.length)->cU c.C xs U Y=some (vs,Y')->
  Ev (Y':=Y') (PL ((ks.map .sym).zip vs)) f.A p (evalPairs ((ks.map (ln f.env)).zip (rh f.env pos es)))
theorem vF{pos:Pos}:k7 c U pos [] []:=fun{ks Y Y' p} f vs hl _ hd=>by
 cases List.length_eq_zero_iff.mp hl
 exact cX (P:=fun vs τ=>Ev (Y':=τ) (PL (([]:List AV).zip vs)) f.A p (evalPairs [])) hd ⟨fun g=>evalPairs_nil (g p _ (.refl p) .nil)⟩
theorem rW{pos:Pos}{e:Expr}{x:X}{es:List Expr}{xs:List X}(sx:SX c e x)(ih:k7 c U pos es xs):k7 c U pos (e::es) (x::xs):=fun{ks Y Y' p} f vs hl hk hd=>by
 cases ks with
 | nil=>cases hl
 | cons k ks=>
  exact aF hd fun v Y1 h1 hd=>aF hd fun us Y2 h2 hd=>cX (P:=fun vs τ=>Ev (Y':=τ) (PL ((((k::ks).map .sym):List AV).zip vs)) f.A p _) hd
     ⟨fun g=>evalPairs_cons (Calls.Constant_str (SF ((sx.v (f.nx (.tok (t:=p.s.toks+1))) h1).go fun q w n r=>SF (wpAny_standAt (SH ((ih ((f.nx .tok).nx n) (Nat.succ.inj hl) (fun i hi=>hk i (.tail _ hi)) h2).go fun q2 ws n2 r2=>
      g q2 _ (Nx.trans (.tok (t:=p.s.toks+1)) (n.trans n2)) (.cons ⟨rfl,⟨hk k (.head _),_,rfl⟩,(r.nx n2)⟩ r2)))))))⟩
theorem pO{pos:Pos}{es:List Expr}{xs:List X}(h:oN c es xs):k7 c U pos es xs:=ai.ind (P:=k7 c U pos) vF (fun h _ t=>rW h t) h
theorem EC{α:Type}{l:List α}:∀{i:Nat} {a:α},l[i]?=some a->l.set i a=l:=by
 induction l with
 | nil=>exact fun h=>bZ h
 | cons x l ih=>
  refine @fun i a h=>?_
  cases i with
  | zero=>exact S0 h▸rfl
  | succ i=>exact SI (x::·) (ih h)
theorem Bc{α:Type}{l:List α}{i:Nat}{a b:α}(h:l[i]?=some b):(l.set i a)[i]?=some a:=TY (SR.mp h).1
theorem iw{r:Nat}{es:List (AV×AV)}(h:Y[r]?=some (.dict es)):aN Y r=some es:=(SI (·.bind AO.dct) h:_)
theorem pi{a:Addr}{r:Nat}{kvs:List (AV×AV)}:∀{Y:St} {acc:List (AV×AV)} {p:Pt Y} {ws:List (Value×Value)},A.units+6<cLine->Y[r]?=some (.dict acc)->p.ι[r]?=some (a,a)->PL kvs p ws->((acc++kvs).map (·.1)).Nodup->(acc++kvs).length<=ay->
  Ev (Y':=Y.set r (.dict (acc++kvs))) (fun _ _=>True) A p (forIn ws PUnit.unit fun(x:Value×Value) (_:PUnit)=>(do dictSet a x.1 x.2;pure (ForInStep.yield PUnit.unit):Sem (ForInStep PUnit))):=by
 induction kvs with
 | nil=>
  refine @fun Y acc p _ hu hr hp h nd hl=>h.nilE (P:=fun ws=>Ev (Y':=Y.set r (.dict (acc++[]))) (fun _ _=>True) A p (forIn ws PUnit.unit _)) ?_;rw[Tr,EC hr,List.forIn_nil];exact .pure trivial
 | cons kv kvs ih=>
  refine @fun Y acc p _ hu hr hp h=>?_;have h0:=@ih (Y.set r (.dict (aU acc kv.1 kv.2))) (aU acc kv.1 kv.2);rw[List.set_set] at h0;refine h.consE (P:=fun ws=>((acc++kv::kvs).map (·.1)).Nodup->(acc++kv::kvs).length<=ay->Ev (Y':=Y.set r (.dict (acc++kv::kvs))) (fun _ _=>True) A p (forIn ws PUnit.unit _)) fun w ws e h nd hl=>?_;have hk:kv.1∉acc.map (·.1):=fun hm=>(Ts.mp (Th▸nd)).2.2 _ hm _ (.head _) rfl;have ap:acc++kv::kvs=aU acc kv.1 kv.2++kvs:=by rw[cN hk,S6];rfl
  have hz:acc.length+1<=ay:=SJ (by rw[SZ];exact Tw (T9 (Tb _)) _) hl
  rw[Uj,ap];refine Ev.bind (Y':=Y.set r (.dict (aU acc kv.1 kv.2))) (k:=fun q b=>q.ι[r]?=some (a,a)/\PL kvs q ws/\b=ForInStep.yield PUnit.unit) ⟨fun g=>SF (p.dct (iw hr) fun a' ds n hp' hz' nd' ho hd=>?_)⟩ fun q b n g=>by rw[g.2.2];exact h0 hu (Bc hr) g.1 g.2.1 (ap▸nd) (ap▸hl)
  have ha:a=a':=SI Prod.fst (S0 (hp.symm.trans hp'));exact ha▸(sV p hp hu (ha▸ho) hd nd' e.pur e.key e.val hz' (by rw[cN hk,SZ];exact hz)).go fun q _ n _=>SH (g q _ n ⟨n.wk.get hp,PL.wk h n.wk,rfl⟩)
theorem lY:∀{ks:List Nat} {vs:List AV},ks.length=vs.length->(((ks.map AV.sym).zip vs).map (·.1))=ks.map .sym
 | [],_,_=>rfl
 | _::_,[],h=>nomatch h
 | k::_,_::_,h=>SI (AV.sym k::·) (lY (Nat.succ.inj h))
theorem sv{ks:List Nat}(h:ks.Nodup):(ks.map AV.sym).Nodup:=List.pairwise_map.mpr (List.Pairwise.imp (fun hab e=>hab (AV.sym.inj e)) h)
theorem gH:∀{es:List Expr},(evalEach es env).length=es.length
 | []=>rfl
 | _::es=>SI (·+1) (gH (es:=es))
theorem kl{α:Type}{l:List α}{a b:α}:(l++[a]).set l.length b=l++[b]:=by
 induction l with
 | nil=>rfl
 | cons x l ih=>exact SI (x::·) ih
theorem xm{pos:Pos}{es:List Expr}:(rh env pos es).length=es.length:=S7 _ |>.trans gH
theorem Ed{keys:List (Option Expr)}{es:List Expr}{ks:List Nat}{xs:List X}{pos:Pos}(hk:jA keys=some ks)(hl:ks.length=es.length)(sxl:oN c es xs):SX c (.Dict keys es pos) (.dct ks xs):=.of fun{U Y Y' p} f v h=>aF h fun vs Y1 h1 h=>fC (a:=.ref Y1.length) h fun hq=>by
 have hq:=eF hq;have hz:=SO hq.2.2;have lz:=SO hq.2.1;have kz:=(wb (env:=f.env) hk)
 cases keys with
 | nil=>
  cases hk
  cases List.length_eq_zero_iff.mp hl.symm
  exact sxl.nilE (P:=fun xs=>cU c.C xs U Y=some (vs,Y1)->aR f.A p (eval (.Dict [] [] pos) f.env) (.ref Y1.length) (Y1++[.dict ((([]:List Nat).map .sym).zip vs)])) (fun h1=>cX (P:=fun vs Y1=>aR f.A p (eval (.Dict [] [] pos) f.env) (.ref Y1.length) (Y1++[.dict ((([]:List Nat).map .sym).zip vs)])) h1
   ⟨fun g=>wpAny_Dict_empty (p.newD (es:=[]) (ds:=#[]) (TV (SN _)) (fun _ _ e=>S9 _ e) (Ti _ rfl) (Tb _) Ue .nil fun q n v=>g q _ n v)⟩) h1
 | cons o rr=>
  have pl:((ks.map (ln f.env)).zip (rh f.env pos es)).length=ks.length:=by
   rw[List.length_zip,S7,xm,<- hl,Nat.min_self]
  rw[arm_eval_Dict,kz.1,show(ks.map fun i=>some (ln f.env i))=(ks.map (ln f.env)).map some from(TP ..).symm,w7];show aR f.A p (do standAt pos;dictDisplay (((ks.map (ln f.env)).zip (rh f.env pos es)).map fun p=>(some p.1,p.2))) _ _
  rw[dictDisplay_pairs _ (fun e=>by
   rw[show(ks.map (ln f.env)).zip (rh f.env pos es)=[] from e] at pl;exact ae hk fun s _ h=>ae h fun k _ h=>aI h fun ks' _ e=>by subst e;cases pl) (show((ks.map (ln f.env)).zip (rh f.env pos es)).length<17 by rw[pl,lz];exact Tj hz (by decide))]
  refine⟨fun g=>SF (wpAny_standAt (SF ?_))⟩;unfold subDict;refine SF (wpAny_alloc (SF (Td ?_)));rw[SQ (show((ks.map (ln f.env)).zip (rh f.env pos es)).length<=15 by rw[pl,lz];exact SJ hz (by decide))]
  refine p.grow [p.s.heap.objs.size] (fun _ _ e=>S9 _ e) (fun a ha=>SY.mp ha▸⟨TV (SN _),_,Ti _ rfl⟩) (Tq.mpr ⟨nofun,.nil⟩) fun q n eh hκ _=>?_
  have hκ:=hκ _ (.head _);have ho:q.s.heap.get? p.s.heap.objs.size=some (bT #[] 0):=eh▸Ti _ rfl;refine SF ((pO sxl (f.nx n) hl kz.2 h1).go fun q2 ws n2 r2=>Td ?_);have kp:=n2.kept hκ.1;refine p.adopt q2 (n.trans n2) (fun a=>(n.trans n2).sub nofun) (Ts.mp p.r.nodup).2.1 (fun _=>id) (o:=.dict []) kp.1 hκ.2 (fun _=>⟨rfl,Tb _,Ue,#[],0,kp.2.trans ho,.nil⟩) fun r n3 wk hp _ _=>?_
  have hr:(Y1++[AO.dict []])[Y1.length]?=some (.dict []):=UI;have st:=pi (A:=f.A) (r:=Y1.length) (kvs:=(ks.map .sym).zip vs) (acc:=[]) (Tj (Tw (by decide) _) f.R.six) hr hp (PL.wk r2 wk)
   (by rw[List.nil_append,lY lz];exact sv (SO hq.1)) (by rw[List.nil_append,List.length_zip];exact SJ (Nat.min_le_right _ _) (SJ hz (by decide)))
  rw[List.nil_append,kl] at st;exact SF (st.go fun q4 _ n4 _=>SH (SH (SH (g q4 _ (n3.trans n4) ⟨_,n4.wk.get hp,rfl⟩))))
end
theorem ch.call{A:Around}{n:Nat}(R:ch A n):kZ A n:=⟨by have:=R.depth;exact u2 this,by have:=R.units;exact u3 this,R.handled⟩
theorem ch.make{A:Around}{n:Nat}(R:ch A n)(C:Addr)(vals:List Value):kZ (A.under (.builtin "type.__call__" ⟨.ref C::vals,[]⟩)) n:=
 ⟨by rw[depth_under_make];have:=R.depth;exact u4 this,by rw[units_under_make];have:=R.units;exact u5 this,R.handled⟩
theorem kZ.body{A:Around}{n:Nat}(R:kZ A (n+1))(env:Env):ch (A.deeper env) n:=
 ⟨by show A.depth+1+3*n+10<_;have:=R.depth;exact u6 this,by show A.units+3+20*n+100<_;have:=R.units;exact u7 this,R.handled⟩
section
variable{c:Cc}{A:Around}{env:Env}{U:En}{Y Y' Y1:St}{p:Pt Y}{Er:Value->Shared->Prop}{s:Shared}{es:List Expr}{xs:List X}{pos:Pos}
noncomputable abbrev jj(pos:Pos)(es:List Expr)(env:Env):List (Bool×Sem Value):=backTo pos (starEach es env)
theorem bJ(h:oN c es xs):(jj pos es env).any (·.1)=false:=ai.ind (P:=fun es _=>(jj pos es env).any (·.1)=false) rfl (fun sx _ ih=>by
 show(backTo pos (starEach (_::_) env)).any (·.1)=false;rw[sx.star];exact ih) h
theorem dc{M:Model}{f:Value}{args:List (Bool×Sem Value)}{Q:Args->Shared->Prop}(hp:args.any (·.1)=false)(h:wpAny M A (spliced args) (fun vs s'=>Q ⟨vs,[]⟩ s') Er s):wpAny M A (evalArgs f true args []) Q Er s:=by
 cases args with
 | nil=>exact SF (TG h (fun vs s' h'=>SF (SH (Td (SF (SH (SF (SH (SH h')))))))) fun _ _ x=>x)
 | cons a r=>
  obtain⟨b,x⟩:=a
  cases b with
  | true=>cases hp
  | false=>exact Calls.evalArgs_plain h
theorem iy{vs:List AV}{v:AV}{w:Value}{first:List Value}(sxl:oN c es xs)(f:Fm c U p)(h1:cU c.C xs U Y=some (vs,Y1))(hk:keepIn K0 w=true)(g:∀(q:Pt Y1) ws,Nx [] p q->VL vs q ws->aR f.A q (call w (first++ws)) v Y') :
  aR f.A p (callWith pos w first (jj pos es f.env) []) v Y':=
 ⟨fun k=>callWith_of (P:=K0.In) (by rw[bJ sxl];rfl) (keeps_K hk) (dc (bJ sxl) ((sxl.sxs.ev f h1 pos).go fun q ws n r=>⟨q.kin,(g q ws n r).after n k⟩))⟩
theorem z5{vs:List AV}{v:AV}{id:String}{first:List Value}(sxl:oN c es xs)(f:Fm c U p)(h1:cU c.C xs U Y=some (vs,Y1))(g:∀(q:Pt Y1) ws,Nx [] p q->VL vs q ws->aR f.A q (call (.builtin id) (first++ws)) v Y') :
  aR f.A p (callWith pos (.builtin id) first (jj pos es f.env) []) v Y':=
 ⟨fun k=>Calls.callWith_builtin (bJ sxl) (dc (bJ sxl) ((sxl.sxs.ev f h1 pos).go fun q ws n r=>(g q ws n r).after n k))⟩
theorem qt{n:Nat}{vs:List AV}{v:AV}{ws:List Value}{g:Nat}{C:Calls}(ok:ft n C)(R:ch A n)(r:VL vs p ws)(h:C.fn g vs Y=some (v,Y')):aR A p (call (.ref (bw g)) ws) v Y':=⟨fun k=>wpAny_call (ok.go h R.call r fun q w n e=>k q w n e)⟩
theorem tS{x:Str}{ps:Pos}{w:Value}{v:AV}{mg:Str->Option Value}(f:Fm c U p)(hd:(x==("__debug__":Str))=false)(hg:dz (c.cx.sc.lookup x)=true)(hm:H0.Ns mainGlobals mg)(hv:mg x=some w)(h:aR f.A p (callWith pos w [] (jj pos es f.env) []) v Y') :
  aR f.A p (eval (.Call (.Name x ps) es [] pos) f.env) v Y':=⟨fun k=>Call_Name rfl (wpAny_Name (mA f hg hm hv (h.go k)) hd)⟩
theorem iC{x:Str}{ps:Pos}{attr:Str}{whole:Sem Value}(hx:x≠("super":Str)):attributeBase (.Call (.Name x ps) es [] pos) attr env whole=whole:=by
 cases es with
 | nil=>
  show(if(x != ("super":Str)||_||_||_)=true then _ else _)=whole
  rw[bne_iff_ne.mpr hx];rfl
 | cons _ _=>rfl
theorem AS{x:Str}{ps:Pos}{g:Nat}(hx:x≠("super":Str))(hg:dz (c.cx.sc.lookup x)=true)(hf:be TB.fns x=some g)(hd:(x==("__debug__":Str))=false)(sxl:oN c es xs):SX c (.Call (.Name x ps) es [] pos) (.call g xs):=.of (fun{U Y Y' p} f v h=>aF h fun vs Y1 h1 h=>
 (ci hf).elim fun y hy=>p.r.pf.ns.elim fun mg e=>e.elim fun mb e=>tS f hd hg e.1 (hy.2.1▸e.2.2.1 g y hy.1) (iy sxl f h1 (c.ok.keep h) fun q ws n r=>qt c.ok f.R r h)) (fun _ _ _=>iC hx)
theorem my{k m f:Nat}(h:dq k m=some f):k<7:=ae h fun _ h _=>(SR.mp h).1
theorem Pt.newI(p:Pt Y){k:Nat}(hk:k<7){Q:Shared->Prop}(g:∀ q:Pt (Y++[.inst k []]),Nx [] p q->V (.ref Y.length) q (.ref (p.s.heap.objs.size+1))->Q q.s) :
  Q ⟨(p.s.heap.push emptyDict).push (instObj (ba k) p.s.heap.objs.size),p.s.gens,p.s.drawn,p.s.toks,p.s.os⟩:=
 have f0:p.s.heap.get? p.s.heap.objs.size=none:=TV (SN _);have f1:p.s.heap.get? (p.s.heap.objs.size+1)=none:=TV (T0 _);have o1:((p.s.heap.push emptyDict).push (instObj (ba k) p.s.heap.objs.size)).get? (p.s.heap.objs.size+1)=some (instObj (ba k) p.s.heap.objs.size):=Ul p.s.heap emptyDict▸Ti (p.s.heap.push emptyDict) rfl;have o0:((p.s.heap.push emptyDict).push (instObj (ba k) p.s.heap.objs.size)).get? p.s.heap.objs.size=some (bT #[] 0):=S9 _ (Ti _ rfl)
 p.newO (pr:=(p.s.heap.objs.size+1,p.s.heap.objs.size)) (o:=.inst k []) f0 (fun _ _ e=>S9 _ (S9 _ e))
  (fun wk=>⟨hk,Tb _,Ue,⟨o1,fun hm=>(Tg.mp hm).elim (fun hm=>(Tg.mp (show _∈c9 p.ι++[p.s.heap.objs.size] by rw[<- show c9 (p.ι++[(p.s.heap.objs.size+1,p.s.heap.objs.size)])=c9 p.ι++[p.s.heap.objs.size] from dJ _ _];exact hm)).elim (fun h=>p.r.none_not f1 (Tl _ h)) fun h=>Nat.succ_ne_self _ (SY.mp h)) fun h=>p.r.none_not f1 (Hp.mem_κ (x:=p.x) h)⟩,#[],0,o0,.nil⟩) g ⟨_,o0⟩
theorem vT{k:Nat}{vs:List AV}{v:AV}{ws:List Value}{n:Nat}{C:Calls}(ok:ft n C)(R:ch A n)(r:VL vs p ws)(h:I4 C k vs Y=some (v,Y')):aR A p (call (.ref (ba k)) ws) v Y':=
 ae h fun g hg h=>aF h fun u τ h1 h=>fC (a:=.ref Y.length) h fun hu=>by
  have hk:=my hg;have F:=p.r.pf.clss k hk;obtain⟨g',e1,e2,e3⟩:=F.init
  cases hg.symm.trans e1
  cases fV hu
  refine⟨fun{E Q} j=>wpAny_call (make_core (h:=p.s.heap) (makes_of p.kin F.makes) (looks_findIn p.kin e2) (fun self=>bind_fn p.kin self e3) (.inl rfl) (p.newI hk fun q n v=>ok.go h1 (R.make _ _) (.cons v (r.nx n)) fun q2 w n2 r2=>?_))⟩
  cases(show w=.none from r2)
  exact⟨rfl,j q2 _ (n.trans n2) (v.nx n2)⟩
theorem D8{x:Str}{ps:Pos}{k:Nat}(hx:x≠("super":Str))(hg:dz (c.cx.sc.lookup x)=true)(hf:be TB.clss x=some k)(hd:(x==("__debug__":Str))=false)(sxl:oN c es xs):SX c (.Call (.Name x ps) es [] pos) (.new k xs):=.of (fun{U Y Y' p} f v h=>aF h fun vs Y1 h1 h=>
 (ci hf).elim fun y hy=>p.r.pf.ns.elim fun mg e=>e.elim fun mb e=>tS f hd hg e.1 (hy.2.1▸e.2.2.2.1 k y hy.1) (iy sxl f h1 (p.r.pf.clss k (ae h fun _ h _=>my h)).keep fun q ws n r=>vT c.ok f.R r h)) (fun _ _ _=>iC hx)
end
section
variable{c:Cc}{A:Around}{env:Env}{U:En}{Y Y' Y1:St}{p:Pt Y}{Er:Value->Shared->Prop}{s:Shared}{es:List Expr}{xs:List X}{pos:Pos}
structure G6(m:Nat)(A:Around)(env:Env)(p:Pt Y)(pos:Pos)(es:List Expr)(w:Value)(v:AV)(Y':St):Prop where
 go:∀{E Q:Value->Shared->Prop} (pl:Sem Bool),(∀(q:Pt Y') w,Nx [] p q->V v q w->Q w q.s)->
 wpAny M0 A (getMethod w (dX m) pl) (fun fx s₂=>wpAny M0 A (callWith pos fx.1 fx.2 (jj pos es env) []) Q E s₂) E p.s
theorem vV{o:Expr}{name:Str}{apos pos:Pos}{a:X}{Q:Value->Shared->Prop}(so:SX c o a)(hp:apos.endLine=pos.line)(hl:es.length<30)(sxl:oN c es xs)
  (h:wpAny M0 A (eval o env) (fun ov s₁=>∀ pl,wpAny M0 A (getMethod ov name pl) (fun fx s₂=>wpAny M0 A (callWith pos fx.1 fx.2 (jj pos es env) []) Q Er s₂) Er s₁) Er s) :
  wpAny M0 A (eval (.Call (.Attribute o name apos) es [] pos) env) Q Er s:=by
 rw[arm_eval_Call,so.base];refine SF (TG h (fun ov s₁ h₁=>SF (wpAny_standAt ?_)) fun _ _ x=>x);unfold methodCall;have na:(backTo pos (starEach es env)).all (fun x=>!x.1)=true:=by
  rw[List.all_eq_not_any_not];have:=bJ (env:=env) (pos:=pos) sxl;simp only[Bool.not_not];rw[this];rfl
 have hf:methodCallForm (es.length+([]:List Keyword).length) (backTo pos (starEach es env)) (backToKw pos (keywordEach [] env))=true:=by
  unfold methodCallForm;rw[na];exact SV hl
 rw[hf];refine SF (Td ?_);unfold calleeOf;rw[SQ rfl];refine TG (h₁ _) (fun fx s₂ h₂=>?_) fun _ _ x=>x;obtain⟨f,first⟩:=fx
 unfold methodCallPos;rw[SQ (T5.mpr (.inr (beq_iff_eq.mpr hp)))];exact SF (SH h₂)
structure oO(T:String)(m:Nat)(u:AV)(Y:St)(vs:List AV)(v:AV)(Y':St):Prop where
 ex:∃ id,Slot T (dX m) id/\typeOf (.builtin id)=pure (.type "method_descriptor")/\∀{A:Around} {p:Pt Y} {w:Value} {ws:List Value},A.units+20<cLine->V u p w->VL vs p ws->aR A p (call (.builtin id) (w::ws)) v Y'
theorem kf{T:String}{m:Nat}{u v:AV}{vs:List AV}{w:Value}(M:oO T m u Y1 vs v Y')(pa:PlainAttrs T)(hT:p.s.TypeIs w T)(hd:∀ a,w=.ref a->∃ o,p.s.heap.get? a=some o/\o.dict=none)(sxl:oN c es xs)(f:Fm c U p)(r:V u p w)(h1:cU c.C xs U Y=some (vs,Y1)) :
  G6 m f.A f.env p pos es w v Y':=⟨fun pl g=>M.ex.elim fun id M=>getMethod_builtin hT pa M.1 M.2.1 hd ((z5 (first:=[w]) sxl f h1 fun q ws n rs=>M.2.2 (eY f.R) (r.nx n) rs).go g)⟩
variable{r:Nat}{ls:List AV}{v u:AV}
theorem VL.oneE{ws:List Value}{P:List Value->Prop}(h:VL [v] p ws)(k:∀ w,V v p w->P [w]):P ws:=h.consE fun w ws h t=>t.nilE (P:=fun ws=>P (w::ws)) (k w h)
theorem VL.twoE{ws:List Value}{P:List Value->Prop}(h:VL [v,u] p ws)(k:∀ w z,V v p w->V u p z->P [w,z]):P ws:=h.consE fun w ws h t=>VL.oneE (P:=fun ws=>P (w::ws)) t fun z g=>k w z h g
theorem yL(hr:aj Y r=some ls)(hl:ls.length+1<=ay):oO "list" 27 (.ref r) Y [u] .none (Y.set r (.list (ls++[u]))):=⟨"list.append",F.slot_list_append,type_list_append,fun{A p w ws} hu rw rs=>
 rw.lstE hr (P:=fun w=>aR A p (call (.builtin "list.append") (w::ws)) .none (Y.set r (.list (ls++[u])))) fun a us n hp _ ho rl=>rs.oneE (P:=fun ws=>aR A p (call (.builtin "list.append") (.ref a::ws)) .none (Y.set r (.list (ls++[u])))) fun w e=>
  ⟨fun g=>call_meets F.slot_list_append ⟨_,ho,rfl⟩ F.entry_list_append (F.args_list_append_2 _ _) (list_append a us n w (aX (rl.size▸Nat.le_of_succ_le hl))) ⟨ho,p.setL (vs:=ls++[u]) hp (Tv ..) (TF _ ho rfl) (by rw[SZ];exact hl)
   (by rw[Uv];exact ai.snoc rl e) fun q n=>g q _ n rfl⟩⟩⟩
theorem yK{r':Nat}{zs:List AV}(hr:aj Y r=some ls)(hz:aj Y r'=some zs)(hl:(ls++zs).length<=ay):oO "list" 28 (.ref r) Y [.ref r'] .none (Y.set r (.list (ls++zs))):=⟨"list.extend",F.slot_list_extend,F.type_list_extend,fun{A p w ws} hu rw rs=>
 rw.lstE hr (P:=fun w=>aR A p (call (.builtin "list.extend") (w::ws)) .none (Y.set r (.list (ls++zs)))) fun a us n hp l1 ho rl=>rs.oneE (P:=fun ws=>aR A p (call (.builtin "list.extend") (.ref a::ws)) .none (Y.set r (.list (ls++zs)))) fun w e=>
  e.lstE hz (P:=fun w=>aR A p (call (.builtin "list.extend") [.ref a,w]) .none (Y.set r (.list (ls++zs)))) fun b us' n' hp' _ ho' rl'=>
  have hs:us.size+us'.size<=ay:=by rw[rl.size,rl'.size,<- SZ];exact hl
  ⟨fun g=>call_meets F.slot_list_extend ⟨_,ho,rfl⟩ F.entry_list_extend (F.args_list_extend_2 _ _) (AutoSeq1.list_extend_list_list_0 a us n b us' n' (fun q=>by
    have:=(SU.mp q).2;unfold Builtin.List.listTooLong at this;exact SP (SO this) (Nat.not_lt.mpr (aX hs))) (rl.size▸aX l1) (Nat.le_succ_of_le (aX hs)))
   ⟨ho,ho',p.setL (vs:=ls++zs) hp (Tv ..) (TF _ ho rfl) hl (by rw[Array.toList_append];exact ai.append rl rl') fun q n=>g q _ n rfl⟩⟩⟩
theorem BZ:∀{ls:List AV} {u:AV},ls.getLast?=some u->ls[ls.length-1]?=some u:=fun h=>by rw[<- List.getLast?_eq_getElem?];exact h
theorem Fb(hr:aj Y r=some ls)(h:ls.getLast?=some u):oO "list" 29 (.ref r) Y [] u (Y.set r (.list ls.dropLast)):=⟨"list.pop",F.slot_list_pop,F.type_list_pop,fun{A p w ws} hu rw rs=>
 rw.lstE hr (P:=fun w=>aR A p (call (.builtin "list.pop") (w::ws)) u (Y.set r (.list ls.dropLast))) fun a us n hp l1 ho rl=>rs.nilE (P:=fun ws=>aR A p (call (.builtin "list.pop") (.ref a::ws)) u (Y.set r (.list ls.dropLast))) (ai.get rl (BZ h) fun w h1 h2=>by
  rw[<- rl.size] at h1;have hi:us.size-1<us.size:=by rw[<- Um];exact(SR.mp h1).1
  refine⟨fun g=>call_meets F.slot_list_pop ⟨_,ho,rfl⟩ F.entry_list_pop (F.args_list_pop_1 _) (MeetsSeq.list_pop_last a us n w (Tz▸h1) (rl.size▸aX l1)) ⟨ho,?_⟩⟩;refine p.setL (vs:=ls.dropLast) hp (Tv ..) (TF _ ho rfl) (SJ (List.length_dropLast▸Nat.sub_le _ _) l1) ?_ fun q n=>g q _ n (V.nx h2 n);show VL ls.dropLast p (us.eraseIdxIfInBounds (us.size-1)).toList;rw[Array.eraseIdxIfInBounds,dif_pos hi,Array.toList_eraseIdx,List.dropLast_eq_take,<- rl.size,List.eraseIdx_eq_take_drop_succ,List.drop_of_length_le (by rw[Um];exact Nat.le_add_of_sub_le (SN _)),Tr]
  exact ai.take _ rl)⟩
theorem ai.mem'{α β:Type}{R:α->β->Prop}{es:List α}{ds:List β}{b:β}(h:ai R es ds)(hb:b∈ds):∃ a,a∈es/\R a b:=by
 obtain⟨i,hi⟩:=Uc.mp hb;exact h.get' hi fun a h1 h2=>⟨a,Tm h1,h2⟩
open Classical in
theorem BO{j:Nat}(hr:aj Y r=some ls)(hq:(u.pur&&AV.purs ls)=true)(h:ls.findIdx? (fun x=>decide (x=u))=some j):oO "list" 30 (.ref r) Y [u] (.int (j:Nat)) Y:=⟨"list.index",F.slot_list_index,F.type_list_index,fun{A p w ws} hu rw rs=>
 rw.lstE hr (P:=fun w=>aR A p (call (.builtin "list.index") (w::ws)) (.int (j:Nat)) Y) fun a us n hp l1 ho rl=>rs.oneE (P:=fun ws=>aR A p (call (.builtin "list.index") (.ref a::ws)) (.int (j:Nat)) Y) fun w e=>by
  have hq:=SU.mp hq;have pu:∀{x},x∈ls->x.pur=true:=fun hx=>Uw.mp hq.2 _ hx;have ev:∀{x y},x∈ls->aq p.x x y->decide (aq p.x u y)=decide (x=u):=fun hx g=>decide_eq_decide.mpr ⟨fun q=>aq.inj (pu hx) hq.1 g q,fun q=>q▸g⟩;obtain⟨hjl,hjt,hjn⟩:=List.findIdx?_eq_some_iff_getElem.mp h;have tA:∀ i (hi:i<us.size) {P:Prop},(∀(hi':i<ls.length),decide (aq p.x u us[i])=decide (ls[i]=u)->P)->P:=fun i hi P k=>ai.get' (i:=i) (b:=us[i]) rl (by rw[Tz];exact TT hi) fun x h1 h2=>by
   obtain⟨hi',e⟩:=SR.mp h1;exact k hi' (e▸ev (Tm h1) h2)
  have hj:j<us.size:=rl.size▸hjl;refine⟨fun g=>call_meets F.slot_list_index ⟨_,ho,rfl⟩ F.entry_list_index (F.args_list_index_2 _ _) (SeqAt.list_indexAt a us n none #[] w (fun y=>decide (aq p.x u y)) j hj (Int.lt_of_lt_of_le (Int.ofNat_lt.mpr (TJ hjl l1)) (by decide)) (tA j hj fun _ e=>e.trans hjt)
   fun m hm hlt=>tA m hm fun hi e=>e.trans (Bool.eq_false_iff.mpr (hjn m hlt))) ⟨ho,fun y hy=>?_,g (p.tok _) _ .tok ⟨_,rfl⟩⟩⟩
  obtain⟨x,hx,g⟩:=ai.mem' rl (Array.mem_toList_iff.mpr hy);have d1:=bp (pu hx) g;have d2:=bp hq.1 e;show SeqAt.EqAt A.in1 p.s y w (decide (aq p.x u y));rw[ev hx g,<- eS (pu hx) g hq.1 e];obtain⟨_,ra⟩:=d1.rd;obtain⟨_,rb⟩:=d2.rd;exact SeqAt.eqAt_reads _ _ A.in1 p.s y w _ _ ra rb d1.lay d2.lay (K8 d1.dep hu)⟩
theorem eA{T:String}{m k:Nat}{vs us:List AV}{x:AV}(hm:Nat.beq m k=true)(hv:vs=us)(M:oO T k x Y us v Y'):oO T m x Y vs v Y':=Ui hm▸hv▸M
theorem vY{m:Nat}{vs:List AV}(h:kj r m vs Y=some (v,Y')):oO "list" m (.ref r) Y vs v Y':=
 ae h fun ls hr h=>bj h (fun hm h=>gW h fun u hu h=>fC h fun q=>eA hm hu (yL hr (SO q))) fun _ h=>
  bj h (fun hm h=>gW h fun u hu h=>ae h fun r' h1 h=>ae h fun zs hz h=>fC h fun q=>eA hm (bc h1▸hu) (yK hr hz (SO (SU.mp q).2))) fun _ h=>
  bj h (fun hm h=>gW h fun u hu h=>bj h (fun q h=>dt (P:=oO "list" m (.ref r) Y vs) h fun j hj=>eA hm hu (BO hr q hj)) fun _ h=>nomatch h) fun _ h=>
  bj h (fun q h=>dt (P:=oO "list" m (.ref r) Y vs) h fun u hu=>eA (SU.mp q).1 (List.isEmpty_iff.mp (SU.mp q).2) (Fb hr hu)) fun _ h=>nomatch h
end
section
variable{c:Cc}{A:Around}{env:Env}{U:En}{Y Y' Y1:St}{p:Pt Y}{Er:Value->Shared->Prop}{s:Shared}{r:Nat}{ls:List (AV×AV)}{k v u d:AV}
theorem Pt.sysm(p:Pt Y){a:Addr}(h:p.ι[r]?=some (a,a)):(a==sysModules)=false:=p.r.sysm (Hp.mem_of (x:=p.x) h)
theorem Fc(hr:aN Y r=some ls)(hk:k.pur=true):oO "dict" 31 (.ref r) Y [k,d] ((aA ls k).getD d) Y:=⟨"dict.get",F.slot_dict_get,F.type_dict_get,fun{A p w ws} hu rw rs=>
 rw.dctE hr (P:=fun w=>aR A p (call (.builtin "dict.get") (w::ws)) ((aA ls k).getD d) Y) fun a ds n hp _ nd ho hd=>rs.twoE (P:=fun ws=>aR A p (call (.builtin "dict.get") (.ref a::ws)) ((aA ls k).getD d) Y) fun key dd e1 e2=>
  ⟨fun g=>TK F.slot_dict_get ⟨_,ho,rfl⟩ F.entry_dict_get (by
   refine SF (m:=dictGet a key) ((sW (A:=A.in1) p (by show A.units+1+6<cLine;exact u8 hu) ho hd nd hk e1).go fun q o n e=>e.elim (fun e=>?_) fun e=>e.elim fun v e=>e.elim fun w e=>?_)
   ·rw[e.2];show wpAny _ _ (Builtin.Dict.missed a key >>= _) _ _ _;exact SF (wpAny_missed_other (p.sysm hp) (SH ⟨dd,rfl,g q dd n (by rw[e.1];exact V.nx e2 n)⟩))
   ·rw[e.2.1];exact SH ⟨w,rfl,g q w n (by rw[e.1];exact e.2.2)⟩) (F.args_dict_get_3 _ _ _)⟩⟩
theorem vr{a:Addr}{key dd:Value}{Y':St}(hs:(a==sysModules)=false){ds:Array DictEntry}{n:Nat}(ho:p.s.heap.get? a=some (bT ds n)){Q:Fin->Shared->Prop}(h:wpAny M0 A (dictSetDefault a key dd) (fun v s=>Q (.done (.ret v)) s) Er p.s) :
  wpAny M0 A (Builtin.«dict.setdefault» ⟨[.ref a,key,dd],[]⟩) Q Er p.s:=by
 unfold Builtin.«dict.setdefault»;refine SF ?_;unfold Builtin.Dict.keyAndDefault;refine SF (UB ⟨_,ho,rfl⟩ (SH ?_));show wpAny _ _ (if(a==sysModules)=true then _ else(dictSetDefault a key dd >>= _)) _ _ _
 rw[SL (by rw[hs];exact Tp)]
 exact SF (TG h (fun v s h=>SH h) fun _ _ x=>x)
theorem gw(hr:aN Y r=some ls)(hk:k.pur=true)(h1:∀ u,aA ls k=some u->v=u/\Y'=Y)(h2:aA ls k=none->ls.length+1<=ay/\v=d/\Y'=Y.set r (.dict (ls++[(k,d)]))):oO "dict" 32 (.ref r) Y [k,d] v Y':=⟨"dict.setdefault",F.slot_dict_setdefault,F.type_dict_setdefault,fun{A p w ws} hu rw rs=>
 rw.dctE hr (P:=fun w=>aR A p (call (.builtin "dict.setdefault") (w::ws)) v Y') fun a ds n hp hz nd ho hd=>rs.twoE (P:=fun ws=>aR A p (call (.builtin "dict.setdefault") (.ref a::ws)) v Y') fun key dd e1 e2=>
  ⟨fun{E Q} g=>TK F.slot_dict_setdefault ⟨_,ho,rfl⟩ F.entry_dict_setdefault (vr (Y':=Y') (p.sysm hp) ho (li (A:=A.in1) p hp (by show A.units+1+6<cLine;exact u8 hu) ho hd nd hk e1 e2 hz
   (fun u t w' hu r=>by obtain⟨rfl,rfl⟩:=h1 u hu;exact⟨w',rfl,g (p.tok t) _ .tok r⟩)
   fun hn=>⟨(h2 hn).1,fun q n=>by obtain⟨_,rfl,rfl⟩:=h2 hn;exact⟨dd,rfl,g q dd n (V.nx e2 n)⟩⟩)) (F.args_dict_setdefault_3 _ _ _)⟩⟩
theorem sK{w:Value}(hk:k.pur=true)(r:V k p w):(keyPart w).isSome=true\/∃ a,w=.ref a:=
 bI (x:=p.x) (P:=fun _ _ w=>(keyPart w).isSome=true\/∃ a,w=.ref a) (Ps:=fun _ _ _=>True) (.inl rfl) (fun _=>.inl rfl) (fun _ _=>.inr ⟨_,rfl⟩) trivial (fun _ _=>trivial) hk r
theorem Cv{es:List (AV×AV)}(hn:(es.map (·.1)).Nodup):((eU es k).map (·.1)).Nodup:=List.Nodup.sublist (List.Sublist.map _ UA) hn
theorem oY{a:Addr}{ds:Array DictEntry}{ep:Nat}{es:List (AV×AV)}{key:Value}(p:Pt Y)(hp:p.ι[r]?=some (a,a))(hu:A.units+6<cLine)(ho:p.s.heap.get? a=some (bT ds ep))(hd:ai (DE p.x) es ds.toList)(nd:(es.map (·.1)).Nodup)(hk:k.pur=true)(rk:V k p key)
  (hz:es.length<=ay) (hv:aA es k=some v):Ev (Y':=Y.set r (.dict (eU es k))) (fun q o=>∃ e:DictEntry,o=some e/\V v q e.val) A p (Builtin.Dict.takeOut a key):=⟨fun g=>
 Td (SF (gC p hu hk rk fun t=>SF (gD (p.tok t) hu ho hd nd hk rk (fun h=>nomatch(fj h).symm.trans hv) fun i e d h1 h2 h3 h4=>SF (Ub (s:=(p.tok t).s) ho rfl (by
  have hi:i<ds.size:=(UG.mp h3).1;have hat:At es k i:=by unfold At;rw[h1,<- h2];rfl
  rw[h3];refine SF (wpAny_updateDictKeys (s:=(p.tok t).s) ho rfl (SH (Pt.setD p (es:=eU es k) (h':=p.s.heap.update a (Obj.mapDictKeys fun xs=>xs.eraseIdxIfInBounds i)) hp (Tv ..) (TF _ ho rfl) (SJ (List.length_filter_le _ _) hz) (Cv nd)
   (by show ai _ (eU es k) (ds.eraseIdxIfInBounds i).toList;rw[Array.eraseIdxIfInBounds,dif_pos hi,Array.toList_eraseIdx,Cw nd hat];exact hd.eraseIdx i) fun q n=>g q _ n ⟨d,rfl,?_⟩)) (eZ hd▸aX hz) (by rw[Array.eraseIdxIfInBounds,dif_pos hi,Array.size_eraseIdx];exact SJ (Nat.sub_le _ 1) (T0 _)))
  exact V.nx (p:=p) ((S0 ((h2▸oi nd h1).symm.trans hv))▸h4.val) n)))))⟩
theorem BP(hr:aN Y r=some ls)(hk:k.pur=true)(hv:aA ls k=some v):oO "dict" 29 (.ref r) Y [k] v (Y.set r (.dict (eU ls k))):=⟨"dict.pop",F.slot_dict_pop,F.type_dict_pop,fun{A p w ws} hu rw rs=>
 rw.dctE hr (P:=fun w=>aR A p (call (.builtin "dict.pop") (w::ws)) v (Y.set r (.dict (eU ls k)))) fun a ds n hp hz nd ho hd=>rs.oneE (P:=fun ws=>aR A p (call (.builtin "dict.pop") (.ref a::ws)) v (Y.set r (.dict (eU ls k)))) fun key e=>
  ⟨fun{E Q} g=>TK F.slot_dict_pop ⟨_,ho,rfl⟩ F.entry_dict_pop (by
   show wpAny _ _ (Builtin.«dict.pop» ⟨[.ref a,key],[]⟩) _ _ _;unfold Builtin.«dict.pop»;refine SF ?_;unfold Builtin.Dict.keyAndDefault;refine SF (UB ⟨_,ho,rfl⟩ (SH ?_));have ev:=oY (A:=A.in1) p hp (by show A.units+1+6<cLine;exact u8 hu) ho hd nd hk e hz hv
   have hne:ds.isEmpty=false:=by
    cases hd0:ds.isEmpty with
    | false=>rfl
    | true=>
     have:ds.size=0:=eq_of_beq hd0;rw[eZ hd] at this;rw[List.length_eq_zero_iff.mp this] at hv;exact nomatch hv
   have ed:∀{q:Pt (Y.set r (.dict (eU ls k)))} {e:DictEntry},Nx [] p q->V v q e.val->wpAny M0 A.in1 (do
     if(some e).isNone then Builtin.Dict.missedRemoval a key
     match some e,(none:Option Value) with
      | some e,_=>letGo [e.key] [e.val];PySem.ret e.val
      | none,some x=>rule "dict.pop.default";PySem.ret x
      | none,none=>rule "dict.pop.keyerror";raiseNew (<- newExc (.type "KeyError") [key])) (fun ed s'=>∃ v,ed=.done (.ret v)/\Q v s') E q.s:=fun{q e} n r=>
    SF (SF (Td (wpAny_point (SH (SH ⟨e.val,rfl,g q _ n r⟩)))))
   rcases sK hk e with hkp | ⟨b,rfl⟩
   ·dsimp only;rw[SQ hkp];exact SF (SH (SF (ev.go fun q o n h=>h.elim fun e h=>by rw[h.1];exact ed n h.2)))
   ·dsimp only;rw[SL (by simp[keyPart])]
    refine SF (Ub ho rfl (SF (SH ?_)));rw[hne];exact SF (ev.go fun q o n h=>h.elim fun e h=>by rw[h.1];exact ed n h.2)) (F.args_dict_pop_2 _ _)⟩⟩
theorem yJ(hr:aN Y r=some ls):oO "dict" 34 (.ref r) Y [] (.view r) Y:=⟨"dict.items",F.slot_dict_items,F.type_dict_items,fun{A p w ws} hu rw rs=>
 rw.dctE hr (P:=fun w=>aR A p (call (.builtin "dict.items") (w::ws)) (.view r) Y) fun a ds n hp hz nd ho hd=>rs.nilE (P:=fun ws=>aR A p (call (.builtin "dict.items") (.ref a::ws)) (.view r) Y)
  ⟨fun{E Q} g=>TK F.slot_dict_items ⟨_,ho,rfl⟩ F.entry_dict_items (by
   show wpAny _ _ (Builtin.«dict.items» ⟨[.ref a],[]⟩) _ _ _;unfold Builtin.«dict.items»;refine SF ?_;unfold Builtin.Dict.noArgs;refine SF (UB ⟨_,ho,rfl⟩ (SH ?_));show wpAny _ _ (Builtin.Dict.showsAll a >>= _) _ _ _;unfold Builtin.Dict.showsAll;rw[SL (by rw[p.sysm hp];exact Tp)]
   exact SF (SH (SF (TZ (SH ⟨_,rfl,p.push fun q n _ i=>g q _ n ⟨_,(a,a),rfl,n.wk.get hp,i⟩⟩))))) (F.args_dict_items_1 _)⟩⟩
theorem wE{m:Nat}{vs:List AV}(h:kA r m vs Y=some (v,Y')):oO "dict" m (.ref r) Y vs v Y':=
 ae h fun ls hr h=>bj h (fun hm h=>kU h fun k d hu h=>fC h fun q=>eA hm hu (Fc hr q)) fun _ h=>
  bj h (fun hm h=>kU h fun k d hu h=>bj h (fun q h=>eA hm hu (bu h
   (fun h=>aI h fun u h1 e=>gw hr q (fun u' h2=>S0 (h1.symm.trans h2)▸⟨(Prod.mk.inj e).1.symm,(Prod.mk.inj e).2.symm⟩) fun h2=>nomatch h1.symm.trans h2)
   fun h=>cO h fun q2 e=>gw hr q (fun u' h2=>nomatch h2.symm.trans (Option.isNone_iff_eq_none.mp (SU.mp q2).2)) fun _=>⟨SO (SU.mp q2).1,(Prod.mk.inj e).1.symm,(Prod.mk.inj e).2.symm⟩)) fun _ h=>nomatch h) fun _ h=>
  bj h (fun hm h=>gW h fun k hu h=>bj h (fun q h=>dt (P:=oO "dict" m (.ref r) Y vs) h fun j hj=>eA hm hu (BP hr q hj)) fun _ h=>nomatch h) fun _ h=>
  fC h fun q=>eA (SU.mp q).1 (List.isEmpty_iff.mp (SU.mp q).2) (yJ hr)
end
section
variable{c:Cc}{A:Around}{env:Env}{U:En}{Y Y' Y1:St}{p:Pt Y}{Er:Value->Shared->Prop}{s:Shared}{es:List Expr}{xs:List X}{pos:Pos}{m:Nat}{v u:AV}{vs:List AV}
theorem o9{i:Nat}{b:Bool}(h:eJ i=some b):Txt.isspace (aw i)=b:=
 have all:∀ i,i<=6->1<=i->(decide ((aw i).length > 0)&&(aw i).cps.all Unicode.isSpace)=false:=by decide +kernel
 bj h (fun h1 h2=>S0 h2▸all i (S8 (SU.mp h1).2) (S8 (SU.mp h1).1)) fun _ h=>nomatch h
theorem BM{i:Nat}{b:Bool}(h:eJ i=some b):oO "str" 33 (.sym i) Y [] (.bool b) Y:=⟨"str.isspace",F.slot_str_isspace,F.type_str_isspace,fun{A p w ws} hu rw rs=>
 rw.symE (P:=fun w=>aR A p (call (.builtin "str.isspace") (w::ws)) (.bool b) Y) fun t _=>rs.nilE (P:=fun ws=>aR A p (call (.builtin "str.isspace") (_::ws)) (.bool b) Y) ⟨fun g=>PySem.SC.isspace (g p _ (.refl p) (SI Value.bool (o9 h)))⟩⟩
theorem BG{r g:Nat}{q:Nat×List (Nat×AV)}{w:Value}(sxl:oN c es xs)(f:Fm c U p)(hm:m<bP.length)(hq:dR Y r=some q)(hlk:(q.2.lookup m).isNone=true)(hg:dq q.1 m=some g)(rw:V (.ref r) p w)(h1:cU c.C xs U Y=some (vs,Y1))(h2:c.C.fn g (.ref r::vs) Y1=some (v,Y')) :
  G6 m f.A f.env p pos es w v Y':=⟨fun{E Q} pl k=>by
 refine rw.insE hq (P:=fun w=>wpAny M0 f.A (getMethod w (dX m) pl) (fun fx s₂=>wpAny M0 f.A (callWith pos fx.1 fx.2 (jj pos es f.env) []) Q E s₂) E p.s) fun pr hp o=>o.ex.elim fun ds h=>h.elim fun n h=>?_;have F:=p.r.pf.clss q.1 o.lt;have M:=F.meth m g hg hm;refine method_fn p.kin (jC o.obj.h h.1) F.ga F.gx M.1 M.2 (by
  show(lookIn (dX m) (bT ds n)).map (·.isSome)=some false;rw[sU (n:=n) hm h.2 (Option.isNone_iff_eq_none.mp hlk)];rfl) ?_
 exact(iy (first:=[.ref pr.1]) sxl f h1 (c.ok.keep h2) fun q2 ws n rs=>qt c.ok f.R (ai.cons (R:=aq q2.x) (a:=.ref r) ⟨pr,n.wk.get hp,rfl⟩ rs) h2).go k⟩
theorem BF{k:oK}{w:Value}(sxl:oN c es xs)(f:Fm c U p)(hm:m<bP.length)(rw:V u p w)(h0:fm Y u m=some k)(h1:cU c.C xs U Y=some (vs,Y1))(h2:kE c.C k u m vs Y1=some (v,Y')):G6 m f.A f.env p pos es w v Y':=
 bu h0 (fun h0=>ae h0 fun r hr h0=>bu h0 (fun h0=>ae h0 fun q hq h0=>bj h0 (fun hlk h0=>aI h0 fun g hg e=>by
   cases e
   cases bc hr
   exact BG sxl f hm hq hlk hg rw h1 h2) fun _ h=>nomatch h)
  fun h0=>bu h0 (fun h0=>aI h0 fun ls hl e=>by
   cases e
   cases bc hr
   exact rw.lstE hl (P:=fun w=>V (.ref r) p w->G6 m f.A f.env p pos es w v Y') (fun a ws n _ _ ho _ rw=>kf (w:=.ref a) (vY h2) F.plainAttrs_list ⟨_,ho,rfl⟩ (fun a e=>by cases e;exact⟨_,ho,rfl⟩) sxl f rw h1) rw)
  fun h0=>aI h0 fun ls hl e=>by
   cases e
   cases bc hr
   exact rw.dctE hl (P:=fun w=>V (.ref r) p w->G6 m f.A f.env p pos es w v Y') (fun a ws n _ _ _ ho _ rw=>kf (w:=.ref a) (wE h2) F.plainAttrs_dict ⟨_,ho,rfl⟩ (fun a e=>by cases e;exact⟨_,ho,rfl⟩) sxl f rw h1) rw)
 fun h0=>aI h0 fun i hi e=>by
  cases e
  cases cy hi
  exact bj h2 (fun q h=>jX (P:=G6 m f.A f.env p pos es w) h fun v hv=>aI hv fun b hb e=>by
   have q:=SU.mp q
   cases e
   exact rw.symE (P:=fun w=>V (.sym i) p w->G6 m f.A f.env p pos es w (.bool b) Y1) (fun t _ rw=>by
    have M:oO "str" m (.sym i) Y1 vs (.bool b) Y1:=eA q.1 (List.isEmpty_iff.mp q.2) (BM hb);have hT:p.s.TypeIs (.str (aw i) t) "str":=typeIs_str _ _ _;have hd:∀ a,Value.str (aw i) t=.ref a->∃ o,p.s.heap.get? a=some o/\o.dict=none:=fun a e=>nomatch e
    have pa:PlainAttrs "str":=F.plainAttrs_str;exact kf M pa hT hd sxl f rw h1) rw) fun _ h=>nomatch h
theorem AP{o:Expr}{nm:Str}{apos:Pos}{a:X}(hp:apos.endLine=pos.line)(hl:es.length<30)(hm:be bP nm=some m)(so:SX c o a)(sxl:oN c es xs):SX c (.Call (.Attribute o nm apos) es [] pos) (.meth a m xs):=.of fun{U Y Y' p} f v h=>
 aF h fun u Y1 h1 h=>ae h fun k h0 h=>aF h fun vs Y2 h2 h=>⟨fun{E Q} g=>by
  rw[(ew hm).2];exact vV so hp hl sxl ((so.v f h1).go fun q w n r pl=>(BF sxl (f.nx n) (ew hm).1 r h0 h2 h).go pl fun q2 w2 n2 r2=>g q2 w2 (n.trans n2) r2)⟩
end
section
variable{c:Cc}{A:Around}{env:Env}{U:En}{Y Y' Y1:St}{p:Pt Y}{Er:Value->Shared->Prop}{s:Shared}{v u:AV}{vs:List AV}
def uS(is:List Int)(ws:List Value):Prop:=∃ xs:List (Int×Tok),ws=xs.map (fun p=>.int p.1 p.2)/\is=xs.map (·.1)
theorem sO{vs:List AV}:∀{is:List Int} {ws:List Value},cC vs=some is->VL vs p ws->uS is ws:=by
 induction vs with
 | nil=>exact fun hi r=>r.nilE (S0 hi▸⟨[],rfl,rfl⟩)
 | cons v vs ih=>exact fun hi r=>ae hi fun i h1 h=>aI h fun is h2 e=>e▸r.consE fun w ws h3 t=>(ih h2 t).elim fun xs h=>V.int (p:=p) (P:=fun w=>uS (i::is) (w::ws)) (br h1▸h3) fun t=>⟨(i,t)::xs,SI _ h.1,SI _ h.2⟩
theorem kw(l:List Int):∀(i:Int),(l.foldl max i)∈i::l/\∀ x∈i::l,x<=l.foldl max i:=by
 induction l with
 | nil=>exact fun i=>⟨.head _,fun x hx=>(SY.mp hx)▸Int.le_refl _⟩
 | cons a l ih=>
  refine fun i=>⟨(SW.mp (ih (max i a)).1).elim (fun g=>?_) fun g=>.tail _ (.tail _ g),fun x hx=>?_⟩
  ·rw[List.foldl_cons,g];exact(Int.le_total i a).elim (fun q=>by rw[Int.max_eq_right q];exact .tail _ (.head _)) fun q=>by rw[Int.max_eq_left q];exact .head _
  ·have h0:=(ih (max i a)).2 _ (.head _);exact(SW.mp hx).elim (fun e=>Int.le_trans (e▸Int.le_max_left i a) h0) fun hx=>(SW.mp hx).elim (fun e=>Int.le_trans (e▸Int.le_max_right i a) h0) fun hx=>(ih (max i a)).2 x (.tail _ hx)
theorem wo{xs:List (Int×Tok)}{ws:Array Value}(h:ws.toList=xs.map fun p=>Value.int p.1 p.2):ws=intItems xs.toArray:=by
 rw[<- Array.toArray_toList (xs:=ws),h];unfold intItems;rw[List.map_toArray]
theorem ur{i:Nat}{w:Value}{is:List Int}{P:Value->Prop}(rv:V (.ref i) p w)(hr:aj Y i=some vs)(hi:cC vs=some is)(k:∀ a (xs:List (Int×Tok)),is=xs.map (·.1)->p.s.heap.IsList a (intItems xs.toArray)->P (.ref a)):P w:=
 rv.lstE hr fun a ws n _ _ ho r=>(sO hi r).elim fun xs h=>k a xs h.2 (wo h.1▸cB ho)
theorem Pt.more(p:Pt Y){h':Heap}{Q:Shared->Prop}{t:Nat}{d:Drawn}(hk:∀ b o,p.s.heap.get? b=some o->h'.get? b=some o)(k:∀ q:Pt Y,Nx [] p q->q.s.heap=h'->(∀ a o,p.s.heap.get? a=none->h'.get? a=some o->fH q.x a o)->Q q.s):Q ⟨h',p.s.gens,d,t,p.s.os⟩:=
 p.grow [] hk (fun _ h=>nomatch h) .nil fun q n e _ f=>k q n e fun a o h=>f a o h nofun
theorem zW{i:Nat}{w:Value}{j:Int}{is:List Int}(hh:A.handled=none)(rv:V (.ref i) p w)(hr:aj Y i=some vs)(hi:cC vs=some (j::is)):aR A p (call (.builtin "max") [w]) (.int (is.foldl max j)) Y:=
 ur rv hr hi (P:=fun w=>aR A p (call (.builtin "max") [w]) (.int (is.foldl max j)) Y) fun a xs e hl=>by
  have hne:0<xs.toArray.size:=by
   cases xs with
   | nil=>cases e
   | cons _ _=>exact Nat.succ_pos _
  have sz:xs.toArray.size=xs.length:=rfl;refine⟨fun g=>max_intList hh hl hne fun v h' tk hv hk=>?_⟩;obtain⟨t,rfl⟩:=intItems_at hv;have h1:=argBest_gt (numAt xs.toArray) (xs.toArray.size-1);have m:=kw is j;have aa:∀(i:Nat) (h:i<xs.length),numAt xs.toArray i=(xs[i]).1:=fun i h=>by simp[numAt,h]
  have hb:argBest (fun i j=>decide (numAt xs.toArray i > numAt xs.toArray j)) (xs.toArray.size-1)<xs.length:=Tj h1.1 (Nat.sub_lt hne Nat.one_pos);have eq:numAt xs.toArray (argBest (fun i j=>decide (numAt xs.toArray i > numAt xs.toArray j)) (xs.toArray.size-1))=is.foldl max j:=by
   refine Int.le_antisymm (m.2 _ (e▸Ta.mpr ⟨_,List.getElem_mem hb,(aa _ hb).symm⟩)) ?_;obtain⟨q,hq,hq2⟩:=Ta.mp (e▸m.1);obtain⟨i,hi,rfl⟩:=List.mem_iff_getElem.mp hq;exact hq2▸aa i hi▸h1.2 i (Nat.le_sub_one_of_lt (sz▸hi))
  rw[eq];exact p.more hk fun q n _ _=>g q _ n ⟨t,rfl⟩
theorem zU{i:Nat}{w:Value}{is:List Int}(hh:A.handled=none)(rv:V (.ref i) p w)(hr:aj Y i=some vs)(hi:cC vs=some is):aR A p (call (.builtin "sum") [w]) (.int is.sum) Y:=
 ur rv hr hi (P:=fun w=>aR A p (call (.builtin "sum") [w]) (.int is.sum) Y) fun a xs e hl=>⟨fun g=>sum_intListG hh hl fun h' tk t' hk=>by
  rw[preSum_eq,show xs.toArray.toList.map (·.1)=is from e.symm,List.take_of_length_le (by rw[e,S7];exact SN xs.length)]
  exact p.more hk fun q n _ _=>g q _ n ⟨t',rfl⟩⟩
theorem iQ{it:Addr}{T:String}{o:Obj}{ws:Array Value}{m:Nat}(hT:T="list"\/T="tuple")(ho:p.s.heap.get? it=some o)(hc:o.cls=.type T)(hd:o.data=.seq ws m)(hl:vs.length<=ay)(hx:VL vs p ws.toList) :
  aR A p (call (.type "list") [.ref it]) (.ref Y.length) (Y++[.list vs]):=
 ⟨fun g=>call_list_seq it hT ho hc hd (fun h' c' hk hg=>p.newL (TV (SN _)) hk hg hl hx fun q n v=>g q _ n v) (hx.size▸aX hl)⟩
theorem rP(l:List Value):∀(b:Nat),(∀(j:Nat) (v:Value),l[j]?=some v->∃ t,v=Value.int ((b+j:Nat):Int) t)->VL ((List.range' b l.length).map fun(i:Nat)=>AV.int i) p l:=by
 induction l with
 | nil=>exact fun _ _=>.nil
 | cons v l ih=>exact fun b h=>.cons (R:=aq p.x) (h 0 v rfl) (ih (b+1) fun j u hu=>(h (j+1) u hu).imp fun t e=>e.trans (SI (fun k:Nat=>Value.int (k:Int) t) (u9)))
theorem pH{k:Nat}{acc:Array Value}(hi:PySem.ItemsOf (fun(i:Nat) (v:Value)=>∃ t,v=Value.int ((0:Int)+i*1) t) acc k):VL ((List.range k).map fun(i:Nat)=>AV.int i) p acc.toList:=by
 rw[List.range_eq_range',<- hi.1,<- Um];exact rP acc.toList 0 fun j v hj=>(hi.2 j v (Tz▸hj)).imp fun t e=>by rw[e,Int.mul_one,Int.zero_add,T7]
end
open AutoSeq1 (wpAny_loadPart')
theorem eQ(l:Addr)(items:Array Value)(n:Nat) :
  Meets (Builtin.«enumerate.__new__» ⟨[.type "enumerate",.ref l],[]⟩) (fun _ R s=>s.heap.get? l=some (bW items n)/\
   R (.ok (.ret (.ref (s.heap.push { cls:=.type "tuple_iterator",data:=.fields #[.ref l,.int 0 0] }).objs.size)))
    {s with heap:=(s.heap.push { cls:=.type "tuple_iterator",data:=.fields #[.ref l,.int 0 0] }).push { cls:=.type "enumerate",data:=.fields #[.none,.bool false,.ref s.heap.objs.size,rawInt 0,.none,.none] } }):=
 .of_wp fun ak w A R s h=>by
  obtain⟨hp,g,d,tk,os⟩:=s;obtain⟨hl,h⟩:=h;have hsub:=sub_enumerate;have hL:Heap.IsTuple (Shared.heap ⟨hp,g,d,tk,os⟩) l items:=⟨_,hl,rfl,n,rfl⟩
  wp_walk using wpAny_loadPart' hl
  refine wpAny_stack_any fun st=>SH ?_;refine Bool.rec (motive:=fun b=>wpAny _ _ (if b=true then _ else _) _ _ _) ?_ ?_ _
  ·wp_walk using wpAny_loadPart' hl,wpAny_pyIter_tuple hL
   exact⟨_,rfl,h⟩
  ·wp_walk using wpAny_loadPart' hl,wpAny_pyIter_tuple hL
   exact⟨_,rfl,h⟩
noncomputable abbrev tN(h:Heap)(l1:Addr):Heap:=h.push { cls:=.type "tuple_iterator",data:=.fields #[.ref l1,.int 0 0] }
noncomputable abbrev tM(h:Heap)(l1 l2:Addr):Heap:=(tN h l1).push { cls:=.type "tuple_iterator",data:=.fields #[.ref l2,.int 0 0] }
noncomputable abbrev tL(h:Heap)(l1 l2:Addr):Heap:=(tM h l1 l2).push { cls:=.type "tuple",data:=.seq #[.ref h.objs.size,.ref (tN h l1).objs.size] }
noncomputable abbrev tK(h:Heap)(l1 l2:Addr):Heap:=(tL h l1 l2).push { cls:=.type "tuple",data:=.seq #[.none,.none] }
noncomputable abbrev jH(h:Heap)(l1 l2:Addr):Heap:=(tK h l1 l2).push { cls:=.type "zip",data:=.fields #[.none,.bool false,.bool false,.ref (tM h l1 l2).objs.size,.ref (tL h l1 l2).objs.size] }
theorem kh(l1 l2:Addr)(xs ys:Array Value) :
  Meets (Builtin.«zip.__new__» ⟨[.type "zip",.ref l1,.ref l2],[]⟩) (fun _ R s=>s.heap.IsTuple l1 xs/\s.heap.IsTuple l2 ys/\
   R (.ok (.ret (.ref (tK s.heap l1 l2).objs.size))) { s with heap:=jH s.heap l1 l2 }):=
 .of_wp fun ak w A R s h=>by
  obtain⟨hp,g,d,tk,os⟩:=s;obtain⟨hl1,hl2,h⟩:=h;have hsub:=sub_zip;have hL1:Heap.IsTuple (Shared.heap ⟨hp,g,d,tk,os⟩) l1 xs:=hl1;have hL2:Heap.IsTuple (Shared.heap ⟨hp.push { cls:=.type "tuple_iterator",data:=.fields #[.ref l1,.int 0 0] },g,d,tk,os⟩) l2 ys:=Heap.IsTuple.push hl2 _
  wp_walk using wpAny_pyIter_tuple hL1,wpAny_pyIter_tuple hL2
  exact⟨_,rfl,h⟩
section
variable{c:Cc}{A:Around}{env:Env}{U:En}{Y Y' Y1:St}{p:Pt Y}{Er:Value->Shared->Prop}{s:Shared}{v u:AV}{vs:List AV}{w:Value}
abbrev re(κ:List Addr)(A:Around)(p:Pt Y)(m:Sem Value)(v:AV)(Y':St):Prop:=Ev (Y':=Y') (E κ v) A p m
theorem aW{h:Heap}{a:Addr}(ha:h.objs.size<=a):h.get? a=none:=TV ha
theorem E.of_it{κ:List Addr}(hv:v.isIt=true)(h:Hm κ p w v):E κ v p w:=⟨fun e=>(nomatch hv.symm.trans e),fun _=>⟨κ,fun _=>id,h⟩⟩
theorem Ja{P:Addr->Prop}{a b:Addr}(h1:P a)(h2:P b):∀ c,c∈[a,b]->P c:=fun c h=>(SW.mp h).elim (fun e=>e▸h1) fun h=>(SY.mp h)▸h2
theorem zC(rv:V (.tup vs) p w):re p.κ A p (call (.type "enumerate") [w]) (.enm (.tup vs)) Y:=
 rv.tupE (P:=fun w=>re p.κ A p (call (.type "enumerate") [w]) (.enm (.tup vs)) Y) fun l ws m hl im hx=>⟨fun g=>by
  refine callType_new PySem.F.called_enumerate (by decide) (PySem.F.typeCall_enumerate_1 _) (PySem.F.newCall_enumerate_1 _) (fun obj=>PySem.F.args_object_init_2 obj _) PySem.F.entry_enumerate_new (eQ l ws m) ⟨im.h,?_⟩
  have hz:(p.s.heap.push { cls:=.type "tuple_iterator",data:=.fields #[.ref l,.int 0 0] }).objs.size=p.s.heap.objs.size+1:=Ul ..;have he:=Ti (p.s.heap.push { cls:=.type "tuple_iterator",data:=.fields #[.ref l,.int 0 0] }) (o:={ cls:=.type "enumerate",data:=.fields #[.none,.bool false,.ref p.s.heap.objs.size,rawInt 0,.none,.none] }) rfl;have hi:=S9 { cls:=.type "enumerate",data:=.fields #[.none,.bool false,.ref p.s.heap.objs.size,rawInt 0,.none,.none] } (Ti p.s.heap (o:={ cls:=.type "tuple_iterator",data:=.fields #[.ref l,.int 0 0] }) rfl);show _/\_;rw[hz] at he ⊢;refine⟨⟨_,he,rfl⟩,p.grow [p.s.heap.objs.size+1,p.s.heap.objs.size] (fun _ _ e=>S9 _ (S9 _ e)) (Ja (P:=fun a=>p.s.heap.get? a=none/\∃ o,Heap.get? (Heap.push _ _) a=some o) ⟨aW (T0 _),_,he⟩ ⟨aW (SN _),_,hi⟩) (Tq.mpr ⟨fun h=>Nat.succ_ne_self _ (SY.mp h),Tq.mpr ⟨nofun,.nil⟩⟩) fun q n eh hκ _=>g q _ n (.of_it rfl
   ⟨_,p.s.heap.objs.size,l,ws,m,rfl,⟨hκ _ (.head _),hκ _ (.tail _ (.head _)),Nat.succ_ne_self _⟩,⟨eh▸he,_,eh▸hi,rfl,rfl⟩,hl,n.wk.imm im,VL.nx hx n⟩)⟩⟩
theorem zD{r:Nat}(rv:V (.ref r) p w)(hr:aj Y r=some vs):re p.κ A p (call (.type "enumerate") [w]) (.enm (.ref r)) Y:=
 rv.lstE hr (P:=fun w=>re p.κ A p (call (.type "enumerate") [w]) (.enm (.ref r)) Y) fun l ws m hp hl ho hx=>⟨fun g=>call_enumerate_list (cB ho) fun h' he hit hsz hk=>
  p.grow [p.s.heap.objs.size+1,p.s.heap.objs.size] hk (Ja (P:=fun a=>p.s.heap.get? a=none/\∃ o,h'.get? a=some o) ⟨aW (T0 _),_,he⟩ ⟨aW (SN _),hit.imp fun _ h=>h.1⟩)
   (Tq.mpr ⟨fun h=>Nat.succ_ne_self _ (SY.mp h),Tq.mpr ⟨nofun,.nil⟩⟩) fun q n eh hκ _=>g q _ n (.of_it rfl ⟨_,p.s.heap.objs.size,l,rfl,⟨hκ _ (.head _),hκ _ (.tail _ (.head _)),Nat.succ_ne_self _⟩,⟨eh▸he,eh▸hit⟩,n.wk.get hp⟩)⟩
theorem Pt.growO(p:Pt Y){h':Heap}{Q:Shared->Prop}{t:Nat}{d:Drawn}{a:Addr}{o:AO}(L:List Addr)(hk:∀ a o,p.s.heap.get? a=some o->h'.get? a=some o)(hn:∀ b,b∈a::L->p.s.heap.get? b=none/\∃ o,h'.get? b=some o)(nd:(a::L).Nodup)
  (ho:eg ⟨p.ι++[(a,a)],L++p.κ,h'⟩ (a,a) o) (k:∀ q:Pt (Y++[o]),Nx [] p q->q.s.heap=h'->(∀ b,b∈L->b∈q.κ/\b∉p.κ)->q.ι[Y.length]?=some (a,a)->Q q.s):Q ⟨h',p.s.gens,d,t,p.s.os⟩:=
 have g:=p.r.grow (y:=⟨p.ι++[(a,a)],L++p.κ,h'⟩) (os:=[o]) (e:=[(a,a)]) (L:=L) rfl rfl hk hn nd rfl fun _ i _ _=>rX (P:=eg ⟨p.ι++[(a,a)],L++p.κ,h'⟩) ho i
 k ⟨p.ι++[(a,a)],L++p.κ,⟨h',p.s.gens,d,t,p.s.os⟩,g.2⟩ ⟨g.1,fun _ h=>.inr ⟨Tx _ h,(p.r.alive _ (Hp.mem_κ (x:=p.x) h)).2.elim fun _ e=>(hk _ _ e).trans e.symm⟩,rfl,rfl⟩ rfl
  (fun b hb=>⟨Tl _ hb,fun hm=>p.r.none_not (hn b (.tail _ hb)).1 (Hp.mem_κ (x:=p.x) hm)⟩) (tz p.r.len)
theorem Pv{k:Nat}:[k+3,k+4,k+2,k,k+1].Nodup/\[k+4,k+2,k+3,k,k+1].Nodup:=by
 have h:∀ l:List Nat,l.Nodup->(l.map (k+·)).Nodup:=fun l h=>List.pairwise_map.mpr (h.imp fun a b=>a (Nat.add_left_cancel b));exact⟨h [3,4,2,0,1] (by decide),h [4,2,3,0,1] (by decide)⟩
theorem NF{k:Nat}{P:Nat->Prop}(h4:P (k+4))(h2:P (k+2))(h0:P k)(h1:P (k+1)):∀ a,a∈[k+4,k+2,k,k+1]->P a:=fun a h=>
 (SW.mp h).elim (fun e=>e▸h4) fun h=>(SW.mp h).elim (fun e=>e▸h2) fun h=>(SW.mp h).elim (fun e=>e▸h0) fun h=>(SY.mp h)▸h1
theorem AA{us:List AV}{w':Value}(rv:V (.tup vs) p w)(ru:V (.tup us) p w'):re p.κ A p (call (.type "zip") [w,w']) (.zp (.tup (.ref Y.length::vs)) (.tup us)) (Y++[.hid]):=
 rv.tupE (P:=fun w=>re p.κ A p (call (.type "zip") [w,w']) (.zp (.tup (.ref Y.length::vs)) (.tup us)) (Y++[.hid])) fun l1 ws m hl im hx=>ru.tupE (P:=fun w'=>re p.κ A p (call (.type "zip") [.ref l1,w']) (.zp (.tup (.ref Y.length::vs)) (.tup us)) (Y++[.hid])) fun l2 zs m' hl' im' hx'=>⟨fun g=>by
  refine callType_new PySem.F.called_zip (by decide) (PySem.F.typeCall_zip_2 _ _) (PySem.F.newCall_zip_2 _ _) (fun obj=>PySem.F.args_object_init_3 obj _ _) PySem.F.entry_zip_new (kh l1 l2 ws zs) ⟨⟨_,im.h,rfl,m,rfl⟩,⟨_,im'.h,rfl,m',rfl⟩,?_⟩
  generalize hH:p.s.heap=H;have z1:(tN H l1).objs.size=H.objs.size+1:=Ul ..;have z2:(tM H l1 l2).objs.size=H.objs.size+2:=by rw[Ul,z1]
  have z3:(tL H l1 l2).objs.size=H.objs.size+3:=by rw[Ul,z2]
  have z4:(tK H l1 l2).objs.size=H.objs.size+4:=by rw[Ul,z3]
  have g5:(jH H l1 l2).get? (tK H l1 l2).objs.size=some _:=Ti _ rfl;have g4:(jH H l1 l2).get? (tL H l1 l2).objs.size=some _:=S9 _ (Ti _ rfl);have g3:(jH H l1 l2).get? (tM H l1 l2).objs.size=some _:=S9 _ (S9 _ (Ti _ rfl));have g2:(jH H l1 l2).get? (tN H l1).objs.size=some _:=S9 _ (S9 _ (S9 _ (Ti _ rfl)));have g1:(jH H l1 l2).get? H.objs.size=some _:=S9 _ (S9 _ (S9 _ (S9 _ (Ti _ rfl))));show _/\_;rw[z2,z3,z4] at g5;rw[z1,z2] at g3;rw[z3] at g4;rw[z1] at g2;rw[z4];subst hH;have nn:∀ k,p.s.heap.get? (p.s.heap.objs.size+k)=none:=fun k=>aW (TH _ _);refine⟨⟨_,g5,rfl⟩,p.growO (o:=.hid) (a:=p.s.heap.objs.size+3) [p.s.heap.objs.size+4,p.s.heap.objs.size+2,p.s.heap.objs.size,p.s.heap.objs.size+1]
   (fun c o x=>S9 _ (S9 _ (S9 _ (S9 _ (S9 _ x)))))
   (fun b hb=>(SW.mp hb).elim (fun e=>e▸⟨nn 3,_,g4⟩) (NF (P:=fun b=>p.s.heap.get? b=none/\∃ o,(jH p.s.heap l1 l2).get? b=some o) ⟨nn 4,_,g5⟩ ⟨nn 2,_,g3⟩ ⟨nn 0,_,g1⟩ ⟨nn 1,_,g2⟩ b)) Pv.1 ⟨rfl,_,_,g4⟩ fun q n eh hκ hp=>g q _ n (.of_it rfl
   ⟨_,p.s.heap.objs.size+2,p.s.heap.objs.size+3,p.s.heap.objs.size,p.s.heap.objs.size+1,l1,l2,ws,zs,m,m',rfl,⟨hκ,Pv.2⟩,hp,⟨eh▸g5,eh▸g3,eh▸g4,⟨_,eh▸g1,rfl,rfl⟩,⟨_,eh▸g2,rfl,rfl⟩⟩,⟨hl,n.wk.imm im,VL.nx hx n⟩,⟨hl',n.wk.imm im',VL.nx hx' n⟩⟩)⟩⟩
end
theorem eR{A:Around}{E:Value->Shared->Prop}{a:Addr}{xs:Array Value}{k:Nat}{name:Str}{u:Tok}{h:Heap}{g:Array GenState}{d:Drawn}{tk:Nat}{os:OsState}{Q:Value->Shared->Prop}
  (hx:h.get? a=some (bW xs k)) (hmiss:typeLookup (.type "tuple") name=pure none) (hname:(["__module__","__name__","__qualname__","__doc__","__annotations__"]:List Str).contains name=false) (hA:A.handled=none)
  (hE:∀ h' tk e,Heap.NewExcOf h h' e "AttributeError"->E (.ref e) ⟨h',g,d,tk,os⟩) (hsz:name.length+100<=sizeLine) :
  wpAny M0 A (getAttrBy (.ref a) (.str name u) false) Q E ⟨h,g,d,tk,os⟩:=by
 have hT:∀ tk',(⟨h,g,d,tk',os⟩:Shared).TypeIs (.ref a) "tuple":=fun _=>⟨_,hx,rfl⟩;have f1:=sub_AttributeError;have f3:=PySem.F.slot_tuple_getattribute.lookup;have f4:=PySem.F.slot_tuple_getattribute.bind (.ref a);have f5:=am_tuple_getattr_none;unfold getAttrBy
 repeat (any_goals (first | assumption | exact hT _ | ((with_reducible show wpAny _ _ (call (Value.builtin "tuple.__getattribute__") _ _) _ _ _);refine call_meets PySem.F.slot_tuple_getattribute (hT _) am_entry_tuple_getattribute (PySem.F.args_tuple_getattribute_2 _ _) (meets_getattribute_miss_tuple a xs k #[] name _ hmiss hname hsz) ⟨hx,hA,fun h' tk' e hx'=>?_⟩) | wp_step))
 obtain⟨t',u',he⟩:=hx'.there;show wpAny _ _ (getattributeRaised _ _ _ _ _ _ _) _ _ _;unfold getattributeRaised
 repeat (any_goals (first | assumption | wp_step))
 exact hE _ _ _ hx'.of
theorem lj:typeLookup (.type "tuple") "keys"=pure none:=by rw[typeLookup_type,builtinLookup_eq_fast];kernel_rfl
theorem rj{A:Around}{E:Value->Shared->Prop}{s:Shared}{a:Addr}{xs:Array Value}{k:Nat}{Q:Option Value->Shared->Prop}(hx:s.heap.get? a=some (bW xs k))(hA:A.handled=none)
  (h:∀ h' tk,(∀ b o,s.heap.get? b=some o->h'.get? b=some o)->Q none { s with heap:=h',toks:=tk }):wpAny M0 A (getAttr? (.ref a) "keys") Q E s:=by
 obtain⟨hp,g,d,tk,os⟩:=s;unfold getAttr? getAttrBy? mkText;refine SF (SF (wpAny_fresh (SH (SF (wpAny_attempt ?_)))));refine eR hx lj (by decide +kernel) hA (fun h' tk' e x=>?_) (by rw[sizeLine_eq];decide +kernel)
 obtain⟨ob,vs,h1,h2,_⟩:=x.there;refine SF (wpAny_isInstance (T:="AttributeError") (b:=true) ⟨ob,h1,h2⟩ sub_AttributeError ?_);exact SH (h h' tk' x.keeps)
section
variable{c:Cc}{A:Around}{env:Env}{U:En}{Y Y' Y1:St}{p:Pt Y}{Er:Value->Shared->Prop}{s:Shared}{v u:AV}{vs:List AV}{w:Value}{es:List (AV×AV)}{ds:Array DictEntry}{m:Nat}
theorem DE.sym{x:Hp}{e:AV×AV}{d:DictEntry}(h:DE x e d)(hs:e.1.isSym=true):(keyPart d.key).isSome=true:=by
 obtain⟨k,v⟩:=e
 cases k with
 | sym i=>exact h.key.2.elim fun t q=>by rw[q];rfl
 | _=>cases hs
theorem CV{x:Hp}(hd:ai (DE x) es ds.toList)(hs:es.all (fun e=>e.1.isSym)=true):(ds.all fun e=>(keyPart e.key).isSome)=true:=by
 rw[<- Array.all_toList];exact ai.ind (P:=fun(es:List (AV×AV)) (ds:List DictEntry)=>es.all (fun e=>e.1.isSym)=true->ds.all (fun e=>(keyPart e.key).isSome)=true) (fun _=>rfl) (fun h _ ih q=>SU.mpr ⟨h.sym (SU.mp q).1,ih (SU.mp q).2⟩) hd hs
theorem xD(nd:(es.map (·.1)).Nodup){i:Nat}{e:AV×AV}(h:es[i]?=some e):e.1∉(es.take i).map (·.1):=fun hm=>by
 obtain⟨j,hj⟩:=Uc.mp hm;rw[List.map_take] at hj;have hlt:j<i:=TJ (SR.mp hj).1 (List.length_take_le _ _);rw[List.getElem?_take_of_lt hlt] at hj;have h1:(es.map (·.1))[i]?=some e.1:=by rw[TD,h];rfl
 exact SP ((List.getElem?_inj (SR.mp h1).1 nd).mp (h1.trans hj.symm)) (T8 hlt)
theorem qi{o:AO}:(Y++[o])[Y.length]?=some o:=UI
structure MI{τ:St}(p:Pt τ)(Y:St)(es:List (AV×AV))(ds:Array DictEntry)(m:Nat)(b:Addr)(rest:List Nat)(s:Shared):Prop where
 ex:∃(i:Nat) (q:Pt (Y++[.dict (es.take i)])),s=q.s/\Nx [] p q/\rest=List.range' i (ds.size-i)/\i<=ds.size/\q.s.heap.get? b=some (bT ds m)
theorem rQ{x i n:Nat}{rest:List Nat}(h:x::rest=List.range' i (n-i)):i<n/\x=i/\rest=List.range' (i+1) (n-(i+1)):=by
 have hlt:i<n:=Nat.lt_of_not_le fun g=>by rw[Nat.sub_eq_zero_of_le g] at h;exact nomatch h
 rw[show n-i=(n-(i+1))+1 from(Uz (Nat.sub_pos_of_lt hlt)).symm,List.range'_succ] at h;exact⟨hlt,(List.cons.inj h).1,(List.cons.inj h).2⟩
theorem qa{a b:Addr}{nm:String}{p:Pt (Y++[.dict []])}(nd:(es.map (·.1)).Nodup)(h8:es.length<=8)(hs:es.all (fun e=>e.1.isSym)=true)(hu:A.units+6<cLine)(hab:b≠a)(hp:p.ι[Y.length]?=some (a,a))(hb:p.s.heap.get? b=some (bT ds m))(hd:ai (DE p.x) es ds.toList)
  (hsys:(b==sysModules)=false):Ev (Y':=Y++[.dict es]) (fun _ (_:Unit)=>True) A p (Builtin.Dict.mergeDict nm a b):=⟨fun{E Q} g=>by
 unfold Builtin.Dict.mergeDict;rw[SL (by rw[beq_eq_false_iff_ne.mpr (Ne.symm hab)];exact Tp)]
 unfold Builtin.Dict.showsAll;rw[SL (by rw[hsys];exact Tp)]
 refine SF (SH (SF (Ub hb rfl ?_)));dsimp only;have sz:=eZ hd;rw[show(decide (ds.size<=8)&&ds.all fun e=>(keyPart e.key).isSome)=true from SU.mpr ⟨SV (sz▸h8),CV hd hs⟩,SL (by decide)]
 refine SF (Ua hb rfl (SF (Ub hb rfl (SF ?_))));rw[Std.Legacy.Range.forIn_eq_forIn_range'];simp only[Std.Legacy.Range.size,Nat.sub_zero,Nat.add_sub_cancel,Nat.div_one];refine wpAny_forIn_list _ (fun rest _=>MI p Y es ds m b rest) _ (fun x rest _ s' hI=>?_) (fun _ s' hI=>?_) _ _ ⟨0,p,rfl,.refl p,by rw[Nat.sub_zero],Tb _,hb⟩
 ·obtain⟨i,q,rfl,n,hr,hi,hbq⟩:=hI;obtain⟨hlt,rfl,hrest⟩:=rQ hr;refine SF (Ub hbq rfl ?_);rw[TT hlt];refine ai.get' (i:=x) (b:=ds[x]) hd (by rw[Tz];exact TT hlt) fun e h1 h2=>?_
  have h2:=h2.wk n.wk;show wpAny _ _ (holding [ds[x].key,ds[x].val] (dictSetHashed a ds[x].key ds[x].hash ds[x].val) >>= _) _ _ _;rw[h2.hash];have hd2:aU (es.take x) e.1 e.2=es.take (x+1):=by
   rw[cN (xD nd h1),List.take_add_one,h1];rfl
  refine SF (Td (q.dct (iw qi) fun a' ds' n' hp' hz' nd' ho hd'=>?_))
  cases(n.wk.get hp).symm.trans hp'
  have st:=uG q hp' hu ho hd' nd' h2.pur h2.key h2.val hz' (by rw[hd2];exact SJ (List.length_take_le' _ _) (SJ h8 (by decide)))
  rw[hd2,kl] at st;refine st.go fun q2 _ n2 hk=>?_;have hb2:=(hk b hab).trans hbq;refine SF (Ua hb2 rfl ?_);rw[jE];exact SH ⟨x+1,q2,rfl,n.trans n2,hrest,hlt,hb2⟩
 ·obtain⟨i,q,rfl,n,hr,hi,_⟩:=hI;have hin:i=ds.size:=(Nat.lt_or_eq_of_le hi).elim (fun h=>by rw[show ds.size-i=(ds.size-(i+1))+1 from(Uz (Nat.sub_pos_of_lt h)).symm,List.range'_succ] at hr;exact nomatch hr) id
  have e:es.take i=es:=List.take_of_length_le (by rw[hin,sz];exact SN _)
  revert q
  rw[e];exact fun q n _=>SH (g q _ n trivial)⟩
theorem lP{r:Nat}{n:Nat}(R:ch A n)(rv:V (.ref r) p w)(hr:aN Y r=some es)(h8:es.length<=8)(hs:es.all (fun e=>e.1.isSym)=true):aR A p (call (.type "dict") [w]) (.ref Y.length) (Y++[.dict es]):=
 rv.dctE hr (P:=fun w=>aR A p (call (.type "dict") [w]) (.ref Y.length) (Y++[.dict es])) fun b ds m hpb hz nd ho hd=>⟨fun{E Q} g=>by
  refine callType_codes (Q₁:=fun obj s₁=>obj=.ref p.s.heap.objs.size/\s₁={ p.s with heap:=p.s.heap.push { cls:=.type "dict",data:=.dict #[] } }) PySem.F.kt_called_dict (PySem.F.kt_typeCall_dict_1 _) PySem.F.entry_dict_init (kt_code_dict_new _ ⟨rfl,rfl⟩) ?_;intro obj s₁ hh;obtain⟨rfl,rfl⟩:=hh;have hn:p.s.heap.get? p.s.heap.objs.size=none:=aW (SN _);have hab:b≠p.s.heap.objs.size:=fun e=>nomatch(e▸ho).symm.trans hn
  have hnew:=Ti p.s.heap (o:=bT #[] 0) rfl;have ho':=S9 (bT #[] 0) ho;refine⟨⟨_,hnew,rfl⟩,PySem.F.args_dict_init_2 _ _,?_⟩;unfold Builtin.«dict.__init__»;refine SF ?_;unfold Builtin.Dict.selfAndRest;refine SF (UB ⟨_,hnew,rfl⟩ ?_);show wpAny _ _ (pure (p.s.heap.objs.size,[Value.ref b])) _ _ _;refine SH ?_;show wpAny _ _ (Builtin.Dict.updateFrom "dict.__init__" p.s.heap.objs.size (.ref b) [] .none) _ _ _;unfold Builtin.Dict.updateFrom;have hoT:({ p.s with heap:=p.s.heap.push { cls:=.type "dict",data:=.dict #[] } }:Shared).TypeIs (.ref b) "dict":=⟨_,ho',rfl⟩;refine SF (wpAny_typeOf hoT ?_);rw[SL (by decide)]
  refine SF ?_;unfold Builtin.Dict.merge;refine SF ?_;unfold Builtin.Dict.readDirectly;refine SF (wpAny_isInstance hoT isSubtype_dict_dict ?_);rw[Bool.not_true,SL Tp];refine SF (wpAny_specialOf hoT PySem.F.slot_dict_iter.lookup (SH ?_));rw[SQ (beq_self_eq_true _)];refine SF (SH (p.newOH (pr:=(p.s.heap.objs.size,p.s.heap.objs.size)) (o:=.dict []) hn (fun _ _ e=>S9 _ e) (fun _=>⟨rfl,Tb _,Ue,#[],0,hnew,.nil⟩) (fun q n hp e=>?_) ⟨_,hnew⟩));refine(qa nd h8 hs (by show A.units+1+1+6<cLine;have:=R.six;exact Ql this) hab hp (e▸ho') (hd.mono (DE.wk n.wk)) (p.sysm hpb)).go fun q2 _ n2 _=>?_
  show wpAny _ _ (Builtin.Dict.addKeywords p.s.heap.objs.size [] >>= _) _ _ _;exact SF (SH (SH ⟨rfl,g q2 _ (n.trans n2) ⟨_,n2.wk.get hp,rfl⟩⟩))⟩
end
theorem mP:entryFor table "dict.update.loop"=some Builtin.«dict.update.loop»:=entryFor_of_fast (by kernel_rfl)
theorem e6:plainId "dict.update.loop"=true:=by decide +kernel
section
variable{c:Cc}{A:Around}{env:Env}{U:En}{Y Y' Y1:St}{p:Pt Y}{Er:Value->Shared->Prop}{s:Shared}{v u:AV}{vs:List AV}{w:Value}
theorem vG{k d:AV}(h:yo v=some (k,d)):v=.tup [k,d]/\k.pur=true:=ae h fun l h1 h=>kU h fun a b hl h=>cO h fun q e=>by
 cases e
 exact⟨hl▸aC h1,q⟩
theorem CU{α:Type}{l:List α}{x:α}{xs:List α}{i:Nat}(h:l.drop i=x::xs):l[i]?=some x/\l.drop (i+1)=xs:=⟨by rw[<- Nat.add_zero i,<- List.getElem?_drop,h];rfl,by rw[<- List.drop_drop,h];rfl⟩
theorem VL.two{ws:List Value}(h:VL [v,u] p ws):∃ w z,ws=[w,z]/\V v p w/\V u p z:=VL.twoE (P:=fun ws=>∃ w z,ws=[w,z]/\V v p w/\V u p z) h fun w z a b=>⟨w,z,rfl,a,b⟩
theorem VL.one{ws:List Value}(h:VL [v] p ws):∃ w,ws=[w]/\V v p w:=VL.oneE (P:=fun ws=>∃ w,ws=[w]/\V v p w) h fun w a=>⟨w,rfl,a⟩
theorem zG{it l a:Addr}{ws:Array Value}{n i:Nat}{acc:List (AV×AV)}{k d:AV}{p:Pt (Y++[.dict acc])}{w:Value}{R:Result->Shared->Prop}(hu:A.units+12<cLine)(hp:p.ι[Y.length]?=some (a,a))(hit:it∈p.κ)(hi:p.s.heap.IsTupleIter it l i)(il:fH p.x l (bW ws n))(hw:ws[i]?=some w)
  (rp:V (.tup [k,d]) p w) (hk:k.pur=true) (hz:(aU acc k d).length<=ay) (g:∀ q:Pt (Y++[.dict (aU acc k d)]),Nx [it] p q->it∈q.κ->q.s.heap.IsTupleIter it l (i+1)->codeAny M0 A (.builtin "dict.update.loop" ⟨[.ref a,.ref it,rawInt ((i+1:Nat):Int),.none],[]⟩) R q.s) :
  codeAny M0 A (.builtin "dict.update.loop" ⟨[.ref a,.ref it,rawInt i,.none],[]⟩) R p.s:=
 rp.tupE (P:=fun w=>ws[i]?=some w->codeAny M0 A (.builtin "dict.update.loop" ⟨[.ref a,.ref it,rawInt i,.none],[]⟩) R p.s) (fun ta us tn _ it2 ru hw=>by
  have hus:us.toList.length=2:=ru.length.symm;refine codeAny_builtin mP ?_;rw[Around.under_plainId e6];unfold Builtin.«dict.update.loop»;refine SF (wpAny_pyNext_tuple_item hi ⟨_,il.h,rfl,n,rfl⟩ hw fun h1 hit1 hs1=>?_);obtain⟨o1,ho1,hoc,hod⟩:=hit1;refine p.put hit hs1 ho1 fun q nq hq ho=>?_;have ht:q.s.heap.get? ta=some (bW us tn):=(nq.wk.imm it2).h;dsimp only;refine SF (Td (SF (wpAny_tryCatch ?_)));unfold Builtin.Dict.pairItems;refine SF (wpAny_typeOf (T:="tuple") ⟨_,ht,rfl⟩ ?_);rw[SQ (by decide)]
  unfold seqItems?;refine SF (SF (wpAny_load ht (SH (SH ?_))));obtain⟨w1,w2,e,e1,e2⟩:=VL.two (VL.nx ru nq);rw[show((some us:Option (Array Value)).getD #[]).toList=[w1,w2] from e];refine Td (q.dct (iw qi) fun a' ds' n' hp' hz' nd' ho' hd'=>?_)
  cases(nq.wk.get hp).symm.trans hp'
  have st:=sV (A:=A.in1) q hp' (by show A.units+1+6<cLine;exact OL hu) ho' hd' nd' hk e1 e2 hz' hz
  rw[kl] at st;refine st.go fun q2 _ n2 _=>SH ⟨plainId_quiet e6 _,?_⟩;have kp:=n2.kept hq;exact g q2 (nq.trans n2.weak) kp.1 ⟨o1,kp.2.trans ho,hoc,hod⟩) hw
theorem zJ{es:List (AV×AV)}{k d:AV}(nd:(es.map (·.1)).Nodup):(aU es k d).length<=es.length+1:=Ov (k:=k) nd (fun h=>by rw[cN h,SZ];exact SN _) fun i h=>by rw[gI nd h,List.length_modify];exact T0 _
theorem zH{it l a:Addr}{ws:Array Value}{n:Nat}{R:Result->Shared->Prop}(hu:A.units+12<cLine)(hh:A.handled=none){xs:List AV}:∀{ps acc:List (AV×AV)} {i:Nat} {p:Pt (Y++[.dict acc])},ff xs=some ps->p.ι[Y.length]?=some (a,a)->it∈p.κ->p.s.heap.IsTupleIter it l i->
  fH p.x l (bW ws n)->VL xs p (ws.toList.drop i)->acc.length+ps.length<=16->(acc.map (·.1)).Nodup->(∀ q:Pt (Y++[.dict (ps.foldl (fun es p=>aU es p.1 p.2) acc)]),Nx [it] p q->R (.ok (.ret .none)) q.s)->codeAny M0 A (.builtin "dict.update.loop" ⟨[.ref a,.ref it,rawInt i,.none],[]⟩) R p.s:=by
 induction xs with
 | nil=>
  refine @fun ps acc i p hps=>S0 hps▸fun hp hit hi il hx hz nd g=>codeAny_builtin mP ?_;rw[Around.under_plainId e6];unfold Builtin.«dict.update.loop»;refine SF (wpAny_pyNext_tuple_end hh hi ⟨_,il.h,rfl,n,rfl⟩ (UC (Nat.le_of_sub_eq_zero (List.length_drop.symm.trans hx.length.symm))) fun h' hk=>?_);show wpAny _ _ (Builtin.Dict.addKeywords a [] >>= _) _ _ _;exact SF (SH (SH (p.moves hit hk g)))
 | cons x xs ih=>
  refine @fun ps acc i p hps=>ae hps fun kd h1 h=>aI h fun r h2 e=>e▸fun hp hit hi il hx hz nd g=>?_;have he:=vG (k:=kd.1) (d:=kd.2) h1;have hl:(aU acc kd.1 kd.2).length<=acc.length+1:=zJ nd;have hz':acc.length+(r.length+1)<=16:=hz;generalize hws:ws.toList.drop i=wl at hx;refine hx.consE (P:=fun wl=>ws.toList.drop i=wl->_) (fun w wl rw' t hws=>?_) hws;have ad:=CU hws;exact zG hu hp hit hi il (Tz▸ad.1) (he.1▸rw') he.2 (SJ hl (SJ (Qk hz') (show 16<=ay by decide))) fun q nq hq hi2=>ih h2 (nq.wk.get hp) hq hi2 (nq.wk.imm il) (ad.2▸VL.nx t nq) (Qj hl hz') (eD nd) fun q2 n2=>g q2 (nq.trans n2)
theorem lO{n:Nat}{ps:List (AV×AV)}(R:ch A n)(rv:V (.tup vs) p w)(hps:ff vs=some ps)(h8:ps.length<=8):aR A p (call (.type "dict") [w]) (.ref Y.length) (Y++[.dict (ps.foldl (fun es p=>aU es p.1 p.2) [])]):=
 rv.tupE (P:=fun w=>aR A p (call (.type "dict") [w]) (.ref Y.length) (Y++[.dict (ps.foldl (fun es p=>aU es p.1 p.2) [])])) fun l ws m hl il hx=>⟨fun{E Q} g=>by
  refine callType_codes (Q₁:=fun obj s₁=>obj=.ref p.s.heap.objs.size/\s₁={ p.s with heap:=p.s.heap.push { cls:=.type "dict",data:=.dict #[] } }) PySem.F.kt_called_dict (PySem.F.kt_typeCall_dict_1 _) PySem.F.entry_dict_init (kt_code_dict_new _ ⟨rfl,rfl⟩) ?_;intro obj s₁ hh;obtain⟨rfl,rfl⟩:=hh;have hnew:=Ti p.s.heap (o:=bT #[] 0) rfl;refine⟨⟨_,hnew,rfl⟩,PySem.F.args_dict_init_2 _ _,?_⟩;unfold Builtin.«dict.__init__»;refine SF ?_;unfold Builtin.Dict.selfAndRest;refine SF (UB ⟨_,hnew,rfl⟩ ?_);show wpAny _ _ (pure (p.s.heap.objs.size,[Value.ref l])) _ _ _;refine SH ?_;refine p.newOH (pr:=(p.s.heap.objs.size,p.s.heap.objs.size)) (o:=.dict []) (aW (SN _)) (fun _ _ e=>S9 _ e) (fun _=>⟨rfl,Tb _,Ue,#[],0,hnew,.nil⟩) (fun q n hp _=>?_) ⟨_,hnew⟩;have il:=n.wk.imm il;show wpAny _ _ (Builtin.Dict.updateFrom "dict.__init__" p.s.heap.objs.size (.ref l) [] .none) _ _ _;unfold Builtin.Dict.updateFrom;refine SF (wpAny_typeOf (T:="tuple") ⟨_,il.h,rfl⟩ ?_);rw[SQ (by decide)]
  refine SF (rj il.h R.handled fun h2 t2 hk2=>q.more hk2 fun q2 n2 _ _=>?_);rw[SQ (show(none:Option Value).isNone=true from rfl)];have il2:=n2.wk.imm il;refine SF (TM (SF (wpAny_pyIter_tuple ⟨_,il2.h,rfl,m,rfl⟩ (SH ⟨plainId_quiet e6 _,?_⟩))));refine q2.grow [q2.s.heap.objs.size] (fun _ _ e=>S9 _ e) (fun a ha=>SY.mp ha▸⟨aW (SN _),_,Ti _ rfl⟩) (Tq.mpr ⟨nofun,.nil⟩) fun q3 n3 eh hκ _=>?_
  have hκ:=hκ _ (.head _);refine zH (i:=0) (A:=A.in1) (by show A.units+1+12<cLine;have:=R.six;exact Qi this) R.handled hps ((n2.trans n3).wk.get hp) hκ.1 ⟨_,eh▸Ti _ rfl,rfl,rfl⟩ (n3.wk.imm il2) (VL.nx hx (n.trans (n2.trans n3))) (by show 0+ps.length<=16;exact Qh h8) Ue fun q4 n4=>?_
  have n5:Nx [] q2 q4:=(n3.weak.trans n4).more fun b hb hq=>SP (SY.mp hb▸hq) hκ.2;exact⟨rfl,g q4 _ (n.trans (n2.trans n5)) ⟨_,(n2.trans n5).wk.get hp,rfl⟩⟩⟩
end
section
variable{A:Around}{E:Value->Shared->Prop}
theorem xP{S it l:Addr}{items:Array Value}(Inv:Nat->Heap->Prop)(hSl:S≠l)(hSi:S≠it)(hli:l≠it)(hh:A.handled=none)
  (step:∀ i v s (Q:Bool->Shared->Prop),items[i]?=some v->Inv i s.heap->(∀ b h' t,Inv (i+1) h'->Heap.SameBut S s.heap h'->Q b { s with heap:=h',toks:=t })->wpAny M0 A.in1 (setAdd S v) Q (fun _ _=>False) s)
  (keep:∀ i h h',Inv i h->Heap.ExtBut it h h'->Inv i h') :
  ∀(k i:Nat) (s:Shared) (R:Result->Shared->Prop),items.size-i=k->i<=items.size->s.heap.IsListIter it l i->s.heap.IsList l items->Inv i s.heap->
   (∀ h' t,Inv items.size h'->(∀ b o,b≠S->b≠it->s.heap.get? b=some o->h'.get? b=some o)->R (.ok (.ret .none)) { s with heap:=h',toks:=t })->
   codeAny M0 A (.builtin "set.update.loop" ⟨[.ref S,.ref it],[]⟩) R s:=by
 intro k
 induction k with
 | zero=>
  intro i s R hk hi hit hl hI hR;have hin:i=items.size:=TQ hi (Nat.le_of_sub_eq_zero hk);subst hin;refine codeAny_builtin PyProof.Rows.F.entry_set_update_loop ?_;rw[Around.under_plainId PyProof.Rows.F.plain_set_update_loop _];show wpAny _ A.in1 (pyNext (.ref it) >>= _) _ _ s;refine SF (wpAny_pyNext_list_end hh hit hl (by simp) fun h' hk'=>?_)
  show wpAny _ A.in1 (PySem.ret Value.none) _ _ _;exact SH (hR h' s.toks (keep _ _ _ hI hk') fun b o _ hb e=>hk' b o hb e)
 | succ k ih=>
  intro i s R hk hi hit hl hI hR;have hlt:i<items.size:=Nat.lt_of_sub_eq_succ hk;refine codeAny_builtin PyProof.Rows.F.entry_set_update_loop ?_;rw[Around.under_plainId PyProof.Rows.F.plain_set_update_loop _];show wpAny _ A.in1 (pyNext (.ref it) >>= _) _ _ s;have hx:items[i]?=some items[i]:=TT hlt;refine SF (wpAny_pyNext_list_item hit hl hx fun h' hit' hs'=>?_);show wpAny _ A.in1 (holding [items[i]] (setAdd S items[i]) >>= _) _ _ _;have hI':=keep i _ _ hI hs'.extBut;refine SF (Td (TG (step i _ { s with heap:=h' } _ hx hI' fun b h'' t hI'' hs''=>?_) (fun _ _ z=>z) fun _ _ z=>z.elim));refine SH ⟨plainId_quiet PyProof.Rows.F.plain_set_update_loop _,ih (i+1) { s with heap:=h'',toks:=t } R (SI Nat.pred hk) hlt ?_ ?_ hI'' fun h3 t3 hI3 hk3=>?_⟩
  ·exact hit'.extBut hs''.extBut hSi.symm
  ·exact(hl.extBut hs'.extBut hli).extBut hs''.extBut hSl.symm
  ·exact hR h3 t3 hI3 fun b o h1 h2 e=>hk3 b o h1 h2 ((hs''.2 b h1).trans ((hs'.2 b h2).trans e))
theorem pE{s:Shared}(a:Value){Q₁:Value->Shared->Prop}
  (h:Q₁ (.ref s.heap.objs.size) { s with heap:=s.heap.push { cls:=.type "set",dict:=none,data:=.set #[] 0 (.fresh 0 0 (!kG)) } }) :
  codeAny M0 A (.call (.builtin "set.__new__") ⟨[.type "set",a],[]⟩) (wants Q₁ E) s:=by
 refine codeAny_of_tree ?_;show wpAny _ A.in1 (checkBuiltinCall "set.__new__" ⟨[.type "set",a],[]⟩ >>= fun _=>again (.builtin "set.__new__" ⟨[.type "set",a],[]⟩)) _ _ s;refine SF (wpAny_of_eq (PySem.F.newCall_set_1 a) (SH ⟨plainId_quiet PySem.F.plain_set_new _,codeAny_builtin PySem.F.entry_set_new ?_⟩));rw[Around.under_plainId PySem.F.plain_set_new _];unfold Builtin.«set.__new__» Builtin.Frozenset.newClass;have hsub:=sub_set_self;obtain⟨hp,g,d,tk,os⟩:=s;dsimp only
 wp_walk
 refine wpAny_askSetting (SH ?_);dsimp only;simp only[newObj];refine SF (wpAny_alloc (SH ?_));exact SH h
def F9(A:Around)(s:Shared)(E:Value->Shared->Prop)(l:Addr)(items:Array Value)(Q:Value->Shared->Prop)(Inv:Nat->Heap->Prop):Prop:=∀(hh:A.handled=none) (hl:s.heap.IsList l items) (init:∀(h':Heap),h'.get? s.heap.objs.size=some { cls:=.type "set",dict:=none,data:=.set #[] 0 (.fresh 0 0 (!kG)) }->(∀ b o,s.heap.get? b=some o->h'.get? b=some o)->Inv 0 h') (step:∀ i v s₁ (Q:Bool->Shared->Prop),items[i]?=some v->Inv i s₁.heap->(∀ b h' t,Inv (i+1) h'->Heap.SameBut s.heap.objs.size s₁.heap h'->Q b { s₁ with heap:=h',toks:=t })->wpAny M0 A.in1.in1.in1 (setAdd s.heap.objs.size v) Q (fun _ _=>False) s₁) (keep:∀ i h h' it,s.heap.get? it=none->it≠s.heap.objs.size->Inv i h->Heap.ExtBut it h h'->Inv i h') (h:∀ h' tk,Inv items.size h'->(∀ b o,s.heap.get? b=some o->h'.get? b=some o)->Q (.ref s.heap.objs.size) { s with heap:=h',toks:=tk }),wpAny M0 A (call (.type "set") [.ref l]) Q E s
def JZ(a:Around×Shared×(Value->Shared->Prop)×Addr×Array Value×(Value->Shared->Prop)×(Nat->Heap->Prop)):Prop:=F9 a.1 a.2.1 a.2.2.1 a.2.2.2.1 a.2.2.2.2.1 a.2.2.2.2.2.1 a.2.2.2.2.2.2
noncomputable def tc:=lN ({},{},default) JZ
noncomputable def PP:=tc.1
noncomputable def lM:=tc.2.1
noncomputable def Oh:=tc.2.2.1
noncomputable def CA:=tc.2.2.2.1
noncomputable def fk:=tc.2.2.2.2.1
noncomputable def Sg:=tc.2.2.2.2.2.1
noncomputable def zQ:=tc.2.2.2.2.2.2
theorem Oi:F9 PP lM Oh CA fk Sg zQ:=fun hh hl init step keep h=>by
 obtain⟨c,tl,hmro⟩:=PySem.F.called_set.mro;have hmade:=PySem.F.called_set.made;have hsub:=PySem.F.called_set.sub;refine wpAny_call (codeAny_of_tree ?_);show wpAny _ _ (callAny (.type "set") _) _ _ _;refine SH ⟨Code.quiet_builtin _ (by decide +kernel),codeAny_builtin PySem.F.entry_type_call ?_⟩
 rw[Around.under_plain (weight_type_call_type "set" [.ref CA] []) rfl];have h1:=PySem.F.called_set.notType;have h2:=PySem.F.called_set.canCreate;have hct:=PySem.F.typeCall_set_1 (.ref CA)
 repeat (any_goals (first | assumption | wp_step))
 refine codeAny_mono (pE (.ref CA) (E:=Oh) (Q₁:=fun obj s₁=>∃ led:Bool,led=(!kG)/\obj=.ref lM.heap.objs.size/\s₁={ lM with heap:=lM.heap.push { cls:=.type "set",dict:=none,data:=.set #[] 0 (.fresh 0 0 led) } }) ⟨_,rfl,rfl,rfl⟩) fun r s₁ hr=>?_
 cases r with
 | error e=>exact hr
 | ok fl=>
  cases fl with
  | ret obj=>
   obtain⟨led,hled,rfl,rfl⟩:=hr;have hS:(lM.heap.push { cls:=.type "set",dict:=none,data:=.set #[] 0 (.fresh 0 0 led) }).get? lM.heap.objs.size=some { cls:=.type "set",dict:=none,data:=.set #[] 0 (.fresh 0 0 led) }:=Ti _ rfl;have hT:Shared.TypeIs { lM with heap:=lM.heap.push { cls:=.type "set",dict:=none,data:=.set #[] 0 (.fresh 0 0 led) } } (.ref lM.heap.objs.size) "set":=⟨_,hS,rfl⟩;have hli:=PySem.F.called_set.init.lookup;have hbi:=PySem.F.called_set.init.bind (.ref lM.heap.objs.size)
   repeat (any_goals (first | assumption | wp_step))
   refine codeAny_mono (codeAny_call_builtin (R:=wants (fun r s₂=>r=.none/\∃ h' tk,s₂={ lM with heap:=h',toks:=tk }/\zQ fk.size h'/\(∀ b o,lM.heap.get? b=some o->h'.get? b=some o)) Oh) PySem.F.called_set.init.plain PySem.F.entry_set_init (check_set_init_1 hT ?_)) fun r₂ s₂ hr₂=>?_
   ·obtain⟨ol,hol,hcl,nl,hdl⟩:=hl;obtain⟨ocls,odict,odata,oslots⟩:=ol;simp only at hcl hdl;subst hcl;subst hdl;have hol':(lM.heap.push { cls:=.type "set",dict:=none,data:=.set #[] 0 (.fresh 0 0 led) }).get? CA=some { cls:=.type "list",dict:=odict,data:=.seq fk nl,slots:=oslots }:=S9 _ hol;have hsls:=PySem.F.sub_list_set;have hslf:=PySem.F.sub_list_frozenset;have hne:(Value.type "list"==Value.type "dict")=false:=by decide
    have hl1:(lM.heap.push { cls:=.type "set",dict:=none,data:=.set #[] 0 (.fresh 0 0 led) }).IsList CA fk:=⟨_,hol',rfl,nl,rfl⟩;unfold Builtin.«set.__init__» noKeywords Builtin.Frozenset.updateFrom;generalize hPI:pyIter=PI
    wp_walk
    subst hPI;refine wpAny_pyIter_list hl1 ?_;refine SF (wpAny_runValue ?_);have hlS:CA<lM.heap.objs.size:=TA hol;have hpz:(lM.heap.push { cls:=.type "set",dict:=none,data:=.set #[] 0 (.fresh 0 0 led) }).objs.size=lM.heap.objs.size+1:=Ul ..;refine xP (A:=PP.in1.in1) (items:=fk) (S:=lM.heap.objs.size) (l:=CA) (it:=(lM.heap.push { cls:=.type "set",dict:=none,data:=.set #[] 0 (.fresh 0 0 led) }).objs.size) zQ (T8 hlS) (by rw[hpz];exact Te (Uf _)) (by rw[hpz];exact Te (TL hlS)) hh
     (fun i v s₁ Q' hv hI hq=>step i v s₁ Q' hv hI hq) (fun i h h' hI hx=>keep i h h' _ (by rw[hpz];exact aW (T0 _)) (by rw[hpz];exact T8 (Uf _)) hI hx)
     (fk.size-0) 0 { lM with heap:=(lM.heap.push { cls:=.type "set",dict:=none,data:=.set #[] 0 (.fresh 0 0 led) }).push { cls:=.type "list_iterator",data:=.fields #[.ref CA,.int 0 0] } } _ rfl (Tb _) ⟨_,Ti _ rfl,rfl,rfl⟩ (hl1.push _) (by exact init _ (by rw[<- hled];exact S9 _ hS) fun b o e=>S9 _ (S9 _ e)) fun h' t' hI' hk'=>?_
    refine SH ?_;show wpAny _ _ (PySem.ret Value.none) _ _ _;refine SH ⟨rfl,h',t',rfl,hI',fun b o e=>?_⟩;have hb:=TA e;exact hk' b o (Te hb) (by rw[hpz];exact Te (TL hb)) (S9 _ (S9 _ e))
   ·cases r₂ with
    | error e=>exact hr₂
    | ok fl₂=>
     cases fl₂ with
     | ret r=>
      obtain⟨rfl,h',tk,rfl,hS',hk'⟩:=hr₂
      repeat (any_goals (first | assumption | wp_step))
      exact h _ _ hS' hk'
     | _=>exact hr₂.elim
  | _=>exact hr.elim
theorem ou{l:Addr}{items:Array Value}{s:Shared}{Q:Value->Shared->Prop}(Inv:Nat->Heap->Prop):F9 A s E l items Q Inv:=bF JZ Oi (A,s,E,l,items,Q,Inv)
end
theorem kJ(a j:Nat):SetTable.below #[a] j=if a<j then 1 else 0:=by
 unfold SetTable.below;show SetTable.below.go #[a] j 1 0 1=_;unfold SetTable.below.go;simp only[Nat.zero_lt_one,↓reduceIte,Nat.reduceDiv,Nat.zero_add,Array.getD]
 by_cases h:a<j
 ·simp[h,SetTable.below.go]
 ·simp[h,SetTable.below.go]
structure oG(t:SetTable):Prop where
 dum:t.dummies=#[]
 mask:7<=t.mask
 rise:∀ x y,t.place=#[x,y]->x<y
theorem B6(j:Nat):SetTable.insertAt #[] (SetTable.below #[] j) j=#[j]:=rfl
theorem B5(c j:Nat):SetTable.insertAt #[c] (SetTable.below #[c] j) j=if c<j then #[c,j] else #[j,c]:=by
 rw[kJ]
 split<;>rfl
theorem iR{pl:Array Nat}{j:Nat}(hz:pl.size<=1)(hj:∀ c,pl=#[c]->j≠c):∀ x y,SetTable.insertAt pl (SetTable.below pl j) j=#[x,y]->x<y:=by
 intro x y h
 match pl,hz with
 | ⟨[]⟩,_=>rw[show(⟨[]⟩:Array Nat)=#[] from rfl,B6] at h;exact SP (SI Array.size h) (by simp)
 | ⟨[c]⟩,_=>
  have hc:=hj c rfl;rw[show(⟨[c]⟩:Array Nat)=#[c] from rfl,B5] at h
  split at h
  ·have:=SI Array.toList h;simp at this;exact Qg ‹_› this
  ·have:=SI Array.toList h;simp at this;exact Qf hc ‹_› this
 | ⟨_::_::_⟩,hz=>simp at hz
theorem gm{t:SetTable}(n:Nat)(hn:n<=2):oG (t.standIn (n+1))/\(t.standIn (n+1)).led=t.led:=by
 refine⟨⟨rfl,by show 7<=4*(n+1)+4;exact Qe,fun x y h=>?_⟩,rfl⟩
 have h':Array.range (n+1)=#[x,y]:=h;have:=SI Array.toList h';rw[Array.toList_range] at this;have hn:n=1:=by have:=SI List.length this;simpa using this
 subst hn;simp[List.range_succ] at this;exact Qd this
theorem FQ{t:SetTable}{f:Nat->Int}{h:Int}{n:Nat}{p:SetTable.Probe}(hs:t.slot p.j=.empty):SetTable.probe.go t f h (n+1) p=some (.empty p.j p.dummy):=by rw[SetTable.probe.go,hs]
theorem JN{t:SetTable}{f:Nat->Int}{h:Int}{n i:Nat}{p:SetTable.Probe}(hs:t.slot p.j=.live i):SetTable.probe.go t f h (n+1) p=if(f i==h)=true then some (.candidate p.j i (t.advance p)) else SetTable.probe.go t f h n (t.advance p):=by rw[SetTable.probe.go,hs]
theorem A8{t:SetTable}(hd:t.dummies=#[]){j:Nat}:t.slot j≠.dummy:=fun e=>by
 rw[SetTable.slot,hd] at e;exact(Tu ((t.place[SetTable.below t.place j]?==some j)=true)).elim (fun q=>nomatch(SQ q).symm.trans e) fun q=>nomatch(SL q).symm.trans e
theorem Kk{t:SetTable}{p:SetTable.Probe}:(t.advance p).dummy=p.dummy:=by
 unfold SetTable.advance;exact(Tu (p.more > 0)).elim (fun q=>by rw[SQ q]) fun q=>by rw[SL q]
theorem pI{t:SetTable}(hd:t.dummies=#[]){f:Nat->Int}{h:Int}(fuel:Nat):∀(p:SetTable.Probe) {j:Nat} {d:Option Nat},p.dummy=none->SetTable.probe.go t f h fuel p=some (.empty j d)->t.slot j=.empty/\d=none:=by
 induction fuel with
 | zero=>exact @fun _ _ _ _ e=>bZ e
 | succ fuel ih=>
  refine @fun p j d hp e=>?_
  cases hs:t.slot p.j with
  | empty=>
   have g:SetTable.Met.empty p.j p.dummy=.empty j d:=S0 ((FQ hs).symm.trans e)
   cases g
   exact⟨hs,hp⟩
  | dummy=>exact SP hs (A8 hd)
  | live i=>
   have e:=(JN hs).symm.trans e;exact(Tu ((f i==h)=true)).elim (fun q=>nomatch S0 ((SQ q).symm.trans e)) fun q=>ih _ (Kk.trans hp) ((SL q).symm.trans e)
theorem lu{t:SetTable}{c j:Nat}(hp:t.place=#[c])(h:t.slot j=.empty):j≠c:=by
 rintro rfl
 unfold SetTable.slot at h;rw[hp] at h;simp only[kJ,Nat.lt_irrefl,if_false] at h;simp at h
theorem qh{t:SetTable}(es:Array (Int×Value))(h:Int)(x:Value)(T:oG t)(hf:t.fits es.size=true)(hz:es.size<=1):oG (layNew t es h x).2.1/\(layNew t es h x).2.1.led=t.led:=by
 have hpz:t.place.size=es.size:=by simp only[SetTable.fits,Bool.and_eq_true,beq_iff_eq] at hf;exact hf.1
 unfold layNew
 split
 ·rename_i slot wd he;unfold SetTable.freeSlot at he
  split at he
  ·rename_i j d hp;obtain⟨h1,rfl⟩:=pI T.dum _ _ rfl hp;simp at he;obtain⟨rfl,rfl⟩:=he;have hez:(SetTable.insertAt es (t.put j).2 (h,x)).size=es.size+1:=by rw[<- Um,(SetTable.insertAt_perm es _ (h,x)).length_eq];simp
   have main:oG (t.put j).1/\(t.put j).1.led=t.led:=by
    refine⟨⟨?_,T.mask,?_⟩,rfl⟩
    ·show(if SetTable.has t.dummies j=true then _ else t.dummies)=#[]
     rw[T.dum];rfl
    ·exact iR (OK hz hpz) fun c hc=>lu hc h1
   dsimp only;unfold SetTable.orStandIn
   split
   ·exact main
   ·rw[hez];have:=gm (t:=(t.put j).1) es.size (SJ hz (by decide))
    exact⟨this.1,this.2.trans main.2⟩
  ·cases he
 ·exact gm es.size (SJ hz (by decide))
theorem md{t:SetTable}(T:oG t)(hn:t.place.size<=2):t.tooFull=false:=by
 have:=T.mask;simp only[SetTable.tooFull,SetTable.fill,T.dum,Array.size_empty,decide_eq_false_iff_not];exact Nat.not_le_of_gt (Tj (Nat.mul_le_mul_right 5 hn) (TJ (by decide:2*5<7*3) (Nat.mul_le_mul_right 3 this)))
theorem cM{t:SetTable}{n:Nat}(h:t.fits n=true):t.place.size=n:=by
 simp only[SetTable.fits,Bool.and_eq_true,beq_iff_eq] at h;exact h.1
def bR(tp:Bool)(h:Heap)(a:Addr)(es:Array (Int×Value)):Prop:=
 ∃ ep t,h.get? a=some { cls:=.type "set",dict:=none,data:=.set es ep t }/\t.fits es.size=true/\(t.led=true\/kG=true)/\oG t/\es.size<=2/\(tp=true->t.mask=7/\∀ e,es=#[e]->t.place=#[SetTable.bits e.1%8])
section
variable{A:Around}{E:Value->Shared->Prop}{s:Shared}
theorem bR.put{tp:Bool}{h:Heap}{a:Addr}{es es':Array (Int×Value)}{ep:Nat}{t t':SetTable}(ho:h.get? a=some { cls:=.type "set",dict:=none,data:=.set es ep t })(hf:t'.fits es'.size=true)(hl:t'.led=true\/kG=true)(hT:oG t')(hz:es'.size<=2)
  (ht:tp=true->t'.mask=7/\∀ e,es'=#[e]->t'.place=#[SetTable.bits e.1%8]):(h.update a (Obj.putSet es' t')).get? a=some { cls:=.type "set",dict:=none,data:=.set es' (ep+1) t' }/\bR tp (h.update a (Obj.putSet es' t')) a es':=by
 have e:(h.update a (Obj.putSet es' t')).get? a=some { cls:=.type "set",dict:=none,data:=.set es' (ep+1) t' }:=TF (Obj.putSet es' t') ho rfl;exact⟨e,_,_,e,hf,hl,hT,hz,ht⟩
theorem mi{g:Bool->Sem Unit}{a:Addr}{es es1:Array (Int×Value)}{ep:Nat}{t t2:SetTable}{wasDummy:Bool}{R:Option Bool->Shared->Prop}
  (ho:s.heap.get? a=some { cls:=.type "set",dict:=none,data:=.set es ep t }) (hz:es1.size<=2) (hf2:t2.fits es1.size=true) (hl2:t2.led=true\/kG=true) (hT:oG t2)
  (h:∀ h',Heap.SameBut a s.heap h'->bR false h' a es1->R (some true) { s with heap:=h' }) :
  wpAny M0 A (storeSet a es1 t2 >>= fun _=>
    if(!wasDummy&&t2.tooFull)=true then
     g (relayAll t2 es1 (SetTable.grown es1.size)).2.2 >>= fun _=>storeSet a (relayAll t2 es1 (SetTable.grown es1.size)).1 (relayAll t2 es1 (SetTable.grown es1.size)).2.1 >>= fun _=>pure (some true)
    else pure (some true)) R E s:=by
 refine SF (wpAny_storeSet_of ho rfl ?_ (by rw[sizeLine_eq];exact SJ hz (by decide)))
 rw[md hT (by rw[cM hf2];exact hz)]
 simp only[Bool.and_false,Bool.false_eq_true,if_false];exact SH (h _ (Tv ..) (bR.put (tp:=false) ho hf2 hl2 hT hz (fun e=>nomatch e)).2)
theorem kX{κ:Type}[DecidableEq κ]{knd:KeyKind PySem.Challenge.rw_rh0018_01.row.prog w0 κ}{a:Addr}{es:Array (Int×Value)}{k:κ}{x:Value}{Q:Bool->Shared->Prop}(hkey:knd.is k x=true)(hsc:x.scannable=true)
  (hel:ElemsOf knd es.toList) (hz:es.size<=1) (hS:bR false s.heap a es)
  (h1:es.toList.any (fun e=>knd.is k e.2)=true->∀ h',Heap.SameBut a s.heap h'->bR false h' a es->Q false { s with heap:=h' })
  (h2:es.toList.any (fun e=>knd.is k e.2)=false->∀ h' es',Heap.SameBut a s.heap h'->es'.toList.Perm (es.toList++[(knd.hash k,x)])->bR false h' a es'->Q true { s with heap:=h' }) :
  wpAny M0 A (setAddHashed a x (knd.hash k)) Q E s:=by
 obtain⟨ep,t,ho,hf,hl,hT,_,_⟩:=id hS;have hb:es.size<scanBound:=Tj hz (by decide)
 unfold setAddHashed setAddHashedIn;refine Td (SF (T6 ho rfl hf ?_));dsimp only;rw[byScan_of hsc hb hel];simp only[↓reduceIte];unfold setAddByScan;refine SF (SF (TM (SF (wpAny_setScan_of hkey ho rfl hf hel ?_))))
 cases hr:List.findIdx? (fun e=>knd.is k e.2) es.toList with
 | some j=>
  dsimp only;obtain⟨hj,hpj,_⟩:=List.findIdx?_eq_some_iff_getElem.mp hr;exact SH (SH (h1 (List.any_eq_true.mpr ⟨_,List.getElem_mem hj,hpj⟩) s.heap (Heap.SameBut.refl a s.heap) hS))
 | none=>
  dsimp only;have hn:es.toList.any (fun e=>knd.is k e.2)=false:=by
   cases hb:es.toList.any (fun e=>knd.is k e.2) with
   | false=>rfl
   | true=>obtain⟨e,he,hp⟩:=List.any_eq_true.mp hb;have:=List.findIdx?_eq_none_iff.mp hr e he;rw[hp] at this;cases this
  have KH:∀(b:Bool) {s₁:Shared} {Q':Unit->Shared->Prop},Q' () s₁->wpAny M0 A (match b with | true=>rule "set.scan.the-table-gave-way" | false=>pure ()) Q' E s₁:=
   fun b s₁ Q' hq=>by cases b<;>first | exact SH hq | exact TM hq
  have hperm:=layNew_perm t es (knd.hash k) x;have hfits:=layNew_fits t es (knd.hash k) x;obtain⟨htidy,hled⟩:=qh es (knd.hash k) x hT hf hz;generalize hL:layNew t es (knd.hash k) x=L at hperm hfits hled htidy ⊢;obtain⟨es1,t1,wasDummy,gave⟩:=L;dsimp only at hperm hfits hled htidy ⊢;rw[Uv] at hperm;have hb1:es1.size<=2:=by
   rw[<- Um,hperm.length_eq,SZ,Um];simp only[List.length_cons,List.length_nil];exact Qc hz
  have hl1:t1.led=true\/kG=true:=by rw[hled];exact hl
  refine SF (KH _ ?_);refine Ty (fun _=>?_) (fun _=>?_)
  ·refine SF ?_;rw[hashByValue_scannable 8 hsc];refine SH ?_;refine mi ho hb1 ?_ ?_ ?_ fun h' hs hS'=>?_
   ·split
    ·exact hfits
    ·exact SetTable.fits_plain_off hfits
   ·split<;>exact hl1
   ·split
    ·exact htidy
    ·exact⟨htidy.dum,htidy.mask,htidy.rise⟩
   ·exact SH (h2 hn h' es1 hs hperm hS')
  ·refine SF (SH ?_);simp only[↓reduceIte];exact mi ho hb1 hfits hl1 htidy fun h' hs hS'=>SH (h2 hn h' es1 hs hperm hS')
end
noncomputable abbrev pr(i q:Nat):SetTable.Probe:={ j:=i,more:=0,i:=i,perturb:=q,dummy:=none }
noncomputable abbrev Hg(i q:Nat):Nat:=(i*5+1+q / 32)%8
structure uR(t:SetTable)(pl:Array Nat):Prop where
 mask:t.mask=7
 dum:t.dummies=#[]
 place:t.place=pl
theorem HY{t:SetTable}(T:uR t #[])(j:Nat):t.slot j=.empty:=by
 obtain⟨m,p,d,f,l,mv,pl⟩:=t;obtain⟨rfl,rfl,rfl⟩:=T;rfl
theorem pB{t:SetTable}{a:Nat}(T:uR t #[a])(j:Nat):t.slot j=if a=j then .live 0 else .empty:=by
 obtain⟨m,p,d,f,l,mv,pl⟩:=t;obtain⟨rfl,rfl,rfl⟩:=T;unfold SetTable.slot;dsimp only;rw[kJ];have hd:SetTable.has #[] j=false:=rfl
 by_cases h:a=j
 ·subst h;rw[SL (Uq _),SQ rfl];simp
 ·rw[SL h]
  by_cases hl:a<j
  ·rw[SQ hl];simp[hd]
  ·rw[SL hl];simp[hd,h]
theorem PV{t:SetTable}{pl:Array Nat}(T:uR t pl)(i q:Nat):t.advance (pr i q)=pr (Hg i q) (q / 32):=by
 unfold SetTable.advance SetTable.leap;simp only[Nat.lt_irrefl,↓reduceIte,T.mask,gt_iff_lt];have:SetTable.runEnd 7 ((i*5+1+q / 32)%8)-(i*5+1+q / 32)%8=0:=by
  unfold SetTable.runEnd;rw[SL (Nat.not_le_of_gt (TJ (by decide:7<9) (Nat.le_add_left 9 _)))];exact Nat.sub_self _
 simp only[this]
theorem KA{t:SetTable}{pl:Array Nat}(T:uR t pl)(h:Int):t.probeStart h=pr (SetTable.bits h%8) (SetTable.bits h):=by
 unfold SetTable.probeStart;simp only[T.mask];have:SetTable.runEnd 7 (SetTable.bits h%8)-SetTable.bits h%8=0:=by
  unfold SetTable.runEnd;rw[SL (Nat.not_le_of_gt (TJ (by decide:7<9) (Nat.le_add_left 9 _)))];exact Nat.sub_self _
 simp only[Nat.reduceAdd,this]
theorem yA{i:Nat}(h:i<8):Hg i 0≠i:=(by decide:∀ i,i<8->(i*5+1+0 / 32)%8≠i) i h
theorem Dg(i q:Nat):Hg i q<8:=Nat.mod_lt _ (by decide)
theorem uN(h:Int):SetTable.bits h<32^13:=by
 unfold SetTable.bits;have h1:(0:Int)<2^64:=by decide
 exact TJ ((Int.toNat_lt (Int.emod_nonneg h (by decide))).mpr (Int.emod_lt_of_pos h h1)) (by decide)
theorem EO{t:SetTable}(T:uR t #[])(f:Nat->Int)(h:Int):t.probe f h (t.probeStart h)=some (.empty (SetTable.bits h%8) none):=by
 rw[KA T];unfold SetTable.probe;rw[T.mask];show SetTable.probe.go t f h (219+1) _=_;unfold SetTable.probe.go;rw[HY T]
theorem Cj{t:SetTable}{a:Nat}(T:uR t #[a]){f:Nat->Int}{h:Int}(hf:f 0≠h)(k i q fuel:Nat):q<32^k->i<8->k+2<=fuel->∃ j,j≠a/\SetTable.probe.go t f h fuel (pr i q)=some (.empty j none):=by
 induction fuel generalizing k i q with
 | zero=>exact fun _ _ hk=>SP hk Qb
 | succ fuel ih=>
  refine fun hq hi hk=>(Tu (a=i)).elim (fun e=>?_) fun e=>⟨i,fun q=>e q.symm,FQ ((pB T i).trans (SL e))⟩;rw[JN ((pB T i).trans (SQ e)),SL fun q=>hf (eq_of_beq q),PV T]
  cases k with
  | zero=>
   have hg:fuel-1+1=fuel:=Uz (Nat.le_of_succ_le_succ hk);have hq:q=0:=Nat.eq_zero_of_le_zero (Nat.le_of_lt_succ hq);rw[hq,<- hg];exact⟨Hg i 0,fun q=>yA hi (q.trans e),FQ ((pB T _).trans (SL fun q=>yA hi (q.symm.trans e)))⟩
  | succ k=>exact ih k _ _ ((Nat.div_lt_iff_lt_mul (by decide)).mpr hq) (Dg ..) (Qa hk)
theorem rR{t:SetTable}{a:Nat}(T:uR t #[a]){f:Nat->Int}{h:Int}(hf:f 0≠h):∃ j,j≠a/\t.probe f h (t.probeStart h)=some (.empty j none):=by
 rw[KA T];unfold SetTable.probe;rw[T.mask];exact Cj T hf 13 _ _ _ (uN h) (Nat.mod_lt _ (by decide)) (by decide)
theorem jZ{t:SetTable}{a:Nat}(T:uR t #[a]){f:Nat->Int}{h:Int}(i q:Nat)(hf:f 0=h):t.probe f h (pr i q)=if a=i then some (.candidate i 0 (pr (Hg i q) (q / 32))) else some (.empty i none):=by
 unfold SetTable.probe;rw[T.mask];show SetTable.probe.go t f h (219+1) _=_;unfold SetTable.probe.go;rw[pB T]
 by_cases e:a=i
 ·rw[SQ e,SQ e];simp only[hf,beq_self_eq_true,if_true,PV T]
 ·rw[SL e,SL e]
theorem Bo{t:SetTable}{pl:Array Nat}(T:uR t pl)(j:Nat):(t.put j).2=SetTable.below pl j/\(t.put j).1.mask=7/\(t.put j).1.dummies=#[]/\(t.put j).1.place=SetTable.insertAt pl (SetTable.below pl j) j/\(t.put j).1.led=t.led:=by
 obtain⟨m,p,d,f,l,mv,pl⟩:=t;obtain⟨rfl,rfl,rfl⟩:=T;exact⟨rfl,rfl,rfl,rfl,rfl⟩
section
variable{x:Hp}{A:Around}{s:Shared}{E:Value->Shared->Prop}
def G1(x:Hp)(d:Nat)(w:Value):Prop:=∀{k:Nat} {A:Around} {s:Shared} {Q:Bool->Shared->Prop} {E:Value->Shared->Prop},s.heap=x.h->d<=k->Q false s->wpAny M0 A (ofAClassStatement k w) Q E s
def DH(x:Hp)(d:Nat)(ws:List Value):Prop:=∀{k:Nat} {A:Around} {s:Shared} {Q:Option Bool×Unit->Shared->Prop} {E:Value->Shared->Prop},s.heap=x.h->d<=k->Q (none,()) s->
 wpAny M0 A (forIn ws (none,()) fun y (_:Option Bool×Unit)=>do
   let x <- ofAClassStatement k y
   if x=true then pure (ForInStep.done (some true,())) else pure (ForInStep.yield (none,()))) Q E s
theorem BA{d:Nat}{a:Addr}{ws:Array Value}{n:Nat}(i:fH x a (bW ws n))(r:DH x d ws.toList):G1 x (d+1) (.ref a)
 | 0,_,_,_,_,_,hk,_=>SP hk (Tc _)
 | k+1,A,s,Q,E,hs,hk,h=>by
  have ho:s.heap.get? a=some (bW ws n):=hs▸i.h;have hT:s.TypeIs (.ref a) "tuple":=⟨_,ho,rfl⟩;unfold ofAClassStatement;refine SF ?_;refine wpAny_typeOf hT ?_;refine Ty (fun _=>?_) fun hn=>SP (by decide) hn
  refine SF (SH (Ty (fun hn=>SP hn (by decide)) fun _=>?_))
  refine SF (Uk ho rfl (SF ?_));show wpAny _ _ (forIn ws _ _) _ _ s;rw[<- Array.forIn_toList];exact r hs (Nat.le_of_succ_le_succ hk) (SH h)
theorem yw{d:Nat}{v:AV}{w:Value}:v.purD d=true->aq x v w->G1 x d w:=
 bI (P:=fun d _ w=>G1 x d w) (Ps:=fun d _ ws=>DH x d ws) (fun{_ _ _} {k} {A s Q E} _ _ h=>by cases k<;>exact SH h) (fun{_ _ _} _ {k} {A s Q E} _ _ h=>by cases k<;>exact SH h) BA
  (fun{_} {k} {A s Q E} _ _ h=>by rw[List.forIn_nil];exact SH h)
  fun{_ _ _ _ _} r t {k} {A s Q E} hs hk h=>by
   rw[Uj];refine SF (SF (r hs hk ?_));rw[SL Tp];exact SH (t hs hk h)
def G3(x:Hp)(w:Value):Prop:=∀{k:Nat} {A:Around} {s:Shared} {Q:Bool->Shared->Prop} {E:Value->Shared->Prop},s.heap=x.h->(∀ b,Q b s)->wpAny M0 A (hashByValue k w) Q E s
def DJ(x:Hp)(ws:List Value):Prop:=∀{k:Nat} {A:Around} {s:Shared} {Q:Option Bool×Unit->Shared->Prop} {E:Value->Shared->Prop},s.heap=x.h->Q (none,()) s->Q (some false,()) s->
 wpAny M0 A (forIn ws (none,()) fun y (_:Option Bool×Unit)=>do
   let x <- hashByValue k y
   if(!x)=true then pure (ForInStep.done (some false,())) else pure (ForInStep.yield (none,()))) Q E s
theorem Ch{a:Addr}{ws:Array Value}{n:Nat}(i:fH x a (bW ws n))(r:DJ x ws.toList):G3 x (.ref a)
 | 0,_,_,_,_,_,h=>SH (h _)
 | k+1,A,s,Q,E,hs,h=>by
  have ho:s.heap.get? a=some (bW ws n):=hs▸i.h;unfold hashByValue;refine SF (wpAny_specialOf (T:="tuple") ⟨_,ho,rfl⟩ F.slot_tuple_hash.lookup ?_);refine SF (Uk ho rfl (SF ?_));show wpAny _ _ (forIn ws _ _) _ _ s;rw[<- Array.forIn_toList];exact r hs (SH (h _)) (SH (h _))
theorem FP{d:Nat}{v:AV}{w:Value}:v.purD d=true->aq x v w->G3 x w:=
 bI (P:=fun _ _ w=>G3 x w) (Ps:=fun _ _ ws=>DJ x ws) (fun{_ _ _} {k} {A s Q E} _ h=>by cases k<;>exact SH (h _)) (fun{_ _ _} _ {k} {A s Q E} _ h=>by cases k<;>exact SH (h _)) Ch
  (fun{_} {k} {A s Q E} _ h _=>by rw[List.forIn_nil];exact SH h)
  fun{_ _ _ _ _} r t {k} {A s Q E} hs h h'=>by
   rw[Uj];refine SF (SF (r hs fun b=>?_))
   cases b with
   | true=>exact SH (t hs h h')
   | false=>exact SH (SH h')
theorem wA{a b:AV}{v u:Value}{Q:Bool->Shared->Prop}(hs:s.heap=x.h)(hu:A.units+6<cLine)(pa:a.pur=true)(pb:b.pur=true)(ra:aq x a v)(rb:aq x b u)(h:Q (decide (a=b)) s):wpAny M0 A (eqBool v u) Q E s:=
 (bp pa ra).rd.elim fun _ xa=>(bp pb rb).rd.elim fun _ xb=>SeqAt.eqBoolOverData _ _ _ _ _ _ _ _ _ _ _ _ (hs.symm▸xa) (hs.symm▸xb) (bp pa ra).lay (bp pb rb).lay (Tj (Tw (SJ (Uo _ _) (bp pa ra).dep) _) hu) (eS pa ra pb rb▸h)
theorem Bh{a b:AV}{v u:Value}{Q:Bool->Shared->Prop}(hs:s.heap=x.h)(pa:a.pur=true)(pb:b.pur=true)(ra:aq x a v)(rb:aq x b u)(h:Q false s):wpAny M0 A (searchCouldBeSeen v [u]) Q E s:=by
 unfold searchCouldBeSeen;refine SF ?_;rw[Uj];refine SF (Ty (fun _=>SH ?_) fun _=>?_)
 ·dsimp only;rw[List.forIn_nil];exact SH (SH h)
 ·refine SF (gp pa ra hs (by decide) ?_)
  rw[Bool.not_true,SL Tp];refine SF (gp pb rb hs (by decide) ?_)
  rw[Bool.not_true,SL Tp];refine SF (yw pa ra hs (by decide) ?_)
  rw[SL Tp];refine SF (yw pb rb hs (by decide) ?_)
  rw[SL Tp];refine SH ?_;dsimp only;rw[List.forIn_nil];exact SH (SH h)
end
section
variable{z:Hp}{A:Around}{s:Shared}{E:Value->Shared->Prop}
theorem xF{t:SetTable}{n:Nat}(m:t.mask=7)(d:t.dummies=#[])(hn:t.place.size=n)(h7:n<=7):t.fits n=true:=by
 simp[SetTable.fits,SetTable.fill,m,d,hn];exact h7
theorem uC{t:SetTable}(m:t.mask=7):t.gaveWay=false:=by simp[SetTable.gaveWay,m]
theorem mX{a:Addr}{b:AV}{x:Value}{es:Array (Int×Value)}{j:Nat}{Q:Bool->Shared->Prop}(hsz:s.heap=z.h)(pb:b.pur=true)(rb:aq z b x){ep:Nat}{t:SetTable}{pl:Array Nat}(T:uR t pl){H:Int}
  (ho:s.heap.get? a=some { cls:=.type "set",dict:=none,data:=.set es ep t }) (hf:t.fits es.size=true) (hl:t.led=true\/kG=true) (hz:es.size<=1) (hjn:∀ c,pl=#[c]->j≠c) (hj:∀ e,es.push (H,x)=#[e]->SetTable.insertAt pl (SetTable.below pl j) j=#[SetTable.bits e.1%8])
  (h:∀ h' es',Heap.SameBut a s.heap h'->es'.toList.Perm (es.toList++[(H,x)])->bR true h' a es'->Q true { s with heap:=h' }) :
  wpAny M0 A (do
    let(es,_,t) <- setState a
    let(t,p):=t.put j
    let ox <- if t.plain then hashByValue 8 x else pure true
    let t:=if ox then t else{ t with plain:=false }
    storeSet a (SetTable.insertAt es p (H,x)) t
    if !false&&t.tooFull then setRelay a (SetTable.grown (es.size+1))
    return true) Q E s:=by
 refine SF (T6 ho rfl hf ?_);obtain⟨q1,q2,q3,q4,q5⟩:=Bo T j
 rcases hq:t.put j with⟨t1,p⟩
 rw[hq] at q1 q2 q3 q4 q5;simp only[hq];dsimp only at q1 q2 q3 q4 q5 ⊢;have hpl:pl.size=es.size:=by rw[<- T.place];exact cM hf
 have hpz:t1.place.size=es.size+1:=by
  rw[q4,<- Um,(SetTable.insertAt_perm pl _ j).length_eq];simp[hpl]
 have hperm:=SetTable.insertAt_perm es p (H,x);have hez:(SetTable.insertAt es p (H,x)).size=es.size+1:=by rw[<- Um,hperm.length_eq];simp
 have ed:∀ t2:SetTable,t2.mask=7->t2.dummies=#[]->t2.place=t1.place->t2.led=t1.led->
   wpAny M0 A (do
    storeSet a (SetTable.insertAt es p (H,x)) t2
    if(!false&&t2.tooFull)=true then do
      setRelay a (SetTable.grown (es.size+1))
      pure true
     else pure true) Q E s:=by
  intro t2 m2 d2 p2 l2;have hf2:t2.fits (SetTable.insertAt es p (H,x)).size=true:=xF m2 d2 (by rw[p2,hpz,hez]) (by rw[hez];exact P9 hz)
  refine SF (wpAny_storeSet_of ho rfl ?_ (by rw[hez,sizeLine_eq];exact P8 hz))
  have T2:oG t2:=⟨d2,P7 m2,by rw[p2,q4];exact iR (OK hz hpl) hjn⟩
  rw[md T2 (by rw[p2,hpz];exact OJ hz)]
  simp only[Bool.not_false,Bool.and_false,Bool.false_eq_true,if_false];refine SH (h _ _ (Tv ..) (by rw[Uv] at hperm;exact hperm) (bR.put ho hf2 (by rw[l2,q5];exact hl) T2 (by rw[hez];exact OJ hz) fun _=>⟨m2,fun e he=>?_⟩).2)
  rw[p2,q4];refine hj e ?_;have h1:es.size=0:=by have:=SI Array.size he;rw[hez] at this;simpa using this
  have h2:es=#[]:=Array.size_eq_zero_iff.mp h1;subst h2;rw[he] at hperm;have h3:(H,x)=e:=by simpa using hperm.symm
  rw[h3];rfl
 refine Ty (fun _=>?_) (fun _=>?_)
 ·refine SF (FP pb rb hsz fun c=>?_)
  cases c
  ·exact ed _ q2 q3 rfl rfl
  ·exact ed _ q2 q3 rfl rfl
 ·exact SF (SH (ed _ q2 q3 rfl rfl))
theorem uj{x:Addr}{es:Array (Int×Value)}:byScan (.ref x) es=false:=by simp[byScan,Value.scannable]
def EB(A:Around)(s:Shared)(E:Value->Shared->Prop)(a:Addr)(v:Value)(H:Int)(ep:Nat)(t:SetTable)(Q:SetFound->Shared->Prop)(fuel:Nat)(st:Option SetTable.Probe):Prop:=∀{es:Array (Int×Value)} (m:t.mask=7) (ho:s.heap.get? a=some { cls:=.type "set",dict:=none,data:=.set es ep t }) (hf:t.fits es.size=true) (h:∀ f:Nat->Int,(∀ e,es=#[e]->f 0=e.1)->∃ j,t.probe f H (st.getD (t.probeStart H))=some (.empty j none)/\Q (.free j false) s),wpAny M0 A (setSearchFrom a v H true (fuel+1) st) Q E s
def Ic(a:Around×Shared×(Value->Shared->Prop)×Addr×Value×Int×Nat×SetTable×(SetFound->Shared->Prop)×Nat×Option SetTable.Probe):Prop:=EB a.1 a.2.1 a.2.2.1 a.2.2.2.1 a.2.2.2.2.1 a.2.2.2.2.2.1 a.2.2.2.2.2.2.1 a.2.2.2.2.2.2.2.1 a.2.2.2.2.2.2.2.2.1 a.2.2.2.2.2.2.2.2.2.1 a.2.2.2.2.2.2.2.2.2.2
noncomputable def jV:=lN ({},{},default) Ic
noncomputable def QC:=jV.1
noncomputable def OQ:=jV.2.1
noncomputable def QB:=jV.2.2.1
noncomputable def QA:=jV.2.2.2.1
noncomputable def Qz:=jV.2.2.2.2.1
noncomputable def Lk:=jV.2.2.2.2.2.1
noncomputable def Lj:=jV.2.2.2.2.2.2.1
noncomputable def Lh:=jV.2.2.2.2.2.2.2.1
noncomputable def OR:=jV.2.2.2.2.2.2.2.2.1
noncomputable def EA:=jV.2.2.2.2.2.2.2.2.2.1
noncomputable def Ib:=jV.2.2.2.2.2.2.2.2.2.2
theorem Ll:EB QC OQ QB QA Qz Lk Lj Lh OR EA Ib:=fun{es} m ho hf h=>by
 refine SF (T6 ho rfl hf ?_);dsimp only;rw[uC m];refine Ty nofun fun _=>?_
 generalize hr:SetTable.probe Lh _ Lk (Ib.getD (Lh.probeStart Lk))=r;obtain⟨j,rfl,g⟩:∃ j,r=some (.empty j none)/\OR (.free j false) OQ:=by subst hr;exact h _ fun e h=>by subst h;rfl
 exact SH g
theorem jR{a:Addr}{v:Value}{H:Int}{ep:Nat}{t:SetTable}{Q:SetFound->Shared->Prop}{fuel:Nat}{st:Option SetTable.Probe}:EB A s E a v H ep t Q fuel st:=bF Ic Ll (A,s,E,a,v,H,ep,t,Q,fuel,st)
def EF(z:Hp)(A:Around)(s:Shared)(u b:AV)(E:Value->Shared->Prop)(a x y:Addr)(H:Int)(ep:Nat)(t:SetTable)(c fuel:Nat)(st:Option SetTable.Probe)(Q:SetFound->Shared->Prop):Prop:=∀{nx:SetTable.Probe} (hsz:s.heap=z.h) (hu:A.units+6<cLine) (pu:u.pur=true) (pb:b.pur=true) (ru:aq z u (.ref y)) (rb:aq z b (.ref x)) (T:uR t #[c]) (ho:s.heap.get? a=some { cls:=.type "set",dict:=none,data:=.set #[(H,.ref y)] ep t }) (hf:t.fits 1=true) (hp:∀ f:Nat->Int,f 0=H->t.probe f H (st.getD (t.probeStart H))=some (.candidate c 0 nx)) (h1:u=b->Q (.there none) s) (h2:u≠b->wpAny M0 A (setSearchFrom a (.ref x) H true fuel (some nx)) Q E s),wpAny M0 A (setSearchFrom a (.ref x) H true (fuel+1) st) Q E s
def Ij(a:Hp×Around×Shared×AV×AV×(Value->Shared->Prop)×Addr×Addr×Addr×Int×Nat×SetTable×Nat×Nat×Option SetTable.Probe×(SetFound->Shared->Prop)):Prop:=EF a.1 a.2.1 a.2.2.1 a.2.2.2.1 a.2.2.2.2.1 a.2.2.2.2.2.1 a.2.2.2.2.2.2.1 a.2.2.2.2.2.2.2.1 a.2.2.2.2.2.2.2.2.1 a.2.2.2.2.2.2.2.2.2.1 a.2.2.2.2.2.2.2.2.2.2.1 a.2.2.2.2.2.2.2.2.2.2.2.1 a.2.2.2.2.2.2.2.2.2.2.2.2.1 a.2.2.2.2.2.2.2.2.2.2.2.2.2.1 a.2.2.2.2.2.2.2.2.2.2.2.2.2.2.1 a.2.2.2.2.2.2.2.2.2.2.2.2.2.2.2
noncomputable def fy:=lN (⟨[],[],{}⟩,{},{},.none,.none,default) Ij
noncomputable def QG:=fy.1
noncomputable def O7:=fy.2.1
noncomputable def OW:=fy.2.2.1
noncomputable def OV:=fy.2.2.2.1
noncomputable def OY:=fy.2.2.2.2.1
noncomputable def O0:=fy.2.2.2.2.2.1
noncomputable def Kz:=fy.2.2.2.2.2.2.1
noncomputable def Ky:=fy.2.2.2.2.2.2.2.1
noncomputable def C7:=fy.2.2.2.2.2.2.2.2.1
noncomputable def Hf:=fy.2.2.2.2.2.2.2.2.2.1
noncomputable def Lr:=fy.2.2.2.2.2.2.2.2.2.2.1
noncomputable def He:=fy.2.2.2.2.2.2.2.2.2.2.2.1
noncomputable def OX:=fy.2.2.2.2.2.2.2.2.2.2.2.2.1
noncomputable def rN:=fy.2.2.2.2.2.2.2.2.2.2.2.2.2.1
noncomputable def Lq:=fy.2.2.2.2.2.2.2.2.2.2.2.2.2.2.1
noncomputable def OZ:=fy.2.2.2.2.2.2.2.2.2.2.2.2.2.2.2
theorem Lu:EF QG O7 OW OV OY O0 Kz Ky C7 Hf Lr He OX rN Lq OZ:=fun{nx} hsz hu pu pb ru rb T ho hf hp h1 h2=>by
 refine SF (T6 ho rfl hf ?_);dsimp only;rw[uC T.mask,hp _ rfl];refine Ty nofun fun _=>?_
 have go:wpAny M0 O7 (do
   let some (_,C7):=(#[(Hf,Value.ref C7)]:Array (Int×Value))[0]? | unsupported "internal:set-entry"
   let equal <- holding [C7] (eqBool C7 (.ref Ky))
   let(es',_,t') <- setState Kz
   if true&&equal then return .there none
   let some same:=t'.sameMemory He.moves He.mask | unsupported "set.changed-during-lookup:is-the-new-block-at-the-old-address"
   let still <- match (if same then t'.slot OX else .empty) with
    | .live i'=>match es'[i']? with
     | some (_,y')=>do pure (if <- isSame y' C7 then some i' else none)
     | none=>pure none
    | _=>pure none
   match still with
   | none=>rule "set.search.anew";setSearchFrom Kz (.ref Ky) Hf true rN none
   | some i'=>if equal then return .there (some i') else setSearchFrom Kz (.ref Ky) Hf true rN (some nx)) OZ O0 OW:=by
  refine SF (Td (wA hsz hu pu pb ru rb (SF (T6 ho rfl hf ?_))));dsimp only;rw[Bool.true_and]
  by_cases e:OV=OY
  ·rw[SV e];exact SH (h1 e)
  rw[Tk e];have hsm:He.sameMemory He.moves He.mask=some true:=by unfold SetTable.sameMemory;simp
  rw[SL nofun,hsm]
  dsimp only;rw[SQ rfl,pB T,SQ rfl];exact SF (wpAny_isSame_ref_self (SF (SH (h2 e))))
 refine Ty (fun _=>?_) fun _=>go;refine SF ?_;rw[show((#[(Hf,Value.ref C7)]:Array (Int×Value)).filter (fun e=>e.1==Hf)).toList.map (·.2)=[.ref C7] by simp]
 exact Bh hsz pb pu rb ru go
theorem po{a x y:Addr}{u b:AV}{H:Int}{ep:Nat}{t:SetTable}{c fuel:Nat}{st:Option SetTable.Probe}{Q:SetFound->Shared->Prop}:EF z A s u b E a x y H ep t c fuel st Q:=bF Ij Lu (z,A,s,u,b,E,a,x,y,H,ep,t,c,fuel,st,Q)
theorem Ak{a x:Addr}{b:AV}{H:Int}{Q:Bool->Shared->Prop}(hsz:s.heap=z.h)(pb:b.pur=true)(rb:aq z b (.ref x))(hS:bR true s.heap a #[])
  (h:∀ h',Heap.SameBut a s.heap h'->bR true h' a #[(H,.ref x)]->Q true { s with heap:=h' }):wpAny M0 A (setAddHashed a (.ref x) H) Q E s:=by
 obtain⟨ep,t,ho,hf,hl,hT,_,htt⟩:=id hS;obtain⟨hm,_⟩:=htt rfl;have T:uR t #[]:=⟨hm,hT.dum,Array.size_eq_zero_iff.mp (cM hf)⟩;refine Td (SF (T6 ho rfl hf ?_));dsimp only;rw[uj];refine Ty nofun fun _=>SF (jR hm ho hf fun f _=>⟨_,EO T f H,?_⟩)
 refine mX hsz pb rb T ho hf hl (Tb _) (H:=H) (fun c hc=>nomatch SI Array.size hc) (fun e he=>?_) fun h' es' hs hp hS'=>?_
 ·cases Array.singleton_inj.mp he;rfl
 ·cases(Array.toList_inj (xs:=es') (ys:=#[(H,Value.ref x)])).mp (List.perm_singleton.mp hp)
  exact h h' hs hS'
theorem vy{a x y:Addr}{u b:AV}{H:Int}{ep:Nat}{t:SetTable}{c:Nat}(hsz:s.heap=z.h)(hu:A.units+6<cLine)(pu:u.pur=true)(pb:b.pur=true)(ru:aq z u (.ref y))(rb:aq z b (.ref x))(hne:u≠b)(T:uR t #[c])
  (ho:s.heap.get? a=some { cls:=.type "set",dict:=none,data:=.set #[(H,.ref y)] ep t }) (hf:t.fits 1=true) {Q:SetFound->Shared->Prop} (h:∀ j,j≠c->Q (.free j false) s) (k:Nat) :
  ∀(i q fuel:Nat) (st:Option SetTable.Probe),st.getD (t.probeStart H)=pr i q->q<32^k->i<8->k+2<=fuel->wpAny M0 A (setSearchFrom a (.ref x) H true fuel st) Q E s:=by
 have one:∀(i q fuel:Nat) (st:Option SetTable.Probe),st.getD (t.probeStart H)=pr i q->(c=i->wpAny M0 A (setSearchFrom a (.ref x) H true fuel (some (pr (Hg i q) (q / 32)))) Q E s)->wpAny M0 A (setSearchFrom a (.ref x) H true (fuel+1) st) Q E s:=fun i q fuel st hst g=>by
  by_cases e:c=i
  ·cases e
   exact po hsz hu pu pb ru rb T ho hf (fun f hf=>by rw[hst,jZ T c q hf,SQ rfl]) (fun e=>SP e hne) fun _=>g rfl
  ·exact jR T.mask ho hf fun f hf=>⟨i,by rw[hst,jZ T i q (hf _ rfl),SL e],h i fun q=>e q.symm⟩
 induction k with
 | zero=>
  intro i q fuel st hst hq hi hk;obtain⟨g,rfl⟩:∃ g,fuel=g+2:=⟨fuel-2,(Uz hk).symm⟩;refine one i q _ st hst fun e=>one _ _ _ _ rfl fun e'=>?_;have:q=0:=Nat.lt_one_iff.mp hq;subst this;exact SP (e'.symm.trans e) (yA hi)
 | succ k ih=>
  intro i q fuel st hst hq hi hk;obtain⟨g,rfl⟩:∃ g,fuel=g+1:=⟨fuel-1,(Uz (SJ (Nat.le_add_left 1 (k+2)) hk)).symm⟩;exact one i q g st hst fun _=>ih _ _ g _ rfl ((Nat.div_lt_iff_lt_mul (by decide)).mpr hq) (Dg ..) (Nat.le_of_succ_le_succ hk)
theorem Aj{a x y:Addr}{u b:AV}{H H0:Int}{Q:Bool->Shared->Prop}(hsz:s.heap=z.h)(hu:A.units+6<cLine)(pu:u.pur=true)(pb:b.pur=true)(ru:aq z u (.ref y))(rb:aq z b (.ref x))(hH:u=b->H0=H)
  (hS:bR true s.heap a #[(H0,.ref y)]) (h1:u=b->Q false s)
  (h2:u≠b->∀ h' es',Heap.SameBut a s.heap h'->es'.toList.Perm [(H0,.ref y),(H,.ref x)]->bR true h' a es'->Q true { s with heap:=h' }):wpAny M0 A (setAddHashed a (.ref x) H) Q E s:=by
 obtain⟨ep,t,ho,hf,hl,hT,_,htt⟩:=id hS;obtain⟨hm,hp⟩:=htt rfl;have T:uR t #[SetTable.bits H0%8]:=⟨hm,hT.dum,hp _ rfl⟩;have hf1:t.fits 1=true:=hf;refine Td (SF (T6 ho rfl hf ?_));dsimp only;rw[uj];refine Ty nofun fun _=>SF ?_
 have aft:u≠b->∀ j,j≠SetTable.bits H0%8->_:=fun hne j hj=>mX hsz pb rb T ho hf hl (SN 1) (H:=H) (A:=A) (E:=E) (Q:=Q) (fun c hc=>by cases Array.singleton_inj.mp hc;exact hj) (fun e he=>SP (SI Array.size he) nofun) fun h' es' hs hp hS'=>h2 hne h' es' hs hp hS'
 by_cases e:H0=H
 ·subst e
  by_cases hne:u=b
  ·exact po hsz hu pu pb ru rb T ho hf1 (fun f hf=>by rw[Option.getD_none,KA T,jZ T _ _ hf,SQ rfl]) (fun e=>SH (h1 e)) fun e=>SP hne e
  ·exact vy hsz hu pu pb ru rb hne T ho hf1 (fun j hj=>aft hne j hj) 13 _ _ _ none (KA T _) (uN _) (Nat.mod_lt _ (by decide)) (by decide)
 ·refine jR hm ho hf1 fun f hf=>?_;obtain⟨j,hj,hr⟩:=rR T (f:=f) (h:=H) (by rw[hf _ rfl];exact e)
  exact⟨j,hr,aft (fun q=>e (hH q)) j hj⟩
end
noncomputable def AV.isTup:AV->Bool
 | .tup _=>true
 | _=>false
section
variable{z:Hp}{Y:St}{p:Pt Y}{A:Around}{s:Shared}{E:Value->Shared->Prop}
noncomputable abbrev PG:=PySem.Challenge.rw_rh0018_01.row.prog
theorem pN{es':Array (Int×Value)}{e:Int×Value}(h:es'.toList.Perm [e]):es'=#[e]:=Array.toList_inj.mp (List.perm_singleton.mp h)
def k8(S:Addr)(tp:Bool)(s:Shared)(P:Array (Int×Value)->Prop)(Q:Bool->Shared->Prop):Prop:=∀ b h' t es',Heap.SameBut S s.heap h'->bR tp h' S es'->P es'->Q b { s with heap:=h',toks:=t }
theorem mW{S:Addr}{a:AV}{w:Value}{Q:Bool->Shared->Prop}(hs:s.heap=z.h)(hu:A.units+10<cLine)(pa:a.pur=true)(ra:aq z a w)(hS:bR a.isTup s.heap S #[])(h:k8 S a.isTup s (·=#[(bL a,w)]) Q):wpAny M0 A (setAdd S w) Q E s:=
 bI (x:=z) (P:=fun _ v w=>bR v.isTup s.heap S #[]->k8 S v.isTup s (·=#[(bL v,w)]) Q->v.pur=true->aq z v w->wpAny M0 A (setAdd S w) Q E s) (Ps:=fun _ _ _=>True)
  (fun{_ i t} hS h pa ra=>Td (SF (eC pa ra hs (Tj (Tw (by decide) _) hu) fun t'=>
   kX (s:={ s with toks:=t' }) (knd:=intKind PG w0) (k:=i) (es:=#[]) (intKind_is ..) rfl (fun _ he=>by simp at he) (by decide) hS (fun he=>by simp at he) fun _ h' es' hs hp hS'=>h _ h' t' _ hs (pN hp▸hS') rfl)))
  (fun{_ i t} hi hS h pa ra=>Td (SF (eC pa ra hs (Tj (Tw (by decide) _) hu) fun t'=>
   kX (s:={ s with toks:=t' }) (knd:=strKind PG w0) (k:=aw i) (es:=#[]) (strKind_is ..) rfl (fun _ he=>by simp at he) (by decide) hS (fun he=>by simp at he) fun _ h' es' hs hp hS'=>h _ h' t' _ hs (pN hp▸hS') rfl)))
  (fun{_ vs a ws n} _ _ hS h pa ra=>Td (SF (eC pa ra hs (Tj (Tw (by decide) _) hu) fun t'=>Ak (s:={ s with toks:=t' }) hs pa ra hS fun h' hsb hS'=>h _ h' t' _ hsb hS' rfl)))
  trivial (fun _ _=>trivial) pa ra hS h pa ra
theorem Js{u b:AV}{y w:Value}{C:AV->AV->Value->Value->Prop}(hk:ce u b=true)(pu:u.pur=true)(pb:b.pur=true)(ru:aq z u y)(rb:aq z b w)(hi:∀ i j t t',C (.int i) (.int j) (.int i t) (.int j t'))(hs:∀ i j t t',i<aT.length->j<aT.length->C (.sym i) (.sym j) (.str (aw i) t) (.str (aw j) t'))
  (ht:∀ vs us a b,C (.tup vs) (.tup us) (.ref a) (.ref b)):C u b y w:=by
 revert hk
 refine bI (x:=z) (P:=fun _ u y=>ce u b=true->C u b y w) (Ps:=fun _ _ _=>True) (fun{_ i t}=>?_) (fun{_ i t} hi'=>?_) (fun{_ vs a ws n} _ _=>?_) trivial (fun _ _=>trivial) pu ru
 ·exact bI (x:=z) (P:=fun _ b w=>ce (.int i) b=true->C (.int i) b (.int i t) w) (Ps:=fun _ _ _=>True) (fun _=>hi ..) (fun _ h=>nomatch h) (fun _ _ h=>nomatch h) trivial (fun _ _=>trivial) pb rb
 ·exact bI (x:=z) (P:=fun _ b w=>ce (.sym i) b=true->C (.sym i) b (.str (aw i) t) w) (Ps:=fun _ _ _=>True) (fun h=>nomatch h) (fun hj _=>hs _ _ _ _ hi' hj) (fun _ _ h=>nomatch h) trivial (fun _ _=>trivial) pb rb
 ·exact bI (x:=z) (P:=fun _ b w=>ce (.tup vs) b=true->C (.tup vs) b (.ref a) w) (Ps:=fun _ _ _=>True) (fun h=>nomatch h) (fun _ h=>nomatch h) (fun _ _ _=>ht ..) trivial (fun _ _=>trivial) pb rb
def iI(u b:AV)(y w:Value)(es:Array (Int×Value)):Prop:=(u=b->es=#[(bL u,y)])/\(u≠b->es.toList.Perm [(bL u,y),(bL b,w)])
theorem wC{κ:Type}[DecidableEq κ]{knd:KeyKind PG w0 κ}{k:κ}{y:Value}(h:knd.is k y=true)(hsc:y.scannable=true):ElemsOf knd (#[(knd.hash k,y)]:Array (Int×Value)).toList:=fun e he=>SY.mp he▸⟨⟨k,h,rfl⟩,hsc⟩
theorem iM{κ:Type}[DecidableEq κ](knd:KeyKind PG w0 κ){i j:κ}{u b:AV}{y w:Value}{S:Addr}{Q:Bool->Shared->Prop}(hi:knd.is i y=true)(hj:knd.is j w=true)(yc:y.scannable=true)(wc:w.scannable=true)(hu:knd.hash i=bL u)(hb:knd.hash j=bL b)
  (ij:knd.is j y=decide (u=b)) (hS:bR false s.heap S #[(bL u,y)]) (h:k8 S false s (iI u b y w) Q) {t:Nat}:wpAny M0 A (setAddHashed S w (bL b)) Q E { s with toks:=t }:=
 hb▸kX (s:={ s with toks:=t }) (knd:=knd) (k:=j) hj wc (hu▸wC hi yc) (SN _) hS
  (fun he h' hs hS'=>have e:u=b:=SO (ij▸(by simpa using he));h _ h' t _ hs hS' ⟨fun _=>rfl,fun n=>SP e n⟩)
  fun he h' es' hs hp hS'=>have e:u≠b:=of_decide_eq_false (ij▸(by simpa using he));h _ h' t _ hs hS' ⟨fun n=>SP n e,fun _=>hb▸hp⟩
def An(A:Around)(s:Shared)(z:Hp)(S:Addr)(Q:Bool->Shared->Prop)(E:Value->Shared->Prop)(u b:AV)(y w:Value):Prop:=aq z u y->aq z b w->u.pur=true->b.pur=true->bR u.isTup s.heap S #[(bL u,y)]->k8 S u.isTup s (iI u b y w) Q->wpAny M0 A (setAdd S w) Q E s
theorem tF{S:Addr}{u b:AV}{w y:Value}{Q:Bool->Shared->Prop}(hs:s.heap=z.h)(hu:A.units+10<cLine)(pu:u.pur=true)(pb:b.pur=true)(hk:ce u b=true)(ru:aq z u y)(rb:aq z b w)(hS:bR u.isTup s.heap S #[(bL u,y)])
  (h:k8 S u.isTup s (iI u b y w) Q):wpAny M0 A (setAdd S w) Q E s:=
 have hu6:A.units+6<cLine:=Tj (Tw (by decide) _) hu
 Js (C:=An A s z S Q E) hk pu pb ru rb
  (fun i j t t' ru rb pu pb hS h=>Td (SF (eC pb rb hs hu6 fun t2=>iM (intKind PG w0) (i:=i) (j:=j) (u:=.int i) (b:=.int j) (intKind_is ..) (intKind_is ..) rfl rfl rfl rfl (decide_eq_decide.mpr ⟨fun e=>SI _ e,AV.int.inj⟩:decide (i=j)=decide (AV.int i=AV.int j)) hS h)))
  (fun i j t t' hi hj ru rb pu pb hS h=>Td (SF (eC pb rb hs hu6 fun t2=>iM (strKind PG w0) (i:=aw i) (j:=aw j) (u:=.sym i) (b:=.sym j) (strKind_is ..) (strKind_is ..) rfl rfl rfl rfl (decide_eq_decide.mpr ⟨fun e=>SI _ ((d6 j hj).2 i hi e),fun e=>SI _ (AV.sym.inj e)⟩:decide (aw i=aw j)=decide (AV.sym i=AV.sym j)) hS h)))
  (fun vs us a c ru rb pu pb hS h=>Td (SF (eC pb rb hs hu6 fun t2=>Aj (s:={ s with toks:=t2 }) hs hu6 pu pb ru rb (fun e=>SI _ e) hS (fun e=>h _ s.heap t2 _ (Heap.SameBut.refl ..) hS ⟨fun _=>rfl,fun n=>SP e n⟩) fun e h' es' hsb hp hS'=>h _ h' t2 _ hsb hS' ⟨fun n=>SP n e,fun _=>hp⟩)))
  ru rb pu pb hS h
theorem bR.same{tp:Bool}{h h':Heap}{a:Addr}{es:Array (Int×Value)}(x:bR tp h a es)(e:∀ o,h.get? a=some o->h'.get? a=some o):bR tp h' a es:=x.imp fun _ x=>x.imp fun _ x=>⟨e _ x.1,x.2⟩
theorem rK{xs ys:List AV}{l:Addr}{ws:Array Value}{m:Nat}(P:Nat->Array (Int×Value)->Prop)(tp:Bool)(hh:A.handled=none)(ho:p.s.heap.get? l=some (gy ws m))(h0:P 0 #[])
  (step:∀(i:Nat) (w:Value) (s:Shared) (es:Array (Int×Value)) (S:Addr) (Q:Bool->Shared->Prop),ws.toList[i]?=some w->Wk p.x ⟨p.ι,p.κ,s.heap⟩->bR tp s.heap S es->P i es->k8 S tp s (P (i+1)) Q->wpAny M0 A.in1.in1.in1 (setAdd S w) Q (fun _ _=>False) s)
  (ed:∀ es,P ws.size es->∃ us,us.Perm (es.toList.map (·.2))/\VL ys p us):aR A p (call (.type "set") [.ref l]) (.fset ys) Y:=by
 have hne:∀ b o,p.s.heap.get? b=some o->b≠p.s.heap.objs.size:=fun b o e=>Te (TA e);refine⟨fun g=>ou (l:=l) (items:=ws) (fun i h=>(∀ b o,p.s.heap.get? b=some o->h.get? b=some o)/\∃ es,bR tp h p.s.heap.objs.size es/\P i es) hh (cB ho)
  (fun h' hS hk=>⟨hk,#[],⟨0,_,hS,rfl,by show(!kG)=true\/kG=true;cases kG<;>decide,⟨rfl,SN _,fun x y h=>SP (SI Array.size h) (by simp[SetTable.fresh])⟩,by decide,fun _=>⟨rfl,fun e he=>SP (SI Array.size he) (by simp)⟩⟩,h0⟩)
  (fun i v s₁ Q' hi hI hQ=>hI.2.elim fun es hS=>step i v s₁ es _ Q' (by rw[Tz];exact hi) (.same fun b o e _=>hI.1 b o e) hS.1 hS.2 fun b h' t es' hsb hS' hP=>hQ b h' t ⟨fun c o e'=>(hsb.2 c (hne c o e')).trans (hI.1 c o e'),es',hS',hP⟩ hsb)
  (fun i h1 h2 it hn hi hI hx=>⟨fun b o e=>hx b o (fun q=>by subst q;rw[hn] at e;cases e) (hI.1 b o e),hI.2.imp fun es hS=>⟨hS.1.same fun o e=>hx _ o hi.symm e,hS.2⟩⟩)
  fun h' tk hI hk=>hI.2.elim fun es hS=>(ed es hS.2).elim fun us hu=>p.more hk fun q n _ im=>?_⟩
 obtain⟨ep,t,ho',hf,hl,hT,hz,_⟩:=hS.1;exact g q _ n ⟨_,es.toList.map (·.2),us,es,ep,t,rfl,⟨⟨hf,rfl,hl,hz,hT.rise⟩,hu.1⟩,im _ _ (aW (SN _)) ho',ai.vrels (VL.nx hu.2 n)⟩
theorem ri{A:Around}{n:Nat}(R:ch A n):A.in1.in1.in1.units+10<cLine:=by show A.units+1+1+1+10<cLine;have:=R.six;exact P6 this
theorem Bu{w v:Value}{i:Nat}(h:[w][i]?=some v):i=0/\w=v:=by
 cases i with
 | zero=>exact⟨rfl,S0 h⟩
 | succ i=>cases h
section
variable{n:Nat}{a b:AV}{l:Addr}{ws:Array Value}{m:Nat}
theorem Lo(R:ch A n)(ho:p.s.heap.get? l=some (gy ws m))(hx:VL [] p ws.toList):aR A p (call (.type "set") [.ref l]) (.fset []) Y:=
 rK (xs:=[]) (fun _ es=>es=#[]) false R.handled ho rfl (fun i w s es S Q hw _ _ _ _=>by rw[show ws.toList=[] from hx] at hw;cases hw) fun es e=>⟨[],e▸.refl _,.nil⟩
theorem Ln(R:ch A n)(ho:p.s.heap.get? l=some (gy ws m))(hx:VL [a] p ws.toList)(pa:a.pur=true):aR A p (call (.type "set") [.ref l]) (.fset [a]) Y:=
 (VL.one hx).elim fun w1 h=>rK (xs:=[a]) (fun i es=>(i=0->es=#[])/\(i=1->es=#[(bL a,w1)])) a.isTup R.handled ho ⟨fun _=>rfl,nofun⟩ (fun i w s es S Q hw wk hS hP hQ=>by
  rw[h.1] at hw;obtain⟨rfl,rfl⟩:=Bu hw
  cases hP.1 rfl
  exact mW (z:=⟨p.ι,p.κ,s.heap⟩) rfl (ri R) pa (aq.wk wk h.2) hS fun b h' t es' hsb hS' hP=>hQ b h' t es' hsb hS' ⟨nofun,fun _=>hP⟩) fun es hP=>⟨[w1],by rw[hP.2 (by rw[hx.size];rfl)];exact .refl _,.cons h.2 .nil⟩
theorem AI{w v u:Value}{i:Nat}(h:[w,u][i]?=some v){C:Nat->Value->Prop}(h0:C 0 w)(h1:C 1 u):C i v:=match i,h with
 | 0,h=>S0 h▸h0
 | 1,h=>S0 h▸h1
theorem Lm(R:ch A n)(ho:p.s.heap.get? l=some (gy ws m))(hx:VL [a,b] p ws.toList)(pa:a.pur=true)(pb:b.pur=true)(hk:ce a b=true):aR A p (call (.type "set") [.ref l]) (.fset (bif decide (a=b) then[a] else[a,b])) Y:=
 (VL.two hx).elim fun w1 h=>h.elim fun w2 h=>rK (xs:=[a,b]) (fun i es=>(i=0->es=#[])/\(i=1->es=#[(bL a,w1)])/\(i=2->iI a b w1 w2 es)) a.isTup R.handled ho ⟨fun _=>rfl,nofun,nofun⟩ (fun i w s es S Q hw wk hS hP hQ=>by
  rw[h.1] at hw
  revert hP hQ
  refine AI hw (C:=fun i w=>((i=0->es=#[])/\(i=1->es=#[(bL a,w1)])/\(i=2->iI a b w1 w2 es))->k8 S a.isTup s (fun es=>(i+1=0->es=#[])/\(i+1=1->es=#[(bL a,w1)])/\(i+1=2->iI a b w1 w2 es)) Q->wpAny M0 A.in1.in1.in1 (setAdd S w) Q (fun _ _=>False) s) (fun hP hQ=>?_) fun hP hQ=>?_
  ·cases hP.1 rfl
   exact mW (z:=⟨p.ι,p.κ,s.heap⟩) rfl (ri R) pa (aq.wk wk h.2.1) hS fun b h' t es' hsb hS' hP=>hQ b h' t es' hsb hS' ⟨nofun,fun _=>hP,nofun⟩
  ·cases hP.2.1 rfl
   exact tF (z:=⟨p.ι,p.κ,s.heap⟩) rfl (ri R) pa pb hk (aq.wk wk h.2.1) (aq.wk wk h.2.2) hS fun b h' t es' hsb hS' hP=>hQ b h' t es' hsb hS' ⟨nofun,nofun,fun _=>hP⟩) fun es hP=>by
  have hP:=hP.2.2 (by rw[hx.size];rfl)
  by_cases hab:a=b
  ·rw[SV hab];exact⟨[w1],by rw[hP.1 hab];exact .refl _,.cons h.2.1 .nil⟩
  ·rw[Tk hab];exact⟨[w1,w2],((hP.2 hab).map (fun e:Int×Value=>e.2)).symm,.cons h.2.1 (.cons h.2.2 .nil)⟩
theorem zV{r:Nat}{ys:List AV}{w:Value}(R:ch A n)(rv:V (.ref r) p w):∀{xs:List AV},aj Y r=some xs->lv xs=some ys->aR A p (call (.type "set") [w]) (.fset ys) Y
 | [],hr,hs=>S0 hs▸rv.lstE hr (P:=fun w=>aR A p (call (.type "set") [w]) (.fset []) Y) fun l ws m _ _ ho hx=>Lo R ho hx
 | [a],hr,hs=>cO hs fun pa e=>e▸rv.lstE hr (P:=fun w=>aR A p (call (.type "set") [w]) (.fset [a]) Y) fun l ws m _ _ ho hx=>Ln R ho hx pa
 | [a,b],hr,hs=>cO hs fun q e=>e▸rv.lstE hr (P:=fun w=>aR A p (call (.type "set") [w]) (.fset (bif decide (a=b) then[a] else[a,b])) Y) fun l ws m _ _ ho hx=>Lm R ho hx (eF q).1 (eF q).2.1 (eF q).2.2
end
end
section
variable{M:Model}{A:Around}{E:Value->Shared->Prop}{s:Shared}
theorem ky{α:Type}{l:List α}:∀{i:Nat} (h:i<l.length),(l[i]::l.eraseIdx i).Perm l:=by
 induction l with
 | nil=>exact fun h=>SP h (Nat.not_lt_zero _)
 | cons x l ih=>
  refine @fun i h=>?_
  cases i with
  | zero=>exact .refl _
  | succ i=>exact(List.Perm.swap _ _ _).trans ((ih (Nat.lt_of_succ_lt_succ h)).cons _)
theorem xh{src:Source}{n:Nat}{Q:Nat->Shared->Prop}(hn:n≠0)(h:∀ i d,i<n->Q i { s with drawn:=d }):wpAny M A (choose src n) Q E s:=fun Γ p _=>by
 show Sem.wp M Γ (.choose src n .pure) _ _ p s;rw[Sem.wp_choose];refine⟨hn,?_⟩;rw[Sem.wp_pure];exact h _ _ (Nat.mod_lt _ (Nat.pos_of_ne_zero hn))
theorem m8{α:Type}(n:Nat):∀(xs:List α) {s:Shared} {Q:List α->Shared->Prop},n=xs.length->(∀ ys d,ys.Perm xs->Q ys { s with drawn:=d })->wpAny M A (drawOrder n xs) Q E s:=by
 induction n with
 | zero=>exact fun xs s Q hn h=>UK hn.symm▸SH (h [] s.drawn (UK hn.symm▸.refl _))
 | succ n ih=>
  refine @fun xs s Q hn h=>?_
  cases xs with
  | nil=>exact nomatch hn
  | cons y ys=>
   refine SF (xh (Nat.succ_ne_zero _) fun i d hi=>?_);rw[TC hi];exact SF (ih _ (by rw[List.length_eraseIdx_of_lt hi,<- hn];rfl) fun zs d' hz=>SH (h _ _ ((hz.cons _).trans (ky hi))))
end
theorem Bs{α:Type}(next:Nat->Nat)(fuel:Nat):∀(k:Nat) (qg:List α) (out:Array α),fuel=qg.length->(pickOrder.go next fuel k qg out).toList.Perm (out.toList++qg):=by
 induction fuel with
 | zero=>exact fun k l out h=>UK h.symm▸(Tr out.toList).symm▸.refl _
 | succ fuel ih=>
  refine fun k l out h=>?_
  cases l with
  | nil=>exact nomatch h
  | cons x r=>
   have hi:next k%(x::r).length<(x::r).length:=Nat.mod_lt _ (Nat.succ_pos _);show(match (x::r)[next k%(x::r).length]? with | some _=>_ | none=>_:Array α).toList.Perm _
   rw[TC hi];refine(ih (k+1) _ _ (by rw[List.length_eraseIdx_of_lt hi,<- h];rfl)).trans ?_
   rw[Uv,S6];exact(ky hi).append_left _
theorem vE{α:Type}(next:Nat->Nat)(xs:Array α):(pickOrder next xs).toList.Perm xs.toList:=by
 have:=Bs next xs.size 0 xs.toList #[] (by simp)
 simpa[pickOrder] using this
theorem tj{pl:Array Nat}(hz:pl.size<=2):SetTable.below pl 0=0:=by
 match pl,hz with
 | ⟨[]⟩,_=>rfl
 | ⟨[a]⟩,_=>show SetTable.below #[a] 0=0;rw[kJ];simp
 | ⟨[a,b]⟩,_=>
  show SetTable.below.go #[a,b] 0 2 0 2=0;simp[SetTable.below.go]
 | ⟨_::_::_::_⟩,hz=>simp at hz
theorem tm{pl:Array Nat}(hz:pl.size<=2)(hr:∀ x y,pl=#[x,y]->x<y){i p:Nat}(h:pl[i]?=some p):SetTable.below pl (p+1)=i+1:=by
 match pl,hz with
 | ⟨[]⟩,_=>simp at h
 | ⟨[a]⟩,_=>
  rcases i with _ | i
  ·simp at h;subst h;show SetTable.below #[a] (a+1)=1;rw[kJ];simp
  ·simp at h
 | ⟨[a,b]⟩,_=>
  have hab:=hr a b rfl
  rcases i with _ | _ | i
  ·simp at h;subst h;show SetTable.below.go #[a,b] (a+1) 2 0 2=1;have:¬b<a+1:=P5 hab;simp[SetTable.below.go,this]
  ·simp at h;subst h;show SetTable.below.go #[a,b] (b+1) 2 0 2=2;simp[SetTable.below.go]
  ·simp at h
 | ⟨_::_::_::_⟩,hz=>simp at hz
namespace F
theorem slot_set_iterator_next:Slot "set_iterator" "__next__" "set_iterator.__next__":=
 .of (owner:="set_iterator") (n:="__next__") (by rw[typeLookup_type,builtinLookup_eq_fast];kernel_rfl) (by decide +kernel) (by decide +kernel) (by decide +kernel)
  (by first | exact .inl (by decide +kernel) | exact .inr (by decide +kernel)) (by rw[isSubtype_type];kernel_rfl)
theorem entry_set_iterator_next:entryFor table "set_iterator.__next__"=some Builtin.«set_iterator.__next__»:=entryFor_of_tree (by kernel_rfl)
theorem args_set_iterator_next(a:Value):argsOk "set_iterator.__next__" ⟨[a],[]⟩:=by unfold argsOk;kernel_rfl
theorem entry_set_iter:entryFor table "set.__iter__"=some Builtin.«frozenset.__iter__»:=
 entryFor_alias (id':="frozenset.__iter__") (by kernel_rfl) rfl (by decide +kernel) (by kernel_rfl)
end F
def fG(S I T:Addr)(es:Array (Int×Value))(ep:Nat)(t:SetTable)(ord:List Value)(i:Nat)(h:Heap):Prop:=
 ∃ first:Value,h.get? I=some { cls:=.type "set_iterator",data:=.fields #[first,.int i 0,.ref S,.int es.size 0,.int ep 0] }/\h.get? S=some { cls:=.type "set",data:=.set es ep t }/\
  ((kG=true/\first=.int 0 0/\ord=(pickOrder (w0.params.setOrder S ep) es).toList.map (·.2))\/
   (kG=false/\(!t.plain&&decide (es.size > 1))=true/\∃(pl:List Nat) (m:Nat),first=.ref T/\h.get? T=some (bW (pl.map fun j=>Value.int (j:Nat) 0).toArray m)/\(∀ j∈pl,j<es.size)/\ord=pl.map (fun j=>(es.getD j (0,.none)).2))\/
   (kG=false/\(!t.plain&&decide (es.size > 1))=false/\t.led=true/\∃ k:Nat,first=.int k 0/\SetTable.below t.place k=i/\ord=es.toList.map (·.2)))
section
variable{A:Around}{E:Value->Shared->Prop}{s:Shared}
theorem fG.typeIs{S I T:Addr}{es:Array (Int×Value)}{ep:Nat}{t:SetTable}{ord:List Value}{i:Nat}(x:fG S I T es ep t ord i s.heap):s.TypeIs (.ref I) "set_iterator":=by
 obtain⟨_,h,_⟩:=x;exact⟨_,h,rfl⟩
theorem fG.frame{S I T:Addr}{es:Array (Int×Value)}{ep:Nat}{t:SetTable}{ord:List Value}{i:Nat}{h h':Heap}(x:fG S I T es ep t ord i h)(hk:∀ b∈[I,S,T],∀ o,h.get? b=some o->h'.get? b=some o):fG S I T es ep t ord i h':=by
 obtain⟨f,h1,h2,h3⟩:=x;refine⟨f,hk I (by simp) _ h1,hk S (by simp) _ h2,?_⟩
 rcases h3 with h3 | ⟨a,b,pl,m,c,d,e⟩ | h3
 ·exact .inl h3
 ·exact .inr (.inl ⟨a,b,pl,m,c,hk T (by simp) _ d,e⟩)
 ·exact .inr (.inr h3)
theorem jo{Q:Bool->Shared->Prop}(h:Q kG s):wpAny M0 A setsByText Q E s:=by
 unfold setsByText;exact SF (wpAny_askSetting (SH h))
section
variable{S:Addr}{es:Array (Int×Value)}{ep:Nat}{t:SetTable}(hS:s.heap.get? S=some { cls:=.type "set",data:=.set es ep t })(hf:t.fits es.size=true)
include hS hf
theorem xj{Q:Array (Int×Value)->Shared->Prop}(hb:kG=true)(h:Q (pickOrder (w0.params.setOrder S ep) es) s):wpAny M0 A (setWalk S) Q E s:=by
 unfold setWalk;exact SF (T6 hS rfl hf (SF (jo (wpAny_ite_true (by rw[hb];rfl) (SF (wpAny_askSetting (SH h)))))))
theorem p7{Q:Option (Value×Nat)->Shared->Prop}{k g:Nat}{r:Option (Int×Value)}(hb:kG=true)(hr:(pickOrder (w0.params.setOrder S ep) es)[g]?=r)(h:Q (r.map fun e=>(e.2,k)) s):wpAny M0 A (setNext S k g ep) Q E s:=by
 unfold setNext;refine SF (T6 hS rfl hf (SF (jo (wpAny_ite_true (by rw[hb];rfl) (wpAny_ite_false (c:=(ep != ep)=true) (by simp) ?_)))))
 exact SF (xj hS hf hb (SH (by rw[hr];exact h)))
theorem p8{Q:Option (Value×Nat)->Shared->Prop}{k g i:Nat}(hb:kG=false)(hd:(!t.plain&&decide (es.size > 1))=false)(hl:t.led=true)(hk:SetTable.below t.place k=i)(h:∀ r,r=(match es[i]?,t.place[i]? with | some (_,x),some j=>some (x,j+1) | _,_=>none)->Q r s):wpAny M0 A (setNext S k g ep) Q E s:=by
 subst hk;unfold setNext;refine SF (T6 hS rfl hf (SF (jo (wpAny_ite_false (by rw[hb];rfl) ?_))))
 refine Ty (fun q=>SP (hd.symm.trans q) Tp) fun _=>SF ?_;show wpAny _ _ (if(!t.led&&!es.isEmpty)=true then unsupported "set:maker-not-led" else pure ()) _ _ _
 exact wpAny_ite_false (by rw[hl];rfl) (SH (SH (h _ rfl)))
theorem sD{Q:Value->Shared->Prop}{j:Nat}{e:Int×Value}(he:es[j]?=some e)(h:Q e.2 s):wpAny M0 A (setNextDrawn S j ep) Q E s:=by
 unfold setNextDrawn;refine SF (T6 hS rfl hf (wpAny_ite_false (c:=(ep != ep)=true) (by simp) ?_))
 rw[he];exact SH h
end
def Ez(A:Around)(s:Shared)(E:Value->Shared->Prop)(S I T:Addr)(es:Array (Int×Value))(ep:Nat)(t:SetTable)(ord:List Value)(i:Nat)(Q:Option Value->Shared->Prop):Prop:=∀{v:Value} (hST:S≠I) (hT:T≠I) (hf:t.fits es.size=true) (hz:es.size<=2) (hr:∀ x y,t.place=#[x,y]->x<y) (hx:ord[i]?=some v) (x:fG S I T es ep t ord i s.heap) (h:∀ h',fG S I T es ep t ord (i+1) h'->Heap.SameBut I s.heap h'->Q (some v) { s with heap:=h' }),wpAny M0 A (pyNext (.ref I)) Q E s
def H9(a:Around×Shared×(Value->Shared->Prop)×Addr×Addr×Addr×Array (Int×Value)×Nat×SetTable×List Value×Nat×(Option Value->Shared->Prop)):Prop:=Ez a.1 a.2.1 a.2.2.1 a.2.2.2.1 a.2.2.2.2.1 a.2.2.2.2.2.1 a.2.2.2.2.2.2.1 a.2.2.2.2.2.2.2.1 a.2.2.2.2.2.2.2.2.1 a.2.2.2.2.2.2.2.2.2.1 a.2.2.2.2.2.2.2.2.2.2.1 a.2.2.2.2.2.2.2.2.2.2.2
noncomputable def iW:=lN ({},{},default) H9
noncomputable def Qy:=iW.1
noncomputable def Ha:=iW.2.1
noncomputable def Qx:=iW.2.2.1
noncomputable def H8:=iW.2.2.2.1
noncomputable def C5:=iW.2.2.2.2.1
noncomputable def OP:=iW.2.2.2.2.2.1
noncomputable def vq:=iW.2.2.2.2.2.2.1
noncomputable def H7:=iW.2.2.2.2.2.2.2.1
noncomputable def Kx:=iW.2.2.2.2.2.2.2.2.1
noncomputable def HZ:=iW.2.2.2.2.2.2.2.2.2.1
noncomputable def q8:=iW.2.2.2.2.2.2.2.2.2.2.1
noncomputable def Qw:=iW.2.2.2.2.2.2.2.2.2.2.2
theorem Lg:Ez Qy Ha Qx H8 C5 OP vq H7 Kx HZ q8 Qw:=fun{v} hST hT hf hz hr hx x h=>by
 obtain⟨first,ho,hS,hm⟩:=id x
 unfold pyNext;refine SF (wpAny_attempt (wpAny_callSpecial?_slot (name:=Str.ofString "__next__") x.typeIs F.slot_set_iterator_next (TK F.slot_set_iterator_next x.typeIs F.entry_set_iterator_next ?_ (F.args_set_iterator_next _))));refine SF (SH (SF (wpAny_fieldsOf ho rfl (SF (wpAny_setEntries_of hS rfl hf (wpAny_ite_false (by simp) ?_))))))
 rcases hm with⟨hb,rfl,hord⟩ | ⟨hb,hd,pl,m,rfl,hTo,hpl,hord⟩ | ⟨hb,hd,hl,k,rfl,hk,hord⟩
 ·have hv:((pickOrder (w0.params.setOrder H8 H7) vq)[q8]?).map (·.2)=some v:=by rw[hord] at hx;simpa using hx
  obtain⟨e,he,rfl⟩:=Ur.mp hv;refine SF (p7 hS hf hb (g:=q8) he ?_);refine SF (T1 ho rfl (by simp) ?_)
  have ho1:=TF (Obj.mapFields (·.setIfInBounds 0 (rawInt ((0:Int).toNat:Nat)))) ho rfl;refine SF (T1 ho1 rfl (by simp[Obj.mapFields]) ?_)
  have ho2:=TF (Obj.mapFields (·.setIfInBounds 1 (rawInt ((q8:Int)+1)))) ho1 rfl;have sb:Heap.SameBut C5 Ha.heap _:=(Tv Ha.heap C5 (Obj.mapFields (·.setIfInBounds 0 (rawInt ((0:Int).toNat:Nat))))).trans (Tv _ C5 (Obj.mapFields (·.setIfInBounds 1 (rawInt ((q8:Int)+1)))));exact SH ⟨_,rfl,SH (h _ ⟨_,ho2,(sb.2 H8 hST).trans hS,.inl ⟨hb,rfl,hord⟩⟩ sb)⟩
 ·refine SF (Uk hTo rfl ?_);obtain⟨j,hj,hjv⟩:∃ j,pl[q8]?=some j/\(vq.getD j (0,.none)).2=v:=by rw[hord] at hx;simpa using hx
  have hjz:=hpl j (Tm hj);have hp:((pl.map fun j=>Value.int (j:Nat) 0).toArray)[(q8:Int).toNat]?=some (.int (j:Nat) 0):=by simp[hj]
  dsimp only;rw[hp];have hv:vq[j].2=v:=by rw[<- hjv];simp[Array.getD,hjz]
  refine SF (sD hS hf (j:=j) (TT hjz) ?_);refine SF (T1 ho rfl (by simp) ?_)
  have ho1:=TF (Obj.mapFields (·.setIfInBounds 1 (rawInt ((q8:Int)+1)))) ho rfl;have sb:=Tv Ha.heap C5 (Obj.mapFields (·.setIfInBounds 1 (rawInt ((q8:Int)+1))));rw[hv];exact SH ⟨_,rfl,SH (h _ ⟨_,ho1,(sb.2 H8 hST).trans hS,.inr (.inl ⟨hb,hd,pl,m,rfl,(sb.2 OP hT).trans hTo,hpl,hord⟩)⟩ sb)⟩
 ·obtain⟨e,he,rfl⟩:∃ e,vq[q8]?=some e/\e.2=v:=by
   rw[hord] at hx;simp only[List.getElem?_map,Array.getElem?_toList] at hx;exact Ur.mp hx
  have hi:q8<vq.size:=(UG.mp he).1;have hpi:Kx.place[q8]?=some (Kx.place[q8]'(by rw[cM hf];exact hi)):=TT _
  generalize Kx.place[q8]'(by rw[cM hf];exact hi)=q at hpi
  refine SF (p8 hS hf hb hd hl (k:=k) hk fun r hr=>?_);rw[he,hpi] at hr;subst hr;refine SF (T1 ho rfl (by simp) ?_)
  have ho1:=TF (Obj.mapFields (·.setIfInBounds 0 (rawInt ((q+1:Nat):Int)))) ho rfl;refine SF (T1 ho1 rfl (by simp[Obj.mapFields]) ?_)
  have ho2:=TF (Obj.mapFields (·.setIfInBounds 1 (rawInt ((q8:Int)+1)))) ho1 rfl;have sb:Heap.SameBut C5 Ha.heap _:=(Tv Ha.heap C5 (Obj.mapFields (·.setIfInBounds 0 (rawInt ((q+1:Nat):Int))))).trans (Tv _ C5 (Obj.mapFields (·.setIfInBounds 1 (rawInt ((q8:Int)+1)))));exact SH ⟨_,rfl,SH (h _ ⟨_,ho2,(sb.2 H8 hST).trans hS,.inr (.inr ⟨hb,hd,hl,q+1,rfl,tm (by rw[cM hf];exact hz) hr hpi,hord⟩)⟩ sb)⟩
theorem x7{S I T:Addr}{es:Array (Int×Value)}{ep:Nat}{t:SetTable}{ord:List Value}{i:Nat}{Q:Option Value->Shared->Prop}:Ez A s E S I T es ep t ord i Q:=bF H9 Lg (A,s,E,S,I,T,es,ep,t,ord,i,Q)
theorem gl{α:Type}{P:α->Shared->Prop}{Q:Option Value->Shared->Prop}(hh:A.handled=none)(h:∀ h',(∀ b o,s.heap.get? b=some o->h'.get? b=some o)->Q none { s with heap:=h' }) :
  wpAny M0 A.in1 ((newExc (.type "StopIteration") []) >>= fun e=>(raiseNew e:Sem α)) P
   (fun e s'=>wpAny M0 A (isInstance e (.type "StopIteration") >>= fun b=>if b=true then pure none else throw e) Q E s') s:=by
 refine SF ?_;simp only[newExc,newTuple];refine SF (TZ ?_ (by size_fits))
 refine SF (m:=firstArgMember _ _) (wpAny_of_eq (a:=Value.none) (by first | rfl | (simp only[firstArgMember];rfl)) ?_)
 refine TZ ?_ (by size_fits)
 simp only[raiseNew];refine SF (wpAny_handled ?_);rw[show A.in1.handled=none from hh];refine SF (SH (wpAny_throw ?_));refine SF (wpAny_isInstance (T:="StopIteration") (b:=true) ⟨_,Ti _ rfl,rfl⟩ isSubtype_stop ?_);exact SH (h _ fun b o e=>S9 _ (S9 _ e))
end
theorem y0{ord:List Value}{acc:Array Value}(h:ItemsOf (fun i v=>ord[i]?=some v) acc ord.length):acc.toList=ord:=by
 apply List.ext_getElem?;intro i
 by_cases hi:i<acc.size
 ·have:=h.2 i _ (TT hi);rw[this,Tz,TT hi]
 ·rw[List.getElem?_eq_none (by simpa using hi),List.getElem?_eq_none (by rw[<- h.1];exact P4 hi)]
section
variable{A:Around}{E:Value->Shared->Prop}{s:Shared}
def Gb(A:Around)(s:Shared)(E:Value->Shared->Prop)(r:Addr)(T:String)(iv:List Value->Prop)(Q:List Value->Shared->Prop):Prop:=∀(hT:s.TypeIs (.ref r) T) (nl:(Value.type T==Value.type "list")=false) (nt:(Value.type T==Value.type "tuple")=false) (hint:∀(E₁:Value->Shared->Prop) (s₁:Shared) (Q₁:Bool->Shared->Prop),s₁.TypeIs (.ref r) T->Q₁ false s₁->wpAny M0 A.in1 (Builtin.List.listLengthHint (.ref r)) Q₁ E₁ s₁) (iter:∀(E₁:Value->Shared->Prop) (s₁:Shared) (Q₁:Value->Shared->Prop),(∀ b o,s.heap.get? b=some o->s₁.heap.get? b=some o)->
   (∀ h' d I fp ord St,Walks PG w0 A.in1 I fp [I] ord.length (fun i v=>ord[i]?=some v) St->St 0 h'->iv ord->ord.length<=sizeLine->I∈fp->(∀ b∈fp,s₁.heap.get? b=none\/∃ o,s.heap.get? b=some o)->(∀ b o,s₁.heap.get? b=some o->h'.get? b=some o)->s₁.heap.get? I=none->
    Q₁ (.ref I) { s₁ with heap:=h',drawn:=d })->wpAny M0 A.in1 (pyIter (.ref r)) Q₁ E₁ s₁) (h:∀ h' tk d ord,iv ord->(∀ b o,s.heap.get? b=some o->h'.get? b=some o)->Q ord { s with heap:=h',toks:=tk,drawn:=d }),wpAny M0 A (collect (.ref r)) Q E s
def J2(a:Around×Shared×(Value->Shared->Prop)×Addr×String×(List Value->Prop)×(List Value->Shared->Prop)):Prop:=Gb a.1 a.2.1 a.2.2.1 a.2.2.2.1 a.2.2.2.2.1 a.2.2.2.2.2.1 a.2.2.2.2.2.2
noncomputable def tf:=lN ({},{},default) J2
noncomputable def Hj:=tf.1
noncomputable def jF:=tf.2.1
noncomputable def Om:=tf.2.2.1
noncomputable def KM:=tf.2.2.2.1
noncomputable def PR:=tf.2.2.2.2.1
noncomputable def Ga:=tf.2.2.2.2.2.1
noncomputable def PS:=tf.2.2.2.2.2.2
theorem On:Gb Hj jF Om KM PR Ga PS:=fun hT nl nt hint iter h=>by
 obtain⟨or,hor,hoc⟩:=hT;have hr:=TA hor;unfold collect;refine SF (wpAny_runValue (codeAny_builtin entry_proto_collect' ?_));rw[Around.under_plainId PySem.F.plain_proto_collect _];show wpAny _ Hj.in1 (newList [] >>= fun l=>again (.builtin "list.__iadd__" ⟨[l,.ref KM],[]⟩)) _ _ jF;refine SF (TZ ?_);refine SH ⟨plainId_quiet PySem.F.plain_list_iadd _,codeAny_builtin entry_list_iadd' ?_⟩;rw[Around.under_plainId PySem.F.plain_list_iadd _];have hS₁:(jF.heap.push { cls:=.type "list",data:=.seq ([]:List Value).toArray }).get? jF.heap.objs.size=some { cls:=.type "list",data:=.seq #[] }:=Ti _ rfl;show wpAny _ Hj.in1 (Builtin.List.listExtendWith (.ref jF.heap.objs.size) (.ref KM) (.ref jF.heap.objs.size)) _ _ _;unfold Builtin.List.listExtendWith;have hk0:∀ b o,jF.heap.get? b=some o->(jF.heap.push { cls:=.type "list",data:=.seq ([]:List Value).toArray }).get? b=some o:=fun b o e=>S9 _ e;refine SF (wpAny_typeOf (T:=PR) ⟨or,hk0 _ _ hor,hoc⟩ ?_);have h1:Builtin.List.listSameRef (.ref jF.heap.objs.size) (.ref KM)=false:=by simp only[Builtin.List.listSameRef,beq_eq_false_iff_ne,ne_eq];exact T8 hr
 simp only[h1,nl,nt,Bool.or_false,Bool.false_eq_true,if_false];refine SF (iter _ { jF with heap:=jF.heap.push { cls:=.type "list",data:=.seq ([]:List Value).toArray } } _ hk0 fun h2 d I fp ord St W st hgood hz hIf hfp hk hI=>?_);have hS₂:=hk _ _ hS₁;refine SF (Td (hint _ _ _ ⟨or,hk _ _ (hk0 _ _ hor),hoc⟩ ?_));have hSf:jF.heap.objs.size∉fp:=fun hm=>by
  rcases hfp _ hm with e | ⟨o,e⟩
  ·rw[hS₁] at e;cases e
  ·exact Uq _ (TA e)
 have ed:∀(h3:Heap) (c tk:Nat),St 0 h3->(∀ b o,b≠jF.heap.objs.size->h2.get? b=some o->h3.get? b=some o)->h3.get? jF.heap.objs.size=some { cls:=.type "list",data:=.seq #[] c }->
   codeAny M0 Hj (.builtin "list.extend.loop" ⟨[.ref jF.heap.objs.size,.ref I,.ref jF.heap.objs.size],[]⟩)
    (fun q s'=>match q with | .ok (.ret v)=>wpAny M0 Hj (match v with | .ref a=>(do let o <- load a;match o.data with | .seq xs _=>pure xs.toList | _=>unsupported "internal:collect") | _=>unsupported "internal:collect") PS Om s' | .error e=>Om e s' | _=>False) { jF with heap:=h3,toks:=tk,drawn:=d }:=by
  intro h3 c tk hst hk3 hS₃;refine codeAny_extend_loopS W.toS hz _ hSf (.ref jF.heap.objs.size) ord.length 0 _ #[] c rfl (Tb _) hst hS₃ (ItemsOf.nil _) fun s' acc' c' hm hS' hacc=>?_;rw[Moved.eq_with hm];show wpAny _ Hj (load jF.heap.objs.size >>= _) _ _ _;refine SF (wpAny_load hS' ?_);refine SH ?_;rw[y0 hacc];refine h s'.heap s'.toks d ord hgood fun b o e=>?_;have hb:=TA e;have hbS:b≠jF.heap.objs.size:=Te hb;refine hm.heap b o (fun hmem=>?_) (hk3 b o hbS (hk b o (hk0 b o e)))
  rcases SW.mp hmem with e' | e'
  ·exact hbS e'
  ·have hbI:=SY.mp e';subst hbI;have hI':=hk0 _ _ e;rw[show(jF.heap.push { cls:=.type "list",data:=.seq ([]:List Value).toArray }).get? b=none from hI] at hI';cases hI'
 refine Ty (fun _=>?_) (fun _=>?_)
 ·refine SF (TM ?_);refine SF ?_;show wpAny _ _ (updateSeq jF.heap.objs.size (·.push .none) >>= fun _=>updateSeq jF.heap.objs.size (·.pop)) _ _ _;refine SF (wpAny_updateSeq hS₂ rfl ?_);have hS₃:=TF (Obj.mapSeq (·.push Value.none)) hS₂ rfl;refine wpAny_updateSeq (hz:=by seq_fits) hS₃ rfl ?_
  have hS₄:=TF (Obj.mapSeq (·.pop)) hS₃ rfl;refine SH ⟨plainId_quiet PySem.F.plain_extend_loop _,?_⟩;refine codeAny_mono (ed _ _ _ (W.frame 0 _ _ st fun b hb o e=>?_) (fun b o hb e=>?_) hS₄) fun q s' hq=>?_
  ·have hbS:b≠jF.heap.objs.size:=fun h=>hSf (h▸hb);exact(UH _ _ (Ne.symm hbS)).trans ((UH _ _ (Ne.symm hbS)).trans e)
  ·exact(UH _ _ (Ne.symm hb)).trans ((UH _ _ (Ne.symm hb)).trans e)
  ·rcases q with e | f
   ·exact hq
   ·cases f<;>exact hq
 ·refine SH ⟨plainId_quiet PySem.F.plain_extend_loop _,?_⟩;refine codeAny_mono (ed _ 0 _ st (fun b o _ e=>e) hS₂) fun q s' hq=>?_
  rcases q with e | f
  ·exact hq
  ·cases f<;>exact hq
theorem iV{r:Addr}{T:String}(iv:List Value->Prop){Q:List Value->Shared->Prop}:Gb A s E r T iv Q:=bF J2 On (A,s,E,r,T,iv,Q)
end
namespace F
theorem slot_set_iterator_iter:Slot "set_iterator" "__iter__" "set_iterator.__iter__":=
 .of (owner:="set_iterator") (n:="__iter__") (by rw[typeLookup_type,builtinLookup_eq_fast];kernel_rfl) (by decide +kernel) (by decide +kernel) (by decide +kernel)
  (by first | exact .inl (by decide +kernel) | exact .inr (by decide +kernel)) (by rw[isSubtype_type];kernel_rfl)
theorem entry_set_iterator_iter:entryFor table "set_iterator.__iter__"=some Builtin.«dict_keyiterator.__iter__»:=
 entryFor_alias (id':="dict_keyiterator.__iter__") (by kernel_rfl) rfl (by decide +kernel) (by kernel_rfl)
theorem args_set_iterator_iter(a:Value):argsOk "set_iterator.__iter__" ⟨[a],[]⟩:=by unfold argsOk;kernel_rfl
end F
section
variable{A:Around}{E:Value->Shared->Prop}{s:Shared}
theorem zf{r:Addr}{Q:Bool->Shared->Prop}(hT:s.TypeIs (.ref r) "set")(h:Q false s):wpAny M0 A (Builtin.List.listLengthHint (.ref r)) Q E s:=by
 unfold Builtin.List.listLengthHint;refine SF (wpAny_specialOf hT PySem.F.slot_set_len.lookup ?_);generalize hid:("set.__len__":String)=id0
 wp_delta
 rw[show splitId id0=some ("set","__len__") from by subst hid;decide +kernel]
 subst hid;refine SF (wpAny_isInstance (T:="set") (b:=true) hT (by rw[isSubtype_type];kernel_rfl) ?_)
 refine Ty (fun hab=>SP hab (by decide)) (fun _=>?_)
 refine Ty (fun _=>?_) (fun hab=>SP (by decide +kernel) hab)
 refine SF (wpAny_typeOf hT ?_);exact SH h
def EE(A:Around)(s:Shared)(E:Value->Shared->Prop)(S I T:Addr)(es:Array (Int×Value))(ep:Nat)(t:SetTable)(ord:List Value)(Q:Option Value->Shared->Prop):Prop:=∀(hh:A.handled=none) (hz:es.size<=2) (hf:t.fits es.size=true) (ho:ord.length=es.size) (x:fG S I T es ep t ord es.size s.heap) (h:∀ h',Heap.ExtBut I s.heap h'->Q none { s with heap:=h' }),wpAny M0 A (pyNext (.ref I)) Q E s
def Ii(a:Around×Shared×(Value->Shared->Prop)×Addr×Addr×Addr×Array (Int×Value)×Nat×SetTable×List Value×(Option Value->Shared->Prop)):Prop:=EE a.1 a.2.1 a.2.2.1 a.2.2.2.1 a.2.2.2.2.1 a.2.2.2.2.2.1 a.2.2.2.2.2.2.1 a.2.2.2.2.2.2.2.1 a.2.2.2.2.2.2.2.2.1 a.2.2.2.2.2.2.2.2.2.1 a.2.2.2.2.2.2.2.2.2.2
noncomputable def jW:=lN ({},{},default) Ii
noncomputable def QF:=jW.1
noncomputable def Hb:=jW.2.1
noncomputable def QE:=jW.2.2.1
noncomputable def OS:=jW.2.2.2.1
noncomputable def OU:=jW.2.2.2.2.1
noncomputable def QD:=jW.2.2.2.2.2.1
noncomputable def vx:=jW.2.2.2.2.2.2.1
noncomputable def Ih:=jW.2.2.2.2.2.2.2.1
noncomputable def set:=jW.2.2.2.2.2.2.2.2.1
noncomputable def Ig:=jW.2.2.2.2.2.2.2.2.2.1
noncomputable def OT:=jW.2.2.2.2.2.2.2.2.2.2
theorem Lp:EE QF Hb QE OS OU QD vx Ih set Ig OT:=fun hh hz hf ho x h=>by
 obtain⟨first,hI,hS,hm⟩:=id x
 have ed:∀ h1,Heap.SameBut OU Hb.heap h1->∀ h',(∀ b o,h1.get? b=some o->h'.get? b=some o)->OT none { Hb with heap:=h' }:=fun h1 sb h' hk=>h h' fun b o hb e=>hk b o ((sb.2 b hb).trans e);unfold pyNext;refine SF (wpAny_attempt (wpAny_callSpecial?_slot (name:=Str.ofString "__next__") x.typeIs F.slot_set_iterator_next (TK F.slot_set_iterator_next x.typeIs F.entry_set_iterator_next ?_ (F.args_set_iterator_next _))));refine SF (SH (SF (wpAny_fieldsOf hI rfl (SF (wpAny_setEntries_of hS rfl hf (wpAny_ite_false (by simp) ?_))))))
 rcases hm with⟨hb,rfl,hord⟩ | ⟨hb,hd,pl,m,rfl,hTo,hpl,hord⟩ | ⟨hb,hd,hl,k,rfl,hk,hord⟩
 ·have hpz:(pickOrder (w0.params.setOrder OS Ih) vx).size=vx.size:=by rw[<- ho,hord];simp
  refine SF (p7 hS hf hb (g:=vx.size) (UC (by rw[hpz];exact SN _)) ?_)
  exact SF (T1 hI rfl (by simp) (gl (s:={ Hb with heap:=_ }) hh (ed _ (Tv ..))))
 ·have hp:((pl.map fun j=>Value.int (j:Nat) 0).toArray)[(vx.size:Int).toNat]?=none:=by
   have:pl.length=vx.size:=by rw[<- ho,hord];simp
   simp[this]
  refine SF (Uk hTo rfl ?_);dsimp only;rw[hp];refine SF (T1 hI rfl (by simp) ?_)
  have ho1:=TF (Obj.mapFields (·.setIfInBounds 0 (rawInt 0))) hI rfl;exact SF (T1 ho1 rfl (by simp[Obj.mapFields]) (gl (s:={ Hb with heap:=_ }) hh (ed _ ((Tv ..).trans (Tv ..)))))
 ·refine SF (p8 hS hf hb hd hl (k:=k) hk fun r hr=>?_);rw[UC (SN _)] at hr;subst hr;exact SF (T1 hI rfl (by simp) (gl (s:={ Hb with heap:=_ }) hh (ed _ (Tv ..))))
theorem Be{S I T:Addr}{es:Array (Int×Value)}{ep:Nat}{t:SetTable}{ord:List Value}{Q:Option Value->Shared->Prop}:EE A s E S I T es ep t ord Q:=bF Ii Lp (A,s,E,S,I,T,es,ep,t,ord,Q)
theorem vt(A:Around)(hh:A.handled=none){S I T:Addr}{es:Array (Int×Value)}{ep:Nat}{t:SetTable}{ord:List Value}(hST:S≠I)(hT:T≠I)(hf:t.fits es.size=true)(hz:es.size<=2)(hr:∀ x y,t.place=#[x,y]->x<y)(ho:ord.length=es.size) :
  Walks PG w0 A I [I,S,T] [I] ord.length (fun i v=>ord[i]?=some v) (fG S I T es ep t ord) where
 sub:=fun b hb=>by simp at hb;simp[hb]
 frame:=fun _ _ _ st hk=>st.frame hk
 item:=fun i s Q E hi st hQ=>x7 hST hT hf hz hr (TC hi) st fun h' x' sb=>hQ _ h' s.toks (TC hi) x' fun b o hb e=>(sb.2 b (fun q=>hb (by simp[q]))).trans e
 done:=fun s Q E st hQ=>Be hh hz hf ho (by rw[<- ho];exact st) fun h' hx=>hQ h' s.toks fun b o hb e=>hx b o (fun q=>hb (by simp[q])) e
 self:=fun i s Q E st hQ=>by
  refine wpAny_pyIter_slot st.typeIs F.slot_set_iterator_iter (TK F.slot_set_iterator_iter st.typeIs F.entry_set_iterator_iter ?_ (F.args_set_iterator_iter _));show wpAny _ _ (PySem.ret (.ref I)) _ _ s;exact SH ⟨_,rfl,"set_iterator",_,st.typeIs,F.slot_set_iterator_next.lookup,hQ⟩
def Fu(A:Around)(s:Shared)(E:Value->Shared->Prop)(S:Addr)(es:Array (Int×Value))(ep:Nat)(t:SetTable)(Q:Value->Shared->Prop):Prop:=∀(hh:A.handled=none) (hS:s.heap.get? S=some { cls:=.type "set",data:=.set es ep t }) (hf:t.fits es.size=true) (hl:t.led=true\/kG=true) (hz:es.size<=2) (hr:∀ x y,t.place=#[x,y]->x<y) (h:∀ h' d I fp (ord:List Value) St,Walks PG w0 A I fp [I] ord.length (fun i v=>ord[i]?=some v) St->St 0 h'->ord.Perm (es.toList.map (·.2))->I∈fp->(∀ b∈fp,s.heap.get? b=none\/b=S)->(∀ b o,s.heap.get? b=some o->h'.get? b=some o)->s.heap.get? I=none->
   Q (.ref I) { s with heap:=h',drawn:=d }),wpAny M0 A (pyIter (.ref S)) Q E s
def Ju(a:Around×Shared×(Value->Shared->Prop)×Addr×Array (Int×Value)×Nat×SetTable×(Value->Shared->Prop)):Prop:=Fu a.1 a.2.1 a.2.2.1 a.2.2.2.1 a.2.2.2.2.1 a.2.2.2.2.2.1 a.2.2.2.2.2.2.1 a.2.2.2.2.2.2.2
noncomputable def qk:=lN ({},{},default) Ju
noncomputable def NW:=qk.1
noncomputable def wV:=qk.2.1
noncomputable def PB:=qk.2.2.1
noncomputable def wW:=qk.2.2.2.1
noncomputable def fT:=qk.2.2.2.2.1
noncomputable def B3:=qk.2.2.2.2.2.1
noncomputable def KF:=qk.2.2.2.2.2.2.1
noncomputable def PA:=qk.2.2.2.2.2.2.2
theorem NX:Fu NW wV PB wW fT B3 KF PA:=fun hh hS hf hl hz hr h=>by
 have hT:wV.TypeIs (.ref wW) "set":=⟨_,hS,rfl⟩;have hSlt:=TA hS;refine wpAny_pyIter_slot hT PySem.F.slot_set_iter (TK PySem.F.slot_set_iter hT F.entry_set_iter ?_ (PySem.F.args_set_iter_1 _));unfold Builtin.«frozenset.__iter__» Builtin.Frozenset.slot0 slotArgs;simp only[List.isEmpty_nil,Bool.not_true,Bool.false_eq_true,↓reduceIte,bind_assoc,List.length_nil,bne_self_eq_false];unfold Builtin.Frozenset.addrOf Builtin.Frozenset.sizeOf;refine SF (SH ?_)
 try dsimp only
 refine SF (SH ?_);refine SF (SF (wpAny_setEntries_of hS rfl hf (SH ?_)));unfold setDrawn;refine SF (SF (T6 hS rfl hf (SF (jo (SH ?_)))));have ed:∀(h1:Heap) (d:Drawn) (T:Addr) (first:Value) (ord:List Value),(∀ b o,wV.heap.get? b=some o->h1.get? b=some o)->(T=wW\/wV.heap.get? T=none)->T≠h1.objs.size->wV.heap.get? h1.objs.size=none->
   (∀ h2,h2.get? h1.objs.size=some { cls:=.type "set_iterator",data:=.fields #[first,.int 0 0,.ref wW,.int fT.size 0,.int B3 0] }->(∀ b o,h1.get? b=some o->h2.get? b=some o)->fG wW h1.objs.size T fT B3 KF ord 0 h2)->ord.Perm (fT.toList.map (·.2))->
   wpAny M0 NW.in1 (setEpoch wW >>= fun e=>newFields "set_iterator" [first,rawInt 0,.ref wW,rawInt fT.size,rawInt e] >>= fun v=>PySem.ret v) (fun(f:PySem.Fin) s'=>∃ v,f=.done (.ret v)/\∃ T' c,s'.TypeIs v T'/\typeLookup (.type T') (Str.ofString "__next__")=pure (some c)/\PA v s') (fun e s'=>PB e s') { wV with heap:=h1,drawn:=d }:=by
  intro h1 d T first ord hk hT' hTn hn hst hp
  refine SF (wpAny_setEpoch_of (hk _ _ hS) rfl hf ?_);unfold newFields;refine SF (TZ (SH ⟨_,rfl,"set_iterator",_,⟨_,Ti _ rfl,rfl⟩,F.slot_set_iterator_next.lookup,?_⟩));have hSn:wW≠h1.objs.size:=Te (TA (hk _ _ hS));refine h (h1.push _) d h1.objs.size [h1.objs.size,wW,T] ord _ (vt NW hh hSn hTn hf hz hr (by rw[hp.length_eq];simp)) (hst _ (Ti _ rfl) fun b o e=>S9 _ e) hp (by simp) (fun b hb=>?_) (fun b o e=>S9 _ (hk b o e)) hn
  rcases SW.mp hb with rfl | hb
  ·exact .inl hn
  ·rcases SW.mp hb with rfl | hb
   ·exact .inr rfl
   ·rw[SY.mp hb];exact hT'.symm
 refine Ty (fun hd=>?_) fun hd=>?_
 ·have hd':(!kG&&(!KF.plain&&decide (fT.size > 1)))=true:=hd;rw[Bool.and_eq_true] at hd';refine SF (m8 fT.size _ UD.symm fun pl d hp=>?_);refine SF (wpAny_newTuple ?_ (by rw[S7,hp.length_eq,UD,sizeLine_eq];exact SJ hz (by decide)))
  refine TG (ed _ d wV.heap.objs.size (.ref wV.heap.objs.size) (pl.map fun j=>(fT.getD j (0,.none)).2) (fun b o e=>S9 _ e) (.inr (aW (SN _))) (by rw[Ul];exact Te (Uf _)) (aW (by rw[Ul];exact T0 _)) (fun h2 e2 k2=>?_) ?_) (fun _ _ z=>z) fun _ _ z=>z
  ·exact⟨_,e2,k2 _ _ (S9 _ hS),.inr (.inl ⟨by simpa using hd'.1,hd'.2,pl,0,rfl,k2 _ _ (Ti _ rfl),fun j hj=>by simpa using hp.mem_iff.mp hj,rfl⟩)⟩
  ·refine(hp.map _).trans ?_;have:(List.range fT.size).map (fun j=>(fT.getD j (0,.none)).2)=fT.toList.map (·.2):=by
    apply List.ext_getElem
    ·simp
    ·intro i h1 h2;simp at h1;simp[Array.getD,h1]
   rw[this]
 ·have hd':¬((!kG&&(!KF.plain&&decide (fT.size > 1)))=true):=hd;rw[Bool.not_eq_true] at hd';refine SF (SH ?_)
  cases hb:kG with
  | true=>
   refine TG (ed wV.heap wV.drawn wW (.int 0 0) ((pickOrder (w0.params.setOrder wW B3) fT).toList.map (·.2)) (fun _ _ e=>e) (.inl rfl) (Te hSlt) (aW (SN _)) (fun h2 e2 k2=>?_) ((vE _ fT).map _)) (fun _ _ z=>z) fun _ _ z=>z;exact⟨_,e2,k2 _ _ hS,.inl ⟨hb,rfl,rfl⟩⟩
  | false=>
   rw[hb] at hd';refine TG (ed wV.heap wV.drawn wW (.int 0 0) (fT.toList.map (·.2)) (fun _ _ e=>e) (.inl rfl) (Te hSlt) (aW (SN _)) (fun h2 e2 k2=>?_) (.refl _)) (fun _ _ z=>z) fun _ _ z=>z;exact⟨_,e2,k2 _ _ hS,.inr (.inr ⟨hb,by simpa using hd',hl.resolve_right (by rw[hb];simp),0,rfl,tj (by rw[cM hf];exact hz),rfl⟩)⟩
theorem yZ{S:Addr}{es:Array (Int×Value)}{ep:Nat}{t:SetTable}{Q:Value->Shared->Prop}:Fu A s E S es ep t Q:=bF Ju NX (A,s,E,S,es,ep,t,Q)
def G4(h:Heap)(a:Addr)(ws:List Value):Prop:=∃ es n t,h.get? a=some (Id es n t)/\Kp es t ws
theorem oq{S:Addr}{ws:List Value}{Q:List Value->Shared->Prop}(hh:A.handled=none)(hS:G4 s.heap S ws)
  (h:∀ h' tk d ord,ord.Perm ws->(∀ b o,s.heap.get? b=some o->h'.get? b=some o)->Q ord { s with heap:=h',toks:=tk,drawn:=d }):wpAny M0 A (collect (.ref S)) Q E s:=by
 obtain⟨es,n,t,ho,hf,rfl,hl,hz,hr⟩:=hS;refine iV (T:="set") (fun ord=>ord.Perm (es.toList.map (·.2))) ⟨_,ho,rfl⟩ (by decide) (by decide) (fun E₁ s₁ Q₁ hT hq=>zf hT hq) (fun E₁ s₁ Q₁ hk hq=>?_) h
 refine yZ (A:=A.in1) hh (hk _ _ ho) hf hl hz hr fun h' d I fp ord St Wk st hp hI hfp hk' hIn=>hq h' d I fp ord St Wk st hp (by rw[hp.length_eq,sizeLine_eq];simp;exact SJ hz (by decide)) hI (fun b hb=>?_) hk' hIn
 rcases hfp b hb with e | rfl
 ·exact .inl e
 ·exact .inr ⟨_,ho⟩
end
def mY(I d:Addr)(ds:Array DictEntry)(m:Nat)(i:Nat)(h:Heap):Prop:=
 h.get? I=some { cls:=.type "dict_keyiterator",data:=.fields #[.ref d,.int i 0,.int ds.size 0,.int m 0] }/\h.get? d=some (bT ds m)
section
variable{A:Around}{E:Value->Shared->Prop}{s:Shared}
def Fn(A:Around)(s:Shared)(E:Value->Shared->Prop)(I d:Addr)(ds:Array DictEntry)(m i:Nat)(e:DictEntry)(Q:Option Value->Shared->Prop):Prop:=∀(hne:d≠I) (he:ds[i]?=some e) (x:mY I d ds m i s.heap) (h:∀ h',mY I d ds m (i+1) h'->Heap.SameBut I s.heap h'->Q (some e.key) { s with heap:=h' }),wpAny M0 A (pyNext (.ref I)) Q E s
def Jt(a:Around×Shared×(Value->Shared->Prop)×Addr×Addr×Array DictEntry×Nat×Nat×DictEntry×(Option Value->Shared->Prop)):Prop:=Fn a.1 a.2.1 a.2.2.1 a.2.2.2.1 a.2.2.2.2.1 a.2.2.2.2.2.1 a.2.2.2.2.2.2.1 a.2.2.2.2.2.2.2.1 a.2.2.2.2.2.2.2.2.1 a.2.2.2.2.2.2.2.2.2
noncomputable def lH:=lN ({},{},default) Jt
noncomputable def R1:=lH.1
noncomputable def Fk:=lH.2.1
noncomputable def R0:=lH.2.2.1
noncomputable def Dn:=lH.2.2.2.1
noncomputable def kid:=lH.2.2.2.2.1
noncomputable def kids:=lH.2.2.2.2.2.1
noncomputable def Pz:=lH.2.2.2.2.2.2.1
noncomputable def yX:=lH.2.2.2.2.2.2.2.1
noncomputable def NU:=lH.2.2.2.2.2.2.2.2.1
noncomputable def RZ:=lH.2.2.2.2.2.2.2.2.2
theorem NV:Fn R1 Fk R0 Dn kid kids Pz yX NU RZ:=fun hne he x h=>by
 obtain⟨ho,hod⟩:=id x;have hT:Fk.TypeIs (.ref Dn) "dict_keyiterator":=⟨_,ho,rfl⟩;have hlt:yX<kids.size:=(UG.mp he).1;unfold pyNext;refine SF (wpAny_attempt (wpAny_callSpecial?_slot (name:=Str.ofString "__next__") hT PySem.F.slot_dict_keyiterator_next
  (TK PySem.F.slot_dict_keyiterator_next hT PySem.F.entry_dict_keyiterator_next ?_ (PySem.F.args_dict_keyiterator_next_1 _))))
 refine SF (SH ?_);refine SF ?_;refine SF ?_
 first | refine SF (wpAny_typeNameOfWhole_keyiter hT (SH ?_)) | refine SF (wpAny_typeNameOf_keyiter hT (SH ?_))
 refine SF (wpAny_fieldsOf ho rfl ?_);have hown:Builtin.Dict_items.ownsTuple "dict_keyiterator"=false:=by decide
 rw[hown];show wpAny _ _ (if(Value.ref kid==Value.none)=true then _ else _) _ _ Fk
 rw[SL (show ¬((Value.ref kid==Value.none)=true) from Tp)];refine SF (SH ?_);refine SF (Ub hod rfl ?_);rw[SL (by simp)]
 refine SF (SH ?_);refine SF (Ua hod rfl ?_);rw[SL (by simp)]
 refine SH ?_;dsimp only;generalize hq:(if(yX:Int)<0 then(none:Option DictEntry) else kids[(yX:Int).toNat]?)=q
 obtain rfl:some NU=q:=by rw[<- hq,SL (Int.not_lt.mpr (Uy yX)),Int.toNat_natCast,he]
 refine SF ?_
 first | refine SF (wpAny_typeNameOfWhole_keyiter hT (SH ?_)) | refine SF (wpAny_typeNameOf_keyiter hT (SH ?_))
 refine SF (wpAny_isOneOf_keyiter hT ?_);refine SF (m:=setField (.ref Dn) 1 (rawInt ((yX:Int)+1))) (T1 ho rfl (by simp) ?_)
 have ho1:=TF (Obj.mapFields (·.setIfInBounds 1 (rawInt ((yX:Int)+1)))) ho rfl;have sb:=Tv Fk.heap Dn (Obj.mapFields (·.setIfInBounds 1 (rawInt ((yX:Int)+1))));have hT':({ Fk with heap:=Fk.heap.update Dn (Obj.mapFields (·.setIfInBounds 1 (rawInt ((yX:Int)+1)))) }:Shared).TypeIs (.ref Dn) "dict_keyiterator":=⟨_,ho1,rfl⟩;have hK:mY Dn kid kids Pz (yX+1) (Fk.heap.update Dn (Obj.mapFields (·.setIfInBounds 1 (rawInt ((yX:Int)+1))))):=⟨ho1,(sb.2 kid hne).trans hod⟩;refine SF (Td ?_);refine SF (wpAny_isOneOf_keyiter hT' ?_);show wpAny _ _ (pure NU.key) _ _ _;exact SH (SH ⟨_,rfl,SH (h _ hK sb)⟩)
theorem yY{I d:Addr}{ds:Array DictEntry}{m i:Nat}{e:DictEntry}{Q:Option Value->Shared->Prop}:Fn A s E I d ds m i e Q:=bF Jt NV (A,s,E,I,d,ds,m,i,e,Q)
theorem B0{I d:Addr}{ds:Array DictEntry}{m:Nat}{Q:Option Value->Shared->Prop}(hh:A.handled=none)(x:mY I d ds m ds.size s.heap)
  (h:∀ h',Heap.ExtBut I s.heap h'->Q none { s with heap:=h' }):wpAny M0 A (pyNext (.ref I)) Q E s:=by
 obtain⟨ho,hod⟩:=id x;have hT:s.TypeIs (.ref I) "dict_keyiterator":=⟨_,ho,rfl⟩;unfold pyNext;refine SF (wpAny_attempt (wpAny_callSpecial?_slot (name:=Str.ofString "__next__") hT PySem.F.slot_dict_keyiterator_next
  (TK PySem.F.slot_dict_keyiterator_next hT PySem.F.entry_dict_keyiterator_next ?_ (PySem.F.args_dict_keyiterator_next_1 _))))
 refine SF (SH ?_);refine SF ?_;refine SF ?_
 first | refine SF (wpAny_typeNameOfWhole_keyiter hT (SH ?_)) | refine SF (wpAny_typeNameOf_keyiter hT (SH ?_))
 refine SF (wpAny_fieldsOf ho rfl ?_);have hown:Builtin.Dict_items.ownsTuple "dict_keyiterator"=false:=by decide
 rw[hown];show wpAny _ _ (if(Value.ref d==Value.none)=true then _ else _) _ _ s
 rw[SL (show ¬((Value.ref d==Value.none)=true) from Tp)];refine SF (SH ?_);refine SF (Ub hod rfl ?_);rw[SL (by simp)]
 refine SF (SH ?_);refine SF (Ua hod rfl ?_);rw[SL (by simp)]
 refine SH ?_;dsimp only;generalize hq:(if(ds.size:Int)<0 then(none:Option DictEntry) else ds[(ds.size:Int).toNat]?)=q
 obtain rfl:none=q:=by rw[<- hq,SL (Int.not_lt.mpr (Uy _)),Int.toNat_natCast,UC (SN ds.size)]
 refine SF ?_
 first | refine SF (wpAny_typeNameOfWhole_keyiter hT (SH ?_)) | refine SF (wpAny_typeNameOf_keyiter hT (SH ?_))
 refine SF (m:=setField (.ref I) 0 .none) (T1 ho rfl (by simp) ?_)
 have sb:=Tv s.heap I (Obj.mapFields (·.setIfInBounds 0 Value.none));exact gl (s:={ s with heap:=s.heap.update I (Obj.mapFields (·.setIfInBounds 0 Value.none)) }) (E:=E) (Q:=Q) hh fun h' hk=>h h' fun b o hb e=>hk b o ((sb.2 b hb).trans e)
theorem we(A:Around)(hh:A.handled=none){I d:Addr}{ds:Array DictEntry}{m:Nat}(hne:d≠I) :
  Walks PG w0 A I [I,d] [I] (ds.toList.map (·.key)).length (fun i v=>(ds.toList.map (·.key))[i]?=some v) (mY I d ds m) where
 sub:=fun b hb=>by simp at hb;simp[hb]
 frame:=fun _ _ _ st hk=>⟨hk I (by simp) _ st.1,hk d (by simp) _ st.2⟩
 item:=fun i s Q E hi st hQ=>by
  have hi':i<ds.size:=by simpa using hi
  exact yY hne (TT hi') st fun h' x' sb=>hQ _ h' s.toks (by simp[hi']) x' fun b o hb e=>(sb.2 b (fun q=>hb (by simp[q]))).trans e
 done:=fun s Q E st hQ=>B0 hh (by simpa using st) fun h' hx=>hQ h' s.toks fun b o hb e=>hx b o (fun q=>hb (by simp[q])) e
 self:=fun i s Q E st hQ=>by
  have hT:s.TypeIs (.ref I) "dict_keyiterator":=⟨_,st.1,rfl⟩;refine wpAny_pyIter_slot hT PySem.F.slot_dict_keyiterator_iter (TK PySem.F.slot_dict_keyiterator_iter hT PySem.F.entry_dict_keyiterator_iter ?_ (PySem.F.args_dict_keyiterator_iter_1 _));show wpAny _ _ (PySem.ret (.ref I)) _ _ s;exact SH ⟨_,rfl,"dict_keyiterator",_,hT,PySem.F.slot_dict_keyiterator_next.lookup,hQ⟩
theorem wg{d:Addr}{ds:Array DictEntry}{m:Nat}{Q:Value->Shared->Prop}(hS:(d==sysModules)=false)(ho:s.heap.get? d=some (bT ds m))
  (h:Q (.ref s.heap.objs.size) { s with heap:=s.heap.push { cls:=.type "dict_keyiterator",data:=.fields #[.ref d,.int 0 0,.int ds.size 0,.int m 0] } }):wpAny M0 A (pyIter (.ref d)) Q E s:=by
 have hT:s.TypeIs (.ref d) "dict":=⟨_,ho,rfl⟩;refine wpAny_pyIter_slot hT PySem.F.slot_dict_iter (TK PySem.F.slot_dict_iter hT PySem.F.entry_dict_iter ?_ (PySem.F.args_dict_iter_1 _));unfold Builtin.«dict.__iter__»;refine SF ?_;unfold Builtin.Dict.dictSlotNone;refine SF (UB hT ?_);show wpAny _ _ (pure (Value.ref d)) _ _ s;refine SH ?_;show wpAny _ _ (Builtin.Dict.showsAll d >>= _) _ _ s;unfold Builtin.Dict.showsAll;rw[SL (by rw[hS];exact Tp)]
 refine SF (SH ?_);refine SF (Ub ho rfl ?_);refine SF (Ua ho rfl ?_);refine SF (TZ (SH ⟨_,rfl,"dict_keyiterator",_,⟨_,Ti _ rfl,rfl⟩,PySem.F.slot_dict_keyiterator_next.lookup,?_⟩));exact h
theorem ot{d:Addr}{ds:Array DictEntry}{m:Nat}{Q:List Value->Shared->Prop}(hh:A.handled=none)(hS:(d==sysModules)=false)(hz:ds.size<=sizeLine)(ho:s.heap.get? d=some (bT ds m))
  (h:∀ h' tk d',(∀ b o,s.heap.get? b=some o->h'.get? b=some o)->Q (ds.toList.map (·.key)) { s with heap:=h',toks:=tk,drawn:=d' }):wpAny M0 A (collect (.ref d)) Q E s:=by
 refine iV (T:="dict") (fun ord=>ord=ds.toList.map (·.key)) ⟨_,ho,rfl⟩ (by decide) (by decide) (fun E₁ s₁ Q₁ hT hq=>kdl_hint_dict hT hq) (fun E₁ s₁ Q₁ hk hq=>?_) fun h' tk d' ord e hk=>by rw[e];exact h h' tk d' hk
 refine wg hS (hk _ _ ho) ?_;have hlt:=TA (hk _ _ ho);refine hq (s₁.heap.push _) s₁.drawn s₁.heap.objs.size [s₁.heap.objs.size,d] _ (mY s₁.heap.objs.size d ds m) (we A.in1 hh (Te hlt)) ⟨Ti _ rfl,S9 _ (hk _ _ ho)⟩ rfl (by simpa using hz) (by simp) (fun b hb=>?_) (fun b o e=>S9 _ e) (aW (SN _))
 rcases SW.mp hb with rfl | hb
 ·exact .inl (aW (SN _))
 ·rw[SY.mp hb];exact .inr ⟨_,ho⟩
end
def lX(h:Heap)(v1 v2:Value)(t:Bool):Prop:=∃ κ,∀(A:Around) (s:Shared),s.heap=h->
 (∀(Q:SortKind->Shared->Prop) (E:Value->Shared->Prop),Q κ s->wpAny M0 A (keyKind' #[v1,v2]) Q E s)/\
 (∀(Q:Bool->Shared->Prop) (E:Value->Shared->Prop),A.units+12<cLine->Q t s->wpAny M0 A (keyLt' κ v2 v1) Q E s)
theorem B2:kas_sort 2=.ask 1 0 fun c=>.ret (if c=true then #[1,0] else #[0,1]):=by
 unfold kas_sort kas_count;show KasT.bind (KasT.bind (KasT.ask 1 0 _) _) _=_;simp only[KasT.bind];congr 1
 funext c
 cases c<;>rfl
section
variable{A:Around}{E:Value->Shared->Prop}{s:Shared}
def Ei(A:Around)(s:Shared)(E:Value->Shared->Prop)(a:Addr)(n:Nat)(P:PySem.Fin->Shared->Prop):Prop:=∀{vs:List Value} {out:List Value} (hu:A.units+12<cLine) (ho:s.heap.get? a=some (seqObj "list" vs.toArray n)) (hc:(vs.length<2/\out=vs)\/∃ v1 v2 t,vs=[v1,v2]/\out=(if t=true then[v2,v1] else[v1,v2])/\∀ h':Heap,(∀ b o,b≠a->s.heap.get? b=some o->h'.get? b=some o)->lX h' v1 v2 t) (h:P (.done (.ret .none)) { s with heap:=sortedHeap s.heap a vs out.toArray }),wpAny M0 A (Builtin.«list.sort» ⟨[.ref a],[]⟩) P E s
def HW(a:Around×Shared×(Value->Shared->Prop)×Addr×Nat×(PySem.Fin->Shared->Prop)):Prop:=Ei a.1 a.2.1 a.2.2.1 a.2.2.2.1 a.2.2.2.2.1 a.2.2.2.2.2
noncomputable def vh:=lN ({},{},default) HW
noncomputable def Kw:=vh.1
noncomputable def vg:=vh.2.1
noncomputable def OO:=vh.2.2.1
noncomputable def wR:=vh.2.2.2.1
noncomputable def Qu:=vh.2.2.2.2.1
noncomputable def ON:=vh.2.2.2.2.2
theorem Le:Ei Kw vg OO wR Qu ON:=fun{vs} {out} hu ho hc h=>by
 rw[list_sort_plain];have ha:wR<vg.heap.objs.size:=TA ho;have hvz:vs.length<=2:=by
  rcases hc with⟨h1,_⟩ | ⟨_,_,_,rfl,_⟩
  ·exact P3 h1
  ·exact SN _
 refine SF (listItems_at ho rfl ?_);refine SF (listUpdate_at ho rfl ?_ (by rw[List.size_toArray,sizeLine_eq];exact SJ hvz (by decide)) (Tb _))
 obtain⟨e1,ho1⟩:∃ e1,(vg.heap.update wR (Obj.mapSeq fun _=>#[])).get? wR=some (seqObj "list" #[] e1):=⟨_,get?_update_seq ho (fun _=>#[])⟩;refine SF (seqEpoch_at ho1 rfl ?_);refine SF (wpAny_newTuple ?_ (by show vs.length<=_;rw[sizeLine_eq];exact SJ hvz (by decide)))
 refine SF (wpAny_newList ?_ (Tb _));refine Td ?_;have ho6:(((vg.heap.update wR (Obj.mapSeq fun _=>#[])).push (seqObj "tuple" vs.toArray 0)).push (seqObj "list" #[] 0)).get? wR=some (seqObj "list" #[] e1):=by
  rw[Heap.get?_push_ne _ _ _ (by rw[size_push',Heap.size_update];exact Te (TL ha)),Heap.get?_push_ne _ _ _ (by rw[Heap.size_update];exact Te ha)]
  exact ho1
 show wpAny M0 Kw _ ON OO { vg with heap:=((vg.heap.update wR (Obj.mapSeq fun _=>#[])).push (seqObj "tuple" vs.toArray 0)).push (seqObj "list" #[] 0) };dsimp only
 rcases hc with⟨hl,rfl⟩ | ⟨v1,v2,t,rfl,rfl,hcmp⟩
 ·have h2:out.toArray.size<2:=by simpa using hl
  rw[SQ h2,SQ h2];refine SF (SH ?_);rw[StateT.run_pure];refine SF (SH ?_);dsimp only;have hm:(out.toArray.zip out.toArray).map (·.2)=out.toArray:=by
   apply Array.toList_inj.mp;rw[Array.toList_map,Array.toList_zip];exact List.map_snd_zip (SN _)
  refine SF (seqEpoch_at ho6 rfl ?_);show wpAny _ _ (Builtin.List.listUpdate (.ref wR) (fun _=>(out.toArray.zip out.toArray).map (·.2)) >>= _) _ _ _;rw[hm];refine SF (listUpdate_at ho6 rfl ?_ (Tb _) (by rw[List.size_toArray,sizeLine_eq];exact P2 hvz))
  show wpAny _ _ (if(e1 != e1)=true then _ else _) _ _ _
  simp only[bne_self_eq_false,Bool.false_eq_true,if_false];exact SH h
 ·have h2:¬([v1,v2]:List Value).toArray.size<2:=by simp
  rw[SL h2,SL h2];obtain⟨κ,hκ⟩:=hcmp (((vg.heap.update wR (Obj.mapSeq fun _=>#[])).push (seqObj "tuple" ([v1,v2]:List Value).toArray 0)).push (seqObj "list" #[] 0)) fun b o hb e=>by
   have hlt:=TA e;rw[Heap.get?_push_ne _ _ _ (by rw[size_push',Heap.size_update];exact Te (TL hlt)),Heap.get?_push_ne _ _ _ (by rw[Heap.size_update];exact Te hlt),UH _ _ (Ne.symm hb)]
   exact e
  obtain⟨k1,k2⟩:=hκ Kw { vg with heap:=((vg.heap.update wR (Obj.mapSeq fun _=>#[])).push (seqObj "tuple" ([v1,v2]:List Value).toArray 0)).push (seqObj "list" #[] 0) } rfl;refine SF (k1 _ _ ?_);refine SF (TG (kat_run (ks:=[v1,v2]) (vs:=[v1,v2]) (Q:=fun st' s'=>s'={ vg with heap:=((vg.heap.update wR (Obj.mapSeq fun _=>#[])).push (seqObj "tuple" ([v1,v2]:List Value).toArray 0)).push (seqObj "list" #[] 0) }/\failedOf st'=none/\(arrOf st').map (·.2)=(if t=true then[v2,v1] else[v1,v2]).toArray)
   (G:=fun p s'=>s'={ vg with heap:=((vg.heap.update wR (Obj.mapSeq fun _=>#[])).push (seqObj "tuple" ([v1,v2]:List Value).toArray 0)).push (seqObj "list" #[] 0) }/\p=if t=true then #[1,0] else #[0,1]) rfl (by simp) (by simp) (fun p st' s' a1 a2 a3 a4=>?_) ?_) (fun r s' hr=>?_) fun _ _ e=>e)
  ·obtain⟨rfl,rfl⟩:=a4;refine⟨rfl,a3,?_⟩;rw[kat_snds (ks:=[v1,v2]) (vs:=[v1,v2]) rfl a2]
   cases t<;>rfl
  ·show KasT.kasWp _ (kas_sort 2) _ _;rw[B2];show kas_ask PG w0 Kw κ [v1,v2] 1 0 _ _;unfold kas_ask;exact k2 _ _ hu ⟨rfl,rfl⟩
  ·obtain⟨⟨⟩,st'⟩:=r;obtain⟨rfl,hf,hm⟩:=hr;dsimp only at hf hm ⊢;refine SF (seqEpoch_at ho6 rfl ?_);rw[hm];refine SF (listUpdate_at ho6 rfl ?_ (Tb _) (by cases t<;>simp[sizeLine_eq]))
   rw[hf];simp only[bne_self_eq_false,Bool.false_eq_true,if_false];exact SH h
theorem xY{a:Addr}{n:Nat}{P:PySem.Fin->Shared->Prop}:Ei A s E a n P:=bF HW Le (A,s,E,a,n,P)
end
theorem xG{j k:Nat}(hj:(Nat.beq j 7||Nat.beq j 8)=true)(hk:(Nat.beq k 7||Nat.beq k 8)=true):decide ((aw j).cps.toList<(aw k).cps.toList)=Nat.blt j k/\(j≠k->f9 k j=some (!Nat.blt j k)):=by
 have h:∀{j:Nat},(Nat.beq j 7||Nat.beq j 8)=true->j=7\/j=8:=fun h=>(T5.mp h).imp Ui Ui
 rcases h hj with rfl | rfl<;>rcases h hk with rfl | rfl<;>exact⟨by decide +kernel,by decide +kernel⟩
theorem nj{j k:Nat}{t:Bool}(h:f9 j k=some t):decide ((aw j).cps.toList<(aw k).cps.toList)=t/\(j≠k->f9 k j=some (!t)):=bj h (fun q e=>
 have q:=SU.mp q
 S0 e▸xG q.1 q.2) fun _ h=>nomatch h
theorem Dq{v:AV}{i:Nat}(h:nk v=some i):∃ vs,v=.tup (.sym i::vs):=ae h fun l h1 h=>ae h fun u h2 h=>by
 cases l with
 | nil=>cases h2
 | cons x l=>cases h2;cases cy h;exact⟨l,aC h1⟩
theorem Jh{a b:AV}{t:Bool}{C:AV->AV->Bool->Prop}(h:BQ b a=some t)(hi:∀ i j,C (.int j) (.int i) (decide (j<i)))(hs:∀ i j t,f9 j i=some t->C (.sym j) (.sym i) t)(ht:∀ i j vs us t,i≠j->f9 j i=some t->C (.tup (.sym j::us)) (.tup (.sym i::vs)) t):C b a t:=
 bu h (fun h=>ae h fun j h1 h=>aI h fun i h2 e=>br h1▸br h2▸e▸hi i j) fun h=>bu h (fun h=>ae h fun j h1 h=>ae h fun i h2 h=>cy h1▸cy h2▸hs i j t h) fun h=>ae h fun j h1 h=>ae h fun i h2 h=>
  (Dq h1).elim fun us e1=>(Dq h2).elim fun vs e2=>bj h (fun _ h=>nomatch h) fun q h=>e1▸e2▸ht i j vs us t (fun e=>nomatch(e▸Nat.beq_refl i:Nat.beq j i=true).symm.trans q) h
theorem yM{a b:AV}{t:Bool}(h:BQ b a=some t):a≠b->BQ a b=some (!t):=Jh (C:=fun b a t=>a≠b->BQ a b=some (!t)) h
 (fun i j ne=>(show some (decide (i<j))=some (!decide (j<i)) from by
  have:i≠j:=fun e=>ne (SI _ e)
  rcases Int.lt_or_gt_of_ne this with q | q
  ·rw[SV q,Tk (Int.not_lt.mpr (Int.le_of_lt q))];rfl
  ·rw[SV q,Tk (Int.not_lt.mpr (Int.le_of_lt q))];rfl))
 (fun i j t h ne=>by
  show cP (f9 i j) _=_;rw[(nj h).2 fun e=>ne (SI _ e.symm)];rfl)
 fun i j vs us t ne h _=>by
  show(bif Nat.beq i j then none else f9 i j)=_;rw[show Nat.beq i j=false from Bool.eq_false_iff.mpr fun e=>ne (Ui e)];exact(nj h).2 fun e=>ne e.symm
theorem ym{α:Type}{zs:List α}{a b:α}(h:zs.Perm [a,b]):zs=[a,b]\/zs=[b,a]:=by
 match zs,h.length_eq with
 | [x,y],_=>
  rcases SW.mp (h.mem_iff.mp (List.mem_cons_self (a:=x) (l:=[y]))) with rfl | hx
  ·exact .inl (SI _ (List.perm_singleton.mp ((List.perm_cons _).mp h)))
  ·cases SY.mp hx
   exact .inr (SI _ (List.perm_singleton.mp ((List.perm_cons _).mp (h.trans (List.Perm.swap _ _ _)))))
theorem rI{zs out:List AV}:∀{ys:List AV},zs.Perm ys->b7 ys=some out->b7 zs=some out
 | [],h,hs=>h.eq_nil▸hs
 | [a],h,hs=>List.perm_singleton.mp h▸hs
 | [a,b],h,hs=>(ym h).elim (fun e=>e▸hs) fun e=>e▸(Tu (a=b)).elim (fun q=>q▸q▸hs) fun q=>aI hs fun t ht g=>by
  show(BQ a b).map _=_;rw[yM ht q,<- g]
  cases t<;>rfl
section
variable{z:Hp}{Y:St}{p:Pt Y}{A:Around}{s:Shared}{E:Value->Shared->Prop}
theorem aq.intE{i:Int}{w:Value}(r:aq z (.int i) w){P:Value->Prop}(k:∀ t,P (.int i t)):P w:=r.elim fun t e=>e▸k t
theorem aq.symE{i:Nat}{w:Value}(r:aq z (.sym i) w){P:Value->Prop}(k:∀ t,i<aT.length->P (.str (aw i) t)):P w:=r.2.elim fun t e=>e▸k t r.1
theorem aq.headE{i:Nat}{vs:List AV}{w:Value}(r:aq z (.tup (.sym i::vs)) w){P:Value->Prop}(k:∀ a ws n t,i<aT.length->z.h.get? a=some (bW ws n)->(∃ l,ws.toList=.str (aw i) t::l)->P (.ref a)):P w:=
 r.2.elim fun a h=>h.elim fun ws h=>h.elim fun n h=>h.1▸h.2.2.elim fun w h'=>h'.elim fun l h'=>h'.2.1.2.elim fun t e=>k a ws n t h'.2.1.1 h.2.1.h ⟨l,e▸h'.1⟩
theorem CE{a b:AV}{v u:Value}{t:Bool}(ra:aq z a v)(rb:aq z b u)(hl:BQ b a=some t):lX z.h v u t:=
 Jh (C:=fun b a t=>aq z a v->aq z b u->lX z.h v u t) hl
  (fun i j ra rb=>ra.intE (P:=fun v=>lX z.h v u _) fun t1=>rb.intE (P:=fun u=>lX z.h _ u _) fun t2=>⟨oneType',fun A s _=>⟨fun Q E hq=>by
   rw[show keyKind' #[Value.int _ t1,Value.int _ t2]=pure oneType' from keyKind_ints (.cons _ _ (.cons _ _ .nil))];exact SH hq,fun Q E _ hq=>by rw[keyLt'_oneType];exact oneLt_int hq⟩⟩)
  (fun i j t h ra rb=>ra.symE (P:=fun v=>lX z.h v u _) fun t1 _=>rb.symE (P:=fun u=>lX z.h _ u _) fun t2 _=>⟨oneType',fun A s _=>⟨fun Q E hq=>by
   rw[show keyKind' #[Value.str _ t1,Value.str _ t2]=pure oneType' from keyKind_strs (.cons _ _ (.cons _ _ .nil))];exact SH hq,fun Q E _ hq=>by rw[keyLt'_oneType];exact oneLt_str (by rw[(nj h).1];exact hq)⟩⟩)
  (fun i j vs us t ne h ra rb=>ra.headE (P:=fun v=>lX z.h v u _) fun x xs n tp hk hx ex=>rb.headE (P:=fun u=>lX z.h _ u _) fun y ys m tq hj hy ey=>by
   obtain⟨px,epx⟩:=ex;obtain⟨qy,eqy⟩:=ey;have hx0:xs[0]?=some (.str (aw i) tp):=by rw[<- Tz,epx];rfl
   have hy0:ys[0]?=some (.str (aw j) tq):=by rw[<- Tz,eqy];rfl
   refine⟨tuples' (Value.type "str" != Value.type "tuple"),fun A s hs=>⟨fun Q E hq=>?_,fun Q E hu hq=>?_⟩⟩
   ·rw[<- hs] at hx hy;refine kat_kind (vs:=[.ref x,.ref y]) (fs:=[.str (aw i) tp,.str (aw j) tq]) (.cons hx rfl rfl hx0 (.cons hy rfl rfl hy0 .nil)) (Nat.succ_pos _) (fun v hv=>?_) (by decide) hq
    exact(SW.mp hv).elim (fun e=>e▸Looks.of_pure rfl) fun hv=>(SY.mp hv)▸Looks.of_pure rfl
   ·rw[<- hs] at hx hy;refine kat_lt hy rfl hx rfl ?_;rw[epx,eqy];show KatLex _ _ _ _ _ _ ((.str (aw j) tq,.str (aw i) tp)::_) 0 s;exact kat_cons (wpAny_eqBool_str (kat_go (fun e=>SP ((d6 i hk).2 j hj (eq_of_beq e)).symm ne) fun _=>kat_no (oneLt_str (by rw[(nj h).1];exact hq))))) ra rb
theorem vn{zs out:List AV}(h:b7 zs=some out):zs.length<=2/\out.length=zs.length:=by
 match zs,h with
 | [],h=>cases h;decide
 | [a],h=>cases h;exact⟨T0 1,rfl⟩
 | [a,b],h=>exact aI h fun t _ e=>e▸⟨SN _,by cases t<;>rfl⟩
theorem xX{x:Hp}{zs out:List AV}{ord:List Value}{H:Heap}{a:Addr}(hH:∀ b o,x.h.get? b=some o->b≠a/\H.get? b=some o):VL zs p ord->Wk p.x x->b7 zs=some out->
  ∃ outv:List Value,VL out p outv/\((ord.length<2/\outv=ord)\/∃ v1 v2 t,ord=[v1,v2]/\outv=(if t=true then[v2,v1] else[v1,v2])/\∀ h':Heap,(∀ b o,b≠a->H.get? b=some o->h'.get? b=some o)->lX h' v1 v2 t):=by
 match zs with
 | []=>exact fun r _ hs=>S0 hs▸⟨ord,r,.inl ⟨r.length▸Nat.succ_pos _,rfl⟩⟩
 | [c]=>exact fun r _ hs=>S0 hs▸⟨ord,r,.inl ⟨by rw[<- r.length];exact Uf _,rfl⟩⟩
 | [c,d]=>
  exact fun r wk hs=>aI hs fun t ht e=>e▸(VL.two r).elim fun v h=>h.elim fun u h=>⟨if t=true then[u,v] else[v,u],by cases t<;>first | exact .cons h.2.1 (.cons h.2.2 .nil) | exact .cons h.2.2 (.cons h.2.1 .nil),.inr ⟨v,u,t,h.1,rfl,fun h' hk=>by
   have wk2:Wk x ⟨x.ι,x.κ,h'⟩:=.same fun b o e _=>hk b o (hH b o e).1 (hH b o e).2;exact CE (z:=⟨x.ι,x.κ,h'⟩) (aq.wk (wk.trans wk2) h.2.1) (aq.wk (wk.trans wk2) h.2.2) ht⟩⟩
 | _::_::_::_=>exact fun _ _ hs=>nomatch hs
end
section
variable{c:Cc}{A:Around}{env:Env}{U:En}{Y Y' Y1:St}{p:Pt Y}{Er:Value->Shared->Prop}{s:Shared}{v u:AV}{vs out:List AV}{w:Value}{n:Nat}
abbrev Sy(A:Around)(p:Pt Y)(m:Sem (List Value))(out:List AV):Prop:=Ev (Y':=Y) (fun q ord=>∃ zs,VL zs q ord/\b7 zs=some out) A p m
theorem dL{r:Addr}(hu:A.units+20<cLine)(hc:Sy A.in1 p (collect (.ref r)) out):aR A p (call (.builtin "sorted") [.ref r]) (.ref Y.length) (Y++[.list out]):=⟨fun{E Q} g=>by
 refine Calls.call_function_entry kind_sorted plain_sorted entry_sorted (args_sorted1 _) ?_;unfold Builtin.«sorted»;refine SF (m:=checkCount "sorted" 1 1 _) (SH (SF (hc.go fun q ord n h=>h.elim fun zs h=>?_)));have hz:=vn h.2;have hlen:=h.1.length;refine SF (wpAny_newList ?_ (by rw[<- hlen];exact SJ hz.1 (by decide)))
 have hD:(q.s.heap.push (seqObj "list" ord.toArray 0)).get? q.s.heap.objs.size=some (seqObj "list" ord.toArray 0):=Ti _ rfl;have ne:∀ b o,q.s.heap.get? b=some o->b≠q.s.heap.objs.size:=fun b o e=>Te (TA e);obtain⟨outv,ho,hcmp⟩:=xX (x:=q.x) (H:=q.s.heap.push (seqObj "list" ord.toArray 0)) (fun b o e=>⟨ne b o e,S9 _ e⟩) h.1 (.refl _) h.2;obtain⟨k,hk⟩:=sortedHeap_at (out:=outv.toArray) hD;refine SF (Td (TK slot_list_sort ⟨_,hD,rfl⟩ entry_list_sort (xY (s:={ q.s with heap:=q.s.heap.push (seqObj "list" ord.toArray 0) }) (by show A.units+1+1+12<cLine;exact P1 hu) hD hcmp ⟨_,rfl,SH ⟨_,rfl,
  q.newL (aW (SN _)) (fun b o e=>(sortedHeap_old (ne b o e) (by rw[size_push'];exact TL (TA e))).trans (S9 _ e)) hk (by rw[hz.2];exact SJ hz.1 (by decide)) ho fun q2 n2 v=>g q2 _ (n.trans n2) v⟩⟩) (args_list_sort _)))⟩
theorem ai.perm{α β:Type}{R:α->β->Prop}{us ord:List β}(p:ord.Perm us):∀{xs:List α},ai R xs us->∃ ys,ai R ys ord/\ys.Perm xs:=by
 induction p with
 | nil=>exact fun{xs} r=>⟨xs,r,.refl _⟩
 | @cons a l1 l2 q ih=>
  intro xs r
  cases xs with
  | nil=>exact nomatch(show _=[] from r)
  | cons x xs=>
   exact r.elim fun d h=>h.elim fun t h=>by
    obtain⟨e,h1,h2⟩:=h
    cases e
    exact(ih h2).elim fun ys h=>⟨x::ys,.cons h1 h.1,h.2.cons _⟩
 | swap a b l=>
  intro xs r
  cases xs with
  | nil=>exact nomatch(show _=[] from r)
  | cons x xs=>
   exact r.elim fun d h=>h.elim fun t h=>by
    obtain⟨e,h1,h2⟩:=h
    cases e
    cases xs with
    | nil=>exact nomatch(show _=[] from h2)
    | cons y xs=>
     exact h2.elim fun d h=>h.elim fun t h=>by
      obtain⟨e,h3,h4⟩:=h
      cases e
      exact⟨y::x::xs,.cons h3 (.cons h1 h4),.swap _ _ _⟩
 | trans p q ih1 ih2=>exact fun{xs} r=>(ih2 r).elim fun ys h=>(ih1 h.1).elim fun zs h'=>⟨zs,h'.1,h'.2.trans h.2⟩
theorem Pt.moreD(p:Pt Y){h':Heap}{Q:Shared->Prop}{t:Nat}{d:Drawn}(hk:∀ b o,p.s.heap.get? b=some o->h'.get? b=some o)(k:∀ q:Pt Y,Nx [] p q->Q q.s):Q ⟨h',p.s.gens,d,t,p.s.os⟩:=p.more hk fun q n _ _=>k q n
theorem rG{r:Nat}(R:ch A n)(rv:V (.ref r) p w)(hr:aj Y r=some vs)(hs:b7 vs=some out):aR A p (call (.builtin "sorted") [w]) (.ref Y.length) (Y++[.list out]):=
 rv.lstE hr (P:=fun w=>aR A p (call (.builtin "sorted") [w]) (.ref Y.length) (Y++[.list out])) fun a ws m _ hl ho hx=>dL (eY R) ⟨fun g=>collect_list (vs:=ws.toList) (by rw[Array.toArray_toList];exact cB ho)
  (p.moreD (fun b o e=>(UH _ _ (T8 (TA e))).trans (S9 _ e)) fun q n=>g q _ n ⟨vs,VL.nx hx n,hs⟩) (aX (by rw[<- hx.length];exact hl))⟩
theorem rH{r:Nat}{es:List (AV×AV)}(R:ch A n)(rv:V (.ref r) p w)(hr:aN Y r=some es)(hs:b7 (es.map (·.1))=some out):aR A p (call (.builtin "sorted") [w]) (.ref Y.length) (Y++[.list out]):=
 rv.dctE hr (P:=fun w=>aR A p (call (.builtin "sorted") [w]) (.ref Y.length) (Y++[.list out])) fun a ds m hp hl nd ho hd=>dL (eY R) ⟨fun g=>ot R.handled (p.sysm hp) (eZ hd▸aX hl) ho fun h' tk d' hk=>p.moreD hk fun q n=>
  g q _ n ⟨_,ai.ind (P:=fun(es:List (AV×AV)) (ds:List DictEntry)=>VL (es.map fun e:AV×AV=>e.1) q (ds.map fun d:DictEntry=>d.key)) .nil (fun h _ t=>.cons (h.key.wk n.wk) t) hd,hs⟩⟩
theorem pz(R:ch A n)(rv:V (.fset vs) p w)(hs:b7 vs=some out):aR A p (call (.builtin "sorted") [w]) (.ref Y.length) (Y++[.list out]):=
 rv.elim fun a h=>h.elim fun ws h=>h.elim fun us h=>h.elim fun es h=>h.elim fun m h=>h.elim fun t h=>h.1▸dL (eY R) ⟨fun g=>oq R.handled ⟨es,m,t,h.2.2.1.h,h.2.1.1⟩ fun h' tk d ord ho hk=>p.moreD hk fun q n=>
  (ai.perm (ho.trans h.2.1.2.symm) (VL.nx h.2.2.2.both n)).elim fun ys hy=>g q _ n ⟨ys,hy.1,rI hy.2 hs⟩⟩
structure OE(x:Hp)(es:List (AV×AV))(ds:List DictEntry)(kvs:List (Str×Value)):Prop where
 pairs:PySem.Pairs (PySem.strKind PG w0) ds kvs
 keys:∀ e,e∈ds->∃ k,(PySem.strKind PG w0).is k e.key=true/\e.hash=(PySem.strKind PG w0).hash k
 both:ai (fun(e:AV×AV) (kv:Str×Value)=>∃ i,e.1=.sym i/\i<aT.length/\kv.1=aw i/\aq x e.2 kv.2) es kvs
theorem Fj{x:Hp}{es:List (AV×AV)}{ds:List DictEntry}(hd:ai (DE x) es ds):es.all (fun e=>e.1.isSym)=true->∃ kvs,OE x es ds kvs:=
 ai.ind (P:=fun(es:List (AV×AV)) (ds:List DictEntry)=>es.all (fun e=>e.1.isSym)=true->∃ kvs,OE x es ds kvs) (fun _=>⟨[],.nil,fun _ h=>(nomatch h),.nil⟩) (fun{e d es ds} h _ ih hs=>by
  obtain⟨k,v⟩:=e;obtain⟨kvs,K⟩:=ih (SU.mp hs).2
  cases k with
  | sym i=>
   obtain⟨hi,t,hk⟩:=h.key;have his:(PySem.strKind PG w0).is (aw i) d.key=true:=by rw[hk];exact strKind_is ..
   exact⟨(aw i,d.val)::kvs,.cons his rfl K.pairs,fun e' he'=>(SW.mp he').elim (fun q=>q▸⟨aw i,his,h.hash⟩) (K.keys e'),.cons ⟨i,rfl,hi,rfl,h.val⟩ K.both⟩
  | _=>cases(SU.mp hs).1) hd
theorem v9{x:Hp}{es:List (AV×AV)}{ds:List DictEntry}{kvs:List (Str×Value)}(K:OE x es ds kvs)(nd:(es.map (·.1)).Nodup):(kvs.map (·.1)).Nodup:=by
 refine List.pairwise_iff_getElem.mpr fun i j hi hj hij hx=>?_;rw[S7] at hi hj;rw[List.getElem_map,List.getElem_map] at hx;refine K.both.get' (TC hi) fun e1 p1 p2=>K.both.get' (TC hj) fun e2 q1 q2=>?_;obtain⟨a,a1,a2,a3,_⟩:=p2;obtain⟨b,b1,b2,b3,_⟩:=q2;have e:a=b:=(d6 b b2).2 a a2 (a3.symm.trans (hx.trans b3));have g1:(es.map (·.1))[i]?=some (.sym a):=by rw[TD,p1];exact SI some a1
 have g2:(es.map (·.1))[j]?=some (.sym b):=by rw[TD,q1];exact SI some b1
 exact Te hij ((List.getElem?_inj (SR.mp g1).1 nd).mp (g1.trans (e▸g2.symm)))
theorem ai.of_get{α β:Type}{R:α->β->Prop}{es:List α}:∀{ds:List β},es.length=ds.length->(∀(j:Nat) a b,es[j]?=some a->ds[j]?=some b->R a b)->ai R es ds:=by
 induction es with
 | nil=>exact fun e _=>UK e.symm▸.nil
 | cons a es ih=>
  refine @fun ds e f=>?_
  cases ds with
  | nil=>exact nomatch e
  | cons b ds=>exact .cons (f 0 _ _ rfl rfl) (ih (Nat.succ.inj e) fun j a b h1 h2=>f (j+1) a b h1 h2)
theorem py{r:Nat}{es:List (AV×AV)}(R:ch A n)(rv:V (.view r) p w)(hr:aN Y r=some es)(hsy:es.all (fun e=>e.1.isSym)=true)(hs:b7 (es.map fun e=>.tup [e.1,e.2])=some out):aR A p (call (.builtin "sorted") [w]) (.ref Y.length) (Y++[.list out]):=
 rv.elim fun a h=>h.elim fun pr h=>h.1▸dL (eY R) (p.dct hr fun b ds m hp hz nd ho hd=>(Fj hd hsy).elim fun kvs K=>⟨fun g=>by
  cases h.2.1.symm.trans hp
  have hzl:kvs.length=es.length:=K.both.length.symm;refine kdx_collect (knd:=PySem.strKind PG w0) (kvs:=kvs) (ep:=m) R.handled ⟨_,h.2.2.h,rfl,rfl⟩ ⟨_,ds,ho,⟨rfl,rfl,rfl⟩,rfl,fun e he=>K.keys e (Array.mem_toList_iff.mpr he),K.pairs,v9 K nd⟩ (by rw[hzl];exact aX hz) fun h' tk as hk hl hG=>p.more hk fun q n _ im=>g q _ n ⟨_,?_,hs⟩
  refine ai.of_get (by rw[S7,S7,hl,hzl]) fun j x y hx hy=>?_
  rw[TD] at hx hy;obtain⟨e',he',rfl⟩:=Ur.mp hx;obtain⟨a',ha',rfl⟩:=Ur.mp hy;obtain⟨key,k,x,g1,g2,g3⟩:=hG.pairs j a' ha';refine K.both.get he' fun kv h1 h2=>?_;obtain⟨i,i1,i2,i3,i4⟩:=h2
  cases g1.symm.trans h1
  obtain⟨t,rfl⟩:=Value.isStrOf_shape g2;exact⟨by show 2<=ay;decide,a',_,0,rfl,im _ _ (aW (TU (hG.above a' (Tm ha')))) g3,ai.vrels (.cons (R:=aq q.x) (by rw[i1];exact⟨i2,t,SI (Value.str · t) i3⟩) (.cons (i4.wk n.wk) .nil))⟩⟩)
end
section
variable{c:Cc}{A:Around}{env:Env}{U:En}{Y Y' Y1:St}{p:Pt Y}{Er:Value->Shared->Prop}{s:Shared}{v u:AV}{vs out:List AV}{w:Value}{n:Nat}{ws:List Value}
theorem BV(rv:V (.tup vs) p w):aR A p (call (.builtin "len") [w]) (.int vs.length) Y:=
 rv.tupE (P:=fun w=>aR A p (call (.builtin "len") [w]) (.int vs.length) Y) fun a us m hl i hx=>⟨fun g=>PyProof.Rows.len_tuple ⟨_,i.h,rfl,m,rfl⟩ (hx.size▸uv hl) (g (p.tok _) _ .tok ⟨_,SI (fun k:Nat=>Value.int (k:Int) _) hx.size⟩)⟩
theorem BW{r:Nat}(rv:V (.ref r) p w)(hr:aj Y r=some vs):aR A p (call (.builtin "len") [w]) (.int vs.length) Y:=
 rv.lstE hr (P:=fun w=>aR A p (call (.builtin "len") [w]) (.int vs.length) Y) fun a us m _ hl ho hx=>⟨fun g=>Calls.call_len_list (cB ho) (hx.size▸uv hl) (g (p.tok _) _ .tok ⟨_,SI (fun k:Nat=>Value.int (k:Int) _) hx.size⟩)⟩
theorem yR(rv:V (.fset vs) p w):aR A p (call (.builtin "len") [w]) (.int vs.length) Y:=
 rv.elim fun a h=>h.elim fun ws h=>h.elim fun us h=>h.elim fun es h=>h.elim fun m h=>h.elim fun t h=>h.1▸⟨fun g=>call_len_set h.2.2.1.h ⟨rfl,rfl,rfl⟩ rfl h.2.1.1.1 (Int.lt_of_le_of_lt (TX.mpr h.2.1.1.2.2.2.1) (by decide)) (g (p.tok _) _ .tok ⟨_,SI (fun k:Nat=>Value.int (k:Int) _) (by
  have e:=SI List.length h.2.1.1.2.1;rw[S7,Um] at e;exact e.trans (h.2.1.2.length_eq.symm.trans h.2.2.2.both.length.symm))⟩)⟩
theorem th{i:Nat}(hi:i<=50000)(t:Tok):aR A p (call (.type "range") [.int (i:Int) t]) (.rng i) Y:=⟨fun g=>call_range_1 (p.push (t:=p.s.toks+1+1) fun q n _ im=>g q _ n ⟨hi,_,_,_,_,rfl,im⟩)⟩
theorem It(n:Nat):Builtin.Range.rangeSize 0 (n:Int) 1=n:=by
 rw[rangeSize_one]
 split<;>omega
theorem xZ{n:Nat}(h:n<=50000):Builtin.Range.small 0 (n:Int) 1=true:=small_one (by decide) (by decide) (Int.le_trans (by decide) (Uy n)) (Int.lt_of_le_of_lt (TX.mpr h) (by decide))
theorem sJ(hh:A.handled=none){k:Nat}(rv:V (.rng k) p w):aR A p (call (.type "list") [w]) (.ref Y.length) (Y++[.list ((List.range k).map fun(i:Nat)=>.int i)]):=
 rv.2.elim fun a h=>h.elim fun t h=>h.elim fun u h=>h.elim fun y h=>h.1▸⟨fun g=>call_list_range hh h.2.h (xZ rv.1) (It k) (by have:=rv.1;omega) fun h' tk acc c hk hg hi=>
  p.newL (aW (SN _)) hk hg (by rw[S7,UD];exact SJ rv.1 (by decide)) (pH hi) fun q n v=>g q _ n v⟩
theorem uZ(rv:V (.tup vs) p w):aR A p (call (.type "tuple") [w]) (.tup vs) Y:=
 rv.tupE (P:=fun w=>V (.tup vs) p w->aR A p (call (.type "tuple") [w]) (.tup vs) Y) (fun a us m hl i hx rv=>⟨fun g=>call_tuple_same ⟨_,i.h,rfl,m,rfl⟩ (g p _ (.refl p) rv)⟩) rv
theorem vc{r:Nat}(rv:V (.ref r) p w)(hr:aj Y r=some vs):aR A p (call (.type "tuple") [w]) (.tup vs) Y:=
 rv.lstE hr (P:=fun w=>aR A p (call (.type "tuple") [w]) (.tup vs) Y) fun a us m _ hl ho hx=>⟨fun g=>call_tuple_list (cB ho) (fun h' hk=>p.more (fun b o e=>S9 _ (hk b o e)) fun q n _ im=>g q _ n ⟨hl,_,us,0,rfl,im _ _ (match e:p.s.heap.get? h'.objs.size with | none=>rfl | some o=>SP (TA (hk _ _ e)) (Uq _)) (Ti _ rfl),ai.vrels (VL.nx hx n)⟩) (hx.size▸aX hl)⟩
theorem nT{α:Type}{f:List AV->Option α}{b:α}{P:Prop}(r:V v p w)(h:(cT Y v).bind f=some b)(k:∀ i xs,V (.ref i) p w->aj Y i=some xs->f xs=some b->P):P:=ae h fun xs h1 h=>ae h1 fun i h2 h3=>k i xs (bc h2▸r) h3 h
theorem ki(r:V v p w)(h:cT Y v=some vs){P:Prop}(k:∀ i,V (.ref i) p w->aj Y i=some vs->P):P:=ae h fun i h2 h3=>k i (bc h2▸r) h3
structure SE(A:Around)(p:Pt Y)(b:aO)(v u:AV)(w:Value)(Y':St):Prop where
 ev:aR A p (call (i6 b) [w]) u Y'
abbrev lW(A:Around)(p:Pt Y)(f:Value)(w:Value)(u:AV)(Y':St):Prop:=aR A p (call f [w]) u Y'
theorem Kd(rv:V v p w)(h:(cP (bx v) (cP (oa v) (cT Y v))).map (fun xs=>(AV.int xs.length,Y))=some (u,Y')):lW A p (.builtin "len") w u Y':=
 dt h fun xs h=>bu h (fun h=>BV (aC h▸rv)) fun h=>bu h (fun h=>yR (mL h▸rv)) fun h=>ki rv h fun i rv h=>BW rv h
theorem Gx(rv:V v p w)(h:(iz v).map (fun b=>(AV.int (bif b then 1 else 0),Y))=some (u,Y')):lW A p (.type "int") w u Y':=
 dt h fun b h=>V.boolE (P:=fun w=>aR A p (call (.type "int") [w]) (.int (bif b then 1 else 0)) Y) (fq h▸rv) ⟨fun g=>PySem.call_int_bool (g (p.tok _) _ .tok ⟨_,by cases b<;>rfl⟩)⟩
theorem Gp(R:ch A n)(rv:V v p w)(h:((cT Y v).bind fun xs=>(cC xs).bind fun is=>is.head?.map fun i=>(AV.int (is.tail.foldl max i),Y))=some (u,Y')):lW A p (.builtin "max") w u Y':=
 nT rv h fun i xs rv hr h=>ae h fun is hi h=>dt h fun j hj=>by
  cases is with
  | nil=>cases hj
  | cons k is=>cases hj;exact zW R.handled rv hr hi
theorem Gl(R:ch A n)(rv:V v p w)(h:((cT Y v).bind fun xs=>(cC xs).map fun is=>(AV.int is.sum,Y))=some (u,Y')):lW A p (.builtin "sum") w u Y':=
 nT rv h fun i xs rv hr h=>dt h fun is hi=>zU R.handled rv hr hi
theorem Gz(R:ch A n)(rv:V v p w)(h:cq .dict [v] Y=some (u,Y')):lW A p (.type "dict") w u Y':=
 bu h (fun h=>ly rv h fun r rv h=>ae h fun es hr h=>fC (a:=.ref Y.length) h fun q=>have q:=SU.mp q;lP R rv hr (SO q.1) q.2)
  fun h=>ae h fun xs h1 h=>ae h fun ps hp h=>fC (a:=.ref Y.length) h fun q=>lO R (aC h1▸rv) hp (SO q)
theorem Ae(R:ch A n)(rv:V v p w)(h:cq .sorted [v] Y=some (u,Y')):lW A p (.builtin "sorted") w u Y':=
 bu h (fun h=>nT rv h fun i xs rv hr h=>dt h fun ys hs=>rG R rv hr hs) fun h=>bu h (fun h=>ae h fun xs h1 h=>dt h fun ys hs=>pz R (mL h1▸rv) hs) fun h=>
  bu h (fun h=>ly rv h fun r rv h=>ae h fun es hr h=>dt h fun ys hs=>rH R rv hr hs) fun h=>ae h fun r h1 h=>ae h fun es hr h=>bj h (fun q h=>dt h fun ys hs=>py R (uX h1▸rv) hr q hs) fun _ h=>nomatch h
theorem Go(R:ch A n)(rv:V v p w)(h:((cT Y v).bind fun xs=>(lv xs).map fun ys=>(AV.fset ys,Y))=some (u,Y')):lW A p (.type "set") w u Y':=
 nT rv h fun i xs rv hr h=>dt h fun ys hs=>zV R rv hr hs
theorem Gs(R:ch A n)(rv:V v p w)(h:cq .listOf [v] Y=some (u,Y')):lW A p (.type "list") w u Y':=
 bu h (fun h=>dt h fun xs h1=>V.tupE (P:=fun w=>aR A p (call (.type "list") [w]) (.ref Y.length) (Y++[.list xs])) (aC h1▸rv) fun a us m hl i hx=>iQ (.inr rfl) i.h rfl rfl hl hx) fun h=>
  bu h (fun h=>dt h fun xs h1=>ki (P:=aR A p (call (.type "list") [w]) (.ref Y.length) (Y++[AO.list xs])) rv h1 fun i rv hr=>rv.lstE hr (P:=fun w=>aR A p (call (.type "list") [w]) (.ref Y.length) (Y++[AO.list xs])) fun a us m _ hl ho hx=>iQ (.inl rfl) ho rfl rfl hl hx)
   fun h=>dt h fun k hk=>sJ R.handled (pG hk▸rv)
theorem CO(rv:V v p w)(h:(cP (bx v) (cT Y v)).map (fun xs=>(AV.tup xs,Y))=some (u,Y')):lW A p (.type "tuple") w u Y':=
 dt h fun xs h=>bu h (fun h=>uZ (aC h▸rv)) fun h=>ki rv h fun i rv hr=>vc rv hr
theorem CP(rv:V v p w)(h:((cI v).bind fun i=>de (decide (0<=i)&&decide (i<=50000)) (AV.rng i.toNat,Y))=some (u,Y')):lW A p (.type "range") w u Y':=
 ae h fun i h1 h=>fC h fun q=>by
  have q:=SU.mp q;obtain⟨j,rfl⟩:=Int.eq_ofNat_of_zero_le (SO q.1);exact V.int (P:=fun w=>aR A p (call (.type "range") [w]) (.rng j) Y) (br h1▸rv) fun t=>th (TX.mp (SO q.2)) t
theorem Gy(rv:V v p w)(h:(cP (bx v) (cT Y v)).map (fun _=>(AV.enm v,Y))=some (u,Y')):re p.κ A p (call (.type "enumerate") [w]) u Y':=
 dt (P:=fun u Y'=>re p.κ A p (call (.type "enumerate") [w]) u Y') h fun xs h=>bu h (fun h=>aC h▸zC (aC h▸rv)) fun h=>ae h fun i h1 hr=>bc h1▸zD (bc h1▸rv) hr
theorem aR.toE{κ:List Addr}{m:Sem Value}(h:aR A p m v Y'):re κ A p m v Y':=h.mono fun _ _ _ r=>r.toE
theorem dm{f:Value}{C:AV->Rs}(rs:VL vs p ws)(h:dU vs C=some (u,Y'))(k:∀ v w,V v p w->C v=some (u,Y')->re p.κ A p (call f [w]) u Y'):re p.κ A p (call f ws) u Y':=
 gW h fun v hv h=>VL.oneE (P:=fun ws=>re p.κ A p (call f ws) u Y') (hv▸rs) fun w r=>k v w r h
theorem wJ(R:ch A n)(rs:VL vs p ws):∀{b:aO},cq b vs Y=some (u,Y')->re p.κ A p (call (i6 b) ws) u Y'
 | .len,h=>dm rs h fun v w r h=>(Kd r h).toE
 | .int,h=>dm rs h fun v w r h=>(Gx r h).toE
 | .max,h=>dm rs h fun v w r h=>(Gp R r h).toE
 | .sum,h=>dm rs h fun v w r h=>(Gl R r h).toE
 | .dict,h=>dm rs h fun v w r h=>(Gz R r h).toE
 | .sorted,h=>dm rs h fun v w r h=>(Ae R r h).toE
 | .set,h=>dm rs h fun v w r h=>(Go R r h).toE
 | .listOf,h=>dm rs h fun v w r h=>(Gs R r h).toE
 | .tupleOf,h=>dm rs h fun v w r h=>(CO r h).toE
 | .range,h=>dm rs h fun v w r h=>(CP r h).toE
 | .enum,h=>dm rs h fun v w r h=>Gy r h
 | .zip,h=>kU h fun v u' hv h=>VL.twoE (P:=fun ws=>re p.κ A p (call (.type "zip") ws) u Y') (hv▸rs) fun w w' r r'=>ae h fun a h1 h=>dt (P:=fun u Y'=>re p.κ A p (call (.type "zip") [w,w']) u Y') h fun b h2=>AA (aC h1▸r) (aC h2▸r')
theorem CH(b:aO):(∃ i,i6 b=.builtin i)\/∃ T,i6 b=.type T:=by cases b<;>first | exact .inl ⟨_,rfl⟩ | exact .inr ⟨_,rfl⟩
theorem ow{b:aO}{pos:Pos}{es:List Expr}{xs:List X}{Q:Value->Shared->Prop}(sxl:oN c es xs)(h:wpAny M0 A (spliced (jj pos es env)) (fun vs s₁=>wpAny M0 A (call (i6 b) vs) Q Er s₁) Er s):wpAny M0 A (callWith pos (i6 b) [] (jj pos es env) []) Q Er s:=by
 have h1:∀ id,i6 b=.builtin id->wpAny M0 A (callWith pos (i6 b) [] (jj pos es env) []) Q Er s:=fun id e=>by rw[e] at h ⊢;exact Calls.callWith_builtin (bJ sxl) (dc (bJ sxl) h)
 have h2:∀ T,i6 b=.type T->wpAny M0 A (callWith pos (i6 b) [] (jj pos es env) []) Q Er s:=fun T e=>by rw[e] at h ⊢;exact PyProof.Rows.callWith_type (bJ sxl) (dc (bJ sxl) h)
 exact(CH b).elim (fun h=>h.elim h1) fun h=>h.elim h2
theorem E.sub{κ κ':List Addr}(h:E κ' v p w)(hs:∀ a,a∈κ->a∈κ'):E κ v p w:=⟨h.val,fun hv=>(h.it hv).imp fun _ g=>⟨fun a ha=>g.1 a (hs a ha),g.2⟩⟩
theorem Ef{x:Str}{ps pos:Pos}{es:List Expr}{xs:List X}{b:aO}(hx:x≠("super":Str))(hg:dz (c.cx.sc.lookup x)=true)(hb:mS x=some b)(hd:(x==("__debug__":Str))=false)(sxl:oN c es xs):SX c (.Call (.Name x ps) es [] pos) (.blt b xs):=
 ⟨fun{U Y Y' p} f v h=>aF h fun vs Y1 h1 h=>p.r.pf.ns.elim fun mg e=>e.elim fun mb e=>⟨fun g=>Call_Name rfl (wpAny_Name (yQ f hg e.1 (kH hb▸(e.2.2.2.2.2 b).1) e.2.1 (kH hb▸(e.2.2.2.2.2 b).2) (ow sxl ((sxl.sxs.ev f h1 pos).go fun q ws n r=>(wJ f.R r h).go fun q2 w2 n2 r2=>
   g q2 w2 (n.trans n2) (r2.sub fun a ha=>(n.kept ha).1)))) hd)⟩,fun _ _ _=>iC hx,fun _ _=>rfl⟩
end
noncomputable def cS(env:Env):List Addr:=env.locals::env.cells.filterMap fun p=>env.cells.lookup p.1
theorem fh{env:Env}{x:Str}{c:Addr}(h:env.cells.lookup x=some c):c∈cS env:=.tail _ (List.mem_filterMap.mpr ⟨(x,c),aE h,h⟩)
theorem j4{env:Env}{a:Addr}(h:a∈cS env):a=env.locals\/∃ x,env.cells.lookup x=some a:=(SW.mp h).imp id fun h=>(List.mem_filterMap.mp h).elim fun p h=>⟨p.1,h.2⟩
noncomputable def nz(loc:Bool)(env:Env):List Addr:=bif loc then[env.locals] else cS env
theorem rT:∀{loc:Bool} {env:Env},env.locals∈nz loc env
 | true,_=>.head _
 | false,_=>.head _
section
variable{c:Cc}{A:Around}{env:Env}{cx:Cx}{U U':En}{Y Y' Y'':St}{p:Pt Y}{q:Pt Y'}{Er:Value->Shared->Prop}{s:Shared}{v u:AV}{vs:List AV}{w:Value}{loc:Bool}{Z:List Addr}
structure OF{α:Type}(Z:List Addr)(k:Pt Y'->α->Prop)(A:Around)(p:Pt Y)(m:Sem α):Prop where
 go:∀{E:Value->Shared->Prop} {Q:α->Shared->Prop},(∀ q a,Nx Z p q->k q a->Q a q.s)->wpAny M0 A m Q E p.s
abbrev DK(loc:Bool)(env:Env)(cx:Cx)(U:En)(A:Around)(p:Pt Y)(m:Sem Unit):Prop:=OF (Y':=Y) (nz loc env) (fun q _=>FR q.x env cx U) A p m
theorem FR.sub(F:FR p.x env cx U){a:Addr}(h:a∈cS env):a∈p.κ:=(j4 h).elim (fun e=>e▸F.ownL) fun h=>h.elim fun x hx=>F.ownC x a hx
theorem FR.cell_ne(F:FR p.x env cx U){x:Str}{c:Addr}{cv:Option Value}(hc:p.s.heap.IsCell c cv):c≠env.locals:=fun e=>F.ns.elim fun m h=>h.1.elim fun o h=>h.elim fun es h=>h.elim fun ep h=>hc.elim fun o' h'=>by
 cases(e▸h'.1).symm.trans h.1
 exact nomatch h'.2.symm.trans h.2.1
theorem dO{i j:Nat}(h:j≠i):ah U i v j=U j:=SL h
theorem gZ{i:Nat}:ah U i v i=some v:=SQ rfl
structure DL(p:Pt Y)(q:Pt Y)(a:Addr):Prop where
 n:Nx [a] p q
 own:a∈q.κ
theorem DL.sub{q:Pt Y}{a:Addr}(h:DL p q a){b:Addr}(hb:b∈p.κ):b∈q.κ:=(h.n.prv b hb).elim (fun g=>SY.mp g▸h.own) And.left
theorem DL.same{q:Pt Y}{a:Addr}(h:DL p q a){b:Addr}(hb:b∈p.κ)(ne:b≠a):q.s.heap.get? b=p.s.heap.get? b:=(h.n.prv b hb).elim (fun g=>SP (SY.mp g) ne) And.right
theorem DL.cell{q:Pt Y}{a b:Addr}{cv:Option Value}(h:DL p q a)(hb:b∈p.κ)(ne:b≠a)(hc:p.s.heap.IsCell b cv):q.s.heap.IsCell b cv:=hc.imp fun o g=>⟨(h.same hb ne).trans g.1,g.2⟩
theorem FR.top_upd{x:Str}{i:Nat}(F:FR p.x env cx U)(hi:cx.sl.lookup x=some i):∀ j,cx.sl.length<=j->ah U i v j=none:=fun j hj=>(dO (T8 (TJ (F.st.slots x i hi) hj))).trans (F.top j hj)
theorem FS.ne{x y:Str}{i j:Nat}(F:FS env cx)(hj:cx.sl.lookup y=some j)(hi:cx.sl.lookup x=some i)(h:y≠x):j≠i:=fun q=>h (F.inj y x i (q▸hj) hi)
theorem pj{q:Pt Y}{x:Str}{i:Nat}(F:FR p.x env cx U)(hk:cx.sc.lookup x=some .local)(hi:cx.sl.lookup x=some i)(g:DL p q env.locals){m:Str->Option Value}(hm:∀ y i v,cx.sc.lookup y=some .local->cx.sl.lookup y=some i->U i=some v->∃ v',m y=some v'/\aq p.x v v')
  (hn:q.s.heap.Ns env.locals fun y=>if y=x then some w else m y) (e:V v p w):FR q.x env cx (ah U i v):=
 ⟨F.st,g.sub F.ownL,fun y d h=>g.sub (F.ownC y d h),⟨_,hn,fun y j u hy hj hu=>(Tu (y=x)).elim (fun hyx=>by
   subst hyx
   cases hi.symm.trans hj
   cases gZ.symm.trans hu
   exact⟨w,SQ rfl,e.nx g.n⟩) fun hyx=>(hm y j u hy hj ((dO (F.st.ne hj hi hyx)).symm.trans hu)).imp fun v' h=>⟨(SL hyx).trans h.1,h.2.wk g.n.wk⟩⟩,
  fun y j hy hj=>(F.cells y j hy hj).imp fun d h=>h.imp fun dv h=>⟨h.1,g.cell (F.ownC y d h.1) (F.cell_ne (x:=y) h.2.1) h.2.1,fun u hu=>by
   have hyx:y≠x:=fun q=>by subst q;exact hy.elim (fun q=>nomatch hk.symm.trans q) fun q=>nomatch hk.symm.trans q
   exact(h.2.2 u ((dO (F.st.ne hj hi hyx)).symm.trans hu)).imp fun v' h=>⟨h.1,h.2.wk g.n.wk⟩⟩,F.top_upd hi⟩
theorem rD{q:Pt Y}{x:Str}{i:Nat}{d:Addr}(F:FR p.x env cx U)(hk:cx.sc.lookup x=some .cell\/cx.sc.lookup x=some .free)(hi:cx.sl.lookup x=some i)(hd:env.cells.lookup x=some d){dv:Option Value}(hc0:p.s.heap.IsCell d dv)(g:DL p q d)(hc:q.s.heap.IsCell d (some w))(e:V v p w):FR q.x env cx (ah U i v):=
 ⟨F.st,g.sub F.ownL,fun y d h=>g.sub (F.ownC y d h),F.ns.imp fun m h=>⟨h.1.imp fun o h=>h.imp fun es h=>h.imp fun ep h=>⟨(g.same F.ownL (Ne.symm (F.cell_ne (x:=x) hc0))).trans h.1,h.2⟩,fun y j u hy hj hu=>
   (h.2 y j u hy hj ((dO (F.st.ne hj hi fun q=>by
    subst q;exact hk.elim (fun q=>nomatch hy.symm.trans q) fun q=>nomatch hy.symm.trans q)).symm.trans hu)).imp fun v' h=>⟨h.1,h.2.wk g.n.wk⟩⟩,
  fun y j hy hj=>(Tu (y=x)).elim (fun hyx=>by
   subst hyx
   cases hi.symm.trans hj
   exact⟨d,some w,hd,hc,fun u hu=>by cases gZ.symm.trans hu;exact⟨w,rfl,e.nx g.n⟩⟩) fun hyx=>(F.cells y j hy hj).imp fun d' h=>h.imp fun dv' h=>
    ⟨h.1,g.cell (F.ownC y d' h.1) (fun q=>hyx (F.st.apart y x d (q▸h.1) hd)) h.2.1,fun u hu=>(h.2.2 u ((dO (F.st.ne hj hi hyx)).symm.trans hu)).imp fun v' h=>⟨h.1,h.2.wk g.n.wk⟩⟩,F.top_upd hi⟩
theorem fP{x:Str}{i:Nat}(hloc:loc=true->cx.sc.lookup x=some .local)(ho:mH (cx.sc.lookup x)=true)(hi:cx.sl.lookup x=some i)(F:FR p.x env cx U)(e:V v p w):DK loc env cx (ah U i v) A p (storeName env x w):=by
 refine⟨fun{E Q} k=>?_⟩;have sc:=F.st.sc x;have cell:cx.sc.lookup x=some .cell\/cx.sc.lookup x=some .free->env.kindOf x=some .cell->wpAny M0 A (storeName env x w) Q E p.s:=fun hk hk'=>(F.cells x i hk hi).elim fun d h=>h.elim fun dv h=>wpAny_storeName_cell F.st.kind hk' h.1 h.2.1 fun h' hc' hs=>hc'.elim fun o ho=>
  p.put (F.ownC x d h.1) hs ho.1 fun q n hq hg=>k q () (n.more fun b hb _=>SY.mp hb▸(match loc,hloc with
   | true,hl=>hk.elim (fun q=>nomatch(hl rfl).symm.trans q) fun q=>nomatch(hl rfl).symm.trans q
   | false,_=>fh h.1)) (rD F hk hi h.1 h.2.1 ⟨n,hq⟩ ⟨o,hg,ho.2⟩ e)
 cases hk:cx.sc.lookup x with
 | none=>rw[hk] at ho;cases ho
 | some kd=>exact match kd,hk with
  | .local,hk=>F.ns.elim fun m h=>wpAny_storeName_local (sc.1 hk) h.1 (fun h' hn' hs=>hn'.elim fun o g=>g.elim fun es g=>g.elim fun ep g=>
    p.put F.ownL hs g.1 fun q n hq hg=>k q () (n.more fun b hb _=>SY.mp hb▸rT) (pj F hk hi ⟨n,hq⟩ h.2 ⟨o,es,ep,hg,g.2⟩ e)) (by rw[F.st.kind];rfl)
  | .cell,hk=>cell (.inl hk) (sc.2.1 hk)
  | .free,hk=>cell (.inr hk) (sc.2.2.1 hk)
  | .globalImplicit,hk | .globalExplicit,hk=>by rw[hk] at ho;cases ho
theorem ke{e:Expr}{x:Str}(h:ul e=some x):∃ ps,e=.Name x ps:=vw (C:=fun e=>∃ ps,e=.Name x ps) h bZ (fun y p h=>⟨p,S0 h▸rfl⟩) (fun _ _ _=>bZ) (fun _ _ _=>bZ) (fun _ _ _=>bZ) (fun _ _ _ _=>bZ) (fun _ _ _=>bZ) (fun _ _ _=>bZ) bZ
theorem iL{e:Expr}{es:List Expr}(h:ro e=some es):∃ k ps,e=.Tuple es k ps:=vw (C:=fun e=>∃ k ps,e=.Tuple es k ps) h bZ (fun _ _=>bZ) (fun y k p h=>⟨k,p,S0 h▸rfl⟩) (fun _ _ _=>bZ) (fun _ _ _=>bZ) (fun _ _ _ _=>bZ) (fun _ _ _=>bZ) (fun _ _ _=>bZ) bZ
structure dW(loc:Bool)(cx:Cx)(e:Expr)(i:Nat):Prop where
 ex:∃ x ps,e=.Name x ps/\mH (cx.sc.lookup x)=true/\cx.sl.lookup x=some i/\(loc=true->cx.sc.lookup x=some .local)
theorem vW{x:Str}{ps:Pos}{sc:List (Str×NameKind)}(h:yP sc (.Name x ps)=true):sc.lookup x=some .local:=SO h
theorem vR{e:Expr}{i:Nat}(h:ka cx e=some i)(hl:loc=true->yP cx.sc e=true):dW loc cx e i:=ae h fun x h1 h=>bj h (fun ho hi=>(ke h1).elim fun ps e=>⟨x,ps,e,ho,hi,fun q=>vW (e▸hl q)⟩) fun _ h=>nomatch h
theorem sC{es:List Expr}:∀{is:List Nat},nQ cx es=some is->(loc=true->es.all (yP cx.sc)=true)->ai (dW loc cx) es is:=by
 induction es with
 | nil=>exact fun h _=>S0 h▸.nil
 | cons e es ih=>exact fun h hl=>ae h fun i h1 h=>aI h fun is h2 g=>g▸.cons (vR h1 fun q=>(SU.mp (hl q)).1) (ih h2 fun q=>(SU.mp (hl q)).2)
def tH(loc:Bool)(cx:Cx)(t:Expr):Prop:=loc=true->du cx.sc t=true
theorem jP{t:Expr}{pt:ax}{P:Expr->ax->Prop}(hloc:tH loc cx t)(h:bD cx t=some pt)(k1:∀ x ps i,mH (cx.sc.lookup x)=true->cx.sl.lookup x=some i->(loc=true->cx.sc.lookup x=some .local)->P (.Name x ps) (.one i))
  (k2:∀ es k ps is,ai (dW loc cx) es is->P (.Tuple es k ps) (.many is)):P t pt:=by
 unfold bD at h
 cases h1:ka cx t with
 | some i=>
  rw[h1] at h
  cases h
  refine ae h1 fun x h2 h=>bj h (fun ho hi=>?_) fun _ h=>nomatch h
  obtain⟨ps,rfl⟩:=ke h2;exact k1 x ps i ho hi fun q=>SO ((T5.mp (hloc q)).resolve_right Tp)
 | none=>
  rw[h1] at h;refine ae h fun es h2 h=>aI h fun is h3 e=>?_
  cases e
  obtain⟨k,ps,rfl⟩:=iL h2;exact k2 es k ps is (sC h3 fun q=>(T5.mp (hloc q)).resolve_left Tp)
structure GV(loc:Bool)(cx:Cx)(A:Around)(env:Env)(f:Value->Sem Unit)(i:Nat):Prop where
 ev:∀{Y:St} {U:En} {p:Pt Y} {v:AV} {w:Value},FR p.x env cx U->V v p w->DK loc env cx (ah U i v) A p (f w)
abbrev GW(loc:Bool)(cx:Cx)(A:Around)(env:Env)(fs:List (Value->Sem Unit))(is:List Nat):Prop:=ai (GV loc cx A env) fs is
theorem dW.each{es:List Expr}{is:List Nat}(hn:ai (dW loc cx) es is):(assignEach es env).length=is.length/\(assignEach es env).findIdx? (·.1)=none/\GW loc cx A env ((assignEach es env).map (·.2)) is:=
 ai.ind (P:=fun es is=>(assignEach es env).length=is.length/\(assignEach es env).findIdx? (·.1)=none/\GW loc cx A env ((assignEach es env).map (·.2)) is) ⟨rfl,rfl,.nil⟩ (fun{e i es is} h _ ih=>by
  obtain⟨x,ps,rfl,ho,hi,hl⟩:=h.ex;show((false,assign (.Name x ps) env)::assignEach es env).length=_/\((false,assign (.Name x ps) env)::assignEach es env).findIdx? _=_/\GW loc cx A env (((false,assign (.Name x ps) env)::assignEach es env).map _) _;refine⟨SI (·+1) ih.1,?_,.cons ⟨fun F r=>⟨fun k=>wpAny_assign_Name ((fP hl ho hi F r).go k)⟩⟩ ih.2.2⟩;rw[List.findIdx?_cons,ih.2.1];rfl) hn
noncomputable def vS(e:Expr):Str:=(ul e).getD ⟨#[]⟩
theorem dW.binds{es:List Expr}{is:List Nat}(hn:ai (dW loc cx) es is):GW loc cx A env ((es.map vS).reverse.map fun n=>bindName env n) is.reverse:=by
 rw[<- List.map_reverse,TP];exact(ai.ind (P:=fun es is=>GW loc cx A env (es.map fun e=>bindName env (vS e)) is) .nil (fun{e i es is} h _ ih=>by
  obtain⟨x,ps,rfl,ho,hi,hl⟩:=h.ex;exact .cons ⟨fun F r=>⟨fun k=>wpAny_bindName ((fP hl ho hi F r).go k)⟩⟩ ih) hn.reverse)
theorem gk{fs:List (Value->Sem Unit)}{is:List Nat}(hS:GW loc cx A env fs is):∀{vs:List AV} {ws:List Value} {U U':En} {p:Pt Y},FR p.x env cx U->VL vs p ws->eI U is vs=some U'->DK loc env cx U' A p (assignInOrder fs ws):=
 ai.ind (P:=fun fs is=>∀{vs:List AV} {ws:List Value} {U U':En} {p:Pt Y},FR p.x env cx U->VL vs p ws->eI U is vs=some U'->DK loc env cx U' A p (assignInOrder fs ws))
  (fun{vs ws U U' p} F r h=>by
   cases vs with
   | cons _ _=>cases h
   | nil=>cases h;exact r.nilE (P:=fun ws=>DK loc env cx U A p (assignInOrder [] ws)) ⟨fun k=>SH (k p () (.refl p) F)⟩)
  (fun{f i fs is} hf _ ih {vs ws U U' p} F r h=>by
   cases vs with
   | nil=>cases h
   | cons v vs=>
    exact r.consE (P:=fun ws=>DK loc env cx U' A p (assignInOrder (f::fs) ws)) fun w ws e r=>⟨fun k=>by
     show wpAny _ _ (holding ws (f w) >>= fun _=>assignInOrder fs ws) _ _ _;exact SF (Td ((hf.ev F e).go fun q _ n F1=>(ih F1 (VL.nx r n) h).go fun q2 _ n2 F2=>k q2 () (n.trans n2) F2))⟩) hS
theorem iK{is:List Nat}:∀{vs:List AV} {U U':En},eI U is vs=some U'->is.length=vs.length:=by
 induction is with
 | nil=>
  refine @fun vs _ _ h=>?_
  cases vs with
  | nil=>rfl
  | cons=>exact bZ h
 | cons i is ih=>
  refine @fun vs _ _ h=>?_
  cases vs with
  | nil=>exact bZ h
  | cons=>exact SI (·+1) (ih h)
theorem xr{i j:Nat}(h:i≠j):ah (ah U i v) j u=ah (ah U j u) i v:=funext fun k=>(Tu (k=j)).elim (fun e=>by rw[e,gZ,dO (Ne.symm h),gZ]) fun h1=>by
 rw[dO h1];exact(Tu (k=i)).elim (fun e=>by rw[e,gZ,gZ]) fun h2=>by rw[dO h2,dO h2,dO h1]
theorem xt{is:List Nat}:∀{vs:List AV} {U:En} {i:Nat} {v:AV},i∉is->eI (ah U i v) is vs=(eI U is vs).map fun U'=>ah U' i v:=by
 induction is with
 | nil=>exact @fun vs _ _ _ _=>by cases vs<;>rfl
 | cons j is ih=>
  refine @fun vs U i v h=>?_
  cases vs with
  | nil=>rfl
  | cons u vs=>exact(SI (eI · is vs) (xr fun e:i=j=>h (SW.mpr (.inl e)))).trans (ih fun q=>h (.tail _ q))
theorem oT{is js:List Nat}:∀{vs us:List AV} {U:En},is.length=vs.length->eI U (is++js) (vs++us)=(eI U is vs).bind fun U'=>eI U' js us:=by
 induction is with
 | nil=>exact @fun vs us U h=>UK h.symm▸rfl
 | cons i is ih=>
  refine @fun vs us U h=>?_
  cases vs with
  | nil=>exact nomatch h
  | cons v vs=>exact ih (Nat.succ.inj h)
theorem nc{is:List Nat}:∀{vs:List AV} {U U':En},is.Nodup->eI U is vs=some U'->eI U is.reverse vs.reverse=some U':=by
 induction is with
 | nil=>
  refine @fun vs U U' _ h=>?_
  cases vs with
  | nil=>exact h
  | cons=>exact bZ h
 | cons i is ih=>
  refine @fun vs U U' hn h=>?_
  cases vs with
  | nil=>exact bZ h
  | cons v vs=>
   have hn:=Tq.mp hn;refine aI ((xt hn.1).symm.trans h) fun U1 h1 e=>?_;rw[List.reverse_cons,List.reverse_cons,oT (by rw[List.length_reverse,List.length_reverse];exact iK (is:=is) (vs:=vs) h),ih hn.2 h1,<- e]
   rfl
theorem wD{l it:Addr}{items:Array Value}(hne:l≠it)(n:Nat):∀(i:Nat) {s:Shared} {Q:List Value->Shared->Prop},s.heap.IsListIter it l i->s.heap.IsList l items->i+n<=items.size->
  (∀ h',h'.IsListIter it l (i+n)->Heap.SameBut it s.heap h'->Q ((items.toList.drop i).take n) { s with heap:=h' })->wpAny M0 A (draw (.ref it) n) Q Er s:=by
 induction n with
 | zero=>exact fun i s Q hit _ _ h=>SH (List.take_zero▸h s.heap hit (Heap.SameBut.refl ..))
 | succ n ih=>
  refine @fun i s Q hit hl hi h=>?_;have hlt:i<items.size:=TJ (Nat.lt_add_of_pos_right (Nat.succ_pos n)) hi;have e:i+1+n=i+(n+1):=P0;refine SF (wpAny_pyNext_list_item hit hl (TT hlt) fun h1 hit1 hs1=>?_);refine SF (Td (ih (i+1) (s:={ s with heap:=h1 }) hit1 (hl.extBut hs1.extBut hne) (e▸hi) fun h2 hit2 hs2=>SH ?_));have:=h h2 (e▸hit2) (hs1.trans hs2);rwa [UL (by rw[Um];exact hlt),List.take_succ_cons,Array.getElem_toList] at this
abbrev Kq(A:Around)(p:Pt Y)(m:Sem (List Value))(vs:List AV):Prop:=Ev (Y':=Y) (VL vs) A p m
theorem wh(hh:A.handled=none)(r:V (.tup vs) p w):Kq A p (unpackItems w vs.length none) vs:=r.tupE (P:=fun w=>Kq A p (unpackItems w vs.length none) vs) fun a ws m _ i hx=>⟨fun g=>by
 rw[<- hx.size];exact wpAny_unpackItems_tuple hh ⟨_,i.h,rfl,m,rfl⟩ fun h' hx'=>p.more (fun b o e=>hx' b o (Te (TA e)) e) fun q n _ _=>g q _ n (VL.nx hx n)⟩
theorem wi{k:Nat}(hh:A.handled=none)(r:V (.ref k) p w)(hl:aj Y k=some vs):Kq A p (unpackItems w vs.length none) vs:=r.lstE hl (P:=fun w=>Kq A p (unpackItems w vs.length none) vs) fun a ws m _ _ ho hx=>⟨fun g=>by
 rw[<- hx.size];have hL:p.s.heap.IsList a ws:=cB ho;have hlt:a≠p.s.heap.objs.size:=Te (TA ho);unfold unpackItems;refine SF ?_;unfold notIterableAtAll;refine SF (wpAny_specialOf hL.typeIs slot_list_iter.lookup (SH ?_));rw[SL Tp];refine SF (Td (wpAny_pyIter_list hL ?_));refine SF (Td (wD hlt ws.size 0 ⟨_,Ti _ rfl,rfl,rfl⟩ (hL.push _) (by rw[T7];exact SN _) fun h1 hit1 hs1=>?_))
 rw[show(ws.toList.drop 0).take ws.size=ws.toList from List.take_of_length_le (SN _)];rw[SL (show ¬ws.toList.length<ws.size from Uq _)];rw[T7] at hit1;refine SF (Td (wpAny_pyNext_list_end hh hit1 ((hL.push _).extBut hs1.extBut hlt) (UC (SN _)) fun h2 he2=>?_));exact SH (p.more (fun b o e=>have hb:b≠p.s.heap.objs.size:=Te (TA e);he2 b o hb (hs1.extBut b o hb (S9 _ e))) fun q n _ _=>g q _ n (VL.nx hx n))⟩
theorem kI{is:List Nat}(hh:A.handled=none)(r:V v p w)(h:bV (.many is) v U Y=some U'):∃ vs,eI U is vs=some U'/\Kq A p (unpackItems w is.length none) vs:=ae h fun vs h1 hu=>
 ⟨vs,hu,iK hu▸bu h1 (fun h1=>wh hh (aC h1▸r)) fun h1=>ly r h1 fun k r hl=>wi hh r hl⟩
theorem ng{fs:List (Value->Sem Unit)}{is:List Nat}{Q:Unit->Shared->Prop}(hh:A.handled=none)(hS:GW loc cx A env fs is)(F:FR p.x env cx U)(r:V v p w)(hb:bV (.many is) v U Y=some U')(k:∀ q:Pt Y,Nx (nz loc env) p q->FR q.x env cx U'->Q () q.s) :
  wpAny M0 A (unpackItems w is.length none) (fun ws s'=>wpAny M0 A (assignInOrder fs ws) Q Er s') Er p.s:=
 (kI hh r hb).elim fun vs h=>h.2.go fun q ws n hx=>(gk hS (F.nx n nofun fun _ _ _=>nofun) hx h.1).go fun q2 _ n2 F2=>k q2 (n.weak.trans n2) F2
theorem df{t:Expr}{pt:ax}(hh:A.handled=none)(hloc:tH loc cx t)(ht:bD cx t=some pt)(F:FR p.x env cx U)(e:V v p w)(hb:bV pt v U Y=some U'):DK loc env cx U' A p (assign t env w):=
 jP (P:=fun t pt=>bV pt v U Y=some U'->DK loc env cx U' A p (assign t env w)) hloc ht (fun x ps i ho hi hl hb=>S0 hb▸⟨fun k=>wpAny_assign_Name ((fP hl ho hi F e).go k)⟩)
  (fun es k ps is hn hb=>⟨fun g=>by
   have hE:=dW.each (A:=A) (env:=env) hn;rw[arm_assign_Tuple];refine SF (wpAny_standAt ?_);unfold unpack;rw[hE.1,hE.2.1];exact SF (Td (ng hh hE.2.2 F e hb fun q n F=>g q () n F))⟩) hb
end
structure gX(A:Around)(tup:Bool)(it:Value)(X:List Addr)(items:List AV)(gd:List (Nat×Option (List AV)))(Sta:Nat->Hp->Prop):Prop where
 sub:∀{i:Nat} {x:Hp},Sta i x->∀ a,a∈X->a∈x.κ
 frame:∀{i:Nat} {Y Y':St} {p:Pt Y} {q:Pt Y'} {Z:List Addr},Sta i p.x->Nx Z p q->(∀ a,a∈Z->a∉X)->Sta i q.x
 next:∀{target:Expr} {i:Nat} {Y:St} {p:Pt Y} {v:AV} {E Q:Value->Shared->Prop},(tup=true->∃ es k ps,target=.Tuple es k ps)->items[i]?=some v->ip Y gd=true->Sta i p.x->(∀(q:Pt Y) w,Nx X p q->V v q w->Sta (i+1) q.x->Q w q.s)->
   wpAny M0 A (pyNext it) (fun r s1=>∃ w,r=some w/\wpAny M0 A (letOwnedTupleGo target it w) (fun _ s2=>Q w s2) E s1) E p.s
 done:∀{Y:St} {p:Pt Y} {E:Value->Shared->Prop} {Q:Option Value->Shared->Prop},ip Y gd=true->Sta items.length p.x->(∀ q:Pt Y,Nx X p q->Q none q.s)->wpAny M0 A (pyNext it) Q E p.s
 self:∀{i:Nat} {Y:St} {p:Pt Y} {E Q:Value->Shared->Prop},Sta i p.x->Q it p.s->wpAny M0 A (pyIter it) Q E p.s
def Sw(fl:Fl){Y:St}(p:Pt Y)(f:Flow):Prop:=match fl with
 | none=>f=.next
 | some v=>∃ w,f=.ret w/\V v p w
structure SK(env:Env)(cx:Cx)(fl:Fl)(U:En){Y:St}(p:Pt Y)(f:Flow):Prop where
 F:FR p.x env cx U
 fl:Sw fl p f
abbrev Au(env:Env)(cx:Cx)(A:Around){Y:St}(p:Pt Y)(m:Sem Flow)(fl:Fl)(U:En)(Y':St):Prop:=OF (Y':=Y') (cS env) (SK env cx fl U) A p m
structure SS(c:Cc)(st:Stmt)(x:S):Prop where
 ev:∀{U U':En} {Y Y':St} {p:Pt Y} {fl:Fl} (f:Fm c U p),dS c.C x U Y=some (fl,U',Y')->Au f.env c.cx f.A p (exec st f.env) fl U' Y'
structure Ax(c:Cc)(sts:List Stmt)(xs:List S):Prop where
 ev:∀{U U':En} {Y Y':St} {p:Pt Y} {fl:Fl} (f:Fm c U p),bn c.C xs U Y=some (fl,U',Y')->Au f.env c.cx f.A p (execs sts f.env) fl U' Y'
section
variable{c:Cc}{A:Around}{env:Env}{cx:Cx}{U U':En}{Y Y' Y'':St}{p:Pt Y}{q:Pt Y'}{Er:Value->Shared->Prop}{s:Shared}{v u:AV}{vs:List AV}{w:Value}{fl:Fl}{pos:Pos}
theorem FR.nx0(F:FR p.x env cx U)(n:Nx [] p q):FR q.x env cx U:=F.nx n nofun fun _ _ _=>nofun
theorem FR.go(F:FR p.x env cx U){X:List Addr}(n:Nx X p q)(hx:∀ a,a∈X->a∉cS env):FR q.x env cx U:=F.nx n (fun hm=>hx _ hm (.head _)) fun _ _ hc hm=>hx _ hm (fh hc)
noncomputable def Fm.at_(f:Fm c U p)(F:FR q.x f.env c.cx U'):Fm c U' q:=⟨f.A,f.env,f.R,F⟩
theorem oV{a:Fl}{b:En}{τ:St}{P:Fl->En->St->Prop}(h:some (a,b,τ)=some (fl,U',Y'))(k:P a b τ):P fl U' Y':=by cases h;exact k
theorem BL{α:Type}{x:Option α}{f:α->Fl×En×St}{P:Fl->En->St->Prop}(h:x.map f=some (fl,U',Y'))(k:∀ a,x=some a->P (f a).1 (f a).2.1 (f a).2.2):P fl U' Y':=aI h fun a h e=>by have:=k a h;rw[e] at this;exact this
theorem Et:Ax c [] []:=⟨fun{U U' Y Y' p fl} f h=>oV (P:=Au f.env c.cx f.A p (execs [] f.env)) h ⟨fun g=>wpAny_execs_nil (g p _ (.refl p) ⟨f.F,rfl⟩)⟩⟩
theorem A5{st:Stmt}{x:S}{sts:List Stmt}{xs:List S}(hs:SS c st x)(hss:Ax c sts xs):Ax c (st::sts) (x::xs):=⟨fun{U U' Y Y' p fl} f h=>ED h
 (fun U1 Y1 h1 h=>⟨fun g=>wpAny_execs_cons ((hs.ev f h1).go fun q fw n k=>by
  cases(show fw=.next from k.fl)
  exact(hss.ev (f.at_ k.F) h).go fun q2 fw n2 k2=>g q2 fw (n.trans n2) k2)⟩)
 fun v U1 Y1 e h1=>by
  cases e
  exact⟨fun g=>wpAny_execs_cons ((hs.ev f h1).go fun q fw n k=>k.fl.elim fun w e=>by
   cases e.1
   exact g q _ n k)⟩⟩
structure Ao(e:Expr):Prop where
 sw:∀(t:Option Expr) (l:Nat) (env:Env),swapsWith e t l env=pure false
theorem A4{e:Expr}{x:X}(hp:Ao e)(sx:SX c e x):SS c (.Expr e pos) (.expr x):=⟨fun{U U' Y Y' p fl} f h=>aF h fun v Y1 h1 h=>oV (P:=Au f.env c.cx f.A p (exec (.Expr e pos) f.env)) h
 ⟨fun g=>wpAny_Expr_any ((sx.v f h1).go fun q w n r=>g q _ n.weak ⟨f.F.nx0 n,rfl⟩) (by unfold interactive;rw[f.F.st.kind];rfl) (hp.sw none _ _)⟩⟩
theorem Es{e:Expr}{x:X}(sx:SX c e x):SS c (.Return (some e) pos) (.ret x):=⟨fun{U U' Y Y' p fl} f h=>aF h fun v Y1 h1 h=>oV (P:=Au f.env c.cx f.A p (exec (.Return (some e) pos) f.env)) h
 ⟨fun g=>wpAny_Return_some ((sx.v f h1).go fun q w n r=>g q _ n.weak ⟨f.F.nx0 n,w,rfl,r⟩)⟩⟩
theorem rF:SS c (.Return none pos) .retNone:=⟨fun{U U' Y Y' p fl} f h=>oV (P:=Au f.env c.cx f.A p (exec (.Return none pos) f.env)) h ⟨fun g=>wpAny_Return_none (g p _ (.refl p) ⟨f.F,.none,rfl,rfl⟩)⟩⟩
theorem xW{st:Stmt}:SS c st .raise:=⟨fun f h=>nomatch h⟩
theorem Eu{d:Expr}{x:X}{a b:List Stmt}{xa xb:List S}(st:ST c d x)(sa:Ax c a xa)(sb:Ax c b xb):SS c (.If d a b pos) (.ite x xa xb):=⟨fun{U U' Y Y' p fl} f h=>aF h fun t Y1 h1 h=>match t,h1,h with
 | true,h1,h=>⟨fun g=>wpAny_If ((st.ev f h1).go fun q w n r=>by cases r;exact(sa.ev (f.nx n) h).go fun q2 fw n2 k=>g q2 fw (n.weak.trans n2) k)⟩
 | false,h1,h=>⟨fun g=>wpAny_If ((st.ev f h1).go fun q w n r=>by cases r;exact(sb.ev (f.nx n) h).go fun q2 fw n2 k=>g q2 fw (n.weak.trans n2) k)⟩⟩
structure Sv(c:Cc)(x:X)(xb:List S)(env:Env)(p:Pt Y)(fl:Fl)(U':En)(Y':St)(k:Nat)(s:Shared):Prop where
 ex:∃ U1 Y1,∃ q:Pt Y1,s=q.s/\Nx (cS env) p q/\FR q.x env c.cx U1/\dN (fun U Y=>jN (au c.C x U Y)) (bn c.C xb) k U1 Y1=some (fl,U',Y')
theorem xV{d:Expr}{x:X}{b:List Stmt}{xb:List S}(st:ST c d x)(sb:Ax c b xb):SS c (.While d b [] pos) (.whl x xb):=⟨fun{U U' Y Y' p fl} f h=>⟨fun{E Q} g=>wpAny_While (codeAny_whileLoop (Sv c x xb f.env p fl U' Y') (fun k s' hI=>by
 obtain⟨U1,Y1,q,rfl,n,F,hw⟩:=hI
 cases k with
 | zero=>cases hw
 | succ k=>
  refine aF hw fun t Y2 h1 hw=>((st.ev (f.at_ F) h1).go fun q2 t' n2 r=>?_)
  cases r
  have n12:=n.trans n2.weak
  cases t with
  | false=>exact oV (P:=fun fl U' Y'=>(∀(q:Pt Y') a,Nx (cS f.env) p q->SK f.env c.cx fl U' q a->Q a q.s)->_) hw (fun g=>wpAny_execs_nil (g q2 _ n12 ⟨F.nx0 n2,rfl⟩)) g
  | true=>
   refine ED hw (fun U3 Y3 h2 hw=>((sb.ev (f.at_ (F.nx0 n2)) h2).go fun q3 fw n3 k3=>?_)) fun v U3 Y3 e h2=>?_
   ·cases(show fw=.next from k3.fl)
    exact⟨k,Uf _,U3,Y3,q3,rfl,n12.trans n3,k3.F,hw⟩
   ·cases e
    exact(sb.ev (f.at_ (F.nx0 n2)) h2).go fun q3 fw n3 k3=>k3.fl.elim fun w e=>by
     cases e.1
     exact g q3 _ (n12.trans n3) k3) bB ⟨U,Y,p,rfl,.refl p,f.F,h⟩)⟩⟩
structure FI(c:Cc)(pt:ax)(xb:List S)(env:Env)(X:List Addr)(items:List AV)(gd:List (Nat×Option (List AV)))(Sta:Nat->Hp->Prop)(p:Pt Y)(fl:Fl)(U':En)(Y':St)(k:Nat)(s:Shared):Prop where
 ex:∃ i U1 Y1,∃ q:Pt Y1,s=q.s/\k=items.length-i/\i<=items.length/\Nx (X++cS env) p q/\FR q.x env c.cx U1/\Sta i q.x/\dT gd pt (bn c.C xb) (items.drop i) U1 Y1=some (fl,U',Y')
theorem Nx.left{X YY:List Addr}(n:Nx X p q):Nx (X++YY) p q:=n.more fun a h _=>Tl _ h
theorem Nx.right{X YY:List Addr}(n:Nx YY p q):Nx (X++YY) p q:=n.more fun a h _=>Tx _ h
theorem Op{b:Bool}{x:Fl×En×St}{P:Fl->En->St->Prop}(h:de b x=some (fl,U',Y'))(k:b=true->P x.1 x.2.1 x.2.2):P fl U' Y':=cO h fun g e=>by subst e;exact k g
theorem wx{tup:Bool}{it:Value}{X:List Addr}{items:List AV}{gd:List (Nat×Option (List AV))}{Sta:Nat->Hp->Prop}{t:Expr}{pt:ax}{b:List Stmt}{xb:List S}{R:Result->Shared->Prop}(f:Fm c U p)(Tn:gX f.A tup it X items gd Sta)
  (ht:bD c.cx t=some pt) (htt:tup=true->∃ es k q,t=.Tuple es k q) (sb:Ax c b xb) (st:Sta 0 p.x) (hX:∀ a,a∈X->a∉cS f.env) (hd:dT gd pt (bn c.C xb) items U Y=some (fl,U',Y'))
  (h:∀(q:Pt Y') fw,Nx (X++cS f.env) p q->SK f.env c.cx fl U' q fw->R (.ok fw) q.s):codeAny M0 f.A (.forLoop t it b [] f.env) R p.s:=
 codeAny_forLoop_any (FI c pt xb f.env X items gd Sta p fl U' Y') (fun k s' hI=>by
  obtain⟨i,U1,Y1,q,rfl,rfl,hi,n,F,st,hf⟩:=hI
  rcases Nat.lt_or_eq_of_le hi with hlt | rfl
  ·rw[UL hlt] at hf;refine bj hf (fun hg hf=>ae hf fun U2 hb hf=>?_) fun _ h=>nomatch h
   refine TG (Tn.next (E:=notedBy M0 f.A f.env fun e s'=>R (.error e) s') (Q:=fun w s2=>wpAny M0 f.A (assign t f.env w) (fun _ s2=>wpAny M0 f.A (execs b f.env) (fun fw s₃=>match fw with
      | .next | .cont=>∃ m,m<items.length-i/\FI c pt xb f.env X items gd Sta p fl U' Y' m s₃
      | .brk=>R (.ok .next) s₃
      | .ret v=>R (.ok (.ret v)) s₃) (notedBy M0 f.A f.env fun e s'=>R (.error e) s') s2) (notedBy M0 f.A f.env fun e s'=>R (.error e) s') s2) htt (TC hlt) hg st fun q2 w n2 r2 st2=>?_) (fun rv s1 hr=>by obtain⟨w,rfl,hw⟩:=hr;exact hw) fun _ _ z=>z
   refine(df (loc:=false) f.R.handled nofun ht (F.go n2 hX) r2 hb).go fun q3 _ n3 F3=>?_
   have st3:=Tn.frame st2 n3 fun a ha hm=>hX a hm ha;have n13:Nx (X++cS f.env) p q3:=n.trans (n2.left.trans n3.right);refine ED hf (fun U4 Y4 h4 hf=>(sb.ev (f.at_ F3) h4).go fun q5 fw n5 k5=>?_) fun v U4 Y4 e h4=>?_
   ·cases(show fw=.next from k5.fl)
    exact⟨items.length-(i+1),Nat.sub_succ_lt_self _ _ hlt,i+1,U4,Y4,q5,rfl,rfl,hlt,n13.trans n5.right,k5.F,Tn.frame st3 n5 fun a ha hm=>hX a hm ha,hf⟩
   ·cases e
    exact(sb.ev (f.at_ F3) h4).go fun q5 fw n5 k5=>k5.fl.elim fun w e=>by
     cases e.1
     exact h q5 _ (n13.trans n5.right) k5
  ·rw[List.drop_length] at hf;exact Op (P:=fun fl U' Y'=>(∀(q:Pt Y') fw,Nx (X++cS f.env) p q->SK f.env c.cx fl U' q fw->R (.ok fw) q.s)->_) hf (fun hg h=>Tn.done hg st fun q2 n2=>wpAny_execs_nil (h q2 _ (n.trans n2.left) ⟨F.go n2 hX,rfl⟩)) h) (items.length-0) ⟨0,U,Y,p,rfl,rfl,Tb _,.refl p,f.F,st,hd⟩
end
section
variable{A:Around}{Y Y':St}{p:Pt Y}{q:Pt Y'}{E:Value->Shared->Prop}{s:Shared}{X Z:List Addr}
theorem Nx.keep(n:Nx Z p q){a:Addr}(h:a∈p.κ)(h':a∉Z):a∈q.κ/\q.s.heap.get? a=p.s.heap.get? a:=(n.prv a h).elim (fun g=>SP g h') id
theorem Pt.own_not(p:Pt Y){a:Addr}(h:a∈p.κ):a∉c9 p.ι:=fun g=>(Ts.mp p.r.nodup).2.2 a g a h rfl
noncomputable def km(p:Pt Y)(h':Heap):List Addr:=p.κ.filter fun b=>(h'.get? b).isSome
theorem B1{p:Pt Y}{h':Heap}{b:Addr}(h:b∈km p h'):b∈p.κ:=(TS.mp h).1
theorem uA{p:Pt Y}{h':Heap}{b:Addr}{o:Obj}(h:b∈p.κ)(e:h'.get? b=some o):b∈km p h':=TS.mpr ⟨h,Option.isSome_iff_exists.mpr ⟨o,e⟩⟩
theorem Pt.own_idx(p:Pt Y){b:Addr}(h:b∈c9 p.ι){P:Prop}(k:∀(i:Nat) pr o,p.ι[i]?=some pr->Y[i]?=some o->pr.2=b->P):P:=
 (Ta.mp h).elim fun pr h=>(Uc.mp h.1).elim fun i hi=>k i pr _ hi (TC (p.r.len▸(SR.mp hi).1)) h.2
theorem Pt.turnG(p:Pt Y)(Z:List Addr){h':Heap}{t:Nat}{d:Drawn}{Q:Shared->Prop}(hZ:∀ a,a∈Z->a∈p.κ)(hk:∀ a o,a∉Z->a∉c9 p.ι->p.s.heap.get? a=some o->h'.get? a=some o)
  (ho:Wk p.x ⟨p.ι,km p h',h'⟩->∀(i:Nat) pr o,p.ι[i]?=some pr->Y[i]?=some o->eg ⟨p.ι,km p h',h'⟩ pr o)
  (k:∀ q:Pt Y,Nx Z p q->q.s.heap=h'->(∀ a o,a∈Z->h'.get? a=some o->a∈q.κ)->(∀ a o,p.s.heap.get? a=none->h'.get? a=some o->fH q.x a o)->Q q.s):Q ⟨h',p.s.gens,d,t,p.s.os⟩:=
 have sub:∀{b:Addr},b∈(Hp.mk p.ι (km p h') h').F->b∈p.x.F:=fun h=>(Tg.mp h).elim (Tl _) fun h=>Tx _ (B1 h);have wk:Wk p.x ⟨p.ι,km p h',h'⟩:=⟨id,fun i=>⟨hk _ _ (fun hm=>i.out (Hp.mem_κ (x:=p.x) (hZ _ hm))) (fun hm=>i.out (Tl _ hm)) i.h,fun h=>i.out (sub h)⟩⟩
 k ⟨p.ι,km p h',⟨h',p.s.gens,d,t,p.s.os⟩,p.r.pf,p.r.len,p.r.nodup.sublist (List.Sublist.append_left UA _),fun b hb=>⟨(p.r.alive b (sub hb)).1,(Tg.mp hb).elim (fun h=>p.own_idx h fun i pr o h1 h2 e=>e▸(ho wk i pr o h1 h2).alive)
    fun h=>Option.isSome_iff_exists.mp (TS.mp h).2⟩,fun a o e=>(wk.imm (p.r.base e)).h,ho wk⟩
  ⟨wk,fun b hb=>(Tu (b∈Z)).imp id fun g=>(p.r.alive b (Hp.mem_κ (x:=p.x) hb)).2.elim fun o e=>have e':=hk b o g (p.own_not hb) e;⟨uA hb e',e'.trans e.symm⟩,rfl,rfl⟩ rfl
  (fun a o ha e=>uA (hZ a ha) e) fun a o h1 h2=>⟨h2,fun hm=>p.r.none_not h1 (sub hm)⟩
theorem Pt.turn(p:Pt Y)(Z:List Addr){h':Heap}{t:Nat}{d:Drawn}{Q:Shared->Prop}(hZ:∀ a,a∈Z->a∈p.κ)(hk:∀ a o,a∉Z->p.s.heap.get? a=some o->h'.get? a=some o)
  (k:∀ q:Pt Y,Nx Z p q->q.s.heap=h'->(∀ a o,a∈Z->h'.get? a=some o->a∈q.κ)->(∀ a o,p.s.heap.get? a=none->h'.get? a=some o->fH q.x a o)->Q q.s):Q ⟨h',p.s.gens,d,t,p.s.os⟩:=
 p.turnG Z hZ (fun a o g _=>hk a o g) (fun wk i pr o h1 h2=>(p.r.objs i pr o h1 h2).wk wk ((p.r.objs i pr o h1 h2).alive.elim fun o' e=>(hk _ _ (fun hz=>p.own_not (hZ _ hz) (Ut (Tm h1))) e).trans e.symm)) k
theorem Pt.turnHid(p:Pt Y)(Z:List Addr){h':Heap}{t:Nat}{d:Drawn}{Q:Shared->Prop}{n:Nat}{a:Addr}(hZ:∀ a,a∈Z->a∈p.κ)(h1:p.ι[n]?=some (a,a))(h2:Y[n]?=some .hid)(hp:∃ u v,h'.get? a=some (bW #[u,v] 0))(hk:∀ b o,b∉a::Z->p.s.heap.get? b=some o->h'.get? b=some o)
  (k:∀ q:Pt Y,Nx Z p q->q.s.heap=h'->(∀ a o,a∈Z->h'.get? a=some o->a∈q.κ)->(∀ a o,p.s.heap.get? a=none->h'.get? a=some o->fH q.x a o)->Q q.s):Q ⟨h',p.s.gens,d,t,p.s.os⟩:=
 have hm:a∈c9 p.ι:=Ut (f:=(·.2)) (Tm h1)
 p.turnG Z hZ (fun b o g gf=>hk b o fun hb=>(SW.mp hb).elim (fun e=>gf (e▸hm)) g) (fun wk i pr o e1 e2=>(Tu (pr.2=a)).elim (fun e=>by
   obtain rfl:=p.r.idx e1 h1 e
   cases h1.symm.trans e1
   cases h2.symm.trans e2
   exact⟨rfl,hp⟩) fun e=>(p.r.objs i pr o e1 e2).wk wk ((p.r.objs i pr o e1 e2).alive.elim fun o' g=>(hk _ _ (fun hz=>(SW.mp hz).elim e fun hz=>p.own_not (hZ _ hz) (Ut (Tm e1))) g).trans g.symm)) k
noncomputable def Df:List String:=["enumerate","zip","dict_itemiterator","dict_reverseitemiterator","odict_iterator","itertools.zip_longest","itertools.pairwise"]
theorem fS{target:Expr}{I:Addr}{w:Value}{o:Obj}{T:String}{Q:Unit->Shared->Prop}(ho:s.heap.get? I=some o)(hc:o.cls=.type T)(hT:Df.contains T=false)(hq:Q () s):wpAny M0 A (letOwnedTupleGo target (.ref I) w) Q E s:=by
 have go:∀ a:Addr,wpAny M0 A (do
   let o <- load I
   match o.cls,o.data with
   | .type n,.fields vs=>
    if["enumerate","zip","dict_itemiterator","dict_reverseitemiterator","odict_iterator","itertools.zip_longest","itertools.pairwise"].contains n&&vs[0]?==some (rawInt a) then do
     rule "for.unpacks-the-owned-tuple"
     updateField I 0 .none
    else pure ()
   | _,_=>pure ()) Q E s:=fun a=>by
  refine SF (wpAny_load ho ?_);rw[hc]
  split
  ·rename_i q _
   cases q
   rw[show(["enumerate","zip","dict_itemiterator","dict_reverseitemiterator","odict_iterator","itertools.zip_longest","itertools.pairwise"]:List String).contains T=false from hT];exact SH hq
  ·exact SH hq
 clear ho hc hT
 cases target<;>first | exact SH hq | skip
 ·cases w<;>first | exact SH hq | exact go _
 ·cases w<;>first | exact SH hq | exact go _
structure DD(I l:Addr)(ws:Array Value)(m:Nat)(vs:List AV)(i:Nat)(x:Hp):Prop where
 own:I∈x.κ
 it:x.h.IsTupleIter I l i
 imm:fH x l (bW ws m)
 vs:ai (aq x) vs ws.toList
theorem dI{I:Addr}{κ:List Addr}(h:I∈κ):∀ a,a∈[I]->a∈κ:=fun a ha=>SY.mp ha▸h
theorem qB{vs:List AV}{ws:Array Value}(r:VL vs p ws.toList):ws[vs.length]?=none:=UC (SM r.length.symm)
theorem ma(hh:A.handled=none){I l:Addr}{ws:Array Value}{m:Nat}{vs:List AV}:gX A false (.ref I) [I] vs [] (DD I l ws m vs) where
 sub st:=dI st.own
 frame st n hZ:=
  have k:=n.keep st.own fun hm=>hZ I hm (.head _)
  ⟨k.1,st.it.imp fun o h=>⟨k.2.trans h.1,h.2⟩,n.wk.imm st.imm,VL.nx st.vs n⟩
 next {target i Y p v E Q} _ hv _ st hQ:=st.vs.get hv fun w hw hr=>wpAny_pyNext_tuple_item st.it ⟨_,st.imm.h,rfl,m,rfl⟩ (Tz▸hw) fun h1 hit1 hs1=>hit1.elim fun o1 ho1=>
  ⟨w,rfl,p.put st.own hs1 ho1.1 fun q n hq ho=>fS ho ho1.2.1 (by decide) (hQ q w n (V.nx hr n) ⟨hq,⟨o1,ho,ho1.2⟩,n.wk.imm st.imm,VL.nx st.vs n⟩)⟩
 done {Y p E Q} _ st hQ:=wpAny_pyNext_tuple_end hh st.it ⟨_,st.imm.h,rfl,m,rfl⟩ (qB (p:=p) st.vs) fun h1 hx=>p.turn [I] (dI st.own) (fun a o ha=>hx a o fun q=>ha (q▸.head _)) fun q n _ _ _=>hQ q n
 self st hQ:=wpAny_pyIter_tupleiter st.it hQ
theorem Bz{r:Nat}{vs:List AV}(h:ip Y [(r,some vs)]=true):aj Y r=some vs:=SO (SU.mp h).1
structure DI(I a:Addr)(r:Nat)(i:Nat)(x:Hp):Prop where
 own:I∈x.κ
 it:x.h.IsListIter I a i
 src:x.ι[r]?=some (a,a)
theorem Pt.lstA(p:Pt Y){a:Addr}{r:Nat}{vs:List AV}(hg:ip Y [(r,some vs)]=true)(hs:p.ι[r]?=some (a,a)){P:Prop}(k:∀ ws n,p.s.heap.get? a=some (gy ws n)->VL vs p ws.toList->P):P:=
 p.lst (Bz hg) fun a' ws n hp' _ hl hv=>by cases hs.symm.trans hp';exact k ws n hl hv
theorem jM(hh:A.handled=none){I a:Addr}{r:Nat}{vs:List AV}:gX A false (.ref I) [I] vs [(r,some vs)] (DI I a r) where
 sub st:=dI st.own
 frame st n hZ:=
  have k:=n.keep st.own fun hm=>hZ I hm (.head _)
  ⟨k.1,st.it.imp fun o h=>⟨k.2.trans h.1,h.2⟩,n.wk.get st.src⟩
 next {target i Y p v E Q} _ hv hg st hQ:=p.lstA hg st.src fun ws m hl hx=>hx.get hv fun w hw hr=>wpAny_pyNext_list_item st.it (cB hl) (Tz▸hw) fun h1 hit1 hs1=>hit1.elim fun o1 ho1=>
  ⟨w,rfl,p.put st.own hs1 ho1.1 fun q n hq ho=>fS ho ho1.2.1 (by decide) (hQ q w n (V.nx hr n) ⟨hq,⟨o1,ho,ho1.2⟩,n.wk.get st.src⟩)⟩
 done {Y p E Q} hg st hQ:=p.lstA hg st.src fun ws m hl hx=>wpAny_pyNext_list_end hh st.it (cB hl) (qB hx) fun h1 hx=>p.turn [I] (dI st.own) (fun a o ha=>hx a o fun q=>ha (q▸.head _)) fun q n _ _ _=>hQ q n
 self st hQ:=wpAny_pyIter_listiter st.it hQ
structure GX(I:Addr)(St:Nat->Heap->Prop)(i:Nat)(x:Hp):Prop where
 own:I∈x.κ
 st:St i x.h
theorem jL{I:Addr}{vs:List AV}{P:Nat->Value->Prop}{St:Nat->Heap->Prop}{T:String}(Wk:Walks PySem.Challenge.rw_rh0018_01.row.prog w0 A I [I] [I] vs.length P St)(hT:Df.contains T=false)(hobj:∀ i h,St i h->∃ o,h.get? I=some o/\o.cls=.type T)
  (hP:∀ i v w,vs[i]?=some v->P i w->∀ x,aq x v w):gX A false (.ref I) [I] vs [] (GX I St) where
 sub st:=dI st.own
 frame st n hZ:=
  have k:=n.keep st.own fun hm=>hZ I hm (.head _)
  ⟨k.1,Wk.frame _ _ _ st.st fun b hb o' e=>by rw[SY.mp hb] at e ⊢;exact k.2.trans e⟩
 next {target i Y p v E Q} _ hv _ st hQ:=Wk.item i p.s _ _ (SR.mp hv).1 st.st fun w h' tk hw st' hk=>(hobj _ _ st').elim fun o1 ho1=>
  ⟨w,rfl,p.turn [I] (dI st.own) (fun a o ha e=>hk a o ha e) fun q n e hq _=>fS (e▸ho1.1) ho1.2 hT (hQ q w n (hP i v w hv hw q.x) ⟨hq I o1 (.head _) ho1.1,(show St (i+1) q.s.heap from e.symm▸st')⟩)⟩
 done {Y p E Q} _ st hQ:=Wk.done p.s _ _ st.st fun h' tk hk=>p.turn [I] (dI st.own) (fun a o ha e=>hk a o ha e) fun q n _ _ _=>hQ q n
 self st hQ:=Wk.self _ _ _ _ st.st hQ
end
section
variable{A:Around}{E:Value->Shared->Prop}{s:Shared}{it l:Addr}{i:Nat}{items:Array Value}
theorem gu{Q:Value->Shared->Prop}(hit:s.heap.IsTupleIter it l i)(hl:s.heap.IsTuple l items)(h1:∀ x h',items[i]?=some x->h'.IsTupleIter it l (i+1)->Heap.SameBut it s.heap h'->Q x { s with heap:=h' })
  (h2:items[i]?=none->A.handled=none/\∀ h' e,Heap.ExtBut it s.heap h'->(∃ o,h'.get? e=some o/\o.cls=.type "StopIteration")->E (.ref e) { s with heap:=h' }):wpAny M0 A (Builtin.SmallTypes.nextOf (.ref it)) Q E s:=by
 obtain⟨o,ho,hc,hd⟩:=id hit;obtain⟨ol,hol,_,nl,hdl⟩:=hl;unfold Builtin.SmallTypes.nextOf;refine SF (wpAny_callSpecial?_slot (name:=Str.ofString "__next__") hit.typeIs PySem.F.slot_tuple_iterator_next
  (TK PySem.F.slot_tuple_iterator_next hit.typeIs PySem.F.entry_tuple_iterator_next ?_ (PySem.F.args_tuple_iterator_next_1 _)))
 refine SF (m:=field (.ref it) 0) (wpAny_field ho hd (x:=.ref l) rfl ?_);show wpAny _ _ (if(Value.ref l==Value.none)=true then _ else _) _ _ s
 rw[SL (show ¬((Value.ref l==Value.none)=true) from Tp)];refine SF (m:=field (.ref it) 1) (wpAny_field ho hd (x:=.int i 0) rfl ?_);refine SF (m:=seqItems? (.ref l)) (Uk hol hdl ?_)
 cases hx:items[i]? with
 | some x=>
  simp only[Int.toNat_natCast,hx];refine SF (T1 ho hd (Uf _) (SH ⟨x,rfl,SH (h1 x _ hx ?_ (Tv ..))⟩));exact⟨_,TF _ ho (Obj.isFreed_of_fields (Obj.data_mapFields hd _)),(Obj.cls_mapFields ..).trans hc,Obj.data_mapFields hd _⟩
 | none=>
  simp only[Int.toNat_natCast,hx];obtain⟨hh,hE⟩:=h2 hx;clear h1 h2;refine SF (TM (SF (T1 ho hd (Nat.zero_lt_succ _) ?_)));refine SF (m:=newExc (.type "StopIteration") []) ?_;unfold newExc newTuple;refine SF (TZ ?_ (by size_fits))
  refine SF (m:=firstArgMember _ _) (wpAny_of_eq (a:=Value.none) rfl ?_);refine TZ ?_ (by size_fits)
  unfold raiseNew;refine SF (wpAny_handled ?_);rw[show A.in1.handled=none from hh];refine SF (SH (wpAny_throw ?_));exact hE _ _ (((Tv ..).extBut.push _).push _) ⟨_,Ti _ rfl,rfl⟩
theorem qD(hh:A.handled=none)(it l:Addr)(hne:l≠it)(items:Array Value) :
  Draws PySem.Challenge.rw_rh0018_01.row.prog w0 A it [it,l] items.size (fun i v=>items[i]?=some v) (fun i h=>h.IsTupleIter it l i/\h.IsTuple l items) where
 live:=fun _ _ st=>st.1.elim fun o h=>⟨o,h.1⟩
 frame:=fun _ _ _ st hk=>⟨st.1.imp fun o h=>⟨hk it (.head _) o h.1,h.2⟩,st.2.imp fun o h=>⟨hk l (.tail _ (.head _)) o h.1,h.2⟩⟩
 item:=fun i s Q E hi st hQ=>gu st.1 st.2 (fun x h' hx hit' hs'=>hQ _ h' s.toks hx ⟨hit',st.2.extBut hs'.extBut hne⟩ hs') fun hx=>nomatch(TT hi).symm.trans hx
 done:=fun s Q E st hE=>gu st.1 st.2 (fun x h' hx=>nomatch(UC (SN _)).symm.trans hx) fun _=>⟨hh,hE⟩
end
section
variable{A:Around}{Y:St}{p:Pt Y}{E:Value->Shared->Prop}{I J:Addr}{vs:List AV}{gd:List (Nat×Option (List AV))}
theorem yB{i:Nat}{v:AV}(h:(lF vs)[i]?=some v):∃ u,vs[i]?=some u/\v=.tup [.int (i:Nat),u]:=by
 rw[lF,TD,List.getElem?_zipIdx,Option.map_map] at h;exact aI h fun u hu e=>⟨u,hu,by rw[<- e];show AV.tup [.int ((0+i:Nat):Int),u]=_;rw[T7]⟩
theorem pZ:(lF vs).length=vs.length:=by rw[lF,S7,List.length_zipIdx]
structure Av(A:Around)(J:Addr)(vs:List AV)(gd:List (Nat×Option (List AV)))(S:Nat->Hp->Prop):Prop where
 own:∀{i:Nat} {x:Hp},S i x->J∈x.κ
 frame:∀{i:Nat} {Y Y':St} {p:Pt Y} {q:Pt Y'} {Z:List Addr},S i p.x->Nx Z p q->(∀ a,a∈Z->a∉[J])->S i q.x
 get:∀{i:Nat} {Y:St} {p:Pt Y},ip Y gd=true->S i p.x->∃ l P St,(∃ o,p.s.heap.get? l=some o/\∃ us n,o.data=.seq us n)/\Draws PySem.Challenge.rw_rh0018_01.row.prog w0 A.in1 J [J,l] vs.length P St/\St i p.s.heap/\(∀ j v w,vs[j]?=some v->P j w->V v p w)/\
  ∀{Z:List Addr} (q:Pt Y),Nx Z p q->J∈q.κ->∀ j,St j q.s.heap->S j q.x
structure Ks(S:Nat->Hp->Prop)(I J:Addr)(i:Nat)(x:Hp):Prop where
 own:I∈x.κ
 ne:I≠J
 en:∃ old,IsEnum x.h I J i old
 src:S i x
theorem ni{κ:List Addr}(h:I∈κ)(h':J∈κ):∀ a,a∈[I,J]->a∈κ:=fun a ha=>(SW.mp ha).elim (fun e=>e▸h) fun ha=>SY.mp ha▸h'
theorem jw{a b c:Addr}(h:c∉[a,b]):c≠a/\c≠b:=⟨fun e=>h (e▸.head _),fun e=>h (e▸.tail _ (.head _))⟩
theorem V.pair{a b:AV}{q:Pt Y}{t:Addr}{u w:Value}(hi:fH q.x t (bW #[u,w] 0))(h1:V a q u)(h2:V b q w):V (.tup [a,b]) q (.ref t):=⟨show 2<=ay by decide,t,_,0,rfl,hi,u,_,rfl,h1,w,_,rfl,h2,rfl⟩
theorem mc{S:Nat->Hp->Prop}(D:Av A J vs gd S):gX A true (.ref I) [I,J] (lF vs) gd (Ks S I J) where
 sub st:=ni st.own (D.own st.src)
 frame st n hZ:=
  have k:=n.keep st.own fun hm=>hZ I hm (.head _)
  ⟨k.1,st.ne,st.en.imp fun _ h=>(show _ from k.2.trans h),D.frame st.src n fun a ha hm=>hZ a ha (.tail _ hm)⟩
 next {target i Y p v E Q} ht hv hg st hQ:=(yB hv).elim fun u hu=>(D.get hg st.src).elim fun l h=>h.elim fun P h=>h.elim fun St h=>st.en.elim fun old he=>(ht rfl).elim fun es h'=>h'.elim fun k h'=>h'.elim fun ps et=>by
  obtain⟨ol,hol,us,n,hd⟩:=h.1;have hlI:I≠l:=fun q=>by subst q;cases hol.symm.trans he;cases hd
  rw[et];refine wpAny_pyNext_enum_itemD h.2.1 he h.2.2.1 (SR.mp hu.1).1 st.ne (fun hm=>(SW.mp hm).elim st.ne fun hm=>hlI (SY.mp hm)) fun x h1 tk hP ho1 hst1 hT hsz hk=>⟨_,rfl,?_⟩;refine wpAny_letOwnedTupleGo_enum (s:={ p.s with heap:=h1,toks:=tk+1 }) ho1 fun h2 he2 hs2=>?_;refine p.turn (h':=h2) [I,J] (ni st.own (D.own st.src)) (fun a o ha e=>(hs2.2 a (jw ha).1).trans (hk a o (jw ha).1 (jw ha).2 e)) fun q n e hq hi=>?_;have st2:St (i+1) h2:=h.2.1.frame _ _ _ hst1 fun b hb o eb=>(hs2.2 b fun q=>(SW.mp hb).elim (fun e=>st.ne (q.symm.trans e)) fun hb=>hlI (q.symm.trans (SY.mp hb))).trans eb;refine hQ q _ n ?_ ⟨hq I _ (.head _) he2,st.ne,⟨_,(show q.s.heap.get? I=_ from e.symm▸he2)⟩,h.2.2.2.2 q n ((h.2.1.live _ _ st2).elim fun o ho=>hq J o (.tail _ (.head _)) ho) _ (e.symm▸st2)⟩;rw[hu.2];exact V.pair (hi _ _ (TV (SN _)) ((hs2.2 _ (T8 (TA he))).trans hT)) ⟨_,rfl⟩ (V.nx (h.2.2.2.1 i u x hu.1 hP) n)
 done {Y p E Q} hg st hQ:=(D.get hg st.src).elim fun l h=>h.elim fun P h=>h.elim fun St h=>st.en.elim fun old he=>wpAny_pyNext_enum_endD h.2.1 he (pZ (vs:=vs)▸h.2.2.1) fun h1 hx=>
  p.turn [I,J] (ni st.own (D.own st.src)) (fun a o ha=>hx a o (jw ha).2) fun q n _ _ _=>hQ q n
 self st hQ:=st.en.elim fun _ he=>wpAny_pyIter_enum he hQ
theorem sZ(hh:A.handled=none){a:Addr}{r:Nat}:Av A J vs [(r,some vs)] (DI J a r) where
 own st:=st.own
 frame st n hZ:=(jM (vs:=vs) hh).frame st n hZ
 get {i Y p} hg st:=p.lstA hg st.src fun ws m hl hx=>⟨a,fun j v=>ws[j]?=some v,fun j h=>h.IsListIter J a j/\h.IsList a ws,⟨_,hl,_,_,rfl⟩,(show vs.length=ws.size from hx.length)▸Draws.list (A:=A.in1) hh J a (fun q=>by subst q;exact st.it.elim fun o h=>nomatch h.2.2.symm.trans (SI Obj.data (S0 (h.1.symm.trans hl)))) ws,
  ⟨st.it,cB hl⟩,fun j v w hv hw=>hx.get hv fun w' hw' hr=>(S0 (hw'.symm.trans (Tz.trans hw)):w'=w)▸hr,fun q n hq j hs=>⟨hq,hs.1,n.wk.get st.src⟩⟩
theorem wB(hh:A.handled=none){l:Addr}{ws:Array Value}{m:Nat}:Av A J vs [] (DD J l ws m vs) where
 own st:=st.own
 frame st n hZ:=(ma (vs:=vs) hh).frame st n hZ
 get {i Y p} hg st:=⟨l,fun j v=>ws[j]?=some v,fun j h=>h.IsTupleIter J l j/\h.IsTuple l ws,⟨_,st.imm.h,_,_,rfl⟩,(show vs.length=ws.size from st.vs.length)▸qD (A:=A.in1) hh J l (fun q=>by subst q;exact st.it.elim fun o h=>nomatch h.2.2.symm.trans (SI Obj.data (S0 (h.1.symm.trans st.imm.h)))) ws,
  ⟨st.it,_,st.imm.h,rfl,m,rfl⟩,fun j v w hv hw=>st.vs.get hv fun w' hw' hr=>(S0 (hw'.symm.trans (Tz.trans hw)):w'=w)▸hr,fun q n hq j hs=>⟨hq,hs.1,n.wk.imm st.imm,VL.nx st.vs n⟩⟩
end
section
variable{A:Around}{E:Value->Shared->Prop}{s:Shared}{z TI TO i1 i2 l1 l2:Addr}{k:Nat}{xs ys:Array Value}{h h':Heap}{a b c:Addr}
theorem Aw(x:h.IsTupleIter a b k)(hs:Heap.SameBut c h h')(hne:a≠c):h'.IsTupleIter a b k:=x.imp fun _ x=>⟨(hs.2 _ hne).trans x.1,x.2⟩
theorem Kv(x:h.IsTuple a xs)(hs:Heap.SameBut c h h')(hne:a≠c):h'.IsTuple a xs:=x.imp fun _ x=>⟨(hs.2 _ hne).trans x.1,x.2⟩
def ZK(z TO i1 i2:Addr)(h h':Heap):Prop:=∀ c o,c≠z->c≠TO->c≠i1->c≠i2->h.get? c=some o->h'.get? c=some o
def DM(A:Around)(s:Shared)(E:Value->Shared->Prop)(z TI TO i1 i2 l1 l2:Addr)(k:Nat)(xs ys:Array Value)(a b:Value)(Q:PySem.Fin->Shared->Prop):Prop:=∀(D:ZipApart z TI TO i1 i2 l1 l2) (hz:IsZip s.heap z TI TO .none) (hTI:IsPair s.heap TI (.ref i1) (.ref i2)) (hTO:IsPair s.heap TO a b) (h1:s.heap.IsTupleIter i1 l1 k) (h2:s.heap.IsTupleIter i2 l2 k) (hl1:s.heap.IsTuple l1 xs) (hl2:s.heap.IsTuple l2 ys) (hQ:∀ x y T h',xs[k]?=some x->ys[k]?=some y->s.heap.get? T=none->IsZip h' z TI TO (rawInt T)->IsPair h' TO x y->h'.IsTupleIter i1 l1 (k+1)->h'.IsTupleIter i2 l2 (k+1)->IsPair h' T x y->
   ZK z TO i1 i2 s.heap h'->Q (.done (.ret (.ref T))) { s with heap:=h' }) (hE:xs[k]?=none\/ys[k]?=none->A.handled=none/\∀ h' e,(∃ a b,IsPair h' TO a b)->ZK z TO i1 i2 s.heap h'->(∃ o,h'.get? e=some o/\o.cls=.type "StopIteration")->E (.ref e) { s with heap:=h' }),wpAny M0 A (Builtin.«zip.__next__» ⟨[.ref z],[]⟩) Q E s
def Hs(a:Around×Shared×(Value->Shared->Prop)×Addr×Addr×Addr×Addr×Addr×Addr×Addr×Nat×Array Value×Array Value×Value×Value×(PySem.Fin->Shared->Prop)):Prop:=DM a.1 a.2.1 a.2.2.1 a.2.2.2.1 a.2.2.2.2.1 a.2.2.2.2.2.1 a.2.2.2.2.2.2.1 a.2.2.2.2.2.2.2.1 a.2.2.2.2.2.2.2.2.1 a.2.2.2.2.2.2.2.2.2.1 a.2.2.2.2.2.2.2.2.2.2.1 a.2.2.2.2.2.2.2.2.2.2.2.1 a.2.2.2.2.2.2.2.2.2.2.2.2.1 a.2.2.2.2.2.2.2.2.2.2.2.2.2.1 a.2.2.2.2.2.2.2.2.2.2.2.2.2.2.1 a.2.2.2.2.2.2.2.2.2.2.2.2.2.2.2
noncomputable def fu:=lN ({},{},default) Hs
noncomputable def OI:=fu.1
noncomputable def G9:=fu.2.1
noncomputable def KS:=fu.2.2.1
noncomputable def uU:=fu.2.2.2.1
noncomputable def w6:=fu.2.2.2.2.1
noncomputable def ld:=fu.2.2.2.2.2.1
noncomputable def wZ:=fu.2.2.2.2.2.2.1
noncomputable def wY:=fu.2.2.2.2.2.2.2.1
noncomputable def KQ:=fu.2.2.2.2.2.2.2.2.1
noncomputable def KO:=fu.2.2.2.2.2.2.2.2.2.1
noncomputable def KR:=fu.2.2.2.2.2.2.2.2.2.2.1
noncomputable def Hr:=fu.2.2.2.2.2.2.2.2.2.2.2.1
noncomputable def Hq:=fu.2.2.2.2.2.2.2.2.2.2.2.2.1
noncomputable def OH:=fu.2.2.2.2.2.2.2.2.2.2.2.2.2.1
noncomputable def OG:=fu.2.2.2.2.2.2.2.2.2.2.2.2.2.2.1
noncomputable def PX:=fu.2.2.2.2.2.2.2.2.2.2.2.2.2.2.2
theorem KT:DM OI G9 KS uU w6 ld wZ wY KQ KO KR Hr Hq OH OG PX:=fun D hz hTI hTO h1 h2 hl1 hl2 hQ hE=>by
 have ed:∀{g:Heap} {e:Addr} {u v:Value},(Hr[KR]?=none\/Hq[KR]?=none)->IsPair g ld u v->IsZip g uU w6 ld .ellipsis->ZK uU ld wZ wY G9.heap g->(∃ o,g.get? e=some o/\o.cls=.type "StopIteration")->wpAny M0 OI (setField (.ref uU) 0 .none) (fun _ s'=>KS (.ref e) s') KS { G9 with heap:=g }:=
  fun hx hp hz hk he=>wpAny_setField_rec hz (Nat.succ_pos _) fun g3 _ hs3=>(hE hx).2 g3 _ ⟨_,_,(hs3.2 _ D.TOz).trans hp⟩ (fun c o c1 c2 c3 c4 q=>(hs3.2 _ c1).trans (hk c o c1 c2 c3 c4 q))
   (he.imp fun o h=>⟨(hs3.2 _ fun q=>nomatch(show(Value.type "zip":Value)=.type "StopIteration" from by subst q;cases h.1.symm.trans hz;exact h.2)).trans h.1,h.2⟩)
 refine SF (m:=field (.ref uU) 2) (wpAny_field hz rfl (x:=.bool false) rfl ?_);refine SF (m:=field (.ref uU) 3) (wpAny_field hz rfl (x:=.ref w6) rfl (SF (Uk hTI rfl ?_)));refine SF (m:=Builtin.SmallTypes.ownedTupleIsFree (.ref uU)) (SF (wpAny_field hz rfl (x:=.none) rfl (SH ?_)));refine SF (m:=rule _) (TM (SF (wpAny_field hz rfl (x:=.ref ld) rfl (SF (wpAny_setField_rec hz (Nat.succ_pos _) fun g1 hz1 hs1=>SF ?_)))));show wpAny _ _ ((Sem.onRaise (Builtin.SmallTypes.nextOf (.ref wZ) >>= _) _ >>= _) >>= _) _ _ _;have hTO1:IsPair g1 ld OH OG:=(hs1.2 _ D.TOz).trans hTO;have hk1:ZK uU ld wZ wY G9.heap g1:=fun c o c1 c2 c3 c4 e=>(hs1.2 _ c1).trans e;refine SF (SF (wpAny_onRaise (SF (gu (Aw h1 hs1 D.i1z) (Kv hl1 hs1 D.l1z) (fun x g2 hx h1b hs2=>SH ?_) fun hx=>⟨(hE (.inl hx)).1,fun g2 e hs2 he=>
  ed (.inl hx) (hs2 _ _ D.TOi1 hTO1) (hs2 _ _ D.i1z.symm hz1) (fun c o c1 c2 c3 c4 q=>hs2 _ _ c3 (hk1 c o c1 c2 c3 c4 q)) he⟩))))
 have hTO2:=(hs2.2 _ D.TOi1).trans hTO1;refine SF (Uk hTO2 rfl (SF (wpAny_updateSeq_pair hTO2 fun g3 hTO3 hs3=>SF (wpAny_letGo (SH ?_)))));show wpAny _ _ ((Sem.onRaise (Builtin.SmallTypes.nextOf (.ref wY) >>= _) _ >>= _) >>= _) _ _ _;have hz3:IsZip g3 uU w6 ld .ellipsis:=(hs3.2 _ D.TOz.symm).trans ((hs2.2 _ D.i1z.symm).trans hz1);have hk3:ZK uU ld wZ wY G9.heap g3:=fun c o c1 c2 c3 c4 e=>(hs3.2 _ c2).trans ((hs2.2 _ c3).trans (hk1 c o c1 c2 c3 c4 e));refine SF (SF (wpAny_onRaise (SF (gu (Aw (Aw (Aw h2 hs1 D.i2z) hs2 D.i12.symm) hs3 D.TOi2.symm) (Kv (Kv (Kv hl2 hs1 D.l2z) hs2 D.l2i1) hs3 D.l2TO) (fun y g4 hy h2b hs4=>SH ?_) fun hy=>⟨(hE (.inr hy)).1,fun g4 e hs4 he=>
  ed (.inr hy) (hs4 _ _ D.TOi2 hTO3) (hs4 _ _ D.i2z.symm hz3) (fun c o c1 c2 c3 c4 q=>hs4 _ _ c4 (hk3 c o c1 c2 c3 c4 q)) he⟩))))
 have hTO4:=(hs4.2 _ D.TOi2).trans hTO3;refine SF (Uk hTO4 rfl (SF (wpAny_updateSeq_pair hTO4 fun g5 hTO5 hs5=>SF (wpAny_letGo (SH (SH (SF (Uk hTO5 rfl (SF (wpAny_newTuple (hsz:=S8 rfl) ?_))))))))));have hz5:IsZip g5 uU w6 ld .ellipsis:=(hs5.2 _ D.TOz.symm).trans ((hs4.2 _ D.i2z.symm).trans hz3);refine SF (SF (wpAny_setField_rec (S9 _ hz5) (Nat.succ_pos _) fun g7 hz7 hs7=>wpAny_setField_rec hz7 (Nat.lt_of_sub_eq_succ rfl) fun g8 hz8 hs8=>SH ?_));have hzlt:=TA hz5;have up:∀{c o},c≠uU->(g5.push { cls:=.type "tuple",data:=.seq #[x,y] }).get? c=some o->g8.get? c=some o:=fun c1 e=>(hs8.2 _ c1).trans ((hs7.2 _ c1).trans e);have up5:∀{c o},c≠uU->g5.get? c=some o->g8.get? c=some o:=fun c1 e=>up c1 (S9 _ e);have sz:g5.objs.size=G9.heap.objs.size:=hs5.1.trans (hs4.1.trans (hs3.1.trans (hs2.1.trans hs1.1)));have hT8:=up (T8 hzlt) (Ti _ rfl);refine hQ x y _ g8 hx hy (TV (SM sz.symm)) hz8 (up5 D.TOz hTO5) (Aw (Aw (Aw h1b hs3 D.TOi1.symm) hs4 D.i12) hs5 D.TOi1.symm |>.imp fun _ q=>⟨up5 D.i1z q.1,q.2⟩) (Aw h2b hs5 D.TOi2.symm |>.imp fun _ q=>⟨up5 D.i2z q.1,q.2⟩) hT8 fun c o c1 c2 c3 c4 e=>up5 c1 ((hs5.2 _ c2).trans ((hs4.2 _ c4).trans (hk3 c o c1 c2 c3 c4 e)))
theorem w9{a b:Value}{Q:PySem.Fin->Shared->Prop}:DM A s E z TI TO i1 i2 l1 l2 k xs ys a b Q:=bF Hs KT (A,s,E,z,TI,TO,i1,i2,l1,l2,k,xs,ys,a,b,Q)
end
section
variable{A:Around}{Y Y':St}{p:Pt Y}{q:Pt Y'}{z TI TO i1 i2 l1 l2:Addr}{ws us:Array Value}{n m k:Nat}{xs ys:List AV}
structure CX(z TI TO i1 i2 l1 l2:Addr)(ws us:Array Value)(n m k:Nat)(xs ys:List AV)(i:Nat)(x:Hp):Prop where
 own:∀ a,a∈[z,TI,i1,i2]->a∈x.κ
 nd:[z,TI,TO,i1,i2].Nodup
 to:x.ι[k]?=some (TO,TO)
 zip:IsZip x.h z TI TO .none
 pair:IsPair x.h TI (.ref i1) (.ref i2)
 it1:x.h.IsTupleIter i1 l1 i
 it2:x.h.IsTupleIter i2 l2 i
 s1:fH x l1 (bW ws n)/\ai (aq x) xs ws.toList
 s2:fH x l2 (bW us m)/\ai (aq x) ys us.toList
theorem CX.apart{i:Nat}{x:Hp}(st:CX z TI TO i1 i2 l1 l2 ws us n m k xs ys i x):ZipApart z TI TO i1 i2 l1 l2:=by
 have ne:∀ i j (hj:Nat.blt j 5=true) (h:Nat.blt i j=true),[z,TI,TO,i1,i2][i]'(T3 (S8 h) (S8 hj))≠[z,TI,TO,i1,i2][j]'(S8 hj):=fun i j hj h=>List.pairwise_iff_getElem.mp st.nd i j _ _ (S8 h);have out:∀{l:Addr} {o:Obj},fH x l o->∀ a,a∈[z,TI,i1,i2]->l≠a:=fun i a ha e=>i.out (Hp.mem_κ (e▸st.own a ha));have outO:∀{l:Addr} {o:Obj},fH x l o->l≠TO:=fun i e=>i.out (e▸Hp.mem_of st.to);have z0:z∈[z,TI,i1,i2]:=.head _;have z1:i1∈[z,TI,i1,i2]:=.tail _ (.tail _ (.head _));have z2:i2∈[z,TI,i1,i2]:=.tail _ (.tail _ (.tail _ (.head _)));exact⟨(ne 0 1 rfl rfl).symm,(ne 0 2 rfl rfl).symm,(ne 0 3 rfl rfl).symm,(ne 0 4 rfl rfl).symm,ne 1 2 rfl rfl,ne 1 3 rfl rfl,ne 1 4 rfl rfl,ne 2 3 rfl rfl,ne 2 4 rfl rfl,ne 3 4 rfl rfl,
  out st.s1.1 _ z0,outO st.s1.1,out st.s1.1 _ z1,out st.s1.1 _ z2,out st.s2.1 _ z0,outO st.s2.1,out st.s2.1 _ z1,out st.s2.1 _ z2⟩
theorem nN(h:ip Y [(k,none)]=true):Y[k]?=some .hid:=by
 have h:=(SU.mp h).1;unfold IB at h
 cases e:Y[k]? with
 | none=>rw[e] at h;cases h
 | some o=>rw[e] at h;cases o<;>first | rfl | cases h
theorem AB{i:Nat}{v:AV}(h:((xs.zip ys).map fun x=>AV.tup [x.1,x.2])[i]?=some v):∃ a b,xs[i]?=some a/\ys[i]?=some b/\v=.tup [a,b]:=by
 rw[TD] at h;exact aI h fun u hu e=>⟨u.1,u.2,(List.getElem?_zip_eq_some.mp hu).1,(List.getElem?_zip_eq_some.mp hu).2,e.symm⟩
theorem ZK.keep{h h':Heap}(hk:ZK z TO i1 i2 h h'){b:Addr}{o:Obj}(hb:b∉TO::[z,TI,i1,i2])(e:h.get? b=some o):h'.get? b=some o:=
 hk b o (fun q=>hb (q▸.tail _ (.head _))) (fun q=>hb (q▸.head _)) (fun q=>hb (q▸.tail _ (.tail _ (.tail _ (.head _))))) (fun q=>hb (q▸.tail _ (.tail _ (.tail _ (.tail _ (.head _)))))) e
theorem w8{i:Nat}{E:Value->Shared->Prop}{Q:Option Value->Shared->Prop}(hh:A.handled=none)(st:CX z TI TO i1 i2 l1 l2 ws us n m k xs ys i p.x)(hg:ip Y [(k,none)]=true)
  (hi:∀ x y T h',ws[i]?=some x->us[i]?=some y->p.s.heap.get? T=none->IsZip h' z TI TO (rawInt T)->IsPair h' TO x y->h'.IsTupleIter i1 l1 (i+1)->h'.IsTupleIter i2 l2 (i+1)->IsPair h' T x y->ZK z TO i1 i2 p.s.heap h'->Q (some (.ref T)) { p.s with heap:=h' })
  (he:ws[i]?=none\/us[i]?=none->∀ h',(∃ a b,IsPair h' TO a b)->ZK z TO i1 i2 p.s.heap h'->Q none { p.s with heap:=h' }):wpAny M0 A (pyNext (.ref z)) Q E p.s:=
 have hT:p.s.TypeIs (.ref z) "zip":=⟨_,st.zip,rfl⟩
 (p.r.objs k _ _ st.to (nN hg)).2.elim fun a0 h0=>h0.elim fun b0 hTO=>SF (wpAny_attempt (wpAny_callSpecial?_slot (name:=Str.ofString "__next__") hT PySem.F.slot_zip_next (TK PySem.F.slot_zip_next hT PySem.F.entry_zip_next
   (w9 st.apart st.zip st.pair hTO st.it1 st.it2 ⟨_,st.s1.1.h,rfl,n,rfl⟩ ⟨_,st.s2.1.h,rfl,m,rfl⟩ (fun x y T h1 hx hy hn a1 a2 a3 a4 a5 a6=>⟨_,rfl,SH (hi x y T h1 hx hy hn a1 a2 a3 a4 a5 a6)⟩)
    fun e=>⟨hh,fun h1 e' hp hk ho=>SF (wpAny_isInstance (T:="StopIteration") (b:=true) ho isSubtype_stop (SH (he e h1 hp hk)))⟩) (PySem.F.args_zip_next_1 _))))
theorem uY(hh:A.handled=none):gX A true (.ref z) [z,TI,i1,i2] ((xs.zip ys).map fun x=>.tup [x.1,x.2]) [(k,none)] (CX z TI TO i1 i2 l1 l2 ws us n m k xs ys) where
 sub st:=st.own
 frame {i Y Y' p q Z} st nx hZ:=
  have k:=fun a ha=>nx.keep (st.own a ha) fun hm=>hZ a hm ha;have z1:=k i1 (.tail _ (.tail _ (.head _)));have z2:=k i2 (.tail _ (.tail _ (.tail _ (.head _))))
  ⟨fun a ha=>(k a ha).1,st.nd,nx.wk.get st.to,(k z (.head _)).2.trans st.zip,(k TI (.tail _ (.head _))).2.trans st.pair,st.it1.imp fun _ h=>⟨z1.2.trans h.1,h.2⟩,st.it2.imp fun _ h=>⟨z2.2.trans h.1,h.2⟩,⟨nx.wk.imm st.s1.1,VL.nx st.s1.2 nx⟩,nx.wk.imm st.s2.1,VL.nx st.s2.2 nx⟩
 next {target i Y p v E Q} ht hv hg st hQ:=(ht rfl).elim fun es h=>h.elim fun kk h=>h.elim fun ps et=>(AB hv).elim fun a h=>h.elim fun b h=>st.s1.2.get h.1 fun w1 hw1 r1=>st.s2.2.get h.2.1 fun w2 hw2 r2=>by
  have ev:=h.2.2;subst et ev;have D:=st.apart;refine w8 hh st hg (fun x y T h1 hx hy hn a1 a2 a3 a4 a5 a6=>⟨_,rfl,?_⟩) fun e=>e.elim (fun e=>nomatch(Tz▸hw1).symm.trans e) fun e=>nomatch(Tz▸hw2).symm.trans e
  cases(Tz▸hw1:ws[i]?=some w1).symm.trans hx
  cases(Tz▸hw2:us[i]?=some w2).symm.trans hy
  refine wpAny_letOwnedTupleGo_zip (s:={ p.s with heap:=h1 }) a1 fun h2 hz2 hs2=>?_;have hTz:T≠z:=fun q=>nomatch(q▸hn:p.s.heap.get? z=none).symm.trans st.zip
  refine p.turnHid (h':=h2) [z,TI,i1,i2] st.own st.to (nN hg) ⟨w1,w2,(hs2.2 _ D.TOz).trans a2⟩ (fun b o hb e=>(hs2.2 b fun q=>hb (q▸.tail _ (.head _))).trans (a6.keep hb e)) fun q nx e hq hm=>?_;subst e;have same:∀{b o},b∈[z,TI,i1,i2]->q.s.heap.get? b=some o->b∈q.κ:=fun hb e=>hq _ _ hb e;have t1:=Aw a3 hs2 D.i1z;have t2:=Aw a4 hs2 D.i2z;have hp:q.s.heap.get? TI=some (bW #[.ref i1,.ref i2] 0):=(hs2.2 _ D.TIz).trans (a6 _ _ D.TIz D.TITO D.TIi1 D.TIi2 st.pair);exact hQ q _ nx (V.pair (hm _ _ hn ((hs2.2 T hTz).trans a5)) (V.nx r1 nx) (V.nx r2 nx)) ⟨fun a ha=>(show ∃ o,q.s.heap.get? a=some o from(SW.mp ha).elim (fun e=>e▸⟨_,hz2⟩) fun ha=>(SW.mp ha).elim (fun e=>e▸⟨_,hp⟩) fun ha=>(SW.mp ha).elim (fun e=>e▸t1.imp fun _ h=>h.1) fun ha=>SY.mp ha▸t2.imp fun _ h=>h.1).elim fun _ h=>same ha h,st.nd,nx.wk.get st.to,hz2,hp,t1,t2,⟨nx.wk.imm st.s1.1,VL.nx st.s1.2 nx⟩,nx.wk.imm st.s2.1,VL.nx st.s2.2 nx⟩
 done {Y p E Q} hg st hQ:=w8 hh st hg (fun x y T h1 hx hy=>by
  have a:=(UG.mp hx).1;have b:=(UG.mp hy).1;rw[S7,List.length_zip] at a b;exact SP (TJ (Nat.lt_min.mpr ⟨a,b⟩) (SM (congr (SI min st.s1.2.length.symm) st.s2.2.length.symm))) (Uq _)) fun _ h1 hp hk=>p.turnHid (h':=h1) [z,TI,i1,i2] st.own st.to (nN hg) hp (fun b o hb e=>hk.keep hb e) fun q nx _ _ _=>hQ q nx
 self st hQ:=wpAny_pyIter_zip st.zip hQ
end
section
variable{A:Around}{Y Y' Y0:St}{p:Pt Y}{p0:Pt Y0}{Er:Value->Shared->Prop}{v:AV}{w:Value}{src:wX}{pt:ax}
theorem ej{k:Nat}{cs:List Nat}(h:gb k=some cs):cs=[k]/\(aw k).cps.all (·<128)=true/\(aw k).cps.size=1:=bj h (fun hk e=>by
 have f:∀ k,k<7->1<=k->(aw k).cps.all (·<128)=true/\(aw k).cps.size=1:=by decide +kernel
 have g:=SU.mp hk;have f:=f k (T4 (S8 g.2)) (S8 g.1);exact⟨(S0 e).symm,f⟩) fun _ e=>nomatch e
def Ap(A:Around)(κ:List Addr)(pt:ax)(src:wX)(p:Pt Y)(Q:Value->Shared->Prop):Prop:=
 ∀(q:Pt Y) tup it X Sta,gX A tup it X src.items src.gd Sta->(tup=true->∃ is,pt=.many is)->Nx [] p q->Sta 0 q.x->(∀ a,a∈X->a∉κ)->Q it q.s
theorem Pt.pushIt(n0:Nx [] p0 p){o:Obj}{Q:Value->Shared->Prop}{gd:List (Nat×Option (List AV))}{items:List AV}{Sta:Nat->Hp->Prop}(h:Ap A p0.κ pt ⟨items,gd⟩ p Q)(T:gX A false (.ref p.s.heap.objs.size) [p.s.heap.objs.size] items gd Sta)
  (st:∀ q:Pt Y,Nx [] p q->p.s.heap.objs.size∈q.κ->q.s.heap.get? p.s.heap.objs.size=some o->Sta 0 q.x) (ho:o.isFreed=false:=by rfl):Q (.ref p.s.heap.objs.size) { p.s with heap:=p.s.heap.push o }:=
 have hn:p.s.heap.get? p.s.heap.objs.size=none:=TV (SN _)
 p.grow [p.s.heap.objs.size] (fun _ _ e=>S9 o e) (fun a ha=>SY.mp ha▸⟨hn,o,Ti _ ho⟩) (Tq.mpr ⟨nofun,.nil⟩) fun q n e hk _=>
  h q false _ _ _ T nofun n (st q n (hk _ (.head _)).1 (e▸Ti _ ho)) fun a ha hm=>(hk a ha).2 (n0.kept hm).1
theorem zE{x:AV}(h:Du v=some x):v=.enm x:=by cases v<;>first | (cases h;rfl) | exact nomatch(show none=some x from h)
theorem Az{x:AV×AV}(h:Ho v=some x):v=.zp x.1 x.2:=by cases v<;>first | (cases h;rfl) | exact nomatch(show none=some x from h)
theorem Bl{n:Nat}{i:Nat}{v:AV}(h:((List.range n).map fun(i:Nat)=>AV.int i)[i]?=some v):v=.int i:=by
 rw[TD] at h;exact aI h fun j hj e=>e▸SI (fun j:Nat=>AV.int j) ((SR.mp hj).2.symm.trans (List.getElem_range _))
variable{Q:Value->Shared->Prop}{k:Nat}{gd:List (Nat×Option (List AV))}{vs us:List AV}{κ:List Addr}
abbrev Aq(A:Around)(p:Pt Y)(w:Value)(Q E:Value->Shared->Prop):Prop:=wpAny M0 A (pyIter w) Q E p.s
theorem Fv(hh:A.handled=none)(n0:Nx [] p0 p)(r:V (.tup vs) p w)(h:Ap A p0.κ pt ⟨vs,[]⟩ p Q):Aq A p w Q Er:=
 r.tupE (P:=fun w=>Aq A p w Q Er) fun a ws n hl hi hx=>wpAny_pyIter_tuple ⟨_,hi.h,rfl,n,rfl⟩ (Pt.pushIt n0 h (ma hh) fun q nx hk ho=>⟨hk,⟨_,ho,rfl,rfl⟩,nx.wk.imm hi,VL.nx hx nx⟩)
theorem Fz(hh:A.handled=none)(n0:Nx [] p0 p)(r:V (.ref k) p w)(hl:aj Y k=some vs)(h:Ap A p0.κ pt ⟨vs,[(k,some vs)]⟩ p Q):Aq A p w Q Er:=
 r.lstE (P:=fun w=>Aq A p w Q Er) hl fun a ws n hι hz ho hx=>wpAny_pyIter_list (cB ho) (Pt.pushIt n0 h (jM hh (a:=a)) fun q nx hk ho=>⟨hk,⟨_,ho,rfl,rfl⟩,nx.wk.get hι⟩)
theorem x5{i:Nat}{u:AV}{w:Value}{x:Str}(hx:x.cps.size=1)(hu:[AV.sym k][i]?=some u)(hw:SignAt (aw k) i w)(hk:k<aT.length)(e:x=aw k)(y:Hp):aq y u w:=match i,hu with
 | 0,hu=>hw.elim fun c h=>h.elim fun t h=>by
  cases hu
  subst e;obtain⟨c',hc⟩:=Array.size_eq_one_iff.mp hx;have h1:=h.1;rw[hc] at h1
  cases h1
  exact⟨hk,t,h.2.trans (SI (Value.str · t) (show Str.mk #[c']=aw k from hc▸rfl))⟩
theorem Fw(hh:A.handled=none)(n0:Nx [] p0 p)(r:V (.sym k) p w)(hz:(aw k).cps.size=1)(ha:(aw k).cps.all (·<128)=true)(h:Ap A p0.κ pt ⟨[.sym k],[]⟩ p Q):Aq A p w Q Er:=
 r.symE (P:=fun w=>Aq A p w Q Er) fun t hk=>wpAny_pyIter_ascii ha (Pt.pushIt n0 h (jL (hz▸Walks.strAscii hh p.s.heap.objs.size (aw k) t) (T:="str_ascii_iterator") (by decide) (fun i h st=>st.imp fun o h=>⟨h.1,h.2.1⟩) fun i u w hu hw x=>x5 hz hu hw hk rfl x)
  fun q nx hk ho=>⟨hk,_,ho,rfl,rfl⟩)
theorem EJ{n:Nat}:Builtin.Range.rangeSize 0 (n:Int) 1=n:=by
 rw[rangeSize_one,Int.sub_zero];exact ite_eq_left_iff.mpr fun h=>(Int.le_antisymm (Uy n) (Int.not_lt.mp h))
theorem Lx{n:Nat}:((List.range n).map fun(i:Nat)=>AV.int i).length=n:=by rw[S7,UD]
theorem Fy{n:Nat}(hh:A.handled=none)(n0:Nx [] p0 p)(r:V (.rng n) p w)(h:Ap A p0.κ pt ⟨(List.range n).map fun(i:Nat)=>.int i,[]⟩ p Q):Aq A p w Q Er:=
 r.2.elim fun a g=>g.elim fun t g=>g.elim fun u g=>g.elim fun y g=>g.1▸wpAny_pyIter_range g.2.h (small_one (by decide) (by decide) (Int.le_trans (by decide) (Uy n)) (Int.lt_of_le_of_lt (TX.mpr r.1) (by decide)))
  (Pt.pushIt n0 h (jL (Walks.range hh p.s.heap.objs.size 0 1 _) (T:="range_iterator") (by decide) (fun i h st=>⟨_,st,rfl⟩) fun i u w hu hw x=>Bl hu▸hw.imp fun t h=>h.trans (by rw[Int.zero_add,Int.mul_one])) fun q nx hk ho=>⟨hk,by
    rw[EJ] at ho;rw[Lx];exact(Int.sub_zero (n:Int)).symm▸ho⟩)
theorem yF{a b c:Addr}(ha:a∉κ)(hb:b∉κ)(hc:c∈[a,b]):c∉κ:=(SW.mp hc).elim (fun e=>e▸ha) fun hc=>SY.mp hc▸hb
theorem FA(hh:A.handled=none)(r:Hm κ p w (.enm (.tup vs)))(hp:∃ is,pt=.many is)(h:Ap A κ pt ⟨lF vs,[]⟩ p Q):Aq A p w Q Er:=
 r.elim fun I r=>r.elim fun J r=>r.elim fun l r=>r.elim fun ws r=>r.elim fun n r=>have t:=r.2;r.1▸wpAny_pyIter_enum t.at_.1 (h p true _ _ _ (mc (wB hh)) (fun _=>hp) (.refl p) ⟨t.own.1.1,t.own.2.2,⟨_,t.at_.1⟩,⟨t.own.2.1.1,t.at_.2,t.src.2.1,t.src.2.2⟩⟩ fun a=>yF t.own.1.2 t.own.2.1.2)
theorem FB(hh:A.handled=none)(r:Hm κ p w (.enm (.ref k)))(hp:∃ is,pt=.many is)(h:Ap A κ pt ⟨lF vs,[(k,some vs)]⟩ p Q):Aq A p w Q Er:=
 r.elim fun I r=>r.elim fun J r=>r.elim fun a r=>have t:=r.2;r.1▸wpAny_pyIter_enum t.at_.1 (h p true _ _ _ (mc (sZ hh)) (fun _=>hp) (.refl p) ⟨t.own.1.1,t.own.2.2,⟨_,t.at_.1⟩,⟨t.own.2.1.1,t.at_.2,t.src⟩⟩ fun a=>yF t.own.1.2 t.own.2.1.2)
theorem Jv(hh:A.handled=none)(r:Hm κ p w (.zp (.tup (.ref k::vs)) (.tup us)))(hp:∃ is,pt=.many is)(h:Ap A κ pt ⟨(vs.zip us).map fun x=>.tup [x.1,x.2],[(k,none)]⟩ p Q):Aq A p w Q Er:=
 r.elim fun z r=>r.elim fun TI r=>r.elim fun TO r=>r.elim fun i1 r=>r.elim fun i2 r=>r.elim fun l1 r=>r.elim fun l2 r=>r.elim fun ws r=>r.elim fun ys r=>r.elim fun n r=>r.elim fun m r=>have t:=r.2;r.1▸wpAny_pyIter_zip t.at_.1 (h p true _ _ _ (uY hh) (fun _=>hp) (.refl p) ⟨fun a ha=>(t.own.1 a ha).1,t.own.2,t.to,t.at_.1,t.at_.2.1,t.at_.2.2.2.1,t.at_.2.2.2.2,t.src1.2,t.src2.2⟩ fun a ha=>(t.own.1 a ha).2)
theorem E.vv{u:AV}(e:E κ v p w)(h:v=u)(hu:u.isIt=false):V u p w:=h▸e.val (h▸hu)
theorem E.ii{u:AV}(e:E κ v p w)(h:v=u)(hu:u.isIt=true)(g:Ap A κ pt src p Q){P:Prop}(k:∀ κ',Hm κ' p w u->Ap A κ' pt src p Q->P):P:=by
 subst h;exact(e.it hu).elim fun κ' n=>k κ' n.2 fun q tup it X Sta T ht nx st hX=>g q tup it X Sta T ht nx st fun a ha hm=>hX a ha (n.1 a hm)
theorem sn{u:AV}(hp:dp pt v=true)(h:v=u)(hu:u.isIt=true):∃ is,pt=.many is:=by
 cases pt with
 | one i=>exact nomatch(show true=false from(show(!v.isIt)=true from hp).symm.trans (SI (! ·) (h▸hu)))
 | many is=>exact⟨is,rfl⟩
theorem JL{a:List AV}{k:AV}(h:a.head?=some k):a=k::a.tail:=by
 cases a with
 | nil=>cases h
 | cons b a=>cases h;rfl
theorem fU(hh:A.handled=none)(n0:Nx [] p0 p)(e:E p0.κ v p w)(hs:cW Y v=some src)(hp:dp pt v=true)(h:Ap A p0.κ pt src p Q):Aq A p w Q Er:=
 bu hs (fun hs=>aI hs fun vs hv es=>Fv hh n0 (e.vv (aC hv) rfl) (es▸h)) fun hs=>bu hs (fun hs=>ae hs fun r hv hs=>aI hs fun vs hl es=>Fz hh n0 (e.vv (bc hv) rfl) hl (es▸h)) fun hs=>
 bu hs (fun hs=>ae hs fun k hv hs=>aI hs fun cs hc es=>Fw hh n0 (e.vv (cy hv) rfl) (ej hc).2.2 (ej hc).2.1 ((ej hc).1▸es▸h)) fun hs=>bu hs (fun hs=>aI hs fun n hv es=>Fy hh n0 (e.vv (pG hv) rfl) (es▸h)) fun hs=>
 bu hs (fun hs=>ae hs fun u hv hs=>have hv:=zE hv;bu hs (fun hs=>aI hs fun vs hu es=>have hv:=hv.trans (SI AV.enm (aC hu));e.ii hv rfl (es▸h) fun _ r h=>FA hh r (sn hp hv rfl) h)
  fun hs=>ae hs fun r hu hs=>aI hs fun vs hl es=>have hv:=hv.trans (SI AV.enm (bc hu));e.ii hv rfl (es▸h) fun _ r h=>FB hh r (sn hp hv rfl) h) fun hs=>ae hs fun z hv hs=>ae hs fun a ha hs=>ae hs fun b hb hs=>ae hs fun k hk hs=>aI hs fun r hr es=>by
  have hv:=(Az hv).trans (congr (SI AV.zp ((aC ha).trans (SI AV.tup (JL hk)))) (aC hb));rw[bc hr] at hv;exact e.ii hv rfl (es▸h) fun _ r h=>Jv hh r (sn hp hv rfl) h
end
section
variable{c:Cc}
theorem jO{cx:Cx}{t:Expr}{is:List Nat}(h:bD cx t=some (.many is)):∃ es k q,t=.Tuple es k q:=by
 unfold bD at h
 cases hn:ka cx t with
 | some i=>rw[hn] at h;cases h
 | none=>
  rw[hn] at h;exact ae h fun es h1 _=>⟨es,iL h1⟩
theorem Ew{t it:Expr}{pt:ax}{x:X}{b:List Stmt}{xb:List S}{pos:Pos}(ht:bD c.cx t=some pt)(nf:∀ env v,foldedSetIterable it env v=pure v)(sx:SX c it x)(sb:Ax c b xb):SS c (.For t it b [] pos) (.for_ pt x xb):=⟨fun{U U' Y Y' p fl} f h=>
 aF h fun v Y1 h1 h=>bj h (fun hok h=>ae h fun src h2 h=>⟨fun g=>wpAny_For ((sx.ev f h1).go fun q w n r=>fU f.R.handled n r h2 hok fun q2 tup itv X Sta Tn htup n2 st fr=>
  wx (f.nx (n.trans n2)) Tn ht (fun e=>(htup e).elim fun is e=>jO (e▸ht)) sb st (fun a ha hm=>fr a ha (f.F.sub hm)) h fun q3 fw n3 k=>g q3 fw (((n.trans n2).weak.trans n3).more fun a ha hk=>(Tg.mp ha).elim (fun ha=>SP hk (fr a ha)) id) k) (nf _)⟩) fun _ h=>nomatch h⟩
end
noncomputable abbrev Bd:=(Shared->Prop)->(Value->Shared->Prop)->Shared->Prop
structure tI(A:Around)(e:Expr)(d:Nat)(it acc:Value)(env:Env)(t:Expr)(K:Bd):Prop where
 go:∀{R:Result->Shared->Prop} {s:Shared} (I:Nat->Shared->Prop),(∀ n s,I n s->∀ N:Value->Shared->Prop,wpAny M0 A (pyNext it) (fun r s1=>match r with
   | none=>R (.ok .next) s1
   | some v=>wpAny M0 A (letOwnedTupleGo t it v) (fun _ s2=>wpAny M0 A (assign t env v) (fun _ s3=>K (fun s'=>∃ m,m<n/\I m s') N s3) N s2) N s1) N s)->∀ n,I n s->codeAny M0 A (.compLoop e d it acc env) R s
noncomputable def xx(ps:Pos)(t:Expr)(it:Value)(env:Env)(rest:Sem PySem.Fin):Sem PySem.Fin:=do
 standAt ps
 match <- pyNext it with
 | none=>pure (.done .next)
 | some v=>
  letOwnedTupleGo t it v
  assign t env v
  rest
section
variable{A:Around}{e:Expr}{d:Nat}{it acc:Value}{env:Env}{t elt iter t' iter':Expr}{K:Bd}{scope:Scope}{pos:Pos}{ifs:List Expr}
theorem ut{ps:Pos}{rest:Sem PySem.Fin}(hu:A.under (.compLoop e d it acc env)=A)(h:M0.den (.compLoop e d it acc env)=(xx ps t it env rest).onRaise fun x=>do noteFrame x env;theTreesLotGoes x)(hk:∀{P:Shared->Prop} {N:Value->Shared->Prop} {s:Shared},K P N s->wpAny M0 A rest (fun ed s'=>ed=.again (.compLoop e d it acc env)/\P s') N s):tI A e d it acc env t K:=⟨fun{R s} I turn n h0=>
 codeAny_loop rfl I (fun n s hI=>by
  rw[hu,h];refine wpAny_noted (SF (wpAny_standAt (SF (TG (turn n s hI _) (fun r s1 h1=>?_) fun _ _ z=>z))))
  cases r with
  | none=>exact SH h1
  | some v=>exact SF (TG h1 (fun _ s2 h2=>SF (TG h2 (fun _ s3 h3=>TG (hk h3) (fun ed s4 h4=>by obtain⟨rfl,h4⟩:=h4;exact⟨rfl,h4⟩) fun _ _ z=>z) fun _ _ z=>z)) fun _ _ z=>z)) n h0⟩
noncomputable abbrev hV(env:Env)(ifs:List Expr)(b:Bool):Sem Bool:=forIn ifs b fun c r=>if r=true then do let ok <- isTrue c env (eval c env);pure (ForInStep.yield ok) else pure (ForInStep.yield r)
noncomputable def mD(A:Around)(env:Env)(ifs:List Expr)(elt:Expr)(acc:Value):Bd:=fun P N s=>wpAny M0 A (hV env ifs true) (fun ok s1=>if ok=true then wpAny M0 A (eval elt env) (fun x s2=>wpAny M0 A (call (.builtin "list.append") [acc,x]) (fun _ s3=>P s3) N s2) N s1 else P s1) N s
noncomputable def Jo(env:Env)(ifs:List Expr)(elt:Expr)(acc:Value)(c:Code):Sem PySem.Fin:=do
 let mut ok:=true
 for c in ifs do
  if ok then ok <- isTrue c env (eval c env)
 if ok then
  (do let _ <- call (.builtin "list.append") [acc,<- eval elt env])
 again c
theorem mC{ps:Pos}(hu:A.under (.compLoop e d it acc env)=A)(h:M0.den (.compLoop e d it acc env)=(xx ps t it env (Jo env ifs elt acc (.compLoop e d it acc env))).onRaise fun x=>do noteFrame x env;theTreesLotGoes x):tI A e d it acc env t (mD A env ifs elt acc):=ut hu h fun hP=>
 SF (TG hP (fun ok s1 h1=>match ok,h1 with
  | false,h1=>SH ⟨rfl,h1⟩
  | true,h1=>SF (SF (TG h1 (fun x s4 h4=>SF (TG h4 (fun _ s5 h5=>SH (SH ⟨rfl,h5⟩)) fun _ _ z=>z)) fun _ _ z=>z))) fun _ _ z=>z)
theorem yO:tI A (.ListComp elt [⟨t,iter,ifs,0⟩] scope pos) 0 it acc env t (mD A env ifs elt acc):=mC (ps:=iter.pos) rfl (by rfl)
theorem BR:tI A (.ListComp elt [⟨t,iter,[],0⟩,⟨t',iter',[],0⟩] scope pos) 1 it acc env t' (mD A env [] elt acc):=mC (ps:=iter'.pos) rfl (by rfl)
noncomputable def Bt(A:Around)(env:Env)(iter':Expr)(e:Expr)(acc:Value):Bd:=fun P N s=>wpAny M0 A (eval iter' env) (fun x s1=>wpAny M0 A (pyIter x) (fun it' s2=>codeAny M0 A (.compStart e 1 it' acc env) (fun r s3=>∃ f,r=.ok f/\P s3) s2) N s1) N s
theorem yN(hf:∀ v,foldedSetIterable iter' env v=pure v):tI A (.ListComp elt [⟨t,iter,[],0⟩,⟨t',iter',[],0⟩] scope pos) 0 it acc env t (Bt A env iter' (.ListComp elt [⟨t,iter,[],0⟩,⟨t',iter',[],0⟩] scope pos) acc):=
 ut (ps:=iter.pos) (rest:=do
  let x <- eval iter' env
  standAt iter'.pos
  let x <- foldedSetIterable iter' env x
  let _ <- runOwn (.compStart (.ListComp elt [⟨t,iter,[],0⟩,⟨t',iter',[],0⟩] scope pos) 1 (<- holding [x] (pyIter x)) acc env) env
  again (.compLoop (.ListComp elt [⟨t,iter,[],0⟩,⟨t',iter',[],0⟩] scope pos) 0 it acc env)) rfl (by rfl) fun hP=>SF (TG hP (fun x s3 h3=>SF (wpAny_standAt (SF (wpAny_of_eq (hf x) (SF (Td (TG h3 (fun it' s4 h4=>
   SF (wpAny_runOwn (codeAny_mono h4 fun r s5 hr=>hr.elim fun f hr=>hr.1▸SH ⟨rfl,hr.2⟩))) fun _ _ z=>z))))))) fun _ _ z=>z)
theorem xQ{R:Result->Shared->Prop}{s:Shared}(h0:codeAny M0 A (.compLoop (.ListComp elt [⟨t,iter,[],0⟩,⟨t',iter',[],0⟩] scope pos) 1 it acc env) R s)
  (h:∀ N,wpAny M0 A (pyIter it) (fun it' s'=>codeAny M0 A (.compLoop (.ListComp elt [⟨t,iter,[],0⟩,⟨t',iter',[],0⟩] scope pos) 1 it' acc env) R s') N s) :
  codeAny M0 A (.compStart (.ListComp elt [⟨t,iter,[],0⟩,⟨t',iter',[],0⟩] scope pos) 1 it acc env) R s:=by
 refine codeAny_of_tree ?_;show wpAny _ _ ((compStart (.ListComp elt [⟨t,iter,[],0⟩,⟨t',iter',[],0⟩] scope pos) 1 it acc env).onRaise (fun x=>do noteFrame x env;standAt theWindowsPlace)) _ _ s
 refine wpAny_notedAt ?_;refine SF (m:=ask) (wpAny_askSetting (wpAny_ite ?_))
 split
 ·exact SF (SH (SH ⟨rfl,h0⟩))
 ·refine SF (TM ?_);show wpAny _ _ (standAt iter'.pos >>= _) _ _ s;exact SF (wpAny_standAt (SF (TG (h _) (fun it' s' h'=>SH ⟨rfl,h'⟩) fun _ _ x=>x)))
end
noncomputable def ax.slots:ax->List Nat
 | .one i=>[i]
 | .many is=>is
def Ag(is:List Nat)(U U':En):Prop:=∀ j,j∉is->U' j=U j
theorem fI{is:List Nat}:∀{vs:List AV} {U U0 U':En},eI U is vs=some U'->Ag is U U0->eI U0 is vs=some U'/\Ag is U U':=by
 induction is with
 | nil=>
  refine @fun vs U U0 U' h ha=>?_
  cases vs with
  | nil=>exact S0 h▸⟨SI some (funext fun j=>ha j nofun),fun _ _=>rfl⟩
  | cons=>exact bZ h
 | cons i is ih=>
  refine @fun vs U U0 U' h ha=>?_
  cases vs with
  | nil=>exact bZ h
  | cons v vs=>
   have g:=ih (U:=ah U i v) (U0:=ah U0 i v) h fun j hj=>(Tu (j=i)).elim (fun e=>(SQ e).trans (SQ e).symm) fun e=>(SL e).trans ((ha j fun hm=>(SW.mp hm).elim e hj).trans (SL e).symm);exact⟨g.1,fun j hj=>(g.2 j fun hm=>hj (.tail _ hm)).trans (SL fun e:j=i=>hj (e▸.head _))⟩
section
variable{U U0 U':En}{Y Y':St}{v:AV}{c:Cc}{A:Around}{env:Env}{p:Pt Y}{q:Pt Y'}{Er:Value->Shared->Prop}{D:Addr}{vs us:List AV}{w:Value}{cx:Cx}{is:List Nat}
theorem qH{pt:ax}(h:bV pt v U Y=some U')(ha:Ag pt.slots U U0):bV pt v U0 Y=some U'/\Ag pt.slots U U':=match pt,h,ha with
 | .one i,h,ha=>fI (is:=[i]) (vs:=[v]) h ha
 | .many is,h,ha=>ae h fun vs h1 hu=>⟨(show(cP (bx v) ((bG v).bind (aj Y))).bind (eI U0 is)=_ by rw[h1];exact(fI hu ha).1),(fI hu ha).2⟩
structure G8(D:Addr)(vs:List AV)(p:Pt Y):Prop where
 own:D∈p.κ
 ex:∃ ws n,p.s.heap.get? D=some (gy ws n)/\VL vs p ws.toList
theorem G8.nx{Z:List Addr}(a:G8 D vs p)(n:Nx Z p q)(h:D∉Z):G8 D vs q:=
 have k:=n.keep a.own h
 ⟨k.1,a.ex.imp fun _ g=>g.imp fun _ g=>⟨k.2.trans g.1,VL.nx g.2 n⟩⟩
theorem Am{Q:Value->Shared->Prop}(a:G8 D vs p)(r:V v p w)(hl:vs.length+1<=ay)(h:∀ q:Pt Y,Nx [D] p q->G8 D (vs++[v]) q->Q .none q.s):wpAny M0 A (call (.builtin "list.append") [.ref D,w]) Q Er p.s:=
 a.ex.elim fun ws g=>g.elim fun n g=>call_meets F.slot_list_append ⟨_,g.1,rfl⟩ F.entry_list_append (F.args_list_append_2 _ _) (list_append D ws n w (aX (g.2.size▸Nat.le_of_succ_le hl))) ⟨g.1,p.put a.own (Tv ..) (TF _ g.1 rfl) fun q n hm ho=>
  h q n ⟨hm,_,_,ho,by rw[Uv];exact ai.snoc (VL.nx g.2 n) (r.nx n)⟩⟩
inductive DF (c:Cc):List Expr->List X->Prop
 | nil:DF c [] []
 | cons {e x es xs}:ST c e x->DF c es xs->DF c (e::es) (x::xs)
theorem rA(es:List Expr){Q:Bool->Shared->Prop}{s:Shared}(h:Q false s):wpAny M0 A (hV env es false) Q Er s:=by
 induction es with
 | nil=>exact SH h
 | cons e es ih=>rw[hV,Uj];exact SF (SH ih)
theorem oX{es:List Expr}{xs:List X}(hs:DF c es xs):∀{Y Y':St} {p:Pt Y} (f:Fm c U p) {b:Bool},Cy c.C xs U Y=some (b,Y')->Ay f.A p (hV f.env es true) b Y':=by
 induction hs with
 | nil=>exact fun{Y Y' p} f b h=>cX (P:=fun b Y'=>Ay f.A p (hV f.env [] true) b Y') h (.pure rfl)
 | @cons e x es xs st _ ih=>exact fun{Y Y' p} f b h=>aF h fun t Y1 h1 h=>⟨fun{Er Q} g=>by
   rw[hV,Uj];refine SF (SF ((st.ev f h1).go fun q t' n r=>SH ?_));subst r
   cases t' with
   | true=>exact(ih (f.nx n) h).go fun q2 b2 n2 r2=>g q2 b2 (n.trans n2) r2
   | false=>cases h;exact rA es (g q _ n rfl)⟩
noncomputable def DA(cc:En->St->Option (Bool×St))(ee:En->St->Option (List AV×St))(U:En)(Y:St):Option (List AV×St):=cu (cc U Y) fun t Y1=>bif t then ee U Y1 else some ([],Y1)
theorem J1{gd:List (Nat×Option (List AV))}{pt:ax}{cc:En->St->Option (Bool×St)}{ee:En->St->Option (List AV×St)}{zs:List AV}{P:Prop}(h:bz gd pt U cc ee (v::vs) Y=some (zs,Y'))
  (k:∀ U1 xs Y1 ys,ip Y gd=true->bV pt v U Y=some U1->DA cc ee U1 Y=some (xs,Y1)->bz gd pt U cc ee vs Y1=some (ys,Y')->xs++ys=zs->P):P:=
 bj h (fun hg h=>ae h fun U1 hb h=>aF h fun t Y1 h1 h=>match t,h1,h with
  | true,h1,h=>aF h fun xs Y2 h2 h=>aF h fun ys Y3 h3 h=>by cases h;exact k U1 xs Y2 ys hg hb ((ao h1).trans h2) h3 rfl
  | false,h1,h=>k U1 [] Y1 zs hg hb ((ao h1).trans rfl) h rfl) fun _ h=>nomatch h
end
structure Cl where
 D:Addr
 env:Env
 cx:Cx
 X:List Addr
 gd:List (Nat×Option (List AV))
 pt:ax
 U:En
 cc:En->St->Option (Bool×St)
 ee:En->St->Option (List AV×St)
noncomputable abbrev Cl.L(l:Cl):List Addr:=[l.env.locals,l.D]
noncomputable abbrev Cl.Z(l:Cl):List Addr:=l.X++l.L
structure Cs(l:Cl)(us:List AV){Y:St}(q:Pt Y):Prop where
 F:∃ U1,FR q.x l.env l.cx U1/\Ag l.pt.slots l.U U1
 acc:G8 l.D us q
structure oL(l:Cl){Y:St}(p:Pt Y)(K:Bd):Prop where
 go:∀{Y1 Y2:St} {q:Pt Y1} {U2:En} {xs us:List AV} {P:Shared->Prop} {N:Value->Shared->Prop},Nx l.Z p q->FR q.x l.env l.cx U2->Ag l.pt.slots l.U U2->G8 l.D us q->(us++xs).length<=ay->DA l.cc l.ee U2 Y1=some (xs,Y2)->
  (∀ q':Pt Y2,Nx l.L q q'->Cs l (us++xs) q'->P q'.s)->K P N q.s
structure CI(l:Cl)(items zs:List AV)(Sta:Nat->Hp->Prop){Y:St}(p:Pt Y)(τ:St)(k:Nat)(s:Shared):Prop where
 ex:∃ i Y1 us rest,∃ q:Pt Y1,s=q.s/\k=items.length-i/\i<=items.length/\Nx l.Z p q/\Cs l us q/\Sta i q.x/\us++rest=zs/\bz l.gd l.pt l.U l.cc l.ee (items.drop i) Y1=some (rest,τ)
section
variable{l:Cl}{A:Around}{Y τ:St}{p:Pt Y}{e t:Expr}{d:Nat}{it:Value}{K:Bd}{tup:Bool}{items:List AV}{Sta:Nat->Hp->Prop}
theorem kx{acc vs:List AV}{R:Result->Shared->Prop}(lp:tI A e d it (.ref l.D) l.env t K)(Tn:gX A tup it l.X items l.gd Sta)(hh:A.handled=none)(hloc:tH true l.cx t)(ht:bD l.cx t=some l.pt)(htt:tup=true->∃ es k q,t=.Tuple es k q)
  (B:oL l p K) (hX:∀ a,a∈l.X->a∉l.L/\a∉cS l.env) (hD:l.D≠l.env.locals) (cs:Cs l acc p) (st:Sta 0 p.x) (hz:(acc++vs).length<=ay) (hd:bz l.gd l.pt l.U l.cc l.ee items Y=some (vs,τ))
  (h:∀ q:Pt τ,Nx l.Z p q->Cs l (acc++vs) q->R (.ok .next) q.s):codeAny M0 A (.compLoop e d it (.ref l.D) l.env) R p.s:=
 lp.go (CI l items (acc++vs) Sta p τ) (fun k s' hI N=>by
  obtain⟨i,Y1,us,rest,q,rfl,rfl,hi,n,cs,st,hus,hf⟩:=hI;have hXD:l.D∉l.X:=fun hm=>(hX _ hm).1 (.tail _ (.head _))
  rcases Nat.lt_or_eq_of_le hi with hlt | rfl
  ·rw[UL hlt] at hf;refine J1 hf fun U1 xs Y2 ys hg hb hB hr e=>?_;refine TG (Tn.next (E:=N) (Q:=fun w s2=>wpAny M0 A (assign t l.env w) (fun _ s3=>K (fun s'=>∃ m,m<items.length-i/\CI l items (acc++vs) Sta p τ m s') N s3) N s2) htt (TC hlt) hg st fun q2 w n2 r2 st2=>?_) (fun rv s1 hr=>by obtain⟨w,rfl,hw⟩:=hr;exact hw) fun _ _ z=>z
   refine cs.F.elim fun UX F=>?_;have hb:=qH hb F.2;refine(df hh hloc ht (F.1.go n2 fun a ha=>(hX a ha).2) r2 hb.1).go fun q3 _ n3 F3=>?_;have n13:Nx l.Z p q3:=n.trans (n2.left.trans (n3.more fun a ha _=>Tx _ (SY.mp ha▸.head _)));subst e;rw[<- S6] at hus;refine B.go n13 F3 hb.2 ((cs.acc.nx n2 hXD).nx n3 fun hm=>hD (SY.mp hm)) (SJ (SJ (TH _ ys.length) (SM (SZ.symm.trans (SI List.length hus)))) hz) hB fun q5 n5 cs5=>?_;exact⟨items.length-(i+1),Nat.sub_succ_lt_self _ _ hlt,i+1,Y2,us++xs,ys,q5,rfl,rfl,hlt,n13.trans n5.right,cs5,Tn.frame (Tn.frame st2 n3 fun a ha hm=>(hX a hm).1 (SY.mp ha▸.head _)) n5 fun a ha hm=>(hX a hm).1 ha,hus,hr⟩
  ·rw[List.drop_length] at hf;refine cO hf fun hg e=>?_
   cases e
   rw[Tr] at hus;subst hus;exact Tn.done hg st fun q2 n2=>h q2 (n.trans n2.left) ⟨cs.F.imp fun _ F=>⟨F.1.go n2 fun a ha=>(hX a ha).2,F.2⟩,cs.acc.nx n2 hXD⟩) (items.length-0) ⟨0,Y,acc,vs,p,rfl,rfl,Tb _,.refl p,cs,st,rfl,hd⟩
theorem uw{c:Cc}{ifs:List Expr}{xc:List X}{elt:Expr}{xe:X}(hc:c.cx=l.cx)(R:ch A c.n)(sc:DF c ifs xc)(se:SX c elt xe)(hD:l.D∉cS l.env)(hcc:l.cc=Cy c.C xc)(hee:l.ee=fun U Y=>one (au c.C xe U Y)):oL l p (mD A l.env ifs elt (.ref l.D)):=⟨fun{Y1 Y2 q U2 xs us P N} n F ha ac hz hB k=>by
 rw[hcc,hee] at hB
 let f:Fm c U2 q:=⟨A,l.env,R,hc▸F⟩
 refine aF hB fun b Y3 h1 hB=>?_;unfold mD;refine(oX sc f h1).go fun q3 b' n3 e=>?_;subst e;have ac3:=ac.nx n3 nofun
 cases b' with
 | false=>
  cases hB
  rw[Tr] at k;exact k q3 n3.weak ⟨⟨U2,F.nx0 n3,ha⟩,ac3⟩
 | true=>
  refine aF hB fun u Y4 h2 hB=>?_
  cases hB
  refine(se.v (f.nx n3) h2).go fun q4 w n4 r4=>Am (ac3.nx n4 nofun) r4 (by rw[SZ] at hz;exact hz) fun q5 n5 ac5=>?_
  have n35:=n3.trans n4;exact k q5 (n35.weak.trans (n5.more fun a h _=>SY.mp h▸.tail _ (.head _))) ⟨⟨U2,(F.nx0 n35).go n5 fun a h=>SY.mp h▸hD,ha⟩,ac5⟩⟩
end
theorem pA{xs:List Str}:∀{n i:Nat} {x:Str},(bo n xs).lookup x=some i->∃ j,i=n+j/\xs[j]?=some x:=by
 induction xs with
 | nil=>exact fun h=>bZ h
 | cons y ys ih=>
  refine @fun n i x h=>(Tu (x=y)).elim (fun e=>⟨0,?_,SI some e.symm⟩) fun e=>?_
  ·exact(S0 ((dw (p:=(y,n)) (l:=bo (n+1) ys) e).symm.trans h)).symm
  ·exact(ih ((fR e).symm.trans h)).elim fun j g=>⟨j+1,g.1.trans (Nat.succ_add_eq_add_succ n j),g.2⟩
theorem jS{xs:List Str}:∀{n:Nat} {x:Str},(bo n xs).lookup x=none->x∉xs:=by
 induction xs with
 | nil=>exact fun _=>nofun
 | cons y ys ih=>
  refine @fun n x h hm=>(Tu (x=y)).elim (fun e=>?_) fun e=>?_
  ·exact bZ (h.symm.trans (dw (p:=(y,n)) (l:=bo (n+1) ys) e))
  ·exact(SW.mp hm).elim e (ih ((fR e).symm.trans h))
theorem cZ:∀(xs:List Str) (n:Nat),(bo n xs).length=xs.length
 | [],_=>rfl
 | _::xs,n=>SI (·+1) (cZ xs (n+1))
theorem dr{β:Type}{l:List (Str×β)}{x:Str}{k:β}:(l.map (·.1)).Nodup->(x,k)∈l->l.lookup x=some k:=by
 induction l with
 | nil=>exact fun _ h=>SP h Ud
 | cons p l ih=>
  refine fun hn hm=>(SW.mp hm).elim (fun e=>?_) fun hm=>?_
  ·exact(dw (SI Prod.fst e)).trans (SI (fun p=>some p.2) e).symm
  ·exact(fR fun e=>(Tq.mp hn).1 (Ta.mpr ⟨(x,k),hm,e⟩)).trans (ih (Tq.mp hn).2 hm)
theorem qb{β:Type}{g:Str->β->β}{x:Str}(l:List (Str×β)):(l.map fun p=>(p.1,g p.1 p.2)).lookup x=(l.lookup x).map (g x):=by
 induction l with
 | nil=>rfl
 | cons p l ih=>
  refine(Tu (x=p.1)).elim (fun e=>?_) fun e=>?_
  ·exact(dw (p:=(p.1,g p.1 p.2)) e).trans ((SI (fun y=>some (g y p.2)) e).symm.trans (SI (Option.map (g x)) (dw e)).symm)
  ·exact(fR (p:=(p.1,g p.1 p.2)) e).trans (ih.trans (SI (Option.map (g x)) (fR e).symm))
def qZ(cx:Cx):Prop:=∀ x,cx.sc.lookup x=some .cell->∃ i,cx.sl.lookup x=some i
structure cF(cx:Cx)(sc:Scope):Prop where
 kind:sc.kind=.function
 nodup:(sc.names.map (·.1)).Nodup
 all:∀{x k},(x,k)∈sc.names->k=.local\/k=.globalImplicit\/(k=.free/\cx.sc.lookup x=some .cell)
theorem jD{cx:Cx}{sc:Scope}(h:eu cx sc=true):cF cx sc:=
 have h:=SU.mp h;have g:=SU.mp h.1
 ⟨SO g.1,SO g.2,fun{x k} hm=>(T5.mp (Uw.mp h.2 (x,k) hm)).elim (fun e=>(T5.mp e).elim (fun e=>.inl (SO e)) fun e=>.inr (.inl (SO e)))
  fun e=>have e:=SU.mp e;.inr (.inr ⟨SO e.1,SO e.2⟩)⟩
section
variable{cx:Cx}{sc:Scope}{env:Env}{x y:Hp}{U:En}{cl:List (Str×Addr)}{n:Str}{i:Nat}
theorem cF.free(ok:cF cx sc)(h:sc.names.lookup n=some .free):cx.sc.lookup n=some .cell:=(ok.all (aE h)).elim (fun e=>nomatch e) fun e=>e.elim (fun e=>nomatch e) And.right
theorem cF.noCell(ok:cF cx sc)(h:(n,.cell)∈sc.names):False:=(ok.all h).elim (fun e=>nomatch e) fun e=>e.elim (fun e=>nomatch e) fun e=>nomatch e.1
theorem cF.own(ok:cF cx sc)(h:n∈aM sc.names):sc.names.lookup n=some .local:=(Ta.mp h).elim fun q h=>by
 obtain⟨⟨m,k⟩,h⟩:∃ r,r=q:=⟨q,rfl⟩;subst h;have hm:=TS.mp h.1
 cases(show m=n from h.2)
 refine(T5.mp hm.2).elim (fun e=>?_) fun e=>?_
 ·cases eq_of_beq e;exact dr ok.nodup hm.1
 ·cases eq_of_beq e;exact(ok.noCell hm.1).elim
theorem ec(h:(cx.inner sc).sl.lookup n=some i):(∃ j,i=cx.sl.length+j/\(aM sc.names)[j]?=some n)\/(n∉aM sc.names/\cx.sl.lookup n=some i):=by
 have h:(bo cx.sl.length (aM sc.names)++cx.sl).lookup n=some i:=h;rw[List.lookup_append] at h
 cases e:(bo cx.sl.length (aM sc.names)).lookup n with
 | some j=>rw[e] at h;cases h;exact .inl (pA e)
 | none=>rw[e] at h;exact .inr ⟨jS e,h⟩
structure oJ(sc:Scope)(env:Env)(cl:List (Str×Addr)):Prop where
 eq:closureFor sc env=pure cl
 sub:∀{x c},cl.lookup x=some c->env.cells.lookup x=some c
 has:∀{x},(x,.free)∈sc.names->∃ c,cl.lookup x=some c
theorem dQ{β:Type}{l:List (Str×β)}{x:Str}{c:β}:(x,c)∈l->∃ d,l.lookup x=some d:=by
 induction l with
 | nil=>exact fun h=>SP h Ud
 | cons p l ih=>
  refine fun h=>(Tu (x=p.1)).elim (fun e=>⟨p.2,dw e⟩) fun e=>?_;exact(SW.mp h).elim (fun g=>SP (SI Prod.fst g) e) fun h=>(ih h).imp fun d h=>(fR e).trans h
noncomputable abbrev PT(env:Env)(names:List (Str×NameKind))(acc:List (Str×Addr)):Sem (List (Str×Addr)):=forIn names acc fun p cs=>match p with
 | (name,kind)=>if(kind==.free)=true then do let c <- cellOf env name;pure (ForInStep.yield ((name,c)::cs)) else pure (ForInStep.yield cs)
theorem wI{env:Env}{y:Str}{c:Addr}(h:env.cells.lookup y=some c):cellOf env y=pure c:=by unfold cellOf;rw[h]
theorem tg(env:Env)(names:List (Str×NameKind)):∀(acc:List (Str×Addr)),(∀ x,(x,.free)∈names->∃ c,env.cells.lookup x=some c)->(∀ p∈acc,env.cells.lookup p.1=some p.2)->
  ∃ cl,PT env names acc=pure cl/\(∀ p∈cl,env.cells.lookup p.1=some p.2)/\(∀ x,(x,.free)∈names\/(∃ c,(x,c)∈acc)->∃ c,(x,c)∈cl):=by
 induction names with
 | nil=>exact fun acc _ ha=>⟨acc,rfl,ha,fun x hx=>hx.elim (fun h=>SP h Ud) id⟩
 | cons p names ih=>
  refine fun acc hf ha=>(Tu (p.2=.free)).elim (fun hk=>?_) fun hk=>?_
  ·have hp:(p.1,.free)=p:=hk▸rfl;refine(hf p.1 (hp▸.head _)).elim fun c hc=>(ih ((p.1,c)::acc) (fun x hx=>hf x (.tail _ hx)) fun p hp=>(SW.mp hp).elim (fun e=>e▸hc) (ha p)).imp fun cl g=>⟨?_,g.2.1,fun x hx=>g.2.2 x (hx.elim (fun hx=>(SW.mp hx).elim (fun e=>.inr ⟨c,SI Prod.fst e▸.head _⟩) .inl) fun hx=>.inr (hx.imp fun _ h=>.tail _ h))⟩;exact(Uj ..).trans ((SI (· >>= _) ((SQ (beq_iff_eq.mpr hk)).trans (SI (· >>= _) (wI hc)))).trans g.1)
  ·refine(ih acc (fun x hx=>hf x (.tail _ hx)) ha).imp fun cl g=>⟨?_,g.2.1,fun x hx=>g.2.2 x (hx.imp (fun hx=>(SW.mp hx).elim (fun e=>SP (SI Prod.snd e).symm hk) id) id)⟩;exact(Uj ..).trans ((SI (· >>= _) (SL fun e=>hk (eq_of_beq e))).trans g.1)
theorem Ge(ok:cF cx sc)(hcx:qZ cx)(F:FR x env cx U):∃ cl,oJ sc env cl:=
 (tg env sc.names [] (fun n hn=>have e:=ok.free (dr ok.nodup hn);(hcx n e).elim fun i hi=>(F.cells n i (.inl e) hi).elim fun c h=>h.elim fun _ h=>⟨c,h.1⟩) nofun).imp fun cl g=>
  ⟨show(PT env sc.names [] >>= fun cs=>pure cs)=_ by rw[g.1];rfl,fun h=>g.2.1 _ (aE h),fun h=>(g.2.2 _ (.inl h)).elim fun c h=>dQ h⟩
theorem kr{Ca a:Addr}(cls:oJ sc env cl)(ha:a∈cS (compEnvC sc cl Ca env)):a=Ca\/a∈cS env:=(j4 ha).imp id fun h=>h.elim fun n h=>fh (cls.sub h)
theorem fW{k:NameKind}{Ca:Addr}(h:sc.names.lookup n=some k):(compEnvC sc cl Ca env).kindOf n=some (if(k==.free&&env.scope.kind==.function&&env.kindOf n==some .cell)=true then .cell else k):=by
 have e:=qb (g:=fun n k=>if(k==.free&&env.scope.kind==.function&&env.kindOf n==some .cell)=true then .cell else k) (x:=n) sc.names
 rw[h] at e;refine Eq.trans (SI (List.lookup n) (TN fun q _=>?_)) e;obtain⟨a,b⟩:=q;exact(apply_ite (Prod.mk a) _ _ _).symm
theorem qm{Ca:Addr}{m:Str->Option Value}(ok:cF cx sc)(cls:oJ sc env cl)(F:FR x env cx U)(hn:x.h.Ns Ca m)(hC:Ca∈x.κ):FR x (compEnvC sc cl Ca env) (cx.inner sc) U where
 st:=⟨ok.kind,F.st.glob,F.st.blt,fun n=>⟨fW,fun h=>(ok.noCell (aE h)).elim,fun h=>by rw[fW h,F.st.kind,(F.st.sc n).2.1 (ok.free h)];rfl,fW⟩,
  fun a b i ha hb=>(ec ha).elim (fun g=>(ec hb).elim (fun h=>g.elim fun j g=>h.elim fun j' h=>S0 (g.2.symm.trans ((Nat.add_left_cancel (g.1.symm.trans h.1))▸h.2)))
    fun h=>g.elim fun j g=>SP (F.st.slots b i h.2) (g.1▸Nat.not_lt.mpr (TH _ _)))
   fun g=>(ec hb).elim (fun h=>h.elim fun j h=>SP (F.st.slots a i g.2) (h.1▸Nat.not_lt.mpr (TH _ _))) fun h=>F.st.inj a b i g.2 h.2,
  fun a b c ha hb=>F.st.apart a b c (cls.sub ha) (cls.sub hb),fun a i h=>by
   show i<(bo cx.sl.length (aM sc.names)++cx.sl).length;rw[SZ,cZ,Nat.add_comm];exact(ec h).elim (fun g=>g.elim fun j g=>g.1▸Nat.add_lt_add_left (SR.mp g.2).1 _) fun g=>TJ (F.st.slots a i g.2) (TH _ _)⟩
 ownL:=hC
 ownC y c h:=F.ownC y c (cls.sub h)
 ns:=⟨m,hn,fun y i v hy hi hv=>(ec hi).elim (fun g=>g.elim fun j g=>nomatch(F.top i (g.1▸TH _ _)).symm.trans hv) fun g=>SP (Ta.mpr ⟨(y,.local),TS.mpr ⟨aE hy,rfl⟩,rfl⟩) g.1⟩
 cells y i hy hi:=hy.elim (fun h=>(ok.noCell (aE h)).elim) fun hf=>(ec hi).elim (fun g=>g.elim fun j g=>nomatch(ok.own (Tm g.2)).symm.trans hf)
  fun g=>(F.cells y i (.inl (ok.free hf)) g.2).imp fun c h=>h.imp fun cv h=>⟨(cls.has (aE hf)).elim fun d hd=>hd.trans ((cls.sub hd).symm.trans h.1),h.2⟩
 top i hi:=F.top i (SJ (show cx.sl.length<=(bo cx.sl.length (aM sc.names)++cx.sl).length by rw[SZ];exact Nat.le_add_left _ _) hi)
theorem ql(ok:cF cx sc):qZ (cx.inner sc):=fun n h=>(ok.noCell (aE h)).elim
end
section
variable{c:Cc}{U:En}{Y Y1 Y2:St}{p:Pt Y}{Er Q:Value->Shared->Prop}{v:AV}{src:wX}{vs:List AV}{x x' xe:X}{pt pt':ax}{elt t it t' it':Expr}{ifs:List Expr}{rest:List Comprehension}{sc:Scope}{pos pos':Pos}{xc:List X}{use:Option (Value->Sem Unit)}
theorem zc{cx:Cx}{tup:Bool}(ht:bD cx t=some pt)(h:tup=true->∃ is,pt=.many is):tup=true->∃ es k q,t=.Tuple es k q:=fun e=>(h e).elim fun _ e=>jO (e▸ht)
def q7(A:Around)(p:Pt Y)(Y2:St)(vs:List AV)(use:Option (Value->Sem Unit))(E Q:Value->Shared->Prop):Prop:=
 ∀(r:Pt (Y2++[.list vs])) (D Ca:Addr),Nx [] p r->V (.ref Y2.length) r (.ref D)->Ca∈r.κ->Ca∉p.κ->(∃ m,r.s.heap.Ns Ca m)->compPost M0 A E use Q (.ref D) Ca (.ok .next) r.s
structure Kt(env:Env)(sc:Scope)(p:Pt Y){Y':St}(q:Pt Y')(D Ca:Addr)(X:List Addr)(cl:List (Str×Addr)):Prop where
 cls:oJ sc env cl
 n:Nx [] p q
 ne:D≠Ca
 out:∀ a,a∈X++[Ca,D]->a∉p.κ
theorem Kt.D{env:Env}{cx:Cx}{Y':St}{q:Pt Y'}{D Ca:Addr}{X:List Addr}{cl:List (Str×Addr)}(K:Kt env sc p q D Ca X cl)(F:FR p.x env cx U):D∉cS (compEnvC sc cl Ca env):=fun hm=>
 (kr K.cls hm).elim K.ne fun hm=>K.out D (Tx _ (.tail _ (.head _))) (F.sub hm)
theorem mR(hcx:qZ c.cx)(hok:eu c.cx sc=true)(nf:∀ env v,foldedSetIterable it env v=pure v)(ht:bD (c.cx.inner sc) t=some pt)(hloc:du sc.names t=true)(sx:SX c it x)(f:Fm c U p)(h1:au c.C x U Y=some (v,Y1))(hp:dp pt v=true)(h2:cW Y1 v=some src)
  {cc:En->St->Option (Bool×St)} {ee:En->St->Option (List AV×St)} (h3:bz src.gd pt U cc ee src.items Y1=some (vs,Y2)) (hl:vs.length<=ay) (K:Addr->Env->Bd) (lp:∀ itv D env,tI f.A (.ListComp elt (⟨t,it,ifs,0⟩::rest) sc pos) 0 itv (.ref D) env t (K D env))
  (B:∀{Y':St} {q:Pt Y'} {D Ca X cl},Kt f.env sc p q D Ca X cl->oL ⟨D,compEnvC sc cl Ca f.env,c.cx.inner sc,X,src.gd,pt,U,cc,ee⟩ q (K D (compEnvC sc cl Ca f.env))) (k:q7 f.A p Y2 vs use Er Q) :
  wpAny M0 f.A (comprehension (.ListComp elt (⟨t,it,ifs,0⟩::rest) sc pos) sc f.env pos' (newList []) false (eval it f.env) use) Q Er p.s:=
 have ok:=jD hok
 (Ge ok hcx f.F).elim fun cl cls=>wpAny_comprehension_free (use:=use) rfl (nf _) cls.eq ok.kind (fun y hy hk=>dr ok.nodup (hk▸hy)) ((sx.ev f h1).go fun q1 w n1 r1=>fU f.R.handled n1 r1 h2 hp fun q2 tup itv X Sta Tn htup n2 st fr=>by
  have n12:=n1.trans n2;refine TZ (wpAny_newFunctionEnv (fun y hy e=>ok.noCell (n:=y.1) (by rw[<- e];exact hy)) nofun (fun h4 hns hsb=>?_) ok.kind)
  have hz:=Ul q2.s.heap { cls:=.type "list",dict:=none,data:=.seq ([]:List Value).toArray };have h4k:∀ b o,b<q2.s.heap.objs.size+1->(q2.s.heap.push { cls:=.type "list",dict:=none,data:=.seq ([]:List Value).toArray }).get? b=some o->h4.get? b=some o:=fun b o hb e=>(hsb.2 b (hz▸Te hb)).trans (S9 _ e);have hold:∀ b o,q2.s.heap.get? b=some o->h4.get? b=some o:=fun b o e=>h4k b o (TL (TA e)) (S9 _ e);have hD:=h4k _ _ (Uf _) (Ti q2.s.heap rfl);have aW:∀{a},q2.s.heap.objs.size<=a->q2.s.heap.get? a=none:=fun h=>TV h;rw[hz] at hns ⊢;refine q2.grow (Q:=fun s=>codeAny M0 f.A _ _ s) [q2.s.heap.objs.size,q2.s.heap.objs.size+1] hold (fun a ha=>(SW.mp ha).elim (fun e=>e▸⟨aW (SN _),_,hD⟩) fun ha=>SY.mp ha▸⟨aW (T0 _),hns.imp fun o h=>h.elim fun _ h=>h.elim fun _ h=>h.1⟩)
   (Tq.mpr ⟨fun h=>Te (Uf _) (SY.mp h),Tq.mpr ⟨Ud,.nil⟩⟩) fun q4 n4 e4 hκ _=>?_
  have kD:=hκ _ (.head _);have kC:=hκ _ (.tail _ (.head _));generalize q2.s.heap.objs.size=D at *;have n14:=n12.trans n4;have out:∀ a,a∈X++[D+1,D]->a∉p.κ:=fun a ha=>(Tg.mp ha).elim (fr a) fun ha hm=>(SW.mp ha).elim (fun e=>kC.2 (e▸(n12.kept hm).1)) fun ha=>kD.2 (SY.mp ha▸(n12.kept hm).1)
  let l:Cl:=⟨D,compEnvC sc cl (D+1) f.env,c.cx.inner sc,X,src.gd,pt,U,cc,ee⟩
  have KK:Kt f.env sc p q4 D (D+1) X cl:=⟨cls,n14,Te (Uf _),out⟩;have st4:=Tn.frame st n4 fun _ h _=>SP h Ud;have hX:∀ a,a∈X->a∉l.L/\a∉cS l.env:=fun a ha=>⟨fun hm=>(SW.mp hm).elim (fun e:a=D+1=>kC.2 (e▸Tn.sub st a ha)) fun hm=>kD.2 ((SY.mp hm:a=D)▸Tn.sub st a ha),fun hm=>(kr cls hm).elim (fun e=>kC.2 (e▸Tn.sub st a ha)) fun hm=>fr a ha (f.F.sub hm)⟩;have iq:=kx (l:=l) (R:=compPost M0 f.A Er use Q (.ref D) (D+1)) (lp itv D l.env) Tn f.R.handled (fun _=>hloc) ht (zc ht htup) (B KK) hX KK.ne ⟨⟨U,qm ok cls (f.F.nx0 n14) (e4▸hns) kC.1,fun _ _=>rfl⟩,kD.1,#[],0,e4▸hD,.nil⟩ st4 (by rw[List.nil_append];exact hl) h3 fun q5 n5 cs5=>by
   have n15:Nx [] p q5:=(n14.weak.trans n5).more fun a h hκ=>SP hκ (out a h);have oC:=out (D+1) (Tx _ (.head _));refine cs5.F.elim fun U1 F=>cs5.acc.ex.elim fun ws h=>h.elim fun n h=>?_;refine p.adopt (Q:=compPost M0 f.A Er use Q (.ref D) (D+1) (.ok .next)) q5 n15 (L:=(D+1)::p.κ) (fun a h=>(SW.mp h).elim (fun e=>e▸F.1.ownL) fun h=>(n15.kept h).1) (Tq.mpr ⟨oC,(Ts.mp p.r.nodup).2.1⟩) (fun a h=>.tail _ h) (o:=.list vs) cs5.acc.own (fun h=>(SW.mp h).elim KK.ne (out D (Tx _ (.tail _ (.head _)))))
    (fun wk=>⟨rfl,hl,ws,n,h.1,h.2.mono (aq.wk wk)⟩) fun r n6 wk hι hκ hs=>k r D (D+1) n6 ⟨(D,D),hι,rfl⟩ (hκ▸.head _) oC (hs▸F.1.ns.imp fun _ h=>h.1)
  exact codeAny_compStart_list iq (Tn.self st4 iq))
noncomputable abbrev Cc.inner(c:Cc)(sc:Scope):Cc:=⟨c.n,c.C,c.cx.inner sc,c.ok⟩
noncomputable abbrev JA(C:Calls)(x':X)(pt':ax)(xe:X)(U':En)(Y':St):Option (List AV×St):=cu (au C x' U' Y') fun u Y3=>bif dp pt' u then(cW Y3 u).bind fun s'=>bz s'.gd pt' U' (fun _ Y'=>some (true,Y')) (fun U'' Y'=>one (au C xe U'' Y')) s'.items Y3 else none
theorem EQ{Y':St}{q:Pt Y'}{D Ca:Addr}{X:List Addr}{cl:List (Str×Addr)}{gd:List (Nat×Option (List AV))}{f:Fm c U p}(K:Kt f.env sc p q D Ca X cl)(ok:cF c.cx sc)(sx':SX (c.inner sc) it' x')(se:SX (c.inner sc) elt xe)(ht':bD (c.cx.inner sc) t'=some pt')(hloc':du sc.names t'=true) :
  oL ⟨D,compEnvC sc cl Ca f.env,c.cx.inner sc,X,gd,pt,U,fun _ Y=>some (true,Y),JA c.C x' pt' xe⟩ q (Bt f.A (compEnvC sc cl Ca f.env) it' (.ListComp elt [⟨t,it,[],0⟩,⟨t',it',[],0⟩] sc pos) (.ref D)):=⟨fun{Y1 Y2 q1 U2 xs us P N} n F ha ac hz hB kk=>by
 refine aF (show JA c.C x' pt' xe U2 Y1=_ from hB) fun u Y3 h1 hB=>bj hB (fun hop hB=>ae hB fun src hs hcn=>?_) fun _ h=>nomatch h
 unfold Bt;refine(sx'.ev (c:=c.inner sc) ⟨f.A,compEnvC sc cl Ca f.env,f.R,F⟩ h1).go fun q3 w n3 r3=>fU f.R.handled n3 r3 hs hop fun q5 tup itv X' Sta Tn htup n5 st fr=>?_;have n35:=n3.trans n5
 let l:Cl:=⟨D,compEnvC sc cl Ca f.env,c.cx.inner sc,X',src.gd,pt',U2,fun _ Y=>some (true,Y),fun U Y=>one (au c.C xe U Y)⟩
 have hX:∀ a,a∈X'->a∉l.L/\a∉cS l.env:=fun a ha=>⟨fun hm=>(SW.mp hm).elim (fun e=>fr a ha (e▸F.ownL)) fun hm=>fr a ha (SY.mp hm▸ac.own),fun hm=>fr a ha (F.sub hm)⟩;have inner:=kx (l:=l) (R:=fun r s=>∃ f,r=.ok f/\P s) (BR (t:=t) (iter:=it) (iter':=it') (scope:=sc) (pos:=pos)) Tn f.R.handled (fun _=>hloc') ht' (zc ht' htup) (uw (c:=c.inner sc) rfl f.R .nil se (K.D f.F) rfl rfl) hX K.ne ⟨⟨U2,F.nx0 n35,fun _ _=>rfl⟩,ac.nx n35 nofun⟩ st hz hcn fun q6 n6 cs6=>by
  have n16:Nx [Ca,D] q1 q6:=(n35.weak.trans n6).more fun a ha hk=>(Tg.mp ha).elim (fun ha=>SP hk (fr a ha)) id;have Fo:FR q6.x f.env c.cx U:=f.F.go ((K.n.weak.trans n).trans n16.right) fun a ha hm=>K.out a ha (f.F.sub hm);exact cs6.F.elim fun U1 F1=>F1.1.ns.elim fun m hm=>⟨.next,rfl,kk q6 n16 ⟨⟨U,qm ok K.cls Fo hm.1 F1.1.ownL,fun _ _=>rfl⟩,cs6.acc⟩⟩
 exact xQ inner fun N'=>Tn.self st inner⟩
structure SG(c:Cc)(e:Expr)(sc:Scope)(it:Expr)(x:X):Prop where
 go:∀{U:En} {Y Y':St} {p:Pt Y} (f:Fm c U p) {v:AV},au c.C x U Y=some (v,Y')->∀{use:Option (Value->Sem Unit)} {pos':Pos} {E Q:Value->Shared->Prop},(∀ Y2 vs,v=.ref Y2.length->Y'=Y2++[.list vs]->q7 f.A p Y2 vs use E Q)->
  wpAny M0 f.A (comprehension e sc f.env pos' (newList []) false (eval it f.env) use) Q E p.s
variable(hcx:qZ c.cx)(hok:eu c.cx sc=true)(nf:∀ env v,foldedSetIterable it env v=pure v)(ht:bD (c.cx.inner sc) t=some pt)(hloc:du sc.names t=true)(sx:SX c it x)(se:SX (c.inner sc) elt xe)
include hcx hok nf ht hloc sx se
theorem Bb(sc':DF (c.inner sc) ifs xc):SG c (.ListComp elt [⟨t,it,ifs,0⟩] sc pos) sc it (.comp xe pt x xc):=⟨fun{U Y Y' p} f v hd {use pos' E Q} k=>aF hd fun u Y1 h1 hd=>bj hd (fun hp hd=>ae hd fun src h2 hd=>aF hd fun vs Y2 h3 hd=>cO hd fun hl e=>
 mR hcx hok nf ht hloc sx f h1 hp h2 h3 (SO hl) (fun D env=>mD f.A env ifs elt (.ref D)) (fun _ _ _=>yO) (fun K=>uw (c:=c.inner sc) rfl f.R sc' se (K.D f.F) rfl rfl) (k Y2 vs (SI Prod.fst e).symm (SI Prod.snd e).symm)) fun _ h=>nomatch h⟩
theorem x6(nf':∀ env v,foldedSetIterable it' env v=pure v)(ht':bD (c.cx.inner sc) t'=some pt')(hloc':du sc.names t'=true)(sx':SX (c.inner sc) it' x'):SG c (.ListComp elt [⟨t,it,[],0⟩,⟨t',it',[],0⟩] sc pos) sc it (.comp2 xe pt x pt' x'):=
 ⟨fun{U Y Y' p} f v hd {use pos' E Q} k=>aF hd fun u Y1 h1 hd=>bj hd (fun hp hd=>ae hd fun src h2 hd=>aF hd fun vs Y2 h3 hd=>cO hd fun hl e=>
 mR hcx hok nf ht hloc sx f h1 hp h2 h3 (SO hl) (fun D env=>Bt f.A env it' (.ListComp elt [⟨t,it,[],0⟩,⟨t',it',[],0⟩] sc pos) (.ref D)) (fun _ _ env=>yN (nf' env)) (fun K=>EQ K (jD hok) sx' se ht' hloc') (k Y2 vs (SI Prod.fst e).symm (SI Prod.snd e).symm)) fun _ h=>nomatch h⟩
omit hcx hok nf ht hloc sx se
theorem q7.go{A:Around}{a:Addr}(h:a∈p.κ){h':Heap}{P:Shared->Prop}(hs:Heap.SameBut a p.s.heap h')(k:∀ q:Pt Y,Nx [a] p q->P q.s):P { p.s with heap:=h' }:=p.turn [a] (dI h) (fun b o hb e=>(hs.2 b fun q=>hb (q▸.head _)).trans e) fun q n _ _ _=>k q n
theorem np{gens:List Comprehension}(hi:∀ env,firstIter gens env=eval it env)(ha:firstAsync gens=false)(S:SG c (.ListComp elt gens sc pos) sc it x):SX c (.ListComp elt gens sc pos) x:=.of fun{U Y Y' p} f v h=>⟨fun{E Q} g=>by
 rw[eval_ListComp,hi,ha];exact S.go f h fun Y2 vs hv hY r D Ca n e hC hp hm=>hm.imp fun m hm=>⟨hm,fun h' hs=>q7.go (A:=f.A) hC hs fun q n2=>by
  subst hv hY;exact g q _ ((n.weak.trans n2).more fun a h hk=>SP (SY.mp h▸hk) hp) (e.nx n2)⟩⟩
end
section
variable{c:Cc}{cx:Cx}{A:Around}{env:Env}{U U':En}{Y Y' Y1:St}{p:Pt Y}{v:AV}{w:Value}{pt:ax}{t e:Expr}{x:X}{pos:Pos}{Er:Value->Shared->Prop}
theorem nR{f:Expr->Option Str}(hf:∀ x p,f (.Name x p)=some x\/f (.Name x p)=none){es:List Expr}{is:List Nat}(hn:ai (dW false cx) es is):(es.filterMap f).length=es.length->es.filterMap f=es.map vS:=
 (ai.ind (P:=fun es _=>(es.filterMap f).length<=es.length/\((es.filterMap f).length=es.length->es.filterMap f=es.map vS)) ⟨SN _,fun _=>rfl⟩ (fun{e i es is} h _ ih=>by
  obtain⟨x,ps,rfl,_⟩:=h.ex;refine(hf x ps).elim (fun q=>?_) fun q=>?_
  ·rw[List.filterMap_cons_some q];exact⟨T9 ih.1,fun e=>SI (x::·) (ih.2 (Nat.succ.inj e))⟩
  ·rw[List.filterMap_cons_none q];exact⟨Nat.le_succ_of_le ih.1,fun e=>SP (e▸ih.1) (Nat.not_succ_le_self _)⟩) hn).2
theorem lm(hok:dn t e=true)(ht:bD cx t=some pt):swappedStores [t] e env=pure none\/∃ es k q,t=.Tuple es k q/\swappedStores [t] e env=pure (some (es.map vS)):=
 jP (loc:=false) (P:=fun t _=>dn t e=true->swappedStores [t] e env=pure none\/∃ es k q,t=.Tuple es k q/\swappedStores [t] e env=pure (some (es.map vS))) nofun ht (fun _ _ _ _ _ _ _=>.inl rfl) (fun es k ps is hn hok=>by
  cases e<;>first | exact .inl rfl | skip
  rename_i vs k' pos';unfold swappedStores;dsimp only
  split
  ·exact .inl rfl
  split
  ·exact .inl rfl
  generalize (es.head?.map (·.pos.line)).getD 0=line;have hfl:=nR (cx:=cx) (f:=fun | .Name id pos=>if(env.kindOf id==some .local&&pos.line==line)=true then some id else none | _=>none) (fun x p=>by dsimp only;split<;>first | exact .inl rfl | exact .inr rfl) hn
  generalize es.filterMap (fun | .Name id pos=>if(env.kindOf id==some .local&&pos.line==line)=true then some id else none | _=>none)=names at hfl
  split
  ·exact .inl rfl
  rename_i hc
  split
  ·exact .inl rfl
  rename_i hv
  split
  ·rename_i hv2;exact(T5.mp hok).elim (fun q=>SP q hv) fun q=>by rw[hv2] at q;cases q
  ·exact .inr ⟨es,k,ps,rfl,by rw[hfl (by simpa using(Bool.or_eq_false_iff.mp (Bool.eq_false_iff.mpr hc)).1)]⟩) hok
theorem kS(ht:bD cx t=some pt):(assignEach [t] env).map (·.2)=[assign t env]:=jP (loc:=false) (P:=fun t _=>(assignEach [t] env).map (·.2)=[assign t env]) nofun ht (fun _ _ _ _ _ _=>rfl) fun _ _ _ _ _=>rfl
abbrev Sx(env:Env)(cx:Cx)(U':En)(A:Around)(p:Pt Y)(m:Sem Flow):Prop:=OF (Y':=Y) (cS env) (fun q fw=>FR q.x env cx U'/\fw=.next) A p m
theorem vk(hh:A.handled=none)(hok:dn t e=true)(hnd:ax.nodup pt=true)(ht:bD cx t=some pt)(F:FR p.x env cx U)(r:V v p w)(hb:bV pt v U Y=some U'):Sx env cx U' A p (swappedStores [t] e env >>= fun sw=>assignStores env w sw [assign t env]):=⟨fun{E Q} g=>by
 refine(lm (env:=env) hok ht).elim (fun hs=>?_) fun⟨es,k,ps,et,hs⟩=>?_
 ·rw[hs];exact SF (SH (SF ((df (loc:=false) hh nofun ht F r hb).go fun q _ n F=>SH (g q _ n ⟨F,rfl⟩))))
 ·rw[hs];subst et;refine jP (loc:=false) (P:=fun t pt=>t=.Tuple es k ps->ax.nodup pt=true->bV pt v U Y=some U'->wpAny M0 A _ _ _ p.s) nofun ht (fun _ _ _ _ _ _ e=>nomatch e) (fun es' _ _ is hn e hnd hb=>?_) rfl hnd hb
  cases e
  refine(kI hh r hb).elim fun vs h=>?_;refine SF (SH (SF (TM (SF ?_))));rw[S7,hn.length];exact h.2.go fun q ws n hx=>SF ((gk (loc:=false) (dW.binds hn) (F.nx0 n) (hx.reverse) (nc (SO hnd) h.1)).go fun q2 _ n2 F2=>SH (g q2 _ (n.weak.trans n2) ⟨F2,rfl⟩))⟩
theorem Ah(hsw:swapsWithSole [t] e pos.line env=pure false)(hok:dn t e=true)(hnd:ax.nodup pt=true)(ht:bD c.cx t=some pt)(sx:SX c e x)(f:Fm c U p)(he:f.env=env){fl:Fl}(h:dS c.C (.asg pt x) U Y=some (fl,U',Y')):Au f.env c.cx f.A p (exec (.Assign [t] e pos) f.env) fl U' Y':=aF h fun v Y1 h1 h=>BL (P:=fun fl U' Y'=>Au f.env c.cx f.A p (exec (.Assign [t] e pos) f.env) fl U' Y') h fun U1 hb=>⟨fun{E Q} g=>by
 rw[exec_Assign_arm,he,hsw,kS ht,<- he];exact SF (wpAny_standAt (SF (SH (SF ((sx.v f h1).go fun q w n r=>(vk f.R.handled hok hnd ht (f.F.nx0 n) r hb).go fun q2 fw n2 k=>g q2 fw (n.weak.trans n2) ⟨k.1,k.2⟩)))))⟩
theorem Ex(hp:Ao e)(hok:dn t e=true)(hnd:ax.nodup pt=true)(ht:bD c.cx t=some pt)(sx:SX c e x):SS c (.Assign [t] e pos) (.asg pt x):=⟨fun f h=>Ah (hp.sw _ _ _) hok hnd ht sx f rfl h⟩
theorem pq{elt it:Expr}{gens:List Comprehension}{sc:Scope}{cp:Pos}(hi:∀ env,firstIter gens env=eval it env)(ha:firstAsync gens=false)(hok:dn t (.ListComp elt gens sc cp)=true)(hnd:ax.nodup pt=true)(ht:bD c.cx t=some pt)(S:SG c (.ListComp elt gens sc cp) sc it x) :
  SS c (.Assign [t] (.ListComp elt gens sc cp) pos) (.asg pt x):=⟨fun{U U' Y Y' p fl} f h=>by
 have hb:∃ b,swapsWithSole [t] (.ListComp elt gens sc cp) pos.line f.env=pure b:=jP (loc:=false) (P:=fun t _=>∃ b,swapsWithSole [t] (.ListComp elt gens sc cp) pos.line f.env=pure b) nofun ht (fun _ _ _ _ _ _=>⟨_,rfl⟩) fun _ _ _ _ _=>⟨_,rfl⟩
 obtain⟨b,hb⟩:=hb
 cases b with
 | false=>exact Ah hb hok hnd ht (np hi ha S) f rfl h
 | true=>
  refine aF h fun v Y1 h1 h=>BL (P:=fun fl U' Y'=>Au f.env c.cx f.A p (exec (.Assign [t] (.ListComp elt gens sc cp) pos) f.env) fl U' Y') h fun U1 hbp=>⟨fun{E Q} g=>?_⟩;rw[exec_Assign_arm,hb,kS ht];refine SF (wpAny_standAt (SF (SH (SF ?_))));show wpAny _ _ (comprehension _ sc f.env _ (newList []) (firstAsync gens) (firstIter gens f.env) _ >>= fun _=>pure ()) _ _ _;rw[hi,ha];refine SF (S.go (Q:=fun _ s=>wpAny M0 f.A (pure ()) (fun _ s=>wpAny M0 f.A (pure Flow.next) Q E s) E s) f (KD h1).1 fun Y2 vs hv hY r D Ca n r' hC hp hm=>?_);subst hv hY;refine(df (loc:=false) f.R.handled nofun ht (f.F.nx0 n) r' hbp).go fun q2 _ n2 F2=>?_
  have kC:=n2.keep hC fun hm=>hp (f.F.sub hm);exact hm.imp fun m hm=>⟨hm.imp fun o h=>h.imp fun es h=>h.imp fun ep h=>⟨kC.2.trans h.1,h.2⟩,fun h' hs=>q7.go (A:=f.A) kC.1 hs fun q3 n3=>SH (SH (g q3 _ ((Nx.right (X:=[Ca]) (YY:=cS f.env) (n.weak.trans n2)).trans n3.left |>.more fun a h hk=>(Tg.mp h).elim (fun h=>SP (SY.mp h▸hk) hp) id)
   ⟨F2.go n3 fun a h hm=>hp (f.F.sub (SY.mp h▸hm)),rfl⟩))⟩⟩
end
section
variable{c:Cc}{A:Around}{env:Env}{U U':En}{Y Y':St}{p:Pt Y}{u v k:AV}{w:Value}{Er:Value->Shared->Prop}{e o i:Expr}{x xo xi:X}{pos:Pos}
theorem zq{fs:List (Nat×AV)}{a:Nat}:∀{i:Nat},(fs.map (·.1)).Nodup->At fs a i->fs.findIdx? (fun e=>a==e.1)=some i:=by
 induction fs with
 | nil=>exact fun _ h=>nomatch h
 | cons e fs ih=>
  intro i nd h;rw[List.findIdx?_cons]
  cases i with
  | zero=>rw[show(a==e.1)=true from beq_iff_eq.mpr (S0 h).symm];rfl
  | succ i=>
   have nd:=jy nd;rw[show(a==e.1)=false from beq_eq_false_iff_ne.mpr fun q=>nd.1 (q▸At.mem h),ih nd.2 h];rfl
theorem FE.find{y:Hp}{fs:List (Nat×AV)}{ds:List DictEntry}{a:Nat}(ha:a<bP.length)(h:ai (FE y) fs ds):ds.findIdx? (·.key.isStr (dX a))=fs.findIdx? fun e=>a==e.1:=
 h.ind (P:=fun fs ds=>ds.findIdx? (·.key.isStr (dX a))=fs.findIdx? fun e=>a==e.1) rfl fun{e d fs ds} h _ ih=>by rw[List.findIdx?_cons,List.findIdx?_cons,h.isStr ha,ih]
theorem sT{y:Hp}{fs:List (Nat×AV)}{ds:Array DictEntry}{a m:Nat}{hsh:Int}{tk:Tok}(ha:a<bP.length)(nd:(fs.map (·.1)).Nodup)(h:ai (FE y) fs ds.toList)(rv:aq y v w) :
  ∃ ds' m',Obj.putName (dX a) hsh (.str (dX a) tk) w (bT ds m)=bT ds' m'/\ai (FE y) (aU fs a v) ds'.toList:=by
 rw[Obj.putName_eq];show ∃ ds' m',(match ds.findIdx? fun d=>d.key.isStr (dX a) with | some i=>bT (ds.modify i fun d=>{ d with val:=w }) m | none=>bT (ds.push ⟨hsh,.str (dX a) tk,w⟩) (m+1))=_/\_
 rw[show ds.findIdx? (fun d=>d.key.isStr (dX a))=ds.toList.findIdx? (fun d=>d.key.isStr (dX a)) by cases ds;exact List.findIdx?_toArray _ _,FE.find ha h]
 refine Ov (k:=a) nd (fun hn=>?_) fun i hi=>?_
 ·rw[cN hn,List.findIdx?_eq_none_iff.mpr fun e he=>beq_eq_false_iff_ne.mpr (Ne.symm (j9 hn e he))];exact⟨_,_,rfl,by rw[Uv];exact h.snoc ⟨ha,⟨tk,rfl⟩,rv⟩⟩
 ·rw[gI nd hi,zq nd hi];exact⟨_,_,rfl,by rw[Array.toList_modify];exact h.modify i fun a b _ g=>⟨g.lt,g.key,rv⟩⟩
abbrev Hn(A:Around)(p:Pt Y)(m:Sem Unit)(Y':St):Prop:=Ev (Y':=Y') (fun _ _=>True) A p m
theorem lx{a:Nat}(ha:a<27)(ru:V u p w){w':Value}(rv:V v p w')(h:Bf Y u a v=some Y'):Hn A p (setAttr w (dX a) w') Y':=
 ly ru h fun r ru h=>ae h fun q hi h=>cO h fun hl e=>ru.insE (P:=fun w=>Hn A p (setAttr w (dX a) w') Y') hi fun pr hp o=>o.ex.elim fun ds hd=>hd.elim fun m hd=>by
  subst e;have hal:a<bP.length:=TJ ha (by decide)
  have F:=p.r.pf.clss q.1 o.lt;refine⟨fun{E Q} g=>set_plain p.kin (jC o.obj.h hd.1) F.sa (osa_open (s:={ p.s with toks:=p.s.toks+1 }) p.kin (jC o.obj.h hd.1) F.plain (F.taker a ha) fun b=>?_)⟩;obtain⟨cd,hcd,hdd⟩:=any_some F.hasDict;refine SF (SH (SF (SF (wpAny_loadPart o.obj.h (SF (Looks.here (s:={ p.s with toks:=p.s.toks+1 }) (looks_clsIn p.kin hcd) ?_))))));rw[hdd];refine SH (a:=some pr.2) (SF (SH (SF ?_)));unfold nsSet;refine SF (SF (wpAny_askSetting (SH (SF (wpAny_mkText (SF (wpAny_loadPart hd.1 ?_)))))));dsimp only;have hnr:ds.toList.any (·.refKey)=false:=hd.2.ind (P:=fun _ ds=>ds.any (·.refKey)=false) rfl fun{e d es ds} h _ ih=>by rw[List.any_cons,ih,show d.refKey=false from h.key.elim fun t q=>by unfold DictEntry.refKey;rw[q]];rfl
  rw[aRefKeyMayBeTheName_at,show(!ds.any (·.key.isStr (dX a))&&ds.any (·.refKey))=false by rw[<- Array.any_toList (p:=fun e:DictEntry=>e.refKey),hnr,Bool.and_false]]
  refine wpAny_updatePart hd.1 ?_;refine(sT (m:=m) (hsh:=PyData.keyHash w0.params (dX a)) (tk:=p.s.toks+1) hal o.nodup hd.2 rv).elim fun ds' h'=>h'.elim fun m' h'=>?_;have hg:(p.s.heap.update pr.2 (Obj.putName (dX a) (PyData.keyHash w0.params (dX a)) (.str (dX a) (p.s.toks+1)) w')).get? pr.2=some (bT ds' m'):=(TF _ hd.1 (by rw[h'.1];rfl)).trans (SI some h'.1)
  refine SF (wpAny_lookBehind (o:=bT ds' m') hg (pastItsLine_dict (by rw[sizeLine_eq,show ds'.size=_ from h'.2.length.symm];exact SJ (SO hl) (by decide))) (SH ?_))
  exact p.set hp (Tv ..) (o:=.inst q.1 (aU q.2 a v)) (fun wk=>⟨o.lt,SO hl,eD o.nodup,wk.imm o.obj,ds',m',hg,h'.2.mono (FE.wk wk)⟩) fun q n=>g q () n trivial
theorem rE{nm:Str}{apos:Pos}{a:Nat}(hsw:∀ env,swapsWith e (some (.Attribute o nm apos)) pos.line env=pure false)(so:SX c o xo)(sx:SX c e x)(hn:be bP nm=some a)(ha:a<27):SS c (.Assign [.Attribute o nm apos] e pos) (.setAttr xo a x):=⟨fun{U U' Y Y' p fl} f h=>
 aF h fun v Y1 h1 h=>aF h fun u Y2 h2 h=>BL (P:=fun fl U' Y'=>Au f.env c.cx f.A p (exec (.Assign [.Attribute o nm apos] e pos) f.env) fl U' Y') h fun Y3 h3=>⟨fun{E Q} g=>by
  rw[(ew hn).2] at hsw ⊢;exact plainObj_wpAny_Assign_Attribute ((sx.v f h1).go fun q w n r=>(so.v (f.nx n) h2).go fun q2 w2 n2 r2=>(lx ha r2 (r.nx n2) h3).go fun q3 _ n3 _=>
   have n13:=(n.trans n2).trans n3
   g q3 _ n13.weak ⟨f.F.nx0 n13,rfl⟩) (hsw _)⟩⟩
theorem rL(hu:A.units+20<cLine){w' k':Value}(ru:V u p w)(rk:V k p k')(rv:V v p w')(h:x8 Y u k v=some Y'):Hn A p (setItem w k' w') Y':=
 ly ru h fun r ru h=>bu h (fun h=>ae h fun vs hr h=>ae h fun j hj h=>cO h fun hc e=>ru.lstE (P:=fun w=>Hn A p (setItem w k' w') Y') hr fun a ws m hp hl ho hx=>V.int (P:=fun k'=>Hn A p (setItem (.ref a) k' w') Y') (br hj▸rk) fun t=>by
   have hc:=SU.mp hc;have h0:=SO hc.1;have hlt:j.toNat<ws.size:=hx.size.symm▸SO hc.2;have hj:j<(ws.size:Int):=(Int.toNat_lt h0).mp hlt;subst e;exact⟨fun g=>PySem.W.ki_setAt ho h0 (Int.lt_trans (Int.lt_of_lt_of_le hj (TX.mpr (hx.size▸hl))) (by decide)) hj (p.setL hp (Tv ..) (TF _ ho rfl) (by rw[Uu];exact hl)
    (by rw[Array.toList_setIfInBounds];exact ai.set _ hx rv) fun q n=>g q () n trivial)⟩)
  fun h=>ae h fun es hr h=>cO h fun hc e=>ru.dctE (P:=fun w=>Hn A p (setItem w k' w') Y') hr fun a ds m hp hl nd ho hx=>by
   have hc:=SU.mp hc;have hT:p.s.TypeIs (.ref a) "dict":=⟨_,ho,rfl⟩;subst e;refine⟨fun{E Q} g=>?_⟩;unfold setItem;refine Td (SF (wpAny_sequenceKey hT (by decide) ?_))
   refine SF (wpAny_callSpecial?_slot (name:=Str.ofString "__setitem__") hT slot_dict_setitem (TK slot_dict_setitem hT entry_dict_setitem ?_ (args_dict_setitem _ _ _)));show wpAny _ _ (Builtin.Dict.notOrdered "__setitem__" ⟨[.ref a,k',w'],[]⟩ >>= _) _ _ p.s;refine SF (UB hT ?_);show wpAny _ _ (dictSet a k' w' >>= _) _ _ p.s;exact SF ((sV p hp (Tj (show A.units+1+6<=A.units+20 from Tw (by decide:1+6<=20) A.units) hu) ho hx nd hc.1 rk rv hl (SO hc.2)).go fun q _ n _=>SH ⟨.none,rfl,SH (g q () n trivial)⟩)
theorem vm{spos:Pos}(hsw:∀ env,swapsWith e (some (.Subscript o i spos)) pos.line env=pure false)(so:SX c o xo)(si:SX c i xi)(sx:SX c e x):SS c (.Assign [.Subscript o i spos] e pos) (.setSub xo xi x):=⟨fun{U U' Y Y' p fl} f h=>
 aF h fun v Y1 h1 h=>aF h fun u Y2 h2 h=>aF h fun k Y3 h3 h=>BL (P:=fun fl U' Y'=>Au f.env c.cx f.A p (exec (.Assign [.Subscript o i spos] e pos) f.env) fl U' Y') h fun Y4 h4=>⟨fun{E Q} g=>
  wpAny_Assign_Subscript ((sx.v f h1).go fun q w n r=>(so.v (f.nx n) h2).go fun q2 w2 n2 r2=>(si.v ((f.nx n).nx n2) h3).go fun q3 w3 n3 r3=>(rL (Tj (show f.A.units+20<=f.A.units+90 from Tw (by decide) _) f.R.six) (r2.nx n3) r3 ((r.nx n2).nx n3) h4).go fun q4 _ n4 _=>
   have n14:=((n.trans n2).trans n3).trans n4
   g q4 _ n14.weak ⟨f.F.nx0 n14,rfl⟩) (hsw _)⟩⟩
end
noncomputable abbrev Cc.on(c:Cc)(cx:Cx):Cc:=⟨c.n,c.C,cx,c.ok⟩
structure WX(c:Cc)(e:Expr)(x:X):Prop where
 sx:SX c e x
 st:ST c e x
 nf:∀ env v,foldedSetIterable e env v=pure v
 nm:∀ op,behindInMarks op e=false
 ns:∀ o k,subscripted e false o k=operate [o,k] (getItem o k)
 su:Ao e\/∃ elt gens sc cp it,e=.ListComp elt gens sc cp/\(∀ env,firstIter gens env=eval it env)/\firstAsync gens=false/\SG c (.ListComp elt gens sc cp) sc it x
def Gd(c:Cc)(e:Expr):Prop:=∀ ⦃cx:Cx⦄ ⦃x:X⦄,qZ cx->tr TB cx e=some x->WX (c.on cx) e x
section
variable{c:Cc}{cx:Cx}{x:X}{e:Expr}{p:Pos}
theorem WX.of(sx:SX c e x)(he:∀ env whole,isTrue e env whole=(do let v <- whole;standAt e.pos;holding [v] (truthy v)))(nf:∀ env v,foldedSetIterable e env v=pure v:=by intros;rfl)(nm:∀ op,behindInMarks op e=false:=by intros;rfl)
  (ns:∀ o k,subscripted e false o k=operate [o,k] (getItem o k):=by intros;rfl) (su:∀ t l env,swapsWith e t l env=pure false:=by intros;rfl):WX c e x:=⟨sx,pk sx he,nf,nm,ns,.inl ⟨su⟩⟩
theorem WX.of'(sx:SX c e x)(st:ST c e x)(nf:∀ env v,foldedSetIterable e env v=pure v:=by intros;rfl)(nm:∀ op,behindInMarks op e=false:=by intros;rfl)
  (ns:∀ o k,subscripted e false o k=operate [o,k] (getItem o k):=by intros;rfl) (su:∀ t l env,swapsWith e t l env=pure false:=by intros;rfl):WX c e x:=⟨sx,st,nf,nm,ns,.inl ⟨su⟩⟩
theorem dF(hc:qZ cx){es:List Expr}:∀{xs:List X},(∀ e∈es,Gd c e)->vd TB cx es=some xs->ai (WX (c.on cx)) es xs:=by
 induction es with
 | nil=>exact fun _ h=>S0 h▸.nil
 | cons e es ih=>exact fun g h=>ae h fun a h1 h=>aI h fun as h2 e=>e▸.cons (g _ (.head _) hc h1) (ih (fun e he=>g e (.tail _ he)) h2)
theorem WX.sxs{es:List Expr}{xs:List X}(h:ai (WX c) es xs):oN c es xs:=h.mono WX.sx
theorem WX.sts{es:List Expr}{xs:List X}(h:ai (WX c) es xs):DF c es xs:=h.ind (P:=DF c) .nil fun h _ t=>.cons h.st t
theorem rz{y:Str}{q:Pos}{es:List Expr}{xs:List X}(hg:dz (c.cx.sc.lookup y)=true)(sx:oN c es xs)(h:g9 TB y xs=some x):SX c (.Call (.Name y q) es [] p) x:=by
 have hnd:∀{t:List String} {i:Nat},(∀ u∈t,(Str.ofString u==("__debug__":Str))=false)->be t y=some i->(y==("__debug__":Str))=false:=fun hu e=>(ci e).elim fun u h=>h.2.1▸hu u (Tm h.1);have hs:=oW h;unfold g9 at h
 cases hb:mS y with
 | some b=>
  rw[hb] at h
  cases h
  exact Ef hs hg hb (kH hb▸by cases b<;>decide +kernel) sx
 | none=>
  rw[hb] at h
  cases hf:be TB.fns y with
  | some f=>rw[hf] at h;cases h;exact AS hs hg hf (hnd (by decide +kernel) hf) sx
  | none=>rw[hf] at h;exact aI h fun k hk e=>e▸D8 hs hg hk (hnd (by decide +kernel) hk) sx
theorem AD{k:Const}{n:Nat}(h:OM k=some x):WX c (.Constant k n p) x:=by
 cases k with
 | none=>cases h;exact .of AN fun _ _=>rfl
 | bool b=>cases h;exact .of AT fun _ _=>rfl
 | int i=>cases h;exact .of Ec fun _ _=>rfl
 | str s=>exact aI h fun i hi e=>e▸.of (DZ hi) fun _ _=>rfl
 | _=>exact nomatch(show none=some x from h)
theorem DN{y:Str}(h:xB TB c.cx y=some x):WX c (.Name y p) x:=
 bj h (fun _ h=>nomatch h) fun hd h=>bj h (fun ho h=>aI h fun i hi e=>e▸.of (xN hd ho hi) fun _ _=>rfl) fun _ h=>
  bj h (fun hg h=>aI h fun i hi e=>e▸.of (AQ hd hg hi) fun _ _=>rfl) fun _ h=>nomatch h
theorem DS{nm:Str}(g:Gd c e):Gd c (.Attribute e nm p):=fun cx x hc h=>ae h fun a h1 h=>ae h fun k h2 h=>cO h fun hk e=>e▸.of (AU (g hc h1).sx h2 (SO hk)) fun _ _=>rfl
theorem ve{i:Expr}{k:Sl}(h:HR i=some k):∃ l u st q,i=.Slice l u st q/\f8 l u st=some k:=by
 exact vw (C:=fun i=>∃ l u st q,i=.Slice l u st q/\f8 l u st=some k) h bZ (fun _ _=>bZ) (fun _ _ _=>bZ) (fun _ _ _=>bZ) (fun _ _ _=>bZ) (fun _ _ _ _ h=>⟨_,_,_,_,rfl,h⟩) (fun _ _ _=>bZ) (fun _ _ _=>bZ) bZ
theorem Hz{i:Expr}(g:Gd c e)(g2:Gd c i):Gd c (.Subscript e i p):=fun cx x hc h=>ae h fun a h1 h=>bu h (fun h=>aI h fun k hk e=>by
   obtain⟨l,u,st,q,rfl,h3⟩:=ve hk;exact e▸.of (D6 h3 (g hc h1).sx) fun _ _=>rfl)
  fun h=>aI h fun b h2 e=>e▸.of (DY (g2 hc h2).ns (g hc h1).sx (g2 hc h2).sx) fun _ _=>rfl
theorem KW{op:UnaryOp}(g:Gd c e):Gd c (.UnaryOp op e p):=fun cx x hc h=>ae h fun a h1 h=>match op,h with
 | .USub,h=>by cases h;exact .of (D9 (g hc h1).sx) fun _ _=>rfl
 | .Not,h=>by cases h;exact .of' (D7 (g hc h1).sx) (El (g hc h1).st)
theorem HF{op:Operator}{l r:Expr}(g:Gd c l)(g2:Gd c r):Gd c (.BinOp l op r p):=fun cx x hc h=>
 ae h fun a h1 h=>ae h fun o h2 h=>aI h fun b h3 e=>e▸.of (Eg h2 (g hc h1).sx (g2 hc h3).sx) fun _ _=>rfl
theorem uc{R:Expr->X->Prop}{b:X}:∀{es:List Expr},ai R es [b]->∃ r,es=[r]/\R r b
 | [_],h=>h.elim fun _ h=>h.elim fun _ h=>by cases h.1;exact⟨_,rfl,h.2.1⟩
 | _::_::_,h=>h.elim fun _ h=>h.elim fun _ h=>by cases h.1;exact h.2.2.elim fun _ h=>h.elim fun _ h=>nomatch h.1
theorem xw{R:Expr->X->Prop}{b d:X}:∀{es:List Expr},ai R es [b,d]->∃ r s,es=[r,s]/\R r b/\R s d
 | e::es,h=>h.elim fun _ h=>h.elim fun _ h=>by cases h.1;exact(uc h.2.2).elim fun r g=>⟨e,r,SI _ g.1,h.2.1,g.2⟩
theorem HE{l:Expr}{ops:List CmpOp}{rs:List Expr}(g:Gd c l)(g2:∀ e∈rs,Gd c e):Gd c (.Compare l ops rs p):=fun cx x hc h=>ae h fun a h1 h=>ae h fun bs h2 h=>
 have w1:=g hc h1;have w:=dF hc g2 h2
 bu h (fun h=>gW h fun op ho h=>gW h fun b hb h=>aI h fun o h4 e=>(uc (hb▸w)).elim fun r w=>by
   subst ho e;rw[w.1];exact .of' (Ee h4 (w.2.nm _) w1.sx w.2.sx) (Eo h4 (w.2.nm _) w1.sx w.2.sx))
  fun h=>kU h fun op op' ho h=>kU h fun b d hb h=>ae h fun o h4 h=>aI h fun o' h5 e=>(xw (hb▸w)).elim fun r w=>w.elim fun s w=>by
   subst ho e;rw[w.1];exact .of' (AR h4 h5 (w.2.2.nm _) w1.sx w.2.1.sx w.2.2.sx) (A3 h4 h5 (w.2.2.nm _) w1.sx w.2.1.sx w.2.2.sx)
theorem DR{op:BoolOp}{es:List Expr}(g:∀ e∈es,Gd c e):Gd c (.BoolOp op es p):=fun cx x hc h=>ae h fun bs h2 h=>kU h fun a b hb h=>(xw (hb▸dF hc g h2)).elim fun r w=>w.elim fun s w=>by
 rw[w.1]
 cases op with
 | And=>cases h;exact .of' (Eh w.2.1.sx w.2.2.sx) (Ep w.2.1.st w.2.2.st)
 | Or=>cases h;exact .of' (HV w.2.1.sx w.2.2.sx) (HX w.2.1.st w.2.2.st)
theorem HC{d a b:Expr}(g:Gd c d)(g1:Gd c a)(g2:Gd c b):Gd c (.IfExp d a b p):=fun cx x hc h=>
 ae h fun d h1 h=>ae h fun a h2 h=>aI h fun b h3 e=>e▸.of' (Eb (g hc h1).st (g1 hc h2).sx (g2 hc h3).sx) (Em (g hc h1).st (g1 hc h2).st (g2 hc h3).st)
theorem HD{ks:List (Option Expr)}{vs:List Expr}(g:∀ e∈vs,Gd c e):Gd c (.Dict ks vs p):=fun cx x hc h=>
 ae h fun k h1 h=>ae h fun v h2 h=>cO h fun hl e=>have w:=dF hc g h2;e▸.of (Ed h1 ((SO hl).trans w.length.symm) (WX.sxs w)) fun _ _=>rfl
theorem Hy{es:List Expr}{k:Nat}(g:∀ e∈es,Gd c e):Gd c (.Tuple es k p):=fun cx x hc h=>aI h fun a h1 e=>e▸.of (DX (WX.sxs (dF hc g h1)).sxs) fun _ _=>rfl
theorem HB{es:List Expr}(g:∀ e∈es,Gd c e):Gd c (.List es p):=fun cx x hc h=>aI h fun a h1 e=>e▸.of (Ea (WX.sxs (dF hc g h1)).sxs) fun _ _=>rfl
theorem AF{y:Str}{q:Pos}{es:List Expr}(g:∀ e∈es,Gd c e):Gd c (.Call (.Name y q) es [] p):=fun cx x hc h=>
 bj (x:=(vd TB cx es).bind (g9 TB y)) (y:=none) h (fun hg h=>ae h fun as h1 h=>.of (rz (c:=c.on cx) hg (WX.sxs (dF hc g h1)) h) fun _ _=>rfl) fun _ h=>nomatch h
theorem AG{o:Expr}{m:Str}{ap:Pos}{es:List Expr}(go:Gd c o)(g:∀ e∈es,Gd c e):Gd c (.Call (.Attribute o m ap) es [] p):=fun cx x hc h=>
 bj (c:=decide (ap.endLine=p.line)&&decide (es.length<30)) (x:=(tr TB cx o).bind fun a=>(be bP m).bind fun k=>(vd TB cx es).map (X.meth a k)) (y:=none) h (fun hg h=>ae h fun a h1 h=>ae h fun k h2 h=>aI h fun as h3 e=>e▸
  .of (AP (SO (SU.mp hg).1) (SO (SU.mp hg).2) h2 (go hc h1).sx (WX.sxs (dF hc g h3))) fun _ _=>rfl) fun _ h=>nomatch h
theorem WX.comp{elt it:Expr}{gens:List Comprehension}{sc:Scope}(hi:∀ env,firstIter gens env=eval it env)(ha:firstAsync gens=false)(S:SG c (.ListComp elt gens sc p) sc it x):WX c (.ListComp elt gens sc p) x:=
 ⟨np hi ha S,pk (np hi ha S) (by intros;rfl),by intros;rfl,by intros;rfl,by intros;rfl,.inr ⟨_,_,_,_,it,rfl,hi,ha,S⟩⟩
theorem DO{t it:Expr}{cs:List Expr}{z:Int}{sc:Scope}(ge:Gd c e)(gi:Gd c it)(gc:∀ e∈cs,Gd c e):Gd c (.ListComp e [⟨t,it,cs,z⟩] sc p):=fun cx x hc h=>
 bj (c:=decide (z=0)&&(eu cx sc&&du sc.names t)) (x:=(tr TB cx it).bind fun i=>(bD (cx.inner sc) t).bind fun p=>(vd TB (cx.inner sc) cs).bind fun c=>(tr TB (cx.inner sc) e).map fun a=>X.comp a p i c) (y:=none) h (fun hg h=>ae h fun i h1 h=>ae h fun q h2 h=>ae h fun d h3 h=>aI h fun a h4 e=>by
  have k0:=SU.mp hg;have hz:=SO k0.1;have k1:=SU.mp k0.2;subst e hz;have hc':=ql (jD k1.1);exact .comp (fun _=>rfl) rfl (Bb hc k1.1 (gi hc h1).nf h2 k1.2 (gi hc h1).sx (ge hc' h4).sx (WX.sts (dF hc' gc h3)))) fun _ h=>nomatch h
theorem AE{t it t' it':Expr}{cs cs':List Expr}{z z':Int}{sc:Scope}(ge:Gd c e)(gi:Gd c it)(gi':Gd c it'):Gd c (.ListComp e [⟨t,it,cs,z⟩,⟨t',it',cs',z'⟩] sc p):=fun cx x hc h=>
 bj (c:=decide (z=0)&&decide (z'=0)&&cs.isEmpty&&cs'.isEmpty&&(eu cx sc&&du sc.names t&&du sc.names t')) (x:=(tr TB cx it).bind fun i=>(bD (cx.inner sc) t).bind fun p=>(tr TB (cx.inner sc) it').bind fun i'=>(bD (cx.inner sc) t').bind fun p'=>(tr TB (cx.inner sc) e).map fun a=>X.comp2 a p i p' i') (y:=none) h (fun hg h=>ae h fun i h1 h=>ae h fun q h2 h=>ae h fun i' h3 h=>ae h fun q' h4 h=>aI h fun a h5 e=>by
  have h9:=SU.mp hg;have h6:=SU.mp h9.1;have h7:=SU.mp h6.1;have h8:=SU.mp h7.1;have hl:=SU.mp h9.2;have hk:=SU.mp hl.1;have z1:=SO h8.1;have z2:=SO h8.2;have e1:=List.isEmpty_iff.mp h6.2;have e2:=List.isEmpty_iff.mp h7.2;subst e z1 z2 e1 e2;have hc':=ql (jD hk.1);exact .comp (fun _=>rfl) rfl (x6 hc hk.1 (gi hc h1).nf h2 hk.2 (gi hc h1).sx (ge hc' h5).sx (gi' hc' h3).nf h4 hl.2 (gi' hc' h3).sx)) fun _ h=>nomatch h
def GO(c:Cc)(e:Expr):Prop:=Bg True (fun _=>True) (fun _=>True) (fun _=>True) (fun _ _=>True) (fun _ _ _=>True) (fun o _=>Gd c o) (fun _ _=>True) True e
set_option smartUnfolding false in
theorem DQ{f:Expr}{es:List Expr}{kws:List Keyword}(go:GO c f)(g:∀ e∈es,Gd c e):Gd c (.Call f es kws p):=fun cx x hc h=>by
 cases kws with
 | cons a b=>exact nomatch(show none=some x from h)
 | nil=>
  cases f with
  | Name y q=>exact AF g hc h
  | Attribute o m ap=>exact AG go g hc h
  | _=>exact nomatch(show none=some x from h)
def GG(c:Cc)(g:Comprehension):Prop:=Gd c g.iter/\∀ e∈g.ifs,Gd c e
theorem KY{gs:List Comprehension}{sc:Scope}(ge:Gd c e)(gg:∀ g∈gs,GG c g):Gd c (.ListComp e gs sc p):=fun cx x hc h=>by
 match gs,gg,h with
 | [⟨t,it,cs,z⟩],gg,h=>exact DO ge (gg _ (.head _)).1 (gg _ (.head _)).2 hc h
 | [⟨t,it,cs,z⟩,⟨t',it',cs',z'⟩],gg,h=>exact AE ge (gg _ (.head _)).1 (gg _ (.tail _ (.head _))).1 hc h
 | [],_,h=>exact nomatch(show none=some x from h)
 | ⟨_,_,_,_⟩::⟨_,_,_,_⟩::_::_,_,h=>exact nomatch(show none=some x from h)
end
theorem ND{c:Cc}{e:Expr}(h:∀ cx,tr TB cx e=none):Gd c e:=fun cx x _ q=>nomatch(h cx).symm.trans q
mutual
theorem bY(c:Cc):∀ e:Expr,Gd c e/\GO c e
 | .Constant ..=>⟨fun _ _ _ h=>AD h,trivial⟩
 | .Name ..=>⟨fun _ _ _ h=>DN h,trivial⟩
 | .Attribute e _ _=>⟨DS (bY c e).1,(bY c e).1⟩
 | .Subscript e i _=>⟨Hz (bY c e).1 (bY c i).1,trivial⟩
 | .UnaryOp _ e _=>⟨KW (bY c e).1,trivial⟩
 | .BinOp l _ r _=>⟨HF (bY c l).1 (bY c r).1,trivial⟩
 | .Compare l _ rs _=>⟨HE (bY c l).1 (cR c rs),trivial⟩
 | .BoolOp _ es _=>⟨DR (cR c es),trivial⟩
 | .IfExp d a b _=>⟨HC (bY c d).1 (bY c a).1 (bY c b).1,trivial⟩
 | .Tuple es _ _=>⟨Hy (cR c es),trivial⟩
 | .List es _=>⟨HB (cR c es),trivial⟩
 | .Dict _ vs _=>⟨HD (cR c vs),trivial⟩
 | .Call f es kws _=>⟨DQ (bY c f).2 (cR c es),trivial⟩
 | .ListComp e gs sc _=>⟨KY (bY c e).1 (qr c gs),trivial⟩
 | .NamedExpr .. | .Lambda .. | .Set .. | .SetComp .. | .DictComp .. | .GeneratorExp .. | .Await .. | .Yield .. | .YieldFrom .. | .FormattedValue .. | .JoinedStr .. | .Starred .. | .Slice ..=>⟨ND fun _=>rfl,trivial⟩
theorem cR(c:Cc):∀ es:List Expr,∀ e∈es,Gd c e
 | [],_,h=>nomatch h
 | e::es,e',h=>(SW.mp h).elim (fun h=>h▸(bY c e).1) (cR c es e')
theorem qr(c:Cc):∀ gs:List Comprehension,∀ g∈gs,GG c g
 | [],_,h=>nomatch h
 | g::gs,g',h=>(SW.mp h).elim (fun h=>h▸Ck c g) (qr c gs g')
theorem Ck(c:Cc):∀ g:Comprehension,GG c g
 | ⟨_,it,cs,_⟩=>⟨(bY c it).1,cR c cs⟩
end
section
variable{c:Cc}{x:S}{p:Pos}(hc:qZ c.cx)
include hc
theorem bC{e:Expr}{x:X}(h:tr TB c.cx e=some x):WX c e x:=(bY c e).1 hc h
def GS(c:Cc)(st:Stmt):Prop:=∀ ⦃x:S⦄,K9 TB c.cx st=some x->SS c st x
omit hc in
theorem JM{sts:List Stmt}(g:∀ st∈sts,GS c st){xs:List S}(h:trSs TB c.cx sts=some xs):Ax c sts xs:=by
 induction sts generalizing xs with
 | nil=>cases h;exact Et
 | cons st sts ih=>exact ae h fun a h1 h=>aI h fun as h2 e=>e▸A5 (g _ (.head _) h1) (ih (fun s hs=>g s (.tail _ hs)) h2)
omit hc in
theorem WX.tgt{e t:Expr}{b:X}(w:WX c e b)(ht:∀ elt gens sc cp env,swapsWith (.ListComp elt gens sc cp) (some t) p.line env=pure false)(env:Env):swapsWith e (some t) p.line env=pure false:=w.su.elim (fun h=>h.sw _ _ _) fun h=>h.elim fun _ h=>h.elim fun _ h=>h.elim fun _ h=>h.elim fun _ h=>h.elim fun _ h=>h.1▸ht _ _ _ _ _
theorem Il{e t:Expr}{b:X}(w:WX c e b)(h:C3 TB c.cx t b=some x):SS c (.Assign [t] e p) x:=by
 exact vw (C:=fun t=>SS c (.Assign [t] e p) x) h bZ (fun _ _=>bZ) (fun _ _ _=>bZ) (fun _ _ _=>bZ) (fun _ _ _=>bZ) (fun _ _ _ _=>bZ) (fun o nm q h=>ae h fun a h2 h=>ae h fun k h3 h=>cO h fun hk e=>e▸rE (w.tgt fun _ _ _ _ _=>rfl) (bC hc h2).sx w.sx h3 (SO hk)) (fun o i q h=>ae h fun a h2 h=>aI h fun k h3 e=>e▸vm (w.tgt fun _ _ _ _ _=>rfl) (bC hc h2).sx (bC hc h3).sx w.sx) bZ
theorem Ir{ts:List Expr}{e:Expr}:GS c (.Assign ts e p):=fun x h=>gW h fun t et h=>ae h fun b h1 h=>et▸bu h (Il hc (bC hc h1)) fun h=>bj h (fun hok h=>ae h fun q h2 h=>cO h fun hn hx=>hx▸
 (bC hc h1).su.elim (fun hp=>Ex hp hok hn h2 (bC hc h1).sx) fun h=>h.elim fun _ h=>h.elim fun _ h=>h.elim fun _ h=>h.elim fun _ h=>h.elim fun _ h=>h.1▸pq h.2.1 h.2.2.1 (h.1▸hok) hn h2 h.2.2.2) fun _ h=>nomatch h
theorem EG{v:Option Expr}:GS c (.Return v p):=fun x h=>match v,h with
 | none,h=>by cases h;exact rF
 | some e,h=>aI h fun a h1 e=>e▸Es (bC hc h1).sx
theorem Bi{d:Expr}{b z:List Stmt}(g:∀ st∈b,GS c st):GS c (.While d b z p):=fun x h=>match z,h with
 | [],h=>ae h fun a h1 h=>aI h fun as h2 e=>e▸xV (bC hc h1).st (JM g h2)
theorem Iq{t it:Expr}{b z:List Stmt}(g:∀ st∈b,GS c st):GS c (.For t it b z p):=fun x h=>match z,h with
 | [],h=>ae h fun a h1 h=>ae h fun i h2 h=>aI h fun as h3 e=>e▸Ew h1 (bC hc h2).nf (bC hc h2).sx (JM g h3)
omit hc in
theorem NE{st:Stmt}(h:K9 TB c.cx st=none):GS c st:=fun x q=>nomatch h.symm.trans q
mutual
theorem AJ:∀ st:Stmt,GS c st
 | .Expr e _=>fun _ h=>bj h (fun hn h=>aI h fun a h1 e=>e▸A4 ((bC hc h1).su.resolve_right fun h=>h.elim fun _ h=>h.elim fun _ h=>h.elim fun _ h=>h.elim fun _ h=>h.elim fun _ h=>Tp (h.1▸hn:uk (.ListComp ..)=true)) (bC hc h1).sx) fun _ h=>nomatch h
 | .Return ..=>EG hc
 | .Assign ..=>Ir hc
 | .If d a b _=>fun _ h=>ae h fun c h1 h=>ae h fun a' h2 h=>aI h fun b' h3 e=>e▸Eu (bC hc h1).st (JM (dZ a) h2) (JM (dZ b) h3)
 | .While _ b _ _=>Bi hc (dZ b)
 | .For _ _ b _ _=>Iq hc (dZ b)
 | .Raise ..=>fun _ h=>by cases h;exact xW
 | .FunctionDef .. | .AsyncFunctionDef .. | .ClassDef .. | .Delete .. | .TypeAlias .. | .AugAssign .. | .AnnAssign .. | .AsyncFor .. | .With .. | .AsyncWith .. | .Match .. | .Try .. | .TryStar .. | .Assert .. | .Import .. | .ImportFrom .. | .Global .. | .Nonlocal .. | .Pass .. | .Break .. | .Continue ..=>NE rfl
theorem dZ:∀ sts:List Stmt,∀ st∈sts,GS c st
 | [],_,h=>nomatch h
 | s::sts,s',h=>(SW.mp h).elim (fun h=>h▸AJ s) (dZ sts s')
end
theorem ry{sts:List Stmt}{xs:List S}(h:trSs TB c.cx sts=some xs):Ax c sts xs:=JM (dZ hc sts) h
end
section
variable{kindOf:Str->Option NameKind}{x:Str}{w:Value}
theorem qI{ns:List Str}:∀{ws:List Value} {m:Str->Option Value},x∉ns->bindL kindOf (ns.zip ws) m x=m x:=by
 induction ns with
 | nil=>exact fun _=>rfl
 | cons y ns ih=>
  refine @fun ws m h=>?_
  cases ws with
  | nil=>rfl
  | cons w ws=>exact(ih (m:=if kindOf y=some .local then fun z=>if z=y then some w else m z else m) fun q=>h (.tail _ q)).trans ((Tu (kindOf y=some .local)).elim (fun q=>(congrFun (SQ q) x).trans (SL fun q:x=y=>h (q▸.head _))) fun q=>congrFun (SL q) x)
theorem qJ{ns:List Str}:∀{ws:List Value} {m:Str->Option Value},x∉ns->bindC kindOf (ns.zip ws) m x=m x:=by
 induction ns with
 | nil=>exact fun _=>rfl
 | cons y ns ih=>
  refine @fun ws m h=>?_
  cases ws with
  | nil=>rfl
  | cons w ws=>exact(ih (m:=if kindOf y=some .local then m else fun z=>if z=y then some w else m z) fun q=>h (.tail _ q)).trans ((Tu (kindOf y=some .local)).elim (fun q=>congrFun (SQ q) x) fun q=>(congrFun (SL q) x).trans (SL fun q:x=y=>h (q▸.head _)))
theorem z7(hk:kindOf x=some .local){ns:List Str}:∀{ws:List Value} {m:Str->Option Value} {i:Nat},ns.Nodup->ns[i]?=some x->ws[i]?=some w->bindL kindOf (ns.zip ws) m x=some w:=by
 induction ns with
 | nil=>exact fun _ h=>bZ h
 | cons y ns ih=>
  refine @fun ws m i hn h1 h2=>?_
  cases ws with
  | nil=>exact bZ h2
  | cons u ws=>
   cases i with
   | zero=>
    have e:y=x:=S0 h1;exact(qI (m:=if kindOf y=some .local then fun z=>if z=y then some u else m z else m) (e▸(Tq.mp hn).1)).trans ((congrFun (SQ (e▸hk)) x).trans ((SQ e.symm).trans h2))
   | succ i=>exact ih (m:=if kindOf y=some .local then fun z=>if z=y then some u else m z else m) (Tq.mp hn).2 h1 h2
theorem z8(hk:¬kindOf x=some .local){ns:List Str}:∀{ws:List Value} {m:Str->Option Value} {i:Nat},ns.Nodup->ns[i]?=some x->ws[i]?=some w->bindC kindOf (ns.zip ws) m x=some w:=by
 induction ns with
 | nil=>exact fun _ h=>bZ h
 | cons y ns ih=>
  refine @fun ws m i hn h1 h2=>?_
  cases ws with
  | nil=>exact bZ h2
  | cons u ws=>
   cases i with
   | zero=>
    have e:y=x:=S0 h1;exact(qJ (m:=if kindOf y=some .local then m else fun z=>if z=y then some u else m z) (e▸(Tq.mp hn).1)).trans ((congrFun (SL (e▸hk)) x).trans ((SQ e.symm).trans h2))
   | succ i=>exact ih (m:=if kindOf y=some .local then m else fun z=>if z=y then some u else m z) (Tq.mp hn).2 h1 h2
theorem Gf{p:Str×NameKind}{ns:List (Str×NameKind)}{n:Nat}{acc:List (Str×Addr)}(h:p.2=.cell):cellsFrom n (p::ns) acc=cellsFrom (n+1) ns ((p.1,n)::acc):=SQ (beq_iff_eq.mpr h)
theorem Gg{p:Str×NameKind}{ns:List (Str×NameKind)}{n:Nat}{acc:List (Str×Addr)}(h:p.2≠.cell):cellsFrom n (p::ns) acc=cellsFrom n ns acc:=SL fun e=>h (eq_of_beq e)
theorem fF{ns:List (Str×NameKind)}:∀{n:Nat} {acc:List (Str×Addr)},((x,NameKind.cell)∈ns\/∃ c,(x,c)∈acc)->∃ c,(x,c)∈cellsFrom n ns acc:=by
 induction ns with
 | nil=>exact fun h=>h.elim (fun h=>SP h Ud) id
 | cons p ns ih=>
  refine @fun n acc h=>(Tu (p.2=.cell)).elim (fun hk=>?_) fun hk=>?_
  ·rw[Gf hk];exact ih (h.elim (fun h=>(SW.mp h).elim (fun e=>.inr ⟨n,SI Prod.fst e▸.head _⟩) .inl) fun h=>.inr (h.imp fun _ h=>.tail _ h))
  ·rw[Gg hk];exact ih (h.imp (fun h=>(SW.mp h).elim (fun e=>SP (SI Prod.snd e).symm hk) id) id)
end
theorem yE:∀{b:Bool},(!b)=true->b=false
 | false,_=>rfl
structure mZ(sc:Scope):Prop where
 kind:sc.kind=.function
 gen:sc.isGenerator=false
 co:sc.isCoroutine=false
 nodup:(sc.names.map (·.1)).Nodup
 all:∀{x k},(x,k)∈sc.names->k=.local\/k=.globalImplicit\/k=.cell
theorem JY{sc:Scope}(h:yv sc=true):mZ sc:=
 have h1:=SU.mp h;have h2:=SU.mp h1.1;have h3:=SU.mp h2.1;have h4:=SU.mp h3.1
 ⟨SO h4.1,yE h4.2,yE h3.2,SO h2.2,fun{x k} hm=>(T5.mp (Uw.mp h1.2 (x,k) hm)).elim (fun e=>(T5.mp e).imp SO fun e=>.inl (SO e)) fun e=>.inr (.inr (SO e))⟩
section
variable{sc:Scope}{n:Str}{i k:Nat}{Y Y':St}{p:Pt Y}{A:Around}
theorem qc(h:(n,.local)∈sc.names\/(n,.cell)∈sc.names):n∈aM sc.names:=h.elim (fun h=>Ta.mpr ⟨_,TS.mpr ⟨h,rfl⟩,rfl⟩) fun h=>Ta.mpr ⟨_,TS.mpr ⟨h,rfl⟩,rfl⟩
theorem mZ.own(ok:mZ sc)(h:n∈aM sc.names):sc.names.lookup n=some .local\/sc.names.lookup n=some .cell:=(Ta.mp h).elim fun q h=>by
 obtain⟨⟨m,k⟩,h⟩:∃ r,r=q:=⟨q,rfl⟩;subst h;have hm:=TS.mp h.1
 cases(show m=n from h.2)
 exact(T5.mp hm.2).imp (fun e=>by cases eq_of_beq e;exact dr ok.nodup hm.1) fun e=>by cases eq_of_beq e;exact dr ok.nodup hm.1
theorem mZ.free(ok:mZ sc)(h:sc.names.lookup n=some .free):False:=(ok.all (aE h)).elim (fun e=>nomatch e) fun e=>e.elim (fun e=>nomatch e) fun e=>nomatch e
theorem oj(h:(i5 sc).sl.lookup n=some i):(aM sc.names)[i]?=some n:=(pA h).elim fun j g=>by rw[g.1,T7];exact g.2
theorem FY:qZ (i5 sc):=fun x hx=>by
 cases h:(i5 sc).sl.lookup x with
 | some i=>exact⟨i,rfl⟩
 | none=>exact SP (qc (.inr (aE hx))) (jS h)
theorem FZ{a:Addr}{vs:List AV}{ws:List Value}{fd:FuncData}{s1:Shared}{Q:Shared->Prop}(ok:mZ fd.scope)(hg:fd.globals=mainGlobals)(hb:fd.builtins=builtinsNs)(hk:k<=(aM fd.scope.names).length)(hvl:vs.length=k)(e:VL vs p ws)
  (x:InCallC p.s (callEnvC fd p.s.heap.objs.size a).locals (bindL (callEnvC fd p.s.heap.objs.size a).kindOf (((aM fd.scope.names).take k).zip ws) fun _=>none) (callEnvC fd p.s.heap.objs.size a).cells (bindC (callEnvC fd p.s.heap.objs.size a).kindOf (((aM fd.scope.names).take k).zip ws) fun _=>none) s1)
  (g:∀ q:Pt Y,Nx [] p q->FR q.x (callEnvC fd p.s.heap.objs.size a) (i5 fd.scope) (fun i=>vs[i]?)->(∀ b,b∈cS (callEnvC fd p.s.heap.objs.size a)->b∉p.κ)->Q q.s):Q s1:=by
 obtain⟨h1,t1,rfl⟩:=x.toInCall.same;have hnd:(aM fd.scope.names).Nodup:=(UA.map _).nodup ok.nodup;have htn:=(List.take_sublist k _).nodup hnd;have here:∀ b,b∈cS (callEnvC fd p.s.heap.objs.size a)->p.s.heap.get? b=none/\∃ o,h1.get? b=some o:=fun b hb=>(j4 hb).elim (fun e=>e▸⟨TV (SN _),x.toInCall.ns.imp fun o h=>h.elim fun _ h=>h.elim fun _ h=>h.1⟩)
  fun h=>h.elim fun y h=>⟨TV (TU (x.above y b (aE h))),(x.cell y b h).imp fun o h=>h.1⟩
 refine p.grow ((List.range h1.objs.size).filter fun b=>decide (b∈cS (callEnvC fd p.s.heap.objs.size a))) x.toInCall.keep (fun b hb=>here b (SO (TS.mp hb).2)) (UA.nodup List.nodup_range) fun q nx eh hκ _=>?_;have own:∀ b,b∈cS (callEnvC fd p.s.heap.objs.size a)->b∈q.κ/\b∉p.κ:=fun b hb=>hκ b (TS.mpr ⟨List.mem_range.mpr ((here b hb).2.elim fun o h=>TA h),SV hb⟩);have arg:∀{y i v},(i5 fd.scope).sl.lookup y=some i->vs[i]?=some v->∃ w,((aM fd.scope.names).take k)[i]?=some y/\ws[i]?=some w/\aq q.x v w:=fun{y i v} hy hv=>(VL.nx e nx).get hv fun w h1 h2=>⟨w,(List.getElem?_take_of_lt (hvl▸(SR.mp hv).1)).trans (oj hy),h1,h2⟩;refine g q nx ⟨⟨ok.kind,hg,hb,fun y=>⟨id,id,fun hy=>(ok.free hy).elim,id⟩,fun y z i hy hz=>S0 ((oj hy).symm.trans (oj hz)),fun y z c hy hz=>name_of_addr x.apart (aE hy) (aE hz),fun y i hy=>?_⟩,(own _ (.head _)).1,fun y b hy=>(own b (fh hy)).1,
  ⟨_,eh▸x.toInCall.ns,fun y i v hy hi hv=>?_⟩,fun y i hy hi=>?_,fun i hi=>?_⟩ fun b hb=>(own b hb).2
 ·rw[show(i5 fd.scope).sl.length=_ from cZ _ _];exact(SR.mp (oj hy)).1
 ·exact(arg hi hv).imp fun w h=>⟨z7 hy htn h.1 h.2.1,h.2.2⟩
 ·have hy:fd.scope.names.lookup y=some .cell:=hy.resolve_right fun h=>ok.free h;refine(fF (n:=p.s.heap.objs.size+1) (acc:=[]) (.inl (aE hy))).elim fun c hc=>(dQ hc).imp fun d hd=>⟨_,hd,eh▸x.cell y d hd,fun v hv=>(arg hi hv).imp fun w h=>⟨z8 (fun q=>nomatch hy.symm.trans (show fd.scope.names.lookup y=some .local from q)) htn h.1 h.2.1,h.2.2⟩⟩
 ·rw[show(i5 fd.scope).sl.length=_ from cZ _ _] at hi;exact List.getElem?_eq_none (hvl▸SJ hk hi)
abbrev Ko(n f:Nat)(vs:List AV)(Y Y':St)(v:AV):Prop:=∀{A:Around} {p:Pt Y} {ws:List Value} {R:Result->Shared->Prop},kZ A n->VL vs p ws->(∀(q:Pt Y') w,Nx [] p q->V v q w->R (.ok (.ret w)) q.s)->codeAny M0 A (.call (.ref (bw f)) ⟨ws,[]⟩) R p.s
theorem Bk{n f k:Nat}{b:List S}{vs:List AV}{fl:Fl}{U':En}(P:PF)(ih:ft n ⟨az ak n⟩)(F:tJ f k b)(hvl:vs.length=k)(hr:bn ⟨az ak n⟩ b (fun i=>vs[i]?) Y=some (fl,U',Y')):Ko (n+1) f vs Y Y' (fl.getD .none):=fun{A p ws R} rm ev hR=>by
 obtain⟨nm,qual,params,body,sc,dV,kV,doc,pm,cdv,ct,an,fo,ho,hd,hcd,hok,hpar,hlen,hbind,htr⟩:=F.ex;have ok:=JY hok;have hX:=p.r.keep;have hkl:k<=(aM sc.names).length:=by
  have:=SI List.length hpar;rw[S7,hlen,List.length_take] at this;exact this▸Nat.min_le_right _ _
 refine codeAny_call_function (fd:=fnX nm qual params body sc [] dV kV doc pm an cdv ct) (body:=body) (Tj (SJ (TH _ _) (TH _ _)) rm.depth) (hX _ _ ho) hd ok.co ok.gen rfl (hcd.keeps hX) ?_;refine hbind p.s ws (ev.length.symm.trans hvl) _ _ _ _ ?_;rw[hpar];refine wpAny_newFunctionEnv_cells ok.kind (fun y hy=>(ok.own (List.mem_of_mem_take (List.of_mem_zip hy).1)).imp id fun q=>⟨q,(fF (n:=p.s.heap.objs.size+1) (acc:=[]) (.inl (aE q))).elim fun c hc=>(dQ hc).elim fun d hd=>by rw[hd];rfl⟩) fun env he s1 x=>?_
 subst he;exact⟨(P.nolimit.keeps hX).keeps x.toInCall.keep,codeAny_func (FZ (a:=bw f) (fd:=fnX nm qual params body sc [] dV kV doc pm an cdv ct) (Q:=fun s=>wpAny M0 _ _ _ _ s) ok rfl rfl hkl hvl ev x fun q nx F hown=>
  ((ry (c:=⟨n,⟨az ak n⟩,i5 sc,ih⟩) FY htr).ev ⟨_,_,rm.body _,F⟩ hr).go fun q2 fw n2 k2=>
   have n12:Nx [] p q2:=(nx.weak.trans n2).more fun a ha hk=>SP hk (hown a ha)
   match fl,k2.fl with
   | none,h=>by cases(show fw=.next from h);exact hR q2 _ n12 rfl
   | some u,h=>h.elim fun w h=>by cases h.1;exact hR q2 w n12 h.2)⟩
theorem yd{n f:Nat}{vs:List AV}{v:AV}(P:PF)(ih:ft n ⟨az ak n⟩)(h:az ak (n+1) f vs Y=some (v,Y')):keepIn K0 (.ref (bw f))=true/\Ko (n+1) f vs Y Y' v:=ae h fun kb hp h=>bj h (fun hvl h=>aI h fun r hr e=>by
 have F:=P.fns f kb.1 kb.2 hp
 cases e
 exact⟨F.keep,Bk P ih F (SO hvl) hr⟩) fun _ h=>nomatch h
theorem zT(P:PF)(n:Nat):ft n ⟨az ak n⟩:=by
 induction n with
 | zero=>exact⟨nofun,nofun⟩
 | succ n ih=>exact⟨fun h=>(yd P ih h).1,fun h=>(yd P ih h).2⟩
end
theorem eo{n:Nat}{q:Nat->Bool}(h:(List.range n).all q=true){i:Nat}(hi:i<n):q i=true:=Uw.mp h i (List.mem_range.mpr hi)
theorem bO{a b:Bool}{P:Prop}(h:(a&&b)=true)(k:a=true->b=true->P):P:=(SU.mp h).elim k
theorem wn{o:Option Obj}(h:sN o=true):∃ oc od sl,o=some ⟨oc,od,.func (JU o),sl⟩:=by
 unfold sN at h
 split at h
 ·exact⟨_,_,_,rfl⟩
 ·cases h
theorem vB{vs:List Value}:(List.range vs.length).map (fun i=>vs.getD i .none)=vs:=List.ext_getElem (by rw[S7,UD]) fun i h1 h2=>by
 rw[List.getElem_map,List.getElem_range,UJ,TC h2];rfl
theorem CG{b:FuncBody}(h:nX b=true):b=.stmts (iA b):=by
 cases b with
 | stmts=>rfl
 | _=>exact nomatch h
theorem JT:∀{fd:FuncData},nX fd.body=true->fd.globals=mainGlobals->fd.closure=[]->fd.builtins=builtinsNs->fd=fnX fd.name fd.qualname fd.params (iA fd.body) fd.scope [] fd.defaults fd.kwdefaults fd.doc fd.pyModule fd.annotations fd.code fd.closureTuple:=fun{fd} h h1 h2 h3=>by
 have e:fd={ fd with globals:=mainGlobals,closure:=[],builtins:=builtinsNs,body:=.stmts (iA fd.body) }:=by rw[<- h1,<- h2,<- h3,<- CG h]
 exact e
theorem JQ(X:K0.In H0){f k:Nat}{b:List S}{r:Nat×List String}(hf:bw f=r.1)(hk:r.2.length=k)(h:JR K0 r (i0 K0 r.1)=true)(htr:trSs TB (i5 (i0 K0 r.1).scope) (iA (i0 K0 r.1).body)=some b)
  (hb:∀ g:Nat->Value,bindArgs (i0 K0 r.1) ⟨(List.range r.2.length).map g,[]⟩=pure ((r.2.map Str.ofString).zip ((List.range r.2.length).map g))):tJ f k b:=
 bO h fun h h1=>bO h fun h h11=>bO h fun h h9=>bO h fun h h8=>bO h fun h h7=>bO h fun h h6=>bO h fun h h5=>bO h fun h h4=>bO h fun h2 h3=>(wn h1).elim fun oc h=>h.elim fun od h=>h.elim fun sl ho=>
 have e:=JT h2 (SO h3) (SO h4) (SO h5);have h9:=SO h9
 ⟨⟨_,_,_,_,_,_,_,_,_,_,_,_,⟨oc,od,.func (i0 K0 r.1),sl⟩,(SI H0.get? hf).trans (X _ _ ho),SI Data.func e,codeRec_of X h6,h7,hk▸SO h8,hk▸(S7 _).symm.trans ((SI List.length h9).trans (S7 _)),
  fun s vs hv=>BindsTo.of_eq ((SI (bindArgs · _) e.symm).trans (h9▸by have:=hb fun i=>vs.getD i .none;rwa [hk,<- hv,vB] at this)),htr⟩,hf▸h11⟩
theorem uq{C:Addr}{n:Str}{f:Nat}(h:sE K0 C n (some f)=true):findIn K0 (.ref C) n=some (some (.ref (bw f)))/\typeIn K0 (.ref (bw f))=some (.type "function"):=bO h fun a b=>⟨SO a,SO b⟩
theorem tC{α:Type}{p:α->Bool}:∀{o:Option α},o.any p=true->∃ a,o=some a/\p a=true
 | some a,h=>⟨a,rfl,h⟩
theorem Gc{c:Nat}(h:Dx K0 c (ba c)=true):uT c:=bO h fun h ha=>bO h fun h hm=>bO h fun h h8=>bO h fun h h7=>bO h fun h h6=>bO h fun h h5=>bO h fun h h4=>bO h fun h h3=>bO h fun h h2=>bO h fun h1 hi=>
 ⟨h1,(Option.isSome_iff_exists.mp hi).imp fun f e=>⟨e,uq (e▸h2)⟩,SO h3,SO h4,SO h5,h6,h7,h8,fun m f e hl=>uq (e▸eo hm hl),fun a hl=>bO (eo ha hl) fun h _=>tC h,fun a hl=>bO (eo ha hl) fun _ h=>SO h⟩
theorem xH{k:Nat}{w:Value}(h:xI k w=true):∃ t,w=.str (aw k) t:=by
 cases w with
 | str x t=>exact⟨t,by rw[show x=aw k from SO h]⟩
 | _=>exact nomatch(show false=true from h)
theorem x9{d:Data}{r:Array Value×Nat}(h:C6 d=some r):d=.seq r.1 r.2:=by
 cases d with
 | seq ws n=>cases h;rfl
 | _=>cases h
theorem wN{v:Value}{a:Addr}(h:Ai v=some a):v=.ref a:=by
 cases v with
 | ref b=>cases h;rfl
 | _=>cases h
theorem ET:∀{o:Obj} {c:Value} {d:Data},o.cls=c->o.dict=none->o.slots=#[]->o.data=d->o={ cls:=c,data:=d }:=fun{o c d} h1 h2 h3 h4=>by rw[<- h1,<- h4];exact(SI (fun d=>{ o with dict:=d }:_->Obj) h2).trans (SI (fun d=>{ o with dict:=none,slots:=d }:_->Obj) h3)
theorem xy{w:Value}{r:Array Value×Nat}(h:xz K0 w=some r):∃ a,w=.ref a/\K0.lookup a=some (bW r.1 r.2):=
 (Option.bind_eq_some_iff.mp h).elim fun a h=>(Option.bind_eq_some_iff.mp h.2).elim fun o g=>⟨a,wN h.1,g.1.trans (bj g.2 (fun c h=>bO c fun h1 c=>bO c fun h2 h3=>SI some (ET (SO h1) (Option.isNone_iff_eq_none.mp h2) (Array.isEmpty_iff.mp h3) (x9 h))) fun _ h=>nomatch h)⟩
mutual
theorem oQ(X:K0.In H0):∀{v:AV} {w:Value},tO K0 v w=true->aq ⟨[],[],H0⟩ v w
 | .sym k,w,h=>bO (show(decide (k<aT.length)&&xI k w)=true from h) fun a b=>⟨SO a,xH b⟩
 | .tup vs,w,h=>bO (show(decide (vs.length<=ay)&&(xz K0 w).any fun r=>jJ K0 vs r.1.toList)=true from h) fun a b=>⟨SO a,(tC b).elim fun r h=>(xy h.1).imp fun a g=>⟨r.1,r.2,g.1,⟨X _ _ g.2,Ud⟩,lZ X h.2⟩⟩
 | .none,_,h | .bool _,_,h | .int _,_,h | .ref _,_,h | .frz _,_,h | .fset _,_,h | .view _,_,h | .rng _,_,h | .enm _,_,h | .zp _ _,_,h=>nomatch(show false=true from h)
theorem lZ(X:K0.In H0):∀{vs:List AV} {ws:List Value},jJ K0 vs ws=true->bQ ⟨[],[],H0⟩ vs ws
 | [],[],_=>rfl
 | [],_::_,h=>nomatch(show false=true from h)
 | _::_,[],h=>nomatch(show false=true from h)
 | v::vs,w::ws,h=>bO (show(tO K0 v w&&jJ K0 vs ws)=true from h) fun a b=>⟨w,ws,rfl,oQ X a,lZ X b⟩
end
theorem rC{l:List String}{i:Nat}{x:String}(h:l[i]?=some x):l.getD i ""=x/\i<l.length:=⟨by rw[UJ,h];rfl,(SR.mp h).1⟩
theorem Fa{α β γ:Type}{F:α->γ}{G:β->γ}{as:List α}{bs:List β}{i:Nat}{b:β}(e:as.map F=bs.map G)(h:bs[i]?=some b):∃ a,as[i]?=some a/\F a=G b:=by
 have:=SI (·[i]?) e;rw[TD,TD,h] at this;exact Ur.mp this
theorem BK{α β:Type}{F G:α->β}:∀{as:List α} {a:α},as.map F=as.map G->a∈as->F a=G a:=fun e h=>List.map_inj_left.mp e _ h
theorem Ix(X:K0.In H0)(e:iT K0=iv)(lim:H0.NoLimit)(hsys:∃ o,H0.get? sysModules=some o){mg mb:Str->Option Value}(G:H0.Ns mainGlobals mg)(B:H0.Ns builtinsNs mb)(hb:∀ x:Str,x≠"__name__"->mb x=bootBuiltins x):PF:=
 bO (SI Prod.fst e) fun h _=>bO h fun h hB=>bO h fun h hG=>bO h fun h hC=>bO h fun h hF=>bO h fun hN hK=>
 have nsO:∀{x:String} {v:Value},yD K0 x v=true->mg (Str.ofString x)=some v:=fun h=>mg_of X G (SO h)
 {kin:=X
  nolimit:=lim
  sysm:=hsys
  ns:=⟨mg,mb,G,B,fun i x h=>have g:=rC h;g.1▸nsO (eo hF g.2),fun i x h=>have g:=rC h;g.1▸nsO (eo hC g.2),
   fun i x h=>have g:=rC h;(tC (eo hG g.2)).elim fun av q=>bO q.2 fun a b=>⟨_,av,g.1▸nsO a,q.1,g.1▸oQ X b⟩,
   fun b=>bO (Uw.mp hB b (by cases b<;>decide)) fun h3 h4=>bO h3 fun h1 h2=>⟨mg_none_of X G (SO h1),(hb _ (of_decide_eq_false (yE h4))).trans (SO h2)⟩⟩
  fns:=fun f k b h=>(Fa (F:=fun r:Nat×List String=>(r.2.length,trSs TB (i5 (i0 K0 r.1).scope) (iA (i0 K0 r.1).body))) (G:=fun b=>(b.1,some b.2)) (SI (fun x=>x.2.1) e) h).elim fun r q=>JQ X (by unfold bw;rw[UJ,q.1];rfl) (SI Prod.fst q.2)
   (Uw.mp hN r (Tm q.1)) (SI Prod.snd q.2) fun g=>BK (F:=fun r:Nat×List String=>bindArgs (i0 K0 r.1) ⟨(List.range r.2.length).map g,[]⟩) (G:=fun r=>pure ((r.2.map Str.ofString).zip ((List.range r.2.length).map g))) (congrFun (SI (fun x=>x.2.2) e) g) (Tm q.1)
  clss:=fun c h=>Gc (eo hK h) }
theorem y6{x:Hp}{ws:List Value}{is:List Int}(hI:IntsAre ws is):bQ x (is.map .int) ws:=by
 induction hI with
 | nil=>rfl
 | cons n t _ ih=>exact⟨_,_,rfl,⟨t,rfl⟩,ih⟩
theorem Ia{s t:Shared}(h1:t.gens=s.gens)(h2:t.os=s.os):{ s with heap:=t.heap,toks:=t.toks,drawn:=t.drawn }=t:=by cases t;cases h1;cases h2;rfl
theorem Jr(P:PF){n:Nat}(rm:kZ callerA n){s:Shared}{script:Addr}{ws:List Value}{is:List Int}{R:Result->Shared->Prop}{Y':St}(hs:s.heap=H0)(hL:H0.IsList script ws.toArray)(hI:IntsAre ws is)(hlen:is.length<=63)(hr:az ak n 11 [.frz (is.map .int)] []=some (.bool true,Y'))
  (hR:∀ h' t' d',(∀ b o,H0.get? b=some o->h'.get? b=some o)->R (.ok (.ret (.bool true))) { s with heap:=h',toks:=t',drawn:=d' }):codeAny M0 callerA (.call (.ref (bw 11)) ⟨[.ref script],[]⟩) R s:=by
 obtain⟨o,ho,hc,k,hd⟩:=hL;have r0:iJ ⟨[],[],s.heap⟩ []:={ pf:=P,len:=rfl,nodup:=Ue,alive:=fun _ h=>(nomatch(show _∈([]:List Addr) from h)),keep:=fun a o h=>hs▸h,objs:=fun i p o h _=>nomatch(show none=some p from h) }
 have hv:VL [.frz (is.map .int)] ⟨[],[],s,r0⟩ [.ref script]:=.cons ⟨by rw[S7];exact SJ hlen (by decide),script,ws.toArray,k,o,rfl,⟨ho,hc,hd⟩,⟨(SI (·.get? script) hs).trans ho,nofun⟩,y6 hI⟩ .nil
 refine(zT P n).go (show(⟨az ak n⟩:Calls).fn 11 [.frz (is.map .int)] []=some (.bool true,Y') from hr) rm hv fun q w nx e=>?_
 cases(show w=.bool true from e)
 exact Ia nx.gens nx.os▸hR q.s.heap q.s.toks q.s.drawn q.r.keep
theorem yW:qY w0 H0 K0:=fun X e lim hsys mg mb G B hb s script ws is R hs hL hI hlen hrun hR=>hrun.elim fun Y' hr=>Jr (n:=30) (Ix X e lim hsys G B hb) ⟨by decide,by decide,rfl⟩ hs hL hI hlen hr hR
theorem Fg{K:Frag}(h:iT K=iv):nsIn K mainGlobals (Str.ofString "law")=some (some (.ref 641)):=bO (SI Prod.fst h) fun _ h=>SO h
theorem yV:Fh.1.name=Str.ofString "law":=by kernel_rfl
theorem top(H:∀ is:List Int,∃ Y',az ak 30 11 [.frz (is.map .int)] []=some (.bool true,Y')):RR.Holds:=Lc (by
 intro w s₀ s₁ mg mb G YY fa o pm cd doc dV kV ho hd hcd hD hmg hg args vals as hpre hlay hrd hwl hlo;have KX:(Do (Ya w)).In s₁.heap:=fun a o e=>YY a o (Ft _ a o e);refine Ground.open G ?_;intro T B D TE TW
 wrow_args hpre hlay hrd hwl hlo
 refine enter_call ?_
 w_top on
 try refine codeAny_mono ?_ (fun _ _ g=>GoodW.toG g)
 rw[yV] at hmg
 cases(mg_of KX T.g (Fg (oP w))).symm.trans hmg
 have LA:=BY yW w s₁.heap (Do (Ya w)) KX (oP w) T.nolimit;refine LA ?_ T.g T.b T.builtins rfl (by assumption) (by assumption) (TX.mp (Int.not_lt.mp ‹_›)) (H _) ?_
 ·obtain⟨mm,⟨o,es,ep,ho,_⟩,_⟩:=(T.seer (by kernel_rfl)).mods
  exact⟨o,ho⟩
 ·intro h' t' d' hk;refine⟨.inl ⟨_,_,_,rfl,(fun _=>rfl),.bool true,?_,(fun h=>⟨Ue,(fun _ h=>nomatch h)⟩)⟩,hk,rfl,hg⟩
  kernel_rfl)
end
section
open PySem
noncomputable abbrev aa(k:Nat):AV:=.int (k:Int)
noncomputable abbrev Nd:=Nat×List Nat
noncomputable def aJ(d:Nd):AV:=.tup (.sym d.1::d.2.map aa)
structure Fx where
 raw:List AV
 cells:List AV
 ato:Int
 nodes:List AV
 numbers:List (AV×AV)
 weights:List AV
 depths:List AV
 up:List AV
 lots:List AV
 merged:List AV
 edges:List AV
 forest:List AV
 known:List (AV×AV)
 above:List (AV×AV)
 waiting:List AV
 world:List AV
noncomputable abbrev Fx.t2(F:Fx)(a:Int):Fx:={ F with ato:=a }
noncomputable abbrev Fx.t5(F:Fx)(l:List AV):Fx:={ F with nodes:=l }
noncomputable abbrev Fx.t7(F:Fx)(l:List AV):Fx:={ F with weights:=l }
noncomputable abbrev Fx.t8(F:Fx)(l:List AV):Fx:={ F with depths:=l }
noncomputable abbrev Fx.t10(F:Fx)(l:List AV):Fx:={ F with up:=l }
noncomputable abbrev Fx.t11(F:Fx)(l:List AV):Fx:={ F with lots:=l }
noncomputable abbrev Fx.t12(F:Fx)(l:List AV):Fx:={ F with merged:=l }
noncomputable abbrev Fx.t13(F:Fx)(l:List AV):Fx:={ F with edges:=l }
noncomputable abbrev Fx.t14(F:Fx)(l:List AV):Fx:={ F with forest:=l }
noncomputable abbrev Fx.t17(F:Fx)(l:List AV):Fx:={ F with waiting:=l }
noncomputable abbrev Fx.t18(F:Fx)(l:List AV):Fx:={ F with world:=l }
noncomputable abbrev Fx.t6(F:Fx)(l:List (AV×AV)):Fx:={ F with numbers:=l }
noncomputable abbrev Fx.t15(F:Fx)(l:List (AV×AV)):Fx:={ F with known:=l }
noncomputable abbrev Fx.t16(F:Fx)(l:List (AV×AV)):Fx:={ F with above:=l }
noncomputable def Fx.st(F:Fx)(rest:St):St:=
 .list F.raw::.list F.cells::.dict [(.sym 23,.ref 1),(.sym 24,.int F.ato)]::.inst 2 [(7,.ref 4),(8,.ref 9),(9,.ref 13),(10,.ref 14),(11,.ref 15),(4,.ref 16),(12,.ref 17),(13,.int 0)] ::
 .inst 0 [(0,.ref 5),(1,.ref 6),(2,.ref 7),(3,.ref 8)]::.list F.nodes::.dict F.numbers::.list F.weights::.list F.depths ::
 .inst 1 [(4,.ref 10),(5,.ref 11),(6,.ref 12)]::.list F.up::.list F.lots::.list F.merged::.list F.edges::.list F.forest ::
 .dict F.known::.dict F.above::.list F.waiting::.list F.world::rest
section
variable(F:Fx)(rest:St)
theorem sr(j:Nat)(o:AO):(F.st rest).set (j+19) o=F.st (rest.set j o):=rfl
theorem sa(l:St):F.st rest++l=F.st (rest++l):=rfl
theorem sl:(F.st rest).length=rest.length+19:=rfl
end
theorem c8(d:Nd):(aJ d).pur=true:=by
 obtain⟨a,l⟩:=d;simp[aJ,AV.pur,AV.purD,AV.purF]
theorem bN{α:Type}(l m:List α)(a:α):(l++a::m)[l.length]?=some a:=by simp
theorem iZ{α:Type}(l m:List α)(a b:α):(l++a::b::m)[l.length+1]?=some b:=by rw[TR (o0)];simp
theorem zk{α:Type}(l m:List α)(a b c:α):(l++a::b::c::m)[l.length+2]?=some c:=by rw[TR (o1)];simp
theorem Oc{α:Type}(l m:List α)(a b c d:α):(l++a::b::c::d::m)[l.length+3]?=some d:=by rw[TR (o2)];simp
noncomputable def ed(r:RS):Rs:=r.map fun r=>(r.1.getD .none,r.2.2)
def Ok(k f:Nat)(vs:List AV)(Y:St)(v:AV)(Y':St):Prop:=∀ n,k<=n->az ak n f vs Y=some (v,Y')
theorem Ok.up{k k' f:Nat}{vs:List AV}{Y Y':St}{v:AV}(h:Ok k f vs Y v Y')(hk:k<=k'):Ok k' f vs Y v Y':=fun n hn=>h n (SJ hk hn)
theorem Ok.mk{k f a:Nat}{b:List S}{vs:List AV}{Y Y':St}{v:AV}(hp:ak[f]?=some (a,b))(ha:vs.length=a)(h:∀ n,k<=n->ed (bn ⟨az ak n⟩ b (fun i=>vs[i]?) Y)=some (v,Y')):Ok (k+1) f vs Y v Y'
 | 0,hn=>SP hn (Tc k)
 | n+1,hn=>by
  show(ak[f]?.bind _)=_;rw[hp];show(bif decide (vs.length=a) then _ else _)=_;rw[SV ha];exact h n (Nat.le_of_succ_le_succ hn)
section
variable{α β:Type}{x y:Option α}{a:α}{c:Bool}
theorem al{f:α->Option β}(h:x=some a):x.bind f=f a:=h▸rfl
theorem aQ{f:α->β}(h:x=some a):x.map f=some (f a):=h▸rfl
theorem cf(h:x=some a):cP x y=some a:=by subst h;rfl
theorem bd(h:c=true):de c a=some a:=h▸rfl
theorem dK(h:c=true):(bif c then x else y)=x:=h▸rfl
theorem eH{a b:Bool}(h:a=true)(g:b=true):(a&&b)=true:=by subst h g;rfl
end
noncomputable def FD(C:Calls)(e:X)(p':ax)(it':X):En->St->Option (List AV×St):=fun U' Y'=>cu (au C it' U' Y') fun u Y3=>
 bif dp p' u then(cW Y3 u).bind fun s'=>bz s'.gd p' U' (fun _ Y'=>some (true,Y')) (fun U'' Y'=>one (au C e U'' Y')) s'.items Y3 else none
section
variable{C:Calls}{U U1:En}{Y Y1 Y2:St}
theorem seq{s:S}{r:List S}(h:dS C s U Y=some (none,U1,Y1)):bn C (s::r) U Y=bn C r U1 Y1:=al h
theorem Ie{s:S}{r:List S}{v:AV}(h:dS C s U Y=some (some v,U1,Y1)):bn C (s::r) U Y=some (some v,U1,Y1):=(al h).trans h
theorem cY{p:ax}{it:X}{b:List S}{v:AV}{s:wX}(h:au C it U Y=some (v,Y1))(hp:dp p v=true)(hs:cW Y1 v=some s):dS C (.for_ p it b) U Y=dT s.gd p (bn C b) s.items U Y1:=
 (ao h).trans ((dK hp).trans (al hs))
theorem zF(c:X)(b:List S):dS C (.whl c b) U Y=dN (fun U Y=>jN (au C c U Y)) (bn C b) bB U Y:=rfl
theorem zP{e:X}{p:ax}{it:X}{cs:List X}{v:AV}{s:wX}{vs:List AV}(h:au C it U Y=some (v,Y1))(hp:dp p v=true)(hs:cW Y1 v=some s)
  (hc:bz s.gd p U (Cy C cs) (fun U' Y'=>one (au C e U' Y')) s.items Y1=some (vs,Y2)) (hl:vs.length<=ay):au C (.comp e p it cs) U Y=some (.ref Y2.length,Y2++[.list vs]):=
 (ao h).trans ((dK hp).trans ((al hs).trans ((ao hc).trans (bd (SV hl)))))
theorem Cz{e:X}{p p':ax}{it it':X}{v:AV}{s:wX}{vs:List AV}(h:au C it U Y=some (v,Y1))(hp:dp p v=true)(hs:cW Y1 v=some s)
  (hc:bz s.gd p U (fun _ Y'=>some (true,Y')) (FD C e p' it') s.items Y1=some (vs,Y2)) (hl:vs.length<=ay):au C (.comp2 e p it p' it') U Y=some (.ref Y2.length,Y2++[.list vs]):=
 (ao h).trans ((dK hp).trans ((al hs).trans ((ao hc).trans (bd (SV hl)))))
end
section
variable{C:Calls}{U U' U1:En}{Y Y1 Y2 Y3 Y4 τ:St}{kk:Nat}{v u w:AV}{e e1 e2:X}{r z:Rs}{t b:Bool}{vs ws:List AV}
theorem Dm{i:Nat}:ah U i v i=some v:=SQ rfl
theorem Fi{i j:Nat}(h:j≠i)(g:U j=some v):ah U i w j=some v:=(SL h).trans g
theorem aG{i:Nat}(h:U i=some v):au C (.loc i) U Y=some (v,Y):=fK h
theorem KZ:au C (.cst .none) U Y=some (.none,Y):=rfl
theorem K6:au C (.cst (.bool b)) U Y=some (.bool b,Y):=rfl
theorem AH{i:Int}:au C (.cst (.int i)) U Y=some (.int i,Y):=rfl
theorem HP{i:Nat}:au C (.cst (.sym i)) U Y=some (.sym i,Y):=rfl
theorem DT{k:Nat}(h:qq k=some v):au C (.glob k) U Y=some (v,Y):=fK h
theorem ju(hi:v.isIt=false)(h:r=some (v,Y)):nv r=some (v,Y):=(ao h).trans (by rw[hi];rfl)
theorem jK{a:Nat}(h:au C e U Y=some (v,Y1))(hi:v.isIt=false)(g:ww Y1 v a=some u):au C (.attr e a) U Y=some (u,Y1):=(ao (ju hi h)).trans (fK g)
theorem oS(h:au C e U Y=some (v,Y1))(hi:v.isIt=false)(h2:au C e1 U Y1=some (u,Y2))(hi2:u.isIt=false)(g:ph Y2 v u=some w):au C (.sub e e1) U Y=some (w,Y2):=(ao (ju hi h)).trans ((ao (ju hi2 h2)).trans (fK g))
theorem l6{k:Sl}(h:au C e U Y=some (v,Y1))(hi:v.isIt=false)(g:nr Y1 v k=z):au C (.slc e k) U Y=z:=(ao (ju hi h)).trans g
theorem HM{i:Int}(h:au C e U Y=some (.int i,Y1)):au C (.neg e) U Y=some (.int (-i),Y1):=ao h
theorem xq{op:cQ}(h:au C e U Y=some (v,Y1))(hi:v.isIt=false)(h2:au C e1 U Y1=some (u,Y2))(hi2:u.isIt=false)(g:i7 op Y2 v u=z):au C (.bin op e e1) U Y=z:=(ao (ju hi h)).trans ((ao (ju hi2 h2)).trans g)
theorem l8{op:aS}(h:au C e U Y=some (v,Y1))(hi:v.isIt=false)(h2:au C e1 U Y1=some (u,Y2))(hi2:u.isIt=false)(g:bi op Y2 v u=some t):au C (.cmp op e e1) U Y=some (.bool t,Y2):=(ao (ju hi h)).trans ((ao (ju hi2 h2)).trans (fK (aQ g)))
noncomputable def Oo(t:Bool)(op:aS)(u:AV)(x:Rs)(Y:St):Rs:=bif t then cu (nv x) fun w Y3=>ret ((bi op Y3 u w).map .bool) Y3 else some (.bool false,Y)
noncomputable def GA(t:Bool)(x:Rs)(Y:St):Rs:=bif t then cu (jN x) fun t Y2=>some (.bool t,Y2) else some (.bool false,Y)
noncomputable def LB(t:Bool)(x:Rs)(Y:St):Rs:=bif t then some (.bool true,Y) else cu (jN x) fun t Y2=>some (.bool t,Y2)
theorem hYY(h:r=some (.bool t,Y)):jN r=some (t,Y):=ao h
theorem DU{op op':aS}(h:au C e U Y=some (v,Y1))(hi:v.isIt=false)(h2:au C e1 U Y1=some (u,Y2))(hi2:u.isIt=false)(g:bi op Y2 v u=some t)(k:Oo t op' u (au C e2 U Y2) Y2=z):au C (.cmp2 op op' e e1 e2) U Y=z:=(ao (ju hi h)).trans ((ao (ju hi2 h2)).trans ((al g).trans k))
theorem Sh{op:aS}{r:Rs}(ht:t=true)(h:r=some (w,Y3))(hi:w.isIt=false)(g:bi op Y3 u w=some b):Oo t op u r Y=some (.bool b,Y3):=ht▸(ao (ju hi h)).trans (fK (aQ g))
theorem Si{op:aS}{r:Rs}(ht:t=false):Oo t op u r Y=some (.bool false,Y):=by subst ht;rfl
theorem C1(h:au C e U Y=some (.bool t,Y1))(k:GA t (au C e1 U Y1) Y1=z):au C (.and e e1) U Y=z:=(ao (hYY h)).trans k
theorem Ow{r:Rs}(ht:t=true)(h:r=some (.bool b,Y1)):GA t r Y=some (.bool b,Y1):=ht▸ao (hYY h)
theorem Kg{r:Rs}(ht:t=false):GA t r Y=some (.bool false,Y):=by subst ht;rfl
theorem HK(h:au C e U Y=some (.bool t,Y1))(k:LB t (au C e1 U Y1) Y1=z):au C (.or e e1) U Y=z:=(ao (hYY h)).trans k
theorem O8{r:Rs}(ht:t=false)(h:r=some (.bool b,Y1)):LB t r Y=some (.bool b,Y1):=ht▸ao (hYY h)
theorem QJ{r:Rs}(ht:t=true):LB t r Y=some (.bool true,Y):=by subst ht;rfl
theorem HL(h:au C e U Y=some (.bool t,Y1)):au C (.not e) U Y=some (.bool (!t),Y1):=ao (hYY h)
noncomputable def wj{α:Type}(t:Bool)(x y:α):α:=match t with | true=>x | false=>y
theorem kT{α:Type}{x y z:α}(ht:t=true)(h:x=z):wj t x y=z:=by subst ht;exact h
theorem kF{α:Type}{x y z:α}(ht:t=false)(h:y=z):wj t x y=z:=by subst ht;exact h
theorem HO(h:au C e U Y=some (.bool t,Y1))(g:wj t (au C e1 U Y1) (au C e2 U Y1)=some (v,Y2))(hi:v.isIt=false):au C (.ite e e1 e2) U Y=some (v,Y2):=(ao (hYY h)).trans (by cases t<;>exact ju hi g)
theorem cJ:cU C [] U Y=some ([],Y):=rfl
theorem bA{es:List X}(h:au C e U Y=some (v,Y1))(hi:v.isIt=false)(h2:cU C es U Y1=some (vs,Y2)):cU C (e::es) U Y=some (v::vs,Y2):=(ao (ju hi h)).trans (ao h2)
theorem oR{es:List X}(h:cU C es U Y=some (vs,Y1))(hl:vs.length<=50):au C (.tup es) U Y=some (.tup vs,Y1):=(ao h).trans (bd (SV hl))
theorem HN{es:List X}(h:cU C es U Y=some (vs,Y1))(hl:vs.length<=50)(hn:Y1.length=kk)(hs:Y1++[.list vs]=τ):au C (.lst es) U Y=some (.ref kk,τ):=hn▸hs▸(ao h).trans (bd (SV hl))
theorem C0{ks:List Nat}{es:List X}(h:cU C es U Y=some (vs,Y1))(h1:decide ks.Nodup=true)(h2:ks.length=vs.length)(h3:vs.length<=10)(hn:Y1.length=kk)(hs:Y1++[.dict ((ks.map .sym).zip vs)]=τ):au C (.dct ks es) U Y=some (.ref kk,τ):=hn▸hs▸(ao h).trans (bd (eH (eH h1 (SV h2)) (SV h3)))
theorem m9{f:Nat}{es:List X}(h:cU C es U Y=some (vs,Y1))(g:C.fn f vs Y1=z):au C (.call f es) U Y=z:=(ao h).trans g
theorem CZ{c f:Nat}{es:List X}(h:cU C es U Y=some (vs,Y1))(hm:dq c 1000=some f)(hn:Y1.length=kk)(hs:Y1++[.inst c []]=τ)(g:C.fn f (.ref kk::vs) τ=some (.none,Y2)):au C (.new c es) U Y=some (.ref kk,Y2):=by subst hn hs;exact(ao h).trans ((al hm).trans (ao g))
theorem xn{m:Nat}{es:List X}{k:oK}(h:au C e U Y=some (v,Y1))(hi:v.isIt=false)(hk:fm Y1 v m=some k)(h2:cU C es U Y1=some (vs,Y2))(g:kE C k v m vs Y2=z):au C (.meth e m es) U Y=z:=(ao (ju hi h)).trans ((al hk).trans ((ao h2).trans g))
theorem Oq{f m:Nat}(g:C.fn f (v::vs) Y=z):kE C (.fn f) v m vs Y=z:=g
theorem Gh{i m:Nat}(g:kj i m vs Y=z):kE C .list (.ref i) m vs Y=z:=g
theorem Gi{i m:Nat}(g:kA i m vs Y=z):kE C .dict (.ref i) m vs Y=z:=g
theorem J5{s:Nat}(g:eJ s=some b):kE C .sym (.sym s) 33 [] Y=some (.bool b,Y):=fK (aQ g)
theorem xp{b:aO}{es:List X}(h:cU C es U Y=some (vs,Y1))(g:cq b vs Y1=z):au C (.blt b es) U Y=z:=(ao h).trans g
theorem aK{i:Nat}{l:List AV}(h:Y[i]?=some (.list l)):aj Y i=some l:=al h
theorem iH{i:Nat}{l:List (AV×AV)}(h:Y[i]?=some (.dict l)):aN Y i=some l:=al h
theorem tG{i c:Nat}{fs:List (Nat×AV)}(h:Y[i]?=some (.inst c fs)):dR Y i=some (c,fs):=al h
theorem GI{i:Nat}{l:List AV}(h:Y[i]?=some (.list l)):dR Y i=none:=al h
theorem GH{i:Nat}{l:List (AV×AV)}(h:Y[i]?=some (.dict l)):dR Y i=none:=al h
theorem oF{i:Nat}{l:List (AV×AV)}(h:Y[i]?=some (.dict l)):aj Y i=none:=al h
theorem GT{i:Nat}{l:List AV}(h:Y[i]?=some (.list l)):aN Y i=none:=al h
theorem bh{α:Type}{x y z:Option α}(h:x=none)(g:y=z):cP x y=z:=h▸g
theorem iB{α β:Type}{x:Option α}{f:α->Option β}(h:x=none):x.bind f=none:=h▸rfl
theorem Jb{α β:Type}{x:Option α}{f:α->β}(h:x=none):x.map f=none:=h▸rfl
theorem Fq{i m c f:Nat}{fs:List (Nat×AV)}(h:Y[i]?=some (.inst c fs))(h2:fs.lookup m=none)(h3:dq c m=some f):fm Y (.ref i) m=some (.fn f):=cf ((cf ((al (tG h)).trans ((dK (by rw[h2];rfl)).trans (aQ h3)))))
theorem Fp{i m:Nat}{l:List AV}(h:Y[i]?=some (.list l)):fm Y (.ref i) m=some .list:=cf (bh (iB (GI h)) (cf (aQ (aK h))))
theorem Fs{i m:Nat}{l:List (AV×AV)}(h:Y[i]?=some (.dict l)):fm Y (.ref i) m=some .dict:=cf (bh (iB (GH h)) (bh (Jb (oF h)) (aQ (iH h))))
theorem GU{i a c:Nat}{fs:List (Nat×AV)}(h:Y[i]?=some (.inst c fs))(g:fs.lookup a=some v):ww Y (.ref i) a=some v:=(al (tG h)).trans g
theorem cG{F:Fx}{rest:St}{j:Nat}{o:AO}(h:rest[j]?=some o):(F.st rest)[j+19]?=some o:=h
theorem Km{i:Nat}{o:AO}{l:St}(h:Y[i]?=some o):(Y++l)[i]?=some o:=by rw[Tf (SR.mp h).1];exact h
theorem GR{o:AO}{l m:St}:(l++o::m)[l.length]?=some o:=bN l m o
theorem GQ{o o1:AO}{l m:St}:(l++o1::o::m)[l.length+1]?=some o:=iZ l m o1 o
theorem GP{o o1 o2:AO}{l m:St}:(l++o1::o2::o::m)[l.length+2]?=some o:=zk l m o1 o2 o
theorem GN{o a b c:AO}{l m:St}:(l++a::b::c::o::m)[l.length+3]?=some o:=(TR (TH _ _)).trans (SI (fun i=>(a::b::c::o::m)[i]?) (UE ..))
theorem GM{o a b c d:AO}{l m:St}:(l++a::b::c::d::o::m)[l.length+4]?=some o:=(TR (TH _ _)).trans (SI (fun i=>(a::b::c::d::o::m)[i]?) (UE ..))
theorem GL{o a b c d e:AO}{l m:St}:(l++a::b::c::d::e::o::m)[l.length+5]?=some o:=(TR (TH _ _)).trans (SI (fun i=>(a::b::c::d::e::o::m)[i]?) (UE ..))
theorem GK{o a b c d e f:AO}{l m:St}:(l++a::b::c::d::e::f::o::m)[l.length+6]?=some o:=(TR (TH _ _)).trans (SI (fun x=>(a::b::c::d::e::f::o::m)[x]?) (UE ..))
theorem GJ{o a b c d e f g h:AO}{l m:St}:(l++a::b::c::d::e::f::g::h::o::m)[l.length+8]?=some o:=(TR (TH _ _)).trans (SI (fun x=>(a::b::c::d::e::f::g::h::o::m)[x]?) (UE ..))
theorem Kl{i j:Nat}{o o':AO}(h:i≠j)(g:Y[j]?=some o):(Y.set i o')[j]?=some o:=(Tt h).trans g
theorem Iy{i:Nat}{is:List Nat}{l:List AV}(h:aj Y i=some l)(g:eI U is l=some U1):bV (.many is) (.ref i) U Y=some U1:=(al (bh (y:=aj Y i) rfl h)).trans g
theorem GF{o:AO}:(Y++[o])[Y.length]?=some o:=UI
theorem ny{i:Nat}{k:Int}{l:List AV}(h:aj Y i=some l)(g:BC l k=some v):ph Y (.ref i) (.int k)=some v:=bh rfl (bh rfl (cf ((al h).trans g)))
theorem EH{i:Nat}{l:List (AV×AV)}(h:Y[i]?=some (.dict l))(hk:u.pur=true)(g:aA l u=some v):ph Y (.ref i) u=some v:=bh rfl (bh rfl (bh (iB (oF h)) ((al (iH h)).trans ((dK hk).trans g))))
theorem Im{s j:Nat}{k:Int}(h:pc s k=some j):ph Y (.sym s) (.int k)=some (.sym j):=bh rfl (cf (aQ h))
theorem d9{l:List AV}{j:Nat}(h:l[j]?=some v):BC l (j:Int)=some v:=(dK (SV (Uy j))).trans h
theorem Jg{i:Nat}{l:List AV}(h:aj Y i=some l)(hl:l.length+1<=ay)(hs:Y.set i (.list (l++[v]))=τ):kj i 27 [v] Y=some (.none,τ):=by subst hs;exact(al h).trans (bd (SV hl))
theorem Jf{i j:Nat}{l m:List AV}(h:aj Y i=some l)(h2:aj Y j=some m)(hn:i≠j)(hl:(l++m).length<=ay)(hs:Y.set i (.list (l++m))=τ):kj i 28 [.ref j] Y=some (.none,τ):=by subst hs;exact(al h).trans ((al h2).trans (bd (eH (SV hn) (SV hl))))
theorem Jc{i:Nat}{l:List AV}(h:aj Y i=some l)(hl:l.getLast?=some v)(hs:Y.set i (.list l.dropLast)=τ):kj i 29 [] Y=some (v,τ):=by subst hs;exact(al h).trans (aQ hl)
theorem Jd{i k:Nat}{l:List AV}(h:aj Y i=some l)(hp:(u.pur&&AV.purs l)=true)(hf:l.findIdx? (fun x=>decide (x=u))=some k):kj i 30 [u] Y=some (.int k,Y):=(al h).trans ((dK hp).trans (aQ hf))
theorem Je{i:Nat}{l:List (AV×AV)}(h:aN Y i=some l)(hk:u.pur=true)(g:(aA l u).getD w=v):kA i 31 [u,w] Y=some (v,Y):=by subst g;exact(al h).trans (bd hk)
noncomputable def Ls(x:Option AV)(w:AV)(l:List (AV×AV))(u:AV)(i:Nat)(Y:St):Rs:=cP (x.map fun v=>(v,Y)) (de (decide (l.length+1<=ay)&&x.isNone) (w,Y.set i (.dict (l++[(u,w)]))))
theorem NH{i:Nat}{l:List (AV×AV)}{x:Option AV}(h:aN Y i=some l)(hk:u.pur=true)(g:aA l u=x)(k:Ls x w l u i Y=z):kA i 32 [u,w] Y=z:=by subst g;exact(al h).trans ((dK hk).trans k)
theorem QH{i:Nat}{l:List (AV×AV)}:Ls (some v) w l u i Y=some (v,Y):=rfl
theorem QI{i:Nat}{l:List (AV×AV)}(hl:l.length+1<=ay)(hs:Y.set i (.dict (l++[(u,w)]))=τ):Ls none w l u i Y=some (w,τ):=by subst hs;exact bd (eH (SV hl) rfl)
theorem Fd{i:Nat}{l:List (AV×AV)}(h:aN Y i=some l)(hk:u.pur=true)(g:aA l u=some v)(hs:Y.set i (.dict (eU l u))=τ):kA i 29 [u] Y=some (v,τ):=by subst hs;exact(al h).trans ((dK hk).trans (aQ g))
theorem BN{i:Nat}{l:List (AV×AV)}(h:aN Y i=some l):kA i 34 [] Y=some (.view i,Y):=al h
theorem kY{i:Nat}{l:List AV}(h:aj Y i=some l):cT Y (.ref i)=some l:=h
theorem Gv{i:Nat}{l:List AV}(h:aj Y i=some l)(g:l.length=kk):cq .len [.ref i] Y=some (.int kk,Y):=by subst g;exact aQ (kY h)
theorem Gu(g:vs.length=kk):cq .len [.tup vs] Y=some (.int kk,Y):=by subst g;rfl
theorem Gw:cq .len [.fset vs] Y=some (.int vs.length,Y):=rfl
theorem Ke:cq .int [.bool b] Y=some (.int (if b then 1 else 0),Y):=by cases b<;>rfl
theorem Kc{i:Nat}{k:Int}{l:List AV}{is:List Int}(h:aj Y i=some l)(g:cC l=some (k::is)):cq .max [.ref i] Y=some (.int (is.foldl max k),Y):=(al (kY h)).trans (al g)
theorem Ka{i:Nat}{l:List AV}{is:List Int}(h:aj Y i=some l)(g:cC l=some is):cq .sum [.ref i] Y=some (.int is.sum,Y):=(al (kY h)).trans (aQ g)
theorem CT{i:Nat}{l:List (AV×AV)}(h:aN Y i=some l)(hl:l.length<=8)(ha:l.all (fun e=>e.1.isSym)=true)(hn:Y.length=kk)(hs:Y++[.dict l]=τ):cq .dict [.ref i] Y=some (.ref kk,τ):=by subst hn hs;exact cf ((al h).trans (bd (eH (SV hl) ha)))
theorem CS{ps:List (AV×AV)}(h:ff vs=some ps)(hl:ps.length<=8)(hn:Y.length=kk)(hs:Y++[.dict (ps.foldl (fun es p=>aU es p.1 p.2) [])]=τ):cq .dict [.tup vs] Y=some (.ref kk,τ):=by subst hn hs;exact bh rfl ((al h).trans (bd (SV hl)))
theorem Ab{i:Nat}{l:List AV}(h:Y[i]?=some (.list l))(g:b7 l=some ws)(hn:Y.length=kk)(hs:Y++[.list ws]=τ):cq .sorted [.ref i] Y=some (.ref kk,τ):=by subst hn hs;exact cf ((al (kY (aK h))).trans (aQ g))
theorem Ac{i:Nat}{l:List (AV×AV)}(h:Y[i]?=some (.dict l))(g:b7 (l.map (·.1))=some ws)(hn:Y.length=kk)(hs:Y++[.list ws]=τ):cq .sorted [.ref i] Y=some (.ref kk,τ):=by subst hn hs;exact bh (iB (oF h)) (bh rfl (cf ((al (iH h)).trans (aQ g))))
theorem Gn(g:b7 vs=some ws)(hn:Y.length=kk)(hs:Y++[.list ws]=τ):cq .sorted [.fset vs] Y=some (.ref kk,τ):=by subst hn hs;exact cf (aQ g)
theorem Gm{i:Nat}{l:List (AV×AV)}(h:aN Y i=some l)(hl:l.all (fun e=>e.1.isSym)=true)(g:b7 (l.map fun(e:AV×AV)=>.tup [e.1,e.2])=some ws)(hn:Y.length=kk)(hs:Y++[.list ws]=τ):cq .sorted [.view i] Y=some (.ref kk,τ):=by subst hn hs;exact bh rfl (bh rfl (bh rfl ((al h).trans ((dK hl).trans (aQ g)))))
theorem Kb{i:Nat}{l:List AV}(h:aj Y i=some l)(g:lv l=some ws):cq .set [.ref i] Y=some (.fset ws,Y):=(al (kY h)).trans (aQ g)
theorem Gq(hn:Y.length=kk)(hs:Y++[.list vs]=τ):cq .listOf [.tup vs] Y=some (.ref kk,τ):=by subst hn hs;rfl
theorem Af{i:Nat}{l:List AV}(h:aj Y i=some l)(hn:Y.length=kk)(hs:Y++[.list l]=τ):cq .listOf [.ref i] Y=some (.ref kk,τ):=by subst hn hs;exact cf (aQ (kY h))
theorem Gr{n:Nat}(hn:Y.length=kk)(hs:Y++[.list ((List.range n).map fun(i:Nat)=>.int i)]=τ):cq .listOf [.rng n] Y=some (.ref kk,τ):=by subst hn hs;exact(rfl)
theorem Gj:cq .tupleOf [.tup vs] Y=some (.tup vs,Y):=rfl
theorem Gk{i:Nat}{l:List AV}(h:aj Y i=some l):cq .tupleOf [.ref i] Y=some (.tup l,Y):=aQ (bh rfl (kY h))
theorem DC{n:Nat}(h:n<=50000):cq .range [.int n] Y=some (.rng n,Y):=bd (eH (SV (Uy n)) (SV (o3 h)))
theorem Kf:cq .enum [.tup vs] Y=some (.enm (.tup vs),Y):=rfl
theorem DB(hn:Y.length=kk)(hs:Y++[.hid]=τ):cq .zip [.tup vs,.tup ws] Y=some (.zp (.tup (.ref kk::vs)) (.tup ws),τ):=by subst hn hs;rfl
theorem nP(h:((v::vs)++ws).length<=ay):i7 .add Y (.tup (v::vs)) (.tup ws)=some (.tup ((v::vs)++ws),Y):=cf (bd (SV h))
theorem yz{i j:Nat}{l m:List AV}(h:aj Y i=some l)(h2:aj Y j=some m)(hl:(l++m).length<=ay)(hn:Y.length=kk)(hs:Y++[.list (l++m)]=τ):i7 .add Y (.ref i) (.ref j)=some (.ref kk,τ):=by subst hn hs;exact bh rfl (bh rfl ((al h).trans ((al h2).trans (bd (SV hl)))))
theorem IK{n:Nat}:i7 .sub Y (.int ((n+1:Nat):Int)) (.int 1)=some (.int n,Y):=SI (fun x=>some (AV.int x,Y)) (Int.add_sub_cancel (n:Int) 1)
theorem EV{i:Nat}{j:Int}{x:AV}(h:aj Y i=some [x])(hj:j=1)(hn:Y.length=kk)(hs:Y++[.list [x]]=τ):i7 .mul Y (.ref i) (.int j)=some (.ref kk,τ):=by subst hn hs hj;exact bh rfl (al h)
theorem II{i j:Int}(h:i.natAbs<2^31/\j.natAbs<2^31):i7 .mul Y (.int i) (.int j)=some (.int (i*j),Y):=cf (bd (eH (SV h.1) (SV h.2)))
theorem IJ{i j:Int}(h:0<j):i7 .mod Y (.int i) (.int j)=some (.int (i%j),Y):=bd (SV h)
theorem J7{i:Nat}{l:List (AV×AV)}(h:Y[i]?=some (.dict l))(hk:u.pur=true)(g:(aA l u).isSome=t):bi .isIn Y u (.ref i)=some t:=by subst g;exact cf (cf ((al (iH h)).trans (bd hk)))
theorem Dz{i:Nat}{l:List AV}(h:Y[i]?=some (.list l))(hk:(u.pur&&AV.purs l)=true)(g:decide (u∈l)=t):bi .isIn Y u (.ref i)=some t:=by subst g;exact cf (bh (iB (GT h)) ((al (aK h)).trans (bd hk)))
theorem Dy(h:bi .isIn Y v u=some t):bi .notIn Y v u=some !t:=SI (Option.map (!·)) h
theorem zX(h:bi .eq Y v u=some t):bi .ne Y v u=some !t:=SI (Option.map (!·)) h
theorem J8{i j:Nat}{l m:List AV}(h:aj Y i=some l)(h2:aj Y j=some m)(hp:(AV.purs l&&AV.purs m)=true)(g:decide (l=m)=t):bi .eq Y (.ref i) (.ref j)=some t:=by subst g;exact bh rfl (bh rfl ((al h).trans ((al h2).trans (bd hp))))
theorem jI:nr Y (.tup (v::vs)) .tail=some (.tup vs,Y):=rfl
theorem Hw:nr Y (.tup (v::vs)) .first=some (.tup [v],Y):=rfl
theorem Ht{s j:Nat}(h:eL s=some j):nr Y (.sym s) .first=some (.sym j,Y):=cf (aQ h)
theorem Hu{i:Nat}{l:List AV}(h:aj Y i=some l)(hn:Y.length=kk)(hs:Y++[.list l.reverse]=τ):nr Y (.ref i) .rev=some (.ref kk,τ):=by subst hn hs;exact aQ h
theorem Hv{i:Nat}{l:List AV}(h:aj Y i=some l)(hn:Y.length=kk)(hs:Y++[.list (l.take 1)]=τ):nr Y (.ref i) .first=some (.ref kk,τ):=by subst hn hs;exact bh rfl (bh rfl (aQ h))
theorem Hx(hn:Y.length=kk)(hs:Y++[.list (vs.take 30)]=τ):nr Y (.frz vs) .first30=some (.ref kk,τ):=by subst hn hs;rfl
theorem bm{p:ax}{it:X}{cs:List X}{s:wX}(h:au C it U Y=some (v,Y1))(hp:dp p v=true)(hq:cW Y1 v=some s)
  (hc:bz s.gd p U (Cy C cs) (fun U' Y'=>one (au C e U' Y')) s.items Y1=some (vs,Y2)) (hl:vs.length<=ay) (hn:Y2.length=kk) (hs:Y2++[.list vs]=τ):au C (.comp e p it cs) U Y=some (.ref kk,τ):=by subst hn hs;exact zP h hp hq hc hl
theorem m7{p p':ax}{it it':X}{s:wX}(h:au C it U Y=some (v,Y1))(hp:dp p v=true)(hq:cW Y1 v=some s)
  (hc:bz s.gd p U (fun _ Y'=>some (true,Y')) (FD C e p' it') s.items Y1=some (vs,Y2)) (hl:vs.length<=ay) (hn:Y2.length=kk) (hs:Y2++[.list vs]=τ):au C (.comp2 e p it p' it') U Y=some (.ref kk,τ):=by subst hn hs;exact Cz h hp hq hc hl
theorem EM(h:au C e U Y=some (v,Y1))(hi:v.isIt=false):dS C (.expr e) U Y=some (none,U,Y1):=ao (ju hi h)
theorem yk{p:ax}(h:au C e U Y=some (v,Y1))(hi:v.isIt=false)(g:bV p v U Y1=some U1):dS C (.asg p e) U Y=some (none,U1,Y1):=(ao (ju hi h)).trans (aQ g)
theorem ic{i:Nat}(h:au C e U Y=some (v,Y1))(hi:v.isIt=false):dS C (.asg (.one i) e) U Y=some (none,ah U i v,Y1):=yk h hi rfl
theorem EL{a:Nat}(h:au C e U Y=some (v,Y1))(hi:v.isIt=false)(h2:au C e1 U Y1=some (u,Y2))(hi2:u.isIt=false)(g:Bf Y2 u a v=some Y3):dS C (.setAttr e1 a e) U Y=some (none,U,Y3):=(ao (ju hi h)).trans ((ao (ju hi2 h2)).trans (aQ g))
theorem EK(h:au C e U Y=some (v,Y1))(hi:v.isIt=false)(h2:au C e1 U Y1=some (u,Y2))(hi2:u.isIt=false)(h3:au C e2 U Y2=some (w,Y3))(hi3:w.isIt=false)(g:x8 Y3 u w v=some Y4):dS C (.setSub e1 e2 e) U Y=some (none,U,Y4):=(ao (ju hi h)).trans ((ao (ju hi2 h2)).trans ((ao (ju hi3 h3)).trans (aQ g)))
theorem y9{i j:Nat}{l:List AV}(h:Y[i]?=some (.list l))(hl:j<l.length)(hs:Y.set i (.list (l.set j v))=τ):x8 Y (.ref i) (.int j) v=some (τ):=by subst hs;exact cf ((al (aK h)).trans (bd (eH (SV (Uy j)) (SV hl))))
theorem za{i:Nat}{l:List (AV×AV)}(h:Y[i]?=some (.dict l))(hk:u.pur=true)(hl:(aU l u v).length<=ay)(hs:Y.set i (.dict (aU l u v))=τ):x8 Y (.ref i) u v=some (τ):=by subst hs;exact bh (iB (oF h)) ((al (iH h)).trans (bd (eH hk (SV hl))))
theorem zb{i a c:Nat}{fs:List (Nat×AV)}(h:Y[i]?=some (.inst c fs))(hl:(aU fs a v).length<=100)(hs:Y.set i (.inst c (aU fs a v))=τ):Bf Y (.ref i) a v=some τ:=by subst hs;exact(al (tG h)).trans (bd (SV hl))
variable{y z':RS}{s:S}{p q k:List S}
theorem Io:bn C [] U Y=some (none,U,Y):=rfl
theorem C8(h:au C e U Y=some (v,Y1))(hi:v.isIt=false):bn C (.ret e::k) U Y=some (some v,U,Y1):=Ie (ao (ju hi h))
theorem bK(h:dS C s U Y=some (none,U1,Y1))(g:bn C k U1 Y1=y):bn C (s::k) U Y=y:=(seq h).trans g
noncomputable def Hk(C:Calls)(y:RS)(k:List S):RS:=vu y (bn C k)
theorem Ot(g:bn C k U Y=y):Hk C (some (none,U,Y)) k=y:=g
theorem Os:Hk C (some (some v,U,Y)) k=some (some v,U,Y):=rfl
theorem Ou{x:RS}(h:x=z')(g:Hk C z' k=y):Hk C x k=y:=h▸g
theorem Ip(h:au C e U Y=some (.bool t,Y1))(g:wj t (Hk C (bn C p U Y1) k) (Hk C (bn C q U Y1) k)=y):bn C (.ite e p q::k) U Y=y:=by subst g;exact(SI (vu · (bn C k)) ((ao (hYY h)).trans (by cases t<;>rfl:_=wj t (bn C p U Y1) (bn C q U Y1)))).trans (by cases t<;>rfl)
theorem Iv(h:au C e U Y=some (.bool t,Y1))(g:wj t (bn C p U Y1) (bn C q U Y1)=y):dS C (.ite e p q) U Y=y:=(ao (hYY h)).trans (by cases t<;>exact g)
theorem rf{tt:En->St->Option (Bool×St)}{bb:En->St->RS}{m:Nat}(h:tt U Y=some (false,Y1)):dN tt bb (m+1) U Y=some (none,U,Y1):=(ao h).trans rfl
theorem AC{tt:En->St->Option (Bool×St)}{bb:En->St->RS}{m:Nat}(h:tt U Y=some (true,Y1))(h2:bb U Y1=some (none,U1,Y2))(g:dN tt bb m U1 Y2=y):dN tt bb (m+1) U Y=y:=(ao h).trans ((al h2).trans g)
theorem JV(h:bn C k U Y=y)(g:ed y=z):ed (bn C k U Y)=z:=h▸g
theorem io(h:r=some (v,Y))(hi:v.isIt=false):one r=some ([v],Y):=ao (ju hi h)
theorem oZ(h:au C e U Y=some (.bool t,Y1)):Cy C [e] U Y=some (t,Y1):=(ao (hYY h)).trans (by cases t<;>rfl)
end
theorem Sj{Y:St}{i j:Int}{b:Bool}(h:decide (AV.int i=.int j)=b):bi .eq Y (.int i) (.int j)=some b:=SI some h
theorem J6{Y:St}{i j:Int}{b:Bool}(h:decide (AV.int i=.int j)=b):bi .ne Y (.int i) (.int j)=some !b:=SI (fun x=>some !x) h
theorem v8{a:AV}{l:List AV}(h:l.length<=99999):([a]++l).length<=ay:=by rw[SZ];exact Tw h 1
theorem v7{α β:Type}{f:α->β}{l:List α}(h:l.length<=99999):(l.map f).length<=99999:=by rw[S7];exact h
theorem Jp{n:Nat}(h:n<=50):n<=99999:=SJ h (S8 rfl)
section
variable{Y:St}{a b:Nat}
theorem mx:(AV.int (a:Int)=.int (b:Int))↔a=b:=⟨fun q=>Int.ofNat.inj (AV.int.inj q),fun q=>q▸rfl⟩
theorem fE(h:a=b):bi .eq Y (.int a) (.int b)=some true:=SI some (SV (mx.mpr h))
theorem iO(h:a≠b):bi .eq Y (.int a) (.int b)=some false:=SI some (Tk fun q=>h (mx.mp q))
theorem Dj(h:a≠b):bi .ne Y (.int a) (.int b)=some true:=zX (iO h)
theorem um(h:a=b):bi .ne Y (.int a) (.int b)=some false:=zX (fE h)
theorem Dk(h:a<b):bi .lt Y (.int a) (.int b)=some true:=SI some (SV (Int.ofNat_lt.mpr h))
theorem Dl(h:b<=a):bi .lt Y (.int a) (.int b)=some false:=SI some (Tk (Int.not_lt.mpr (TX.mpr h)))
theorem I5(h:a<=b):bi .le Y (.int a) (.int b)=some true:=SI some (SV (TX.mpr h))
theorem Pw(h:b<a):bi .le Y (.int a) (.int b)=some false:=SI some (Tk (Int.not_le.mpr (Int.ofNat_lt.mpr h)))
theorem I6(h:b<a):bi .gt Y (.int a) (.int b)=some true:=SI some (SV (Int.ofNat_lt.mpr h))
theorem I7(h:a<=b):bi .gt Y (.int a) (.int b)=some false:=SI some (Tk (Int.not_lt.mpr (TX.mpr h)))
theorem A6(h:a<=b):b7 [.int a,.int b]=some [.int a,.int b]:=(aQ (f:=fun t=>bif t then[AV.int b,.int a] else[AV.int a,.int b]) (x:=BQ (.int b) (.int a)) (a:=false) (SI some (Tk (Int.not_lt.mpr (TX.mpr h)))))
theorem Ey(h:b<a):b7 [.int a,.int b]=some [.int b,.int a]:=(aQ (f:=fun t=>bif t then[AV.int b,.int a] else[AV.int a,.int b]) (x:=BQ (.int b) (.int a)) (a:=true) (SI some (SV (Int.ofNat_lt.mpr h))))
end
section
variable{F:Fx}{rest:St}{o a b c d e f g h i j:AO}
theorem Ss:F.st rest++[o]=F.st (rest++[o]):=rfl
theorem RY:(F.st rest).length=rest.length+19:=rfl
theorem KN:F.st (rest++[a])++[o]=F.st (rest++[a,o]):=SI F.st (S6 rest [a] [o])
theorem NL:(F.st (rest++[a])).length=rest.length+1+19:=SI (·+19) (SZ (as:=rest) (bs:=[a]))
theorem Kj:F.st (rest++[a,b])++[o]=F.st (rest++[a,b,o]):=SI F.st (S6 rest [a,b] [o])
theorem KE:(F.st (rest++[a,b])).length=rest.length+2+19:=SI (·+19) (SZ (as:=rest) (bs:=[a,b]))
theorem PU:F.st (rest++[a,b,c])++[o]=F.st (rest++[a,b,c,o]):=SI F.st (S6 rest [a,b,c] [o])
theorem Py:(F.st (rest++[a,b,c])).length=rest.length+3+19:=SI (·+19) (SZ (as:=rest) (bs:=[a,b,c]))
theorem Sr:F.st (rest++[a,b,c,d])++[o]=F.st (rest++[a,b,c,d,o]):=SI F.st (S6 rest [a,b,c,d] [o])
theorem RX:(F.st (rest++[a,b,c,d])).length=rest.length+4+19:=SI (·+19) (SZ (as:=rest) (bs:=[a,b,c,d]))
theorem Sq:F.st (rest++[a,b,c,d,e])++[o]=F.st (rest++[a,b,c,d,e,o]):=SI F.st (S6 rest [a,b,c,d,e] [o])
theorem RW:(F.st (rest++[a,b,c,d,e])).length=rest.length+5+19:=SI (·+19) (SZ (as:=rest) (bs:=[a,b,c,d,e]))
theorem Sp:F.st (rest++[a,b,c,d,e,f])++[o]=F.st (rest++[a,b,c,d,e,f,o]):=SI F.st (S6 rest [a,b,c,d,e,f] [o])
theorem RV:(F.st (rest++[a,b,c,d,e,f])).length=rest.length+6+19:=SI (·+19) (SZ (as:=rest) (bs:=[a,b,c,d,e,f]))
theorem So:F.st (rest++[a,b,c,d,e,f,g])++[o]=F.st (rest++[a,b,c,d,e,f,g,o]):=SI F.st (S6 rest [a,b,c,d,e,f,g] [o])
theorem RU:(F.st (rest++[a,b,c,d,e,f,g])).length=rest.length+7+19:=SI (·+19) (SZ (as:=rest) (bs:=[a,b,c,d,e,f,g]))
theorem Sn:F.st (rest++[a,b,c,d,e,f,g,h])++[o]=F.st (rest++[a,b,c,d,e,f,g,h,o]):=SI F.st (S6 rest [a,b,c,d,e,f,g,h] [o])
theorem RT:(F.st (rest++[a,b,c,d,e,f,g,h])).length=rest.length+8+19:=SI (·+19) (SZ (as:=rest) (bs:=[a,b,c,d,e,f,g,h]))
theorem Sm:F.st (rest++[a,b,c,d,e,f,g,h,i])++[o]=F.st (rest++[a,b,c,d,e,f,g,h,i,o]):=SI F.st (S6 rest [a,b,c,d,e,f,g,h,i] [o])
theorem RQ:(F.st (rest++[a,b,c,d,e,f,g,h,i])).length=rest.length+9+19:=SI (·+19) (SZ (as:=rest) (bs:=[a,b,c,d,e,f,g,h,i]))
end
theorem Jy{i:Nat}{o:AO}(h:False):([]:St)[i]?=some o:=h.elim
theorem BE{i j:Nat}(h:i≠j):i+19≠j+19:=fun q=>h (Nat.add_right_cancel q)
section
variable(F:Fx)(rest:St)
theorem t5{l:List AV}:(F.st rest).set 5 (.list l)=(F.t5 l).st rest:=rfl
theorem t7{l:List AV}:(F.st rest).set 7 (.list l)=(F.t7 l).st rest:=rfl
theorem t8{l:List AV}:(F.st rest).set 8 (.list l)=(F.t8 l).st rest:=rfl
theorem Qt{l:List AV}:(F.st rest).set 10 (.list l)=(F.t10 l).st rest:=rfl
theorem Qs{l:List AV}:(F.st rest).set 11 (.list l)=(F.t11 l).st rest:=rfl
theorem Qr{l:List AV}:(F.st rest).set 12 (.list l)=(F.t12 l).st rest:=rfl
theorem Qq{l:List AV}:(F.st rest).set 13 (.list l)=(F.t13 l).st rest:=rfl
theorem Qn{l:List AV}:(F.st rest).set 17 (.list l)=(F.t17 l).st rest:=rfl
theorem Qm{l:List AV}:(F.st rest).set 18 (.list l)=(F.t18 l).st rest:=rfl
theorem Qp{l:List (AV×AV)}:(F.st rest).set 15 (.dict l)=(F.t15 l).st rest:=rfl
theorem Qo{l:List (AV×AV)}:(F.st rest).set 16 (.dict l)=(F.t16 l).st rest:=rfl
end
theorem Pq{t:Bool}(h:t=false):(!t)=true:=h▸rfl
theorem Pu{t:Bool}(h:t=true):(!t)=false:=h▸rfl
theorem Ld{a b:Nat}(h:a=b):decide (AV.sym a=.sym b)=true:=SV (h▸rfl)
theorem AL{a b:Nat}(h:a≠b):decide (AV.sym a=.sym b)=false:=Tk fun q=>h (AV.sym.inj q)
theorem NK{F:Fx}{rest:St}{a b o:AO}{j:Nat}:(F.st ((rest++[a,b]).set j o)).length=rest.length+2+19:=SI (·+19) (Uu.trans SZ)
theorem Jl{α β:Type}{f:α->AV}{g:β->AV}{x:List α}{y:List β}(h:x.length+y.length<=ay):(x.map f++y.map g).length<=ay:=by rw[SZ,S7,S7];exact h
theorem NM{l:List AV}{β:Type}{g:β->AV}{y:List β}(h:l.length+y.length<=ay):(l++y.map g).length<=ay:=by rw[SZ,S7];exact h
section
variable{gd:List (Nat×Option (List AV))}{p:ax}{U U1 U2:En}{cc:En->St->Option (Bool×St)}{ee:En->St->Option (List AV×St)}{b:En->St->RS}{v:AV}{vs xs ys:List AV}{Y Y1 Y2 Y3:St}{z:Option (List AV×St)}{y:RS}
theorem cg(hg:ip Y gd=true):bz gd p U cc ee [] Y=some ([],Y):=bd hg
noncomputable def Oj(t:Bool)(e:Option (List AV×St))(k:St->Option (List AV×St))(Y:St):Option (List AV×St):=Dw t k e Y
theorem iU{t:Bool}(hg:ip Y gd=true)(hb:bV p v U Y=some U1)(hc:cc U1 Y=some (t,Y1))(k:Oj t (ee U1 Y1) (bz gd p U cc ee vs) Y1=z):bz gd p U cc ee (v::vs) Y=z:=
 (dK hg).trans ((al hb).trans ((ao hc).trans k))
theorem CB(hg:ip Y gd=true)(hb:bV p v U Y=some U1)(hc:cc U1 Y=some (false,Y1))(k:bz gd p U cc ee vs Y1=z):bz gd p U cc ee (v::vs) Y=z:=iU hg hb hc k
theorem uL(hg:ip Y gd=true)(hb:bV p v U Y=some U1)(hc:cc U1 Y=some (true,Y1))(he:ee U1 Y1=some (xs,Y2))(k:bz gd p U cc ee vs Y2=some (ys,Y3)):bz gd p U cc ee (v::vs) Y=some (xs++ys,Y3):=
 iU hg hb hc ((ao he).trans (ao k))
theorem J0{t:Bool}{e:Option (List AV×St)}{k:St->Option (List AV×St)}{zs:List AV}(ht:t=true)(he:e=some (xs,Y2))(h:k Y2=some (ys,Y3))(hx:xs++ys=zs):Oj t e k Y=some (zs,Y3):=by subst ht hx;exact(ao he).trans (ao h)
theorem PQ{t:Bool}{e:Option (List AV×St)}{k:St->Option (List AV×St)}(ht:t=false)(h:k Y=z):Oj t e k Y=z:=by subst ht;exact h
theorem bU(hg:ip Y gd=true):dT gd p b [] U Y=some (none,U,Y):=bd hg
theorem cm(hg:ip Y gd=true)(hb:bV p v U Y=some U1)(h:b U1 Y=some (none,U2,Y2))(k:dT gd p b vs U2 Y2=y):dT gd p b (v::vs) U Y=y:=(dK hg).trans ((al hb).trans ((al h).trans k))
end
theorem NT{α:Type}{l:List α}{n:Nat}{x:α}(h:l.length=n):(l++[x]).length=n+1:=by rw[SZ,h];rfl
theorem tW{Y:St}{i:Nat}{l:List AV}(h:aj Y i=some l):cW Y (.enm (.ref i))=some ⟨lF l,[(i,some l)]⟩:=bh rfl (bh rfl (bh rfl (bh rfl (cf (bh rfl (aQ h))))))
theorem aV{Y:St}{i:Nat}{l:List AV}(h:aj Y i=some l):cW Y (.ref i)=some ⟨l,[(i,some l)]⟩:=bh rfl (cf (aQ h))
theorem bv{F:Fx}{rest:St}{j:Nat}{l:List AV}(h:rest[j]?=some (.list l)):ip (F.st rest) [(j+19,some l)]=true:=eH (SV (aK (cG h))) rfl
theorem mt{F:Fx}{rest:St}(l:List AV)(h:F.world=l):ip (F.st rest) [(18,some l)]=true:=by subst h;exact eH (SV rfl) rfl
theorem uO{C:Calls}{U U1:En}{Y Y1:St}{s:S}{k:List S}{z:Rs}(h:dS C s U Y=some (none,U1,Y1))(g:ed (bn C k U1 Y1)=z):ed (bn C (s::k) U Y)=z:=(SI ed (seq h)).trans g
theorem jm{a b:Bool}(h:a=true)(g:b=true):(a&&b)=true:=by rw[h,g];rfl
theorem y7{C:Calls}{e it:X}{p:ax}{U:En}{Y Y1:St}{v:AV}{s:wX}{z:Option (List AV×St)}(h:au C it U Y=some (v,Y1))(hp:dp p v=true)(hq:cW Y1 v=some s)
  (hc:bz s.gd p U (fun _ Y'=>some (true,Y')) (fun U'' Y'=>one (au C e U'' Y')) s.items Y1=z):FD C e p it U Y=z:=(ao h).trans ((dK hp).trans ((al hq).trans hc))
theorem Qv{F:Fx}{rest l:St}{a o:AO}:(F.st (rest++a::l)).set (rest.length+19) o=F.st (rest++o::l):=SI F.st (show(rest++a::l).set rest.length o=rest++o::l by rw[List.set_append_right _ _ (SN _),Nat.sub_self];rfl)
theorem IA{F:Fx}{rest:St}{j:Nat}(h:rest[j]?=some .hid):ip (F.st rest) [(j+19,none)]=true:=eH (by show((F.st rest)[j+19]?.map AO.isHid).getD false=true;rw[cG h];rfl) rfl
theorem y4{C:Calls}{f:Nat}{vs:List AV}{Y:St}{z:Rs}(h:C.fn f vs Y=z):C.fn f vs Y=z:=h
theorem Pp{a b:Nat}(h:a=b):decide (AV.int (a:Int)=.int (b:Int))=true:=SV (mx.mpr h)
theorem NC{a b:Nat}(h:a≠b):decide (AV.int (a:Int)=.int (b:Int))=false:=Tk fun q=>h (mx.mp q)
theorem R9{a b:Bool}(h:a=b):a=b:=h
theorem R3{a b:Nat}(h:a<=b):a<=b:=h
theorem R6{Y:St}{i:Nat}{o:AO}(h:Y[i]?=some o):Y[i]?=some o:=h
theorem R8{C:Calls}{e:X}{U:En}{Y:St}{z:Rs}(h:au C e U Y=z):au C e U Y=z:=h
theorem R2{b:aO}{vs:List AV}{Y:St}{z:Rs}(h:cq b vs Y=z):cq b vs Y=z:=h
theorem R7{U:En}{i:Nat}{v:AV}(h:U i=some v):U i=some v:=h
theorem R4{fs:List (Nat×AV)}{i:Nat}{v:Option AV}(h:fs.lookup i=v):fs.lookup i=v:=h
theorem Sa{Y:St}{u v:AV}{a:Nat}(h:ww Y u a=some v):ww Y u a=some v:=h
theorem R5{Y:St}{i:Nat}{l:List AV}(h:aj Y i=some l):aj Y i=some l:=h
set_option compiler.extract_closed false
theorem isPr {p : Prop} (h : p) : p := h
theorem leB {m n : Nat} (h : m.ble n = true) : m <= n := Nat.le_of_ble_eq_true h
def mU (l : List Lean.Syntax) : Lean.Syntax := .node .none `null l.toArray
def mN (k a : String) (l : List Lean.Syntax) : Lean.Syntax := .node .none (.str `Lean.Parser.Tactic k) (.mk (if a = "" then l else .atom .none a :: l))
def mI (s : String) : Lean.Syntax := .ident .none s.toRawSubstring (.str .anonymous s) []
def mQ (l : List Lean.Syntax) : Lean.Syntax := mN "tacticSeq" "" [mN "tacticSeq1Indented" "" [mU l]]
def mF (G F X : Lean.Syntax) (s : List Lean.Syntax) (t : String) : List Lean.Syntax :=
  let x := s.headD G
  let r := s.tail
  let w := (t.drop 1).toString
  let c := t.front
  let o (x : Lean.Syntax) := mN "group" "|" [mQ [x]]
  if c = '*' then o (mN "apply" "apply" [mI w]) :: s
  else if c = '+' then o (mN "apply" "apply" [.node .none `Lean.Parser.Term.app #[mI w, mU [.node .none `Lean.Parser.Term.syntheticHole #[.atom .none "?", mI "hQ"]]]]) :: s
  else if c = '|' then o x :: r
  else if c = 'W' then mN "withReducible" "with_reducible" [mQ [x]] :: r
  else if c = 'Q' then mN "failIfSuccess" "fail_if_success" [mQ [x]] :: r
  else if c = '<' then mN "tactic_<;>_" "" [x, .atom .none "<;>", G] :: r
  else if c = ';' then mN "paren" "(" [mQ [r.headD x, .atom .none ";", x], .atom .none ")"] :: r.tail
  else if c = 'H' then mN "case" "case" [mU [mN "caseArg" "" [.node .none `Lean.binderIdent #[mI "hQ"], mU []]], .atom .none "=>", mQ [x]] :: r
  else if c = 'R' then mN "exact" "exact" [mI "rfl"] :: s
  else if c = '=' then mN w w [] :: s
  else if c = 'G' then G :: s
  else if c = 'F' then F :: s
  else if c = 'X' then X :: s
  else mN "first" "first" [mU (s.take t.toNat!).reverse] :: s.drop t.toNat!
def mG (G F X : Lean.Syntax) : List String -> List Lean.Syntax -> Lean.Syntax
  | [], s => s.headD G
  | t :: l, s => mG G F X l (mF G F X s t)
local macro_rules | `(tactic| exists $es,*) => do
  let xs := es.getElems
  let G <- `(tactic| exists $es,*)
  let F <- `(tactic| first $[| exact $xs]*)
  let X <- `(tactic| (simp only[$[$xs:term],*]; done))
  return mG G F X ("*aG *AH *HP *KZ *K6 *cJ *bA 7 W < | F W | *Sa *R5 2 W Q Q R | =assumption | +GU +aK 2 W G =done ; H ; < | F | =skip | 5 ; | *R9 *R7 *R4 3 W Q Q R | =assumption | F | =skip | 4 ; | *R3 1 W Q Q =assumption | *leB 1 W R ; | F | =skip | 4 ; | *Jy 1 W Q Q | *y4 1 W F ; | *y4 1 W Q Q | *R6 1 W Q Q *GF *GR *GQ *GP *GN *GM *GL *GK *GJ 9 W | R | =assumption | +Km +Kl 2 W G =done ; H ; < | *cG 1 W < | F | =skip | 7 ; | *R8 1 W Q Q *jK *oS *xn *xp *m9 *oR *HN *C0 *l8 *xq *l6 *C1 *HK *HL *HO *DU *HM *DT *CZ 19 W < ; | *R2 1 W Q Q *Gn *Gm *CS *CT *Af *Gu *Gv *Gw *Ke *Gq *Gr *Gj *Kf *DB 14 W < | +zb +y9 +Ab 3 W G =done ; H ; < | +za +Ac 2 W G =done ; H ; < | *Gk *Ka *Kc *Kb *DC 5 W < | 4 ; | +bK 1 W F W H ; < | *EM *ic *yk *EL *EK *Iv *JV *Ip *C8 *Io *bK *Ot *Os *Ou *KN *Kj *PU *Sr *Sq *Sp *So *Sn *Sm *Ss *NL *KE *Py *RX *RW *RV *RU *RT *RQ *RY *s2 *t5 *t7 *t8 *Qt *Qs *Qr *Qq *Qp *Qo *Qn *Qm *Qv *sr *yz *EV *Jg *Jf *Jc *Fd *BN *Hu *Hv *jI *Hw *Hx *cg *iU *hYY *io *oZ *Je *NH *QH *QI *Dy *zX *Oq *Gh *Gi *J5 *IK 76 W < | +J0 +kT +Ow +O8 +Sh 5 W R | =assumption | F | *Pq *Pu 2 W R | =assumption | F | 3 ; | X | 5 H ; < | +PQ +kF +Kg +QJ +Si 5 W R | =assumption | F | *Pq *Pu 2 W R | =assumption | F | 3 ; | X | 5 H ; < | +zb +y9 +Ab 3 W G =done ; H ; < | +za +Ac 2 W G =done ; H ; < | R | *isPr 1 W Q Q =assumption ; | *Jd *Im *J8 *nP *II *IJ *Iy *Ht 8 W < | +Fq +ny +J7 3 W G =done ; H ; < | +Fp +iH +EH +Dz 4 W G =done ; H ; < | +Fs +d9 2 W G =done ; H ; < | F | =skip | 25".splitOn " ") []
section
variable{F:Fx}{rest:St}
theorem nK:Ok 1 13 [.ref 4] (F.st rest) (aa F.nodes.length) (F.st rest):=by
 refine .mk rfl rfl fun n _=>?_;exists trivial
theorem er:Ok 2 26 [.ref 3] (F.st rest) (aa F.nodes.length) (F.st rest):=by
 refine .mk rfl rfl fun n hn=>?_;have h:=nK (F:=F) (rest:=rest) n hn;exists h
theorem eO:Ok 1 20 [.ref 9] (F.st rest) (aa F.up.length) (F.st rest):=by
 refine .mk rfl rfl fun n _=>?_;exists trivial
theorem sm{i op:Nat}{ks:List Nat}(h:F.nodes[i]?=some (aJ (op,ks))):Ok 1 16 [.ref 4,aa i] (F.st rest) (.sym op) (F.st rest):=by
 refine .mk rfl rfl fun n _=>?_;exists d9 h
theorem nL{i op:Nat}{ks:List Nat}(h:F.nodes[i]?=some (aJ (op,ks))):Ok 1 17 [.ref 4,aa i] (F.st rest) (.tup (ks.map aa)) (F.st rest):=by
 refine .mk rfl rfl fun n _=>?_;exists d9 h
theorem nJ{cl:Nat->Nat}{up:List Nat}(hu:F.up=up.map aa)(h:∀ a,a<up.length->∃ b,up[a]?=some b/\b<=a/\cl b=cl a/\(b=a->cl a=a)){C:Calls}:∀(m a:Nat) (U:En),U 0=some (.ref 9)->U 1=some (aa a)->a<m->a<up.length->
  ∀(G:Prop),(∀ U',dN (fun U Y=>jN (au C (.cmp .ne (.sub (.attr (.loc 0) 4) (.loc 1)) (.loc 1)) U Y)) (bn C [.asg (.one 1) (.sub (.attr (.loc 0) 4) (.loc 1))]) m U (F.st rest)=some (none,U',F.st rest)->U' 1=some (aa (cl a))->G)->G:=by
 intro m;induction m with
 | zero=>exact fun _ _ _ _ h=>SP h o4
 | succ m ih=>
  intro a U h0 h1 hm ha G kk;obtain⟨b,e1,e2,e3,e4⟩:=h a ha;have hx:F.up[a]?=some (aa b):=by rw[hu,TD,e1];rfl
  have hs:au C (.sub (.attr (.loc 0) 4) (.loc 1)) U (F.st rest)=some (aa b,F.st rest):=oS (jK (aG h0) rfl rfl) rfl (aG h1) rfl (ny (aK rfl) (d9 hx))
  by_cases hb:b=a
  ·refine kk U (rf (hYY (l8 hs rfl (aG h1) rfl ?_))) (by rw[h1,e4 hb])
   subst hb;exact J6 (SV rfl)
  ·refine ih b (ah U 1 (aa b)) (Fi (by decide) h0) Dm (o5 hm e2 hb) (Tj e2 ha) _ fun U' i1 i2=>?_
   exact kk U' (AC (hYY (l8 hs rfl (aG h1) rfl (J6 (Tk fun q=>hb (Int.ofNat.inj (AV.int.inj q)))))) (bK (ic hs rfl) rfl) i1) (i2.trans (SI _ (SI _ e3)))
end
theorem cE{α:Type}{gd:List (Nat×Option (List AV))}{p:ax}{U:En}{conds:En->St->Option (Bool×St)}{elt:En->St->Option (List AV×St)}{Y:St}(hg:ip Y gd=true){i o:α->AV}{vs:List α} :
  (∀ v∈vs,∃ U',bV p (i v) U Y=some U'/\conds U' Y=some (true,Y)/\elt U' Y=some ([o v],Y))->bz gd p U conds elt (vs.map i) Y=some (vs.map o,Y):=by
 induction vs with
 | nil=>exact fun _=>cg hg
 | cons v vs ih=>exact fun h=>(h v (.head _)).elim fun U' e=>uL hg e.1 e.2.1 e.2.2 (ih fun u hu=>h u (.tail _ hu))
theorem wG{α:Type}{gd:List (Nat×Option (List AV))}{p:ax}{U:En}{conds:En->St->Option (Bool×St)}{elt:En->St->Option (List AV×St)}{Y:St}(hg:ip Y gd=true){i o:α->AV}{c:α->Bool}{vs:List α} :
  (∀ v∈vs,∃ U',bV p (i v) U Y=some U'/\conds U' Y=some (c v,Y)/\(c v=true->elt U' Y=some ([o v],Y)))->bz gd p U conds elt (vs.map i) Y=some ((vs.filter c).map o,Y):=by
 induction vs with
 | nil=>exact fun _=>cg hg
 | cons v vs ih=>
  refine fun h=>(h v (.head _)).elim fun U' e=>iU hg e.1 e.2.1 ?_;have ih:=ih fun u hu=>h u (.tail _ hu);rw[List.filter_cons]
  cases hc:c v with
  | false=>exact ih
  | true=>exact J0 rfl (e.2.2 hc) ih rfl
structure UF(up:List Nat)(cl:Nat->Nat):Prop where
 step:∀ a,a<up.length->∃ b,up[a]?=some b/\b<=a/\cl b=cl a/\(b=a->cl a=a)
 le:∀ a,cl a<=a
 idem:∀ a,cl (cl a)=cl a
 out:∀ a,up.length<=a->cl a=a
theorem jx{d e:Nd}(h:aJ d=aJ e):d=e:=by
 obtain⟨a,l⟩:=d;obtain⟨b,m⟩:=e;simp only[aJ,AV.tup.injEq,List.cons.injEq,AV.sym.injEq] at h;obtain⟨rfl,h⟩:=h;have:∀{l m:List Nat},l.map aa=m.map aa->l=m:=by
  intro l
  induction l with
  | nil=>intro m h;cases m with
   | nil=>rfl
   | cons=>simp at h
  | cons x l ih=>intro m h;cases m with
   | nil=>simp at h
   | cons y m=>simp at h;obtain⟨h1,h2⟩:=h;rw[ih (by simpa using h2)];congr 1;exact o6 h1
 rw[this h]
section
variable{F:Fx}{rest:St}{cl:Nat->Nat}{up:List Nat}
theorem uh(hu:F.up=up.map aa)(UU:UF up cl){a:Nat}(ha:a<up.length)(hz:up.length<=100):Ok 1 21 [.ref 9,aa a] (F.st rest) (aa (cl a)) (F.st rest):=by
 refine .mk rfl rfl fun n _=>?_;refine nJ (F:=F) (rest:=rest) hu UU.step (C:=⟨az ak n⟩) bB a (fun i=>[AV.ref 9,aa a][i]?) rfl rfl (by unfold bB;exact o7 ha hz) ha _ fun U' e1 e2=>?_
 show ed (bn _ [.whl _ _,.ret _] _ _)=_;rw[seq ((zF ..).trans e1)];exists e2
theorem j7(hu:F.up=up.map aa)(UU:UF up cl){a:Nat}(ha:a<up.length)(hz:up.length<=100):Ok 2 30 [.ref 3,aa a] (F.st rest) (aa (cl a)) (F.st rest):=by
 refine .mk rfl rfl fun n hn=>?_;exists uh (rest:=rest) hu UU ha hz n hn
theorem Bx(hu:F.up=up.map aa)(UU:UF up cl){i op:Nat}{ks:List Nat}(hk:∀ k∈ks,k<up.length)(hz:up.length<=100)(hl:ks.length<=50)(h:F.nodes[i]?=some (aJ (op,ks))) :
  Ok 3 27 [.ref 3,aa i] (F.st rest) (aJ (op,ks.map cl)) (F.st (rest++[.list ((ks.map cl).map aa)])):=by
 refine .mk rfl rfl fun n hn=>?_;have h1:=sm (F:=F) (rest:=rest) h n (SJ (by decide) hn)
 have h2:=nL (F:=F) (rest:=rest) h n (SJ (by decide) hn)
 have h3:au ⟨az ak n⟩ (.comp (.meth (.loc 0) 41 [.loc 3]) (.one 3) (.meth (.attr (.loc 0) 7) 39 [.loc 1]) []) (fun j=>[AV.ref 3,aa i][j]?) (F.st rest)=some (.ref (rest.length+19),F.st (rest++[.list ((ks.map cl).map aa)])):=by
  refine(zP (v:=.tup (ks.map aa)) (s:=⟨ks.map aa,[]⟩) (Y1:=F.st rest) (Y2:=F.st rest) (vs:=ks.map fun k=>aa (cl k)) ?_ rfl rfl (cE rfl fun k hk'=>⟨_,rfl,rfl,?_⟩) (by simp;unfold ay;exact SJ hl (by decide))).trans (by simp[sl,sa,Function.comp_def])
  ·exists h2
  ·have h4:=j7 (F:=F) (rest:=rest) hu UU (hk k hk') hz n (hn);exists h4
 exists h1,h3,v8 (v7 (v7 (Jp hl)))
end
noncomputable def lk{α:Type}[DecidableEq α](es:List (α×Nat))(k:α):Option Nat:=(es.find? fun e=>decide (e.1=k)).map (·.2)
theorem qx{α β:Type}(f:α->β)(p:β->Bool)(l:List α):(l.map f).find? p=(l.find? (fun x=>p (f x))).map f:=List.find?_map
theorem qd(es:List (Nd×Nat))(d:Nd)(g:Nat->AV):aA (es.map fun x=>(aJ x.1,g x.2)) (aJ d)=(lk es d).map g:=by
 unfold aA lk;rw[qx];have:(fun x:Nd×Nat=>decide ((aJ x.1,g x.2).1=aJ d))=fun e=>decide (e.1=d):=by
  funext e;exact decide_eq_decide.mpr ⟨fun h=>jx h,fun h=>by rw[h]⟩
 rw[this];cases List.find? (fun e=>decide (e.1=d)) es<;>rfl
theorem jv{a b:Nat}:aa a=aa b↔a=b:=by simp[aa];exact o8
theorem nU(es:List (Nat×Nat))(k:Nat)(g:Nat->AV):aA (es.map fun x=>(aa x.1,g x.2)) (aa k)=(lk es k).map g:=by
 unfold aA lk;rw[qx];have:(fun x:Nat×Nat=>decide ((aa x.1,g x.2).1=aa k))=fun e=>decide (e.1=k):=by
  funext e;exact decide_eq_decide.mpr jv
 rw[this];cases List.find? (fun e=>decide (e.1=k)) es<;>rfl
theorem fi{α:Type}[DecidableEq α]{es:List (α×Nat)}{k:α}{j:Nat}(h:lk es k=some j):(k,j)∈es:=by
 unfold lk at h;obtain⟨e,h1,rfl⟩:=Ur.mp h;have:=List.find?_some h1;simp at this;subst this;exact List.mem_of_find?_eq_some h1
theorem Dr{α:Type}{p:α×Nat}{es:List (α×Nat)}{k:α}{j:Nat}(hn:((p::es).map (·.1)).Nodup)(h:(k,j)∈es):p.1≠k:=fun q=>(Tq.mp hn).1 (Ta.mpr ⟨(k,j),h,q.symm⟩)
theorem nV{α:Type}[DecidableEq α]{es:List (α×Nat)}{k:α}{j:Nat}:(es.map (·.1)).Nodup->(k,j)∈es->lk es k=some j:=by
 induction es with
 | nil=>exact fun _ h=>SP h Ud
 | cons p es ih=>
  refine fun hn h=>(SW.mp h).elim (fun e=>?_) fun h=>?_
  ·rw[<- e,lk,List.find?_cons_of_pos (p:=fun x:α×Nat=>decide (x.1=k)) (SV rfl)];rfl
  ·exact(SI (Option.map Prod.snd) (List.find?_cons_of_neg (p:=fun x:α×Nat=>decide (x.1=k)) fun q=>Dr hn h (SO q))).trans (ih (Tq.mp hn).2 h)
theorem di{f:Nat×Nat->Nat}{es:List (Nat×Nat)}{k j:Nat}:(es.map (·.1)).Nodup->(k,j)∈es->(es.map f).sum=f (k,j)+((es.filter fun e=>!decide (e.1=k)).map f).sum:=by
 induction es with
 | nil=>exact fun _ h=>SP h Ud
 | cons p es ih=>
  refine fun hn h=>(SW.mp h).elim (fun e=>?_) fun h=>?_
  ·have h1:(p::es).filter (fun e=>!decide (e.1=k))=es:=by
    rw[List.filter_cons_of_neg (by rw[SV (SI Prod.fst e).symm];decide)]
    exact List.filter_eq_self.mpr fun x hx=>by rw[Tk fun q=>(Tq.mp hn).1 (Ta.mpr ⟨x,hx,q.trans (SI Prod.fst e)⟩)];rfl
   rw[h1,e];rfl
  ·rw[List.filter_cons_of_pos (by rw[Tk (Dr hn h)];rfl),List.map_cons,List.map_cons,List.sum_cons,List.sum_cons,ih (Tq.mp hn).2 h]
   exact Nat.add_left_comm ..
structure Fr(D D':List Nat)(r r':St):Prop where
 len:r.length<=r'.length
 same:∀ j,j<r.length->j∉D->r'[j]?=r[j]?
 new:∀ j∈D',j∈D\/r.length<=j
theorem Fr.refl(D:List Nat)(r:St):Fr D D r r:=⟨SN _,fun _ _ _=>rfl,fun _ h=>.inl h⟩
theorem Fr.grow(D:List Nat)(r l:St):Fr D D r (r++l):=⟨by simp,fun j hj _=>Tf hj,fun _ h=>.inl h⟩
theorem Fr.trans{D D' D'':List Nat}{r r' r'':St}(x:Fr D D' r r')(y:Fr D' D'' r' r''):Fr D D'' r r'':=by
 refine⟨SJ x.len y.len,fun j hj hn=>?_,fun j hj=>?_⟩
 ·rw[y.same j (TJ hj x.len) fun h=>?_,x.same j hj hn]
  rcases x.new j h with h | h
  ·exact hn h
  ·exact Ux h hj
 ·rcases y.new j hj with h | h
  ·exact x.new j h
  ·exact .inr (SJ x.len h)
theorem Fr.at{D D':List Nat}{r r':St}(x:Fr D D' r r'){j:Nat}{o:AO}(h:r[j]?=some o)(hn:j∉D):r'[j]?=some o:=by
 rw[x.same j (SR.mp h).1 hn,h]
def eW(F F':Fx):Prop:=F'.raw=F.raw/\F'.cells=F.cells/\F'.ato=F.ato/\F'.world=F.world
theorem eW.refl(F:Fx):eW F F:=⟨rfl,rfl,rfl,rfl⟩
theorem eW.trans{F F' F'':Fx}(a:eW F F')(b:eW F' F''):eW F F'':=⟨b.1.trans a.1,b.2.1.trans a.2.1,b.2.2.1.trans a.2.2.1,b.2.2.2.trans a.2.2.2⟩
structure HS where
 ns:List Nd
 cl:Nat->Nat
 kn:List (Nd×Nat)
 ab:List (Nat×Nat)
 av:Nat->List Nat
 lt:Nat->List AV
 wt:List Nat
 up:List Nat
 lr:List Nat
 ex:List Nat
 bud:Nat
noncomputable def Hh:HS:=⟨[],id,[],[],fun _=>[],fun _=>[],[],[],[],[],0⟩
noncomputable def Ds:Fx:=⟨[],[],0,[],[],[],[],[],[],[],[],[],[],[],[],[]⟩
noncomputable def HS.D(h:HS):List Nat:=h.lr++h.ab.map (·.2)
structure HI(F:Fx)(rest:St)(h:HS):Prop where
 nodes:F.nodes=h.ns.map aJ
 numbers:F.numbers=h.ns.zipIdx.map fun x=>(aJ x.1,aa x.2)
 nd:h.ns.Nodup
 kids:∀(i op:Nat) (ks:List Nat),h.ns[i]?=some (op,ks)->(∀ k∈ks,k<i)/\ks.length<=2
 size:h.ns.length<=20
 wts:∃ ws:List Int,F.weights=ws.map .int/\ws.length=h.ns.length
 dps:∃ ws:List Int,F.depths=ws.map .int/\ws.length=h.ns.length
 up:F.up=h.up.map aa
 upl:h.up.length=h.ns.length
 uf:UF h.up h.cl
 lots:F.lots=h.lr.map fun j=>.ref (j+19)
 lrl:h.lr.length=h.ns.length
 lotAt:∀(a j:Nat),h.lr[a]?=some j->rest[j]?=some (AO.list (h.lt a))
 above:F.above=h.ab.map fun x=>(aa x.1,.ref (x.2+19))
 keys:(h.ab.map (·.1)).Nodup
 roots:∀ k,(∃ j,(k,j)∈h.ab)↔k<h.ns.length/\h.cl k=k
 abAt:∀ x∈h.ab,rest[x.2]?=some (AO.list ((h.av x.1).map aa))
 refs:h.D.Nodup
 known:F.known=h.kn.map fun x=>(aJ x.1,aa x.2)
 wait:F.waiting=h.wt.map aa
 inK:∀ x∈h.kn,∃(op:Nat) (ks:List Nat),h.ns[x.2]?=some (op,ks)/\x.1.1=op/\x.1.2.map h.cl=ks.map h.cl
 kid:∀(i op:Nat) (ks:List Nat),h.ns[i]?=some (op,ks)->∀ k∈ks,i∈h.av (h.cl k)
 avlt:∀ x∈h.ab,∀ i∈h.av x.1,i<h.ns.length
 wtlt:∀ i∈h.wt,i<h.ns.length
 J:∀(i op:Nat) (ks:List Nat),h.ns[i]?=some (op,ks)->i∈h.wt\/i∈h.ex\/∃ m,lk h.kn (op,ks.map h.cl)=some m/\h.cl m=h.cl i
 sumA:(h.ab.map fun x=>(h.av x.1).length).sum<=2*h.ns.length
 sumL:(h.ab.map fun x=>(h.lt x.1).length).sum<=h.ns.length
 budW:h.kn.length+h.ex.length+h.wt.length+41*h.ab.length<=43*h.ns.length
 budE:F.edges.length+h.ab.length<=h.ns.length+h.bud
 budF:F.forest.length<=F.edges.length
 budM:F.merged.length<=F.edges.length
 bud:h.bud<=200
section
variable{F:Fx}{rest:St}{h:HS}
theorem HI.upz(H:HI F rest h):h.up.length<=100:=by have:=H.size;have:=H.upl;exact RO ‹_› this
theorem HI.clt(H:HI F rest h){a:Nat}(ha:a<h.ns.length):h.cl a<h.ns.length:=Tj (H.uf.le a) ha
theorem HI.rootAt(H:HI F rest h){a:Nat}(ha:a<h.ns.length):∃ j,(h.cl a,j)∈h.ab:=(H.roots _).mpr ⟨H.clt ha,H.uf.idem a⟩
theorem HI.find(H:HI F rest h){a:Nat}(ha:a<h.ns.length):Ok 1 21 [.ref 9,aa a] (F.st rest) (aa (h.cl a)) (F.st rest):=uh H.up H.uf (by rw[H.upl];exact ha) H.upz
theorem HI.hfind(H:HI F rest h){a:Nat}(ha:a<h.ns.length):Ok 2 30 [.ref 3,aa a] (F.st rest) (aa (h.cl a)) (F.st rest):=j7 H.up H.uf (by rw[H.upl];exact ha) H.upz
theorem lA(H:HI F rest h){a b:Nat}(ha:a<h.ns.length)(hb:b<h.ns.length)(e:h.cl a=h.cl b) :
  Ok 2 22 [.ref 9,aa a,aa b] (F.st rest) .none (F.st (rest++[.list [aa (h.cl a),aa (h.cl b)],.list [aa (h.cl a),aa (h.cl b)]])):=by
 refine .mk rfl rfl fun n hn=>?_;have h1:=H.find ha n (hn);have h2:=H.find hb n (hn);exists h1,h2,A6 (SM e),fE e
theorem lB(H:HI F rest h){a b k g jk jg:Nat}{lk' lg:List AV}(ha:a<h.ns.length)(hb:b<h.ns.length)(e:(h.cl a<h.cl b/\k=h.cl a/\g=h.cl b)\/(h.cl b<h.cl a/\k=h.cl b/\g=h.cl a))
  (hk:F.lots[k]?=some (AV.ref (jk+19))) (hg:F.lots[g]?=some (AV.ref (jg+19))) (hk':rest[jk]?=some (AO.list lk')) (hg':rest[jg]?=some (AO.list lg)) (hne:jk≠jg) (hl:(lk'++lg).length<=ay) (hm:F.merged.length+1<=ay) (hgu:g<F.up.length) :
  Ok 2 22 [.ref 9,aa a,aa b] (F.st rest) (.tup [aa k,aa g]) (((F.t10 (F.up.set g (aa k))).t12 (F.merged++[.tup [aa k,aa g]])).st ((rest++[AO.list [aa (h.cl a),aa (h.cl b)],AO.list [aa k,aa g]]).set jk (.list (lk'++lg)))):=by
 refine .mk rfl rfl fun n hn=>?_;have h1:=H.find ha n (hn);have h2:=H.find hb n (hn);have hj1:=(SR.mp hk').1;have hj2:=(SR.mp hg').1
 rcases e with⟨e,rfl,rfl⟩ | ⟨e,rfl,rfl⟩
 ·exists h1,h2,A6 (TU e),iO (Te e),hk,hg,BE hne,hl,hm,hgu
 ·exists h1,h2,Ey e,iO (Te e),hk,hg,BE hne,hl,hm,hgu
end
section
variable{F:Fx}{rest:St}{h:HS}
theorem HI.frame(H:HI F rest h){rest':St}(e:∀ j∈h.D,rest'[j]?=rest[j]?):HI F rest' h:=by
 refine{ H with lotAt:=fun a j hj=>?_,abAt:=fun x hx=>?_ }
 ·rw[e j (Tl _ (Tm hj))];exact H.lotAt a j hj
 ·rw[e x.2 (Tx _ (Ta.mpr ⟨x,hx,rfl⟩))];exact H.abAt x hx
theorem HI.inr(H:HI F rest h){j:Nat}(hj:j∈h.D):j<rest.length:=by
 rcases Tg.mp hj with hj | hj
 ·obtain⟨a,ha⟩:=Uc.mp hj;exact(SR.mp (H.lotAt a j ha)).1
 ·obtain⟨x,hx,rfl⟩:=Ta.mp hj;exact(SR.mp (H.abAt x hx)).1
theorem HI.grow(H:HI F rest h)(l:St):HI F (rest++l) h:=H.frame fun j hj=>Tf (H.inr hj)
theorem HI.lotat(H:HI F rest h){a j:Nat}(e:h.lr[a]?=some j):F.lots[a]?=some (AV.ref (j+19))/\rest[j]?=some (AO.list (h.lt a)):=
 ⟨by rw[H.lots,TD,e];rfl,H.lotAt a j e⟩
theorem HI.lotref(H:HI F rest h){a:Nat}(ha:a<h.ns.length){G:Prop}(kk:∀ j,h.lr[a]?=some j->F.lots[a]?=some (AV.ref (j+19))->rest[j]?=some (AO.list (h.lt a))->G):G:=
 have e:=TC (H.lrl▸ha:a<h.lr.length)
 kk _ e (H.lotat e).1 (H.lotat e).2
noncomputable def HS.abj(h:HS)(k g new:Nat):List (Nat×Nat):=(h.ab.filter fun x=>!decide (x.1=g)).map fun x=>if x.1=k then(k,new) else x
theorem zI{es:List (Nat×Nat)}{k:Nat}{v:AV}{g:Nat->AV}(hk:∃ j,(k,j)∈es):aU (es.map fun x=>(aa x.1,g x.2)) (aa k) v=es.map fun x=>if x.1=k then(aa x.1,v) else(aa x.1,g x.2):=by
 obtain⟨j,hj⟩:=hk;unfold aU;rw[SQ (by simp only[List.any_map,List.any_eq_true];exact⟨_,hj,by simp⟩),TP]
 apply TN;intro x _;simp only[Function.comp,jv]
theorem zM{es:List (Nat×Nat)}{k:Nat}{g:Nat->AV}:eU (es.map fun x=>(aa x.1,g x.2)) (aa k)=(es.filter fun x=>!decide (x.1=k)).map fun x=>(aa x.1,g x.2):=by
 unfold eU;rw[List.filter_map];congr 1;apply List.filter_congr;intro x _;simp only[Function.comp,jv]
theorem CW{k g new:Nat}:((h.ab.filter fun x=>!decide (x.1=g)).map fun x=>if x.1=k then(aa x.1,AV.ref (new+19)) else(aa x.1,AV.ref (x.2+19)))=(h.abj k g new).map fun x=>(aa x.1,AV.ref (x.2+19)):=by
 unfold HS.abj;rw[TP];apply TN;intro x _;simp only[Function.comp]
 split
 ·rename_i e;rw[e]
 ·rfl
noncomputable def eB(cl:Nat->Nat)(k g:Nat):Nat->Nat:=fun x=>if cl x=g then k else cl x
noncomputable def HS.joined(h:HS)(k g new:Nat):HS:=
 {h with cl:=eB h.cl k g,ab:=h.abj k g new,av:=fun x=>if x=k then h.av k++h.av g else h.av x,lt:=fun x=>if x=k then h.lt k++h.lt g else h.lt x,wt:=h.wt++h.av g,up:=h.up.set g k }
theorem dM{k g new:Nat}{x:Nat×Nat}:x∈h.abj k g new↔∃ y∈h.ab,y.1≠g/\x=if y.1=k then(k,new) else y:=by
 unfold HS.abj;simp only[List.mem_map,List.mem_filter,Bool.not_eq_true',decide_eq_false_iff_not]
 constructor
 ·rintro⟨y,⟨h1,h2⟩,rfl⟩;exact⟨y,h1,h2,rfl⟩
 ·rintro⟨y,h1,h2,rfl⟩;exact⟨y,⟨h1,h2⟩,rfl⟩
theorem qX{k g new:Nat}:(h.abj k g new).map (·.1)=(h.ab.filter fun x=>!decide (x.1=g)).map (·.1):=by
 unfold HS.abj;rw[TP];apply TN;intro x _;simp only[Function.comp]
 split
 ·rename_i e;exact e.symm
 ·rfl
theorem uQ(hn:(h.ab.map (·.1)).Nodup){k g new ik ig:Nat}{f:Nat->Nat}(hkg:k≠g)(hk:(k,ik)∈h.ab)(hg:(g,ig)∈h.ab):((h.abj k g new).map fun x=>if x.1=k then f k+f g else f x.1).sum=(h.ab.map fun x=>f x.1).sum:=by
 have e1:=di (f:=fun x=>f x.1) hn hg;have hn2:((h.ab.filter fun e=>!decide (e.1=g)).map (·.1)).Nodup:=(List.Sublist.map _ UA).nodup hn;have hk2:(k,ik)∈h.ab.filter fun e=>!decide (e.1=g):=by simp[hk,hkg]
 have e2:=di (f:=fun x=>f x.1) hn2 hk2;have hn3:((h.abj k g new).map (·.1)).Nodup:=by rw[qX];exact hn2
 have hk3:(k,new)∈h.abj k g new:=dM.mpr ⟨(k,ik),hk,hkg,by simp⟩
 have e3:=di (f:=fun x=>if x.1=k then f k+f g else f x.1) hn3 hk3
 have e4:(((h.abj k g new).filter fun e=>!decide (e.1=k)).map fun x=>if x.1=k then f k+f g else f x.1)=((h.ab.filter fun e=>!decide (e.1=g)).filter fun e=>!decide (e.1=k)).map fun x=>f x.1:=by
  unfold HS.abj;rw[List.filter_map,TP];have:(List.filter ((fun e:Nat×Nat=>!decide (e.1=k))∘fun x=>if x.1=k then(k,new) else x) (h.ab.filter fun x=>!decide (x.1=g)))=(h.ab.filter fun e=>!decide (e.1=g)).filter fun e=>!decide (e.1=k):=by
   apply List.filter_congr;intro x _;simp only[Function.comp]
   split
   ·rename_i e;simp[e]
   ·rfl
  rw[this];apply TN;intro x hx;have:x.1≠k:=by simp only[List.mem_filter,Bool.not_eq_true',decide_eq_false_iff_not] at hx;exact hx.2
  simp[this]
 rw[e3,e4,e1,e2];simp only[if_true];exact RN
theorem jG(hn:(h.ab.map (·.1)).Nodup){k g new ig:Nat}(hg:(g,ig)∈h.ab):(h.abj k g new).length+1=h.ab.length:=by
 have:=di (f:=fun _=>1) hn hg;have e:∀ l:List (Nat×Nat),(l.map fun _=>1).sum=l.length:=by
  intro l;induction l with
  | nil=>rfl
  | cons a l ih=>simp[ih];exact RM
 rw[e,e] at this;unfold HS.abj;rw[S7];exact RL this
end
theorem UF.merge{up:List Nat}{cl:Nat->Nat}(UU:UF up cl){k g:Nat}(hk:cl k=k)(hg:cl g=g)(kg:k<g)(hl:g<up.length):UF (up.set g k) (eB cl k g):=by
 refine⟨fun a ha=>?_,fun a=>?_,fun a=>?_,fun a ha=>?_⟩
 ·rw[Uu] at ha
  by_cases e:a=g
  ·subst e;refine⟨k,by simp[hl],TU kg,?_,fun q=>RK kg q⟩
   unfold eB;rw[SL (MV hk kg),SQ hg,hk]
  ·obtain⟨b,e1,e2,e3,e4⟩:=UU.step a ha;refine⟨b,by rw[Tt (RJ e)];exact e1,e2,by unfold eB;rw[e3],fun q=>?_⟩
   unfold eB;rw[e4 q,SL e]
 ·unfold eB
  split
  ·have:=UU.le a;exact Po kg ‹_› this
  ·exact UU.le a
 ·unfold eB
  split
  ·rw[SL (MV hk kg),hk]
  ·rename_i q;rw[UU.idem,SL q]
 ·rw[Uu] at ha;unfold eB;rw[UU.out a ha,SL (Pn hl ha)]
section
variable{F F':Fx}{rest:St}{h:HS}
theorem Di{α:Type}{l:List α}{i j:Nat}{x:α}(h:l.Nodup)(a:l[i]?=some x)(b:l[j]?=some x):i=j:=
 (List.getElem_inj h).mp ((SR.mp a).2.trans (SR.mp b).2.symm)
theorem HI.refD(H:HI F rest h){a b i j:Nat}(ha:h.lr[a]?=some i)(hb:h.lr[b]?=some j)(e:i=j):a=b:=by
 exact Di (Ts.mp H.refs).1 ha (e▸hb)
theorem HI.avle(H:HI F rest h){g ig:Nat}(hg:(g,ig)∈h.ab):(h.av g).length<=40:=by
 have:=di (f:=fun x=>(h.av x.1).length) H.keys hg;dsimp only at this;have h1:=H.sumA;have h2:=H.size;exact RI this h1 h2
theorem HI.ltle(H:HI F rest h){g ig:Nat}(hg:(g,ig)∈h.ab):(h.lt g).length<=20:=by
 have:=di (f:=fun x=>(h.lt x.1).length) H.keys hg;dsimp only at this;have h1:=H.sumL;have h2:=H.size;exact RH this h1 h2
def FF(F:Fx)(h:HS)(l1 l2:AO)(a1 a2 a3:AV)(rest:St)(k g jk jg ik ig:Nat):Prop:=∀{F':Fx} (H:HI F rest h) (kg:k<g) (hk:(k,ik)∈h.ab) (hg:(g,ig)∈h.ab) (hjk:h.lr[k]?=some jk) (hjg:h.lr[g]?=some jg) (hF:F'=((((((F.t10 (F.up.set g (aa k))).t12 (F.merged++[a1])).t13 (F.edges++[a2])).t14 (F.forest++[a3])).t17 (F.waiting++(h.av g).map aa)).t16 ((h.abj k g (rest.length+2)).map fun x=>(aa x.1,.ref (x.2+19))))),HI F' ((rest++[l1,l2]).set jk (.list (h.lt k++h.lt g))++[.list ((h.av k++h.av g).map aa)]) (h.joined k g (rest.length+2))/\
  Fr h.D (h.joined k g (rest.length+2)).D rest ((rest++[l1,l2]).set jk (.list (h.lt k++h.lt g))++[.list ((h.av k++h.av g).map aa)])
def JF(a:Fx×HS×AO×AO×AV×AV×AV×St×Nat×Nat×Nat×Nat×Nat×Nat):Prop:=FF a.1 a.2.1 a.2.2.1 a.2.2.2.1 a.2.2.2.2.1 a.2.2.2.2.2.1 a.2.2.2.2.2.2.1 a.2.2.2.2.2.2.2.1 a.2.2.2.2.2.2.2.2.1 a.2.2.2.2.2.2.2.2.2.1 a.2.2.2.2.2.2.2.2.2.2.1 a.2.2.2.2.2.2.2.2.2.2.2.1 a.2.2.2.2.2.2.2.2.2.2.2.2.1 a.2.2.2.2.2.2.2.2.2.2.2.2.2
noncomputable def gB:=lN (Ds,Hh,.list [],.list [],.none,.none,.none,default) JF
noncomputable def Dp:=gB.1
noncomputable def bl:=gB.2.1
noncomputable def Cb:=gB.2.2.1
noncomputable def B9:=gB.2.2.2.1
noncomputable def JE:=gB.2.2.2.2.1
noncomputable def Cd:=gB.2.2.2.2.2.1
noncomputable def JD:=gB.2.2.2.2.2.2.1
noncomputable def bE:=gB.2.2.2.2.2.2.2.1
noncomputable def bS:=gB.2.2.2.2.2.2.2.2.1
noncomputable def cL:=gB.2.2.2.2.2.2.2.2.2.1
noncomputable def n8:=gB.2.2.2.2.2.2.2.2.2.2.1
noncomputable def N0:=gB.2.2.2.2.2.2.2.2.2.2.2.1
noncomputable def JB:=gB.2.2.2.2.2.2.2.2.2.2.2.2.1
noncomputable def JC:=gB.2.2.2.2.2.2.2.2.2.2.2.2.2
theorem N3:FF Dp bl Cb B9 JE Cd JD bE bS cL n8 N0 JB JC:=fun{F'} H kg hk hg hjk hjg hF=>by
 subst hF;have rk:=(H.roots bS).mp ⟨JB,hk⟩;have rg:=(H.roots cL).mp ⟨JC,hg⟩;have hjkl:=H.inr (Tl _ (Tm hjk));have low:∀ j,j<bE.length->j≠n8->((bE++[Cb,B9]).set n8 (.list (bl.lt bS++bl.lt cL))++[.list ((bl.av bS++bl.av cL).map aa)])[j]?=bE[j]?:=fun j hj hne=>by
  rw[Tf (by simp;exact Un _ hj),Tt (RG hne),Tf hj]
 have hset:((bE++[Cb,B9]).set n8 (.list (bl.lt bS++bl.lt cL))++[.list ((bl.av bS++bl.av cL).map aa)])[n8]?=some (.list (bl.lt bS++bl.lt cL)):=by
  rw[Tf (by simp;exact Un _ hjkl),TY (by simp;exact Un _ hjkl)]
 have hnew:((bE++[Cb,B9]).set n8 (.list (bl.lt bS++bl.lt cL))++[.list ((bl.av bS++bl.av cL).map aa)])[bE.length+2]?=some (.list ((bl.av bS++bl.av cL).map aa)):=by
  rw[TR (by simp)];simp
 have hclk:∀ c,eB bl.cl bS cL c=if bl.cl c=cL then bS else bl.cl c:=fun _=>rfl
 have hmap:∀ l:List Nat,l.map (eB bl.cl bS cL)=(l.map bl.cl).map fun c=>if c=cL then bS else c:=fun l=>by rw[TP];rfl
 have hrefs:=Ts.mp H.refs;have hjkab:∀ x∈bl.ab,x.2≠n8:=fun x hx e=>hrefs.2.2 n8 (Tm hjk) x.2 (Ta.mpr ⟨x,hx,rfl⟩) e.symm;have habl:∀ x∈bl.ab,x.2<bE.length:=fun x hx=>H.inr (Tx _ (Ta.mpr ⟨x,hx,rfl⟩));have hD:∀ j∈(bl.joined bS cL (bE.length+2)).D,j∈bl.D\/bE.length<=j:=fun j hj=>by
  rcases Tg.mp hj with hj | hj
  ·exact .inl (Tl _ hj)
  ·obtain⟨x,hx,rfl⟩:=Ta.mp hj;obtain⟨y,hy,hyg,rfl⟩:=dM.mp hx
   split
   ·exact .inr (by simp)
   ·exact .inl (Tx _ (Ta.mpr ⟨y,hy,rfl⟩))
 refine⟨⟨H.nodes,H.numbers,H.nd,H.kids,H.size,H.wts,H.dps,?_,?_,H.uf.merge rk.2 rg.2 kg (by rw[H.upl];exact rg.1),H.lots,H.lrl,fun a j hj=>?_,rfl,?_,fun k0=>?_,fun x hx=>?_,?_,H.known,?_,fun x hx=>?_,fun i op ks hi c hc=>?_,fun x hx i hi=>?_,fun i hi=>?_,fun i op ks hi=>?_,?_,?_,?_,?_,?_,?_,H.bud⟩,⟨by simp;exact RE,fun j hj hn=>low j hj (fun e=>hn (e▸Tl _ (Tm hjk))),hD⟩⟩
 ·show Dp.up.set cL (aa bS)=(bl.up.set cL bS).map aa;rw[H.up,List.map_set]
 ·show(bl.up.set cL bS).length=_;rw[Uu];exact H.upl
 ·by_cases e:j=n8
  ·subst e;obtain rfl:=H.refD hj hjk rfl;rw[hset];show _=some (AO.list (if bS=bS then _ else _));rw[SQ rfl]
  ·rw[low j (H.inr (Tl _ (Tm hj))) e,H.lotAt a j hj];have:a≠bS:=fun q=>by subst q;exact e (S0 ((show bl.lr[bS]?=some j from hj).symm.trans hjk))
   show _=some (AO.list (if a=bS then _ else _));rw[SL this]
 ·show((bl.abj bS cL _).map (·.1)).Nodup;rw[qX];exact(List.Sublist.map _ UA).nodup H.keys
 ·show(∃ j,(k0,j)∈bl.abj bS cL _)↔_/\eB bl.cl bS cL k0=k0
  constructor
  ·rintro⟨j,hj⟩
   obtain⟨y,hy,hyg,e⟩:=dM.mp hj;have hk0:k0=y.1:=by split at e<;>(rename_i q;cases e)<;>first | exact q.symm | rfl
   obtain⟨r1,r2⟩:=(H.roots y.1).mp ⟨y.2,hy⟩;rw[hk0];exact⟨r1,by rw[hclk,r2,SL hyg]⟩
  ·rintro⟨r1,r2⟩
   rw[hclk] at r2
   split at r2
   ·rename_i q;subst r2;rw[rk.2] at q;exact(RD kg q).elim
   ·rename_i q;obtain⟨j,hj⟩:=(H.roots k0).mpr ⟨r1,r2⟩;rw[r2] at q
    by_cases e:k0=bS
    ·exact⟨_,dM.mpr ⟨(k0,j),hj,q,by simp[e];rfl⟩⟩
    ·exact⟨j,dM.mpr ⟨(k0,j),hj,q,by simp[e]⟩⟩
 ·obtain⟨y,hy,hyg,rfl⟩:=dM.mp hx
  by_cases e:y.1=bS
  ·rw[SQ e];rw[hnew];show _=some (AO.list ((if bS=bS then _ else _:List Nat).map aa));rw[SQ rfl]
  ·rw[SL e,low y.2 (habl y hy) (hjkab y hy),H.abAt y hy];show _=some (AO.list ((if y.1=bS then _ else _:List Nat).map aa));rw[SL e]
 ·refine Ts.mpr ⟨hrefs.1,?_,fun a ha b hb' e=>?_⟩
  ·show(List.map (·.2) (bl.abj bS cL _)).Nodup;unfold HS.abj;rw[TP];refine List.pairwise_map.mpr ?_;have p1:=List.pairwise_map.mp H.keys;have p2:=List.pairwise_map.mp hrefs.2.1;refine(((p1.and p2).filter (fun x=>!decide (x.1=cL))).imp_of_mem fun{x y} hx hy q=>?_);have hx':=habl x ((TS.mp hx).1);have hy':=habl y ((TS.mp hy).1);obtain⟨q1,q2⟩:=q;simp only[Function.comp]
   split
   ·rename_i e1
    split
    ·rename_i e2;exact SP (e1.trans e2.symm) q1
    ·show bE.length+2≠y.2;exact RC hy'
   ·split
    ·show x.2≠bE.length+2;exact RB hx'
    ·exact q2
  ·obtain⟨x,hx,rfl⟩:=Ta.mp hb';obtain⟨y,hy,hyg,rfl⟩:=dM.mp hx;have ha':=H.inr (Tl _ ha)
   by_cases q:y.1=bS
   ·rw[SQ q] at e;simp at e;exact RA e ha'
   ·rw[SL q] at e;exact hrefs.2.2 a ha y.2 (Ta.mpr ⟨y,hy,rfl⟩) e
 ·show Dp.waiting++_=(bl.wt++bl.av cL).map aa;rw[H.wait,Th]
 ·obtain⟨op,ks,e1,e2,e3⟩:=H.inK x hx;exact⟨op,ks,e1,e2,by show List.map (eB bl.cl bS cL) _=List.map (eB bl.cl bS cL) _;rw[hmap,hmap,e3]⟩
 ·have:=H.kid i op ks hi c hc;show i∈(if eB bl.cl bS cL c=bS then bl.av bS++bl.av cL else bl.av (eB bl.cl bS cL c))
  rw[hclk]
  by_cases e:bl.cl c=cL
  ·rw[SQ e,SQ rfl];rw[e] at this;exact Tx _ this
  ·rw[SL e]
   split
   ·rename_i q;rw[q] at this;exact Tl _ this
   ·exact this
 ·obtain⟨y,hy,hyg,rfl⟩:=dM.mp hx
  by_cases e:y.1=bS
  ·rw[SQ e] at hi;have hi:i∈(if bS=bS then bl.av bS++bl.av cL else _):=hi
   rw[SQ rfl] at hi
   rcases Tg.mp hi with hi | hi
   ·exact H.avlt _ hk i hi
   ·exact H.avlt _ hg i hi
  ·rw[SL e] at hi;have hi:i∈(if y.1=bS then bl.av bS++bl.av cL else bl.av y.1):=hi
   rw[SL e] at hi;exact H.avlt y hy i hi
 ·rcases Tg.mp hi with hi | hi
  ·exact H.wtlt i hi
  ·exact H.avlt _ hg i hi
 ·show i∈bl.wt++bl.av cL\/_
  by_cases e:∃ c∈ks,bl.cl c=cL
  ·obtain⟨c,hc,e⟩:=e;have:=H.kid i op ks hi c hc;rw[e] at this;exact .inl (Tx _ this)
  ·rcases H.J i op ks hi with q | q | ⟨m,q1,q2⟩
   ·exact .inl (Tl _ q)
   ·exact .inr (.inl q)
   ·refine .inr (.inr ⟨m,?_,?_⟩)
    ·show lk bl.kn (op,ks.map (eB bl.cl bS cL))=_;have:ks.map (eB bl.cl bS cL)=ks.map bl.cl:=by
      apply TN;intro c hc;rw[hclk,SL fun q=>e ⟨c,hc,q⟩]
     rw[this];exact q1
    ·show eB bl.cl bS cL m=eB bl.cl bS cL i;rw[hclk,hclk,q2]
 ·have:=uQ (new:=bE.length+2) H.keys (f:=fun a=>(bl.av a).length) (Te kg:bS≠cL) hk hg;have h2:=H.sumA;show((bl.abj bS cL _).map fun x=>(if x.1=bS then bl.av bS++bl.av cL else bl.av x.1).length).sum<=_
  have e:((bl.abj bS cL (bE.length+2)).map fun x=>(if x.1=bS then bl.av bS++bl.av cL else bl.av x.1).length)=(bl.abj bS cL (bE.length+2)).map fun x=>if x.1=bS then(bl.av bS).length+(bl.av cL).length else(bl.av x.1).length:=by
   apply TN;intro x _
   split<;>simp
  rw[e,this];exact h2
 ·have:=uQ (new:=bE.length+2) H.keys (f:=fun a=>(bl.lt a).length) (Te kg:bS≠cL) hk hg;have h2:=H.sumL;show((bl.abj bS cL _).map fun x=>(if x.1=bS then bl.lt bS++bl.lt cL else bl.lt x.1).length).sum<=_
  have e:((bl.abj bS cL (bE.length+2)).map fun x=>(if x.1=bS then bl.lt bS++bl.lt cL else bl.lt x.1).length)=(bl.abj bS cL (bE.length+2)).map fun x=>if x.1=bS then(bl.lt bS).length+(bl.lt cL).length else(bl.lt x.1).length:=by
   apply TN;intro x _
   split<;>simp
  rw[e,this];exact h2
 ·have h1:=jG (k:=bS) (new:=bE.length+2) H.keys hg;have h2:=H.avle hg;have h3:=H.budW;show bl.kn.length+bl.ex.length+(bl.wt++bl.av cL).length+41*(bl.abj bS cL _).length<=43*bl.ns.length;rw[SZ];exact Rz h1 h2 h3
 ·have h1:=jG (k:=bS) (new:=bE.length+2) H.keys hg;have h3:=H.budE;show(Dp.edges++[Cd]).length+(bl.abj bS cL _).length<=bl.ns.length+bl.bud;simp;exact Ry h1 h3
 ·show(Dp.forest++[JD]).length<=(Dp.edges++[Cd]).length;have:=H.budF;simp;exact this
 ·show(Dp.merged++[JE]).length<=(Dp.edges++[Cd]).length;have:=H.budM;simp;exact this
theorem HI.joined{k g jk jg ik ig:Nat}{l1 l2:AO}{a1 a2 a3:AV}:FF F h l1 l2 a1 a2 a3 rest k g jk jg ik ig:=bF JF N3 (F,h,l1,l2,a1,a2,a3,rest,k,g,jk,jg,ik,ig)
end
section
variable{F F':Fx}{rest:St}{h:HS}
noncomputable def Fx.edge(F:Fx)(e:AV):Fx:=(F.t13 (F.edges++[e]))
theorem HI.edge(H:HI F rest h)(e:AV)(hb:h.bud+1<=200):HI (F.edge e) rest { h with bud:=h.bud+1 }:=
 {H with
  budE:=by have:=H.budE;show(F.edges++[e]).length+_<=h.ns.length+(h.bud+1);simp;exact Rx this
  budF:=by have:=H.budF;show F.forest.length<=(F.edges++[e]).length;simp;exact Nat.le_succ_of_le this
  budM:=by have:=H.budM;show F.merged.length<=(F.edges++[e]).length;simp;exact Nat.le_succ_of_le this
  bud:=hb }
theorem HI.elen(H:HI F rest h):F.edges.length<=220:=by have:=H.budE;have:=H.bud;have:=H.size;exact Rw ‹_› ‹_› this
theorem nH(H:HI F rest h){a b:Nat}{rs:List AV}(ha:a<h.ns.length)(hb:b<h.ns.length)(e:h.cl a=h.cl b)(hbud:h.bud+1<=200) :
  Ok 3 32 [.ref 3,aa a,aa b,.tup rs] (F.st rest) (.bool false) ((F.edge (.tup [aa a,aa b,.tup rs])).st (rest++[AO.list [aa (h.cl a),aa (h.cl b)],AO.list [aa (h.cl a),aa (h.cl b)]])):=by
 refine .mk rfl rfl fun n hn=>?_;have h1:=lA (H.edge (.tup [aa a,aa b,.tup rs]) hbud) ha hb e n (hn);have h2:F.edges.length+1<=ay:=by have:=H.elen;unfold ay;exact Pm this
 simp only[Fx.edge] at h1;exists Fx.edge,h2,h1
theorem nI(H:HI F rest h){a b k g jk jg ik ig:Nat}{rs:List AV}(ha:a<h.ns.length)(hb:b<h.ns.length)(e:(h.cl a<h.cl b/\k=h.cl a/\g=h.cl b)\/(h.cl b<h.cl a/\k=h.cl b/\g=h.cl a))
  (hik:(k,ik)∈h.ab) (hig:(g,ig)∈h.ab) (hjk:h.lr[k]?=some jk) (hjg:h.lr[g]?=some jg) (hbud:h.bud+1<=200) :
  Ok 3 32 [.ref 3,aa a,aa b,.tup rs] (F.st rest) (.bool true) (((((((F.t10 (F.up.set g (aa k))).t12 (F.merged++[.tup [aa k,aa g]])).t13 (F.edges++[.tup [aa a,aa b,.tup rs]])).t14 (F.forest++[.int ((F.edges.length:Int)+1-1)])).t17 (F.waiting++(h.av g).map aa)).t16 ((h.abj k g (rest.length+2)).map fun x=>(aa x.1,.ref (x.2+19)))).st
   ((rest++[AO.list [aa (h.cl a),aa (h.cl b)],AO.list [aa k,aa g]]).set jk (AO.list (h.lt k++h.lt g))++[AO.list ((h.av k++h.av g).map aa)])):=by
 refine .mk rfl rfl fun n hn=>?_;have kg:k<g:=IW e;have H1:=H.edge (.tup [aa a,aa b,.tup rs]) hbud;have rk:=(H.roots k).mp ⟨ik,hik⟩;have rg:=(H.roots g).mp ⟨ig,hig⟩;have r1:=H1.lotat hjk;have r2:=H1.lotat hjg;have hne:jk≠jg:=fun q=>Te kg (H.refD hjk hjg q);have hlt:(h.lt k++h.lt g).length<=ay:=by have:=H.ltle hik;have:=H.ltle hig;rw[SZ];unfold ay;exact Rv ‹_› this
 have hm:(F.edge (.tup [aa a,aa b,.tup rs])).merged.length+1<=ay:=by have:=H.elen;have:=H.budM;show F.merged.length+1<=_;unfold ay;exact Pl ‹_› this
 have h1:=lB H1 ha hb e r1.1 r2.1 r1.2 r2.2 hne hlt hm (by show g<F.up.length;rw[H.up,S7,H.upl];exact rg.1) n hn
 have h2:F.edges.length+1<=ay:=by have:=H.elen;unfold ay;exact Pm this
 have h3:F.forest.length+1<=ay:=by have:=H.elen;have:=H.budF;unfold ay;exact Pl ‹_› this
 have hav:(h.av g).length<=40:=H.avle hig;have hak:(h.av k).length<=40:=H.avle hik;have hw:F.waiting.length<=860:=by have:=H.budW;have:=H.size;rw[H.wait,S7];exact Ru ‹_› this
 have h4:F.waiting.length+(h.av g).length<=ay:=by unfold ay;exact Rt hav hw
 have h5:(h.av k).length+(h.av g).length<=ay:=by unfold ay;exact Rr hav hak
 have dg:aA F.above (aa g)=some (.ref (ig+19)):=by rw[H.above,nU h.ab g fun j=>.ref (j+19),nV H.keys hig];rfl
 have dk:aA F.above (aa k)=some (.ref (ik+19)):=by rw[H.above,nU h.ab k fun j=>.ref (j+19),nV H.keys hik];rfl
 have habx:∀ x∈h.ab,x.2≠jk/\x.2<rest.length:=fun x hx=>⟨fun q=>(Ts.mp H.refs).2.2 jk (Tm hjk) x.2 (Ta.mpr ⟨x,hx,rfl⟩) q.symm,H.inr (Tx _ (Ta.mpr ⟨x,hx,rfl⟩))⟩;have rat:∀ x∈h.ab,((rest++[AO.list [aa (h.cl a),aa (h.cl b)],AO.list [aa k,aa g]]).set jk (AO.list (h.lt k++h.lt g)))[x.2]?=some (AO.list ((h.av x.1).map aa)):=fun x hx=>by
  obtain⟨q1,q2⟩:=habx x hx;rw[Tt (Ne.symm q1),Tf q2,H.abAt x hx]
 have rg':=rat _ hig;have rk':=rat _ hik;dsimp only at rg' rk';have hdel:eU F.above (aa g)=(h.ab.filter fun x=>!decide (x.1=g)).map fun x=>(aa x.1,.ref (x.2+19)):=by rw[H.above];exact zM (g:=fun j=>AV.ref (j+19))
 have hput:aU ((h.ab.filter fun x=>!decide (x.1=g)).map fun x=>(aa x.1,AV.ref (x.2+19))) (aa k) (.ref (rest.length+2+19))=(h.abj k g (rest.length+2)).map fun x=>(aa x.1,.ref (x.2+19)):=by
  have hin:∃ j,(k,j)∈h.ab.filter fun x=>!decide (x.1=g):=⟨ik,by simp[hik];exact Te kg⟩
  exact(zI (g:=fun j=>AV.ref (j+19)) hin).trans CW
 have hpl:(h.abj k g (rest.length+2)).length<=ay:=by
  have:=jG (k:=k) (new:=rest.length+2) H.keys hig;have:=H.budW;have:=H.size;unfold ay;exact Rq ‹_› ‹_› this
 simp only[Fx.edge] at h1;have hp2:aU (eU F.above (aa g)) (aa k) (.ref (rest.length+2+19))=(h.abj k g (rest.length+2)).map fun x=>(aa x.1,.ref (x.2+19)):=by rw[hdel];exact hput
 have hp3:∀{F':Fx} {R:St},(F'.st R).set 16 (.dict (aU (eU F.above (aa g)) (aa k) (.ref (rest.length+2+19))))=(F'.t16 ((h.abj k g (rest.length+2)).map fun x=>(aa x.1,.ref (x.2+19)))).st R:=by intro F' R;rw[hp2];rfl
 have hp4:(aU (eU F.above (aa g)) (aa k) (.ref (rest.length+2+19))).length<=ay:=by rw[hp2,S7];exact hpl
 have hp5:∀{F':Fx} {R:St},F'.st R++[.list ((h.av k).map aa++(h.av g).map aa)]=F'.st (R++[.list ((h.av k++h.av g).map aa)]):=by intro F' R;rw[Th];rfl
 have hf:∀{F':Fx} {R:St},(F'.st R).set 14 (.list (F.forest++[AV.int (((F.edges++[AV.tup [aa a,aa b,AV.tup rs]]).length:Nat)-1)]))=(F'.t14 (F.forest++[.int ((F.edges.length:Int)+1-1)])).st R:=by intro F' R;rw[SZ];rfl
 exists hf,h2,h1,h3,NM h4,dg,dk,rg',rk',Jl h5,NK,hp3,hp4,hp5,(Rp:17≠ig+19)
structure Jn(h h':HS)(a b:Nat):Prop where
 ns:h'.ns=h.ns
 kn:h'.kn=h.kn
 ex:h'.ex=h.ex
 wt:∀ i∈h.wt,i∈h'.wt
 meas:h'.wt.length+41*h'.ab.length<=h.wt.length+41*h.ab.length
 tch:∀(i op:Nat) (ks:List Nat),h.ns[i]?=some (op,ks)->i∈h'.wt\/ks.map h'.cl=ks.map h.cl
 bud:h'.bud<=h.bud+1
 budd:h.cl a≠h.cl b->h'.bud=h.bud
 cl:∀ x y,h'.cl x=h'.cl y↔h.cl x=h.cl y\/(h.cl x=h.cl a/\h.cl y=h.cl b)\/(h.cl x=h.cl b/\h.cl y=h.cl a)
theorem uo{cl:Nat->Nat}{k g a b:Nat}(e:(cl a<cl b/\k=cl a/\g=cl b)\/(cl b<cl a/\k=cl b/\g=cl a))(x y:Nat):eB cl k g x=eB cl k g y↔cl x=cl y\/(cl x=cl a/\cl y=cl b)\/(cl x=cl b/\cl y=cl a):=by
 rcases e with⟨e,rfl,rfl⟩ | ⟨e,rfl,rfl⟩
 ·exact rn
 ·exact rn.trans (or_congr Iff.rfl or_comm)
theorem FM{k:Nat->Nat}{ab:List (Nat×Nat)}{n a b:Nat}(e:¬k a=k b)(r:∀{a:Nat},a<n->∃ i,(k a,i)∈ab)(ha:a<n)(hb:b<n){G:Prop}
  (kk:∀ x y,(k a<k b/\x=k a/\y=k b)\/(k b<k a/\x=k b/\y=k a)->x<y->∀ i,(x,i)∈ab->∀ j,(y,j)∈ab->G):G:=
 (Uh e).elim (fun q=>(r ha).elim fun i hi=>(r hb).elim fun j hj=>kk _ _ (.inl ⟨q,rfl,rfl⟩) q i hi j hj)
  fun q=>(r hb).elim fun i hi=>(r ha).elim fun j hj=>kk _ _ (.inr ⟨q,rfl,rfl⟩) q i hi j hj
theorem ug(H:HI F rest h){a b:Nat}{rs:List AV}(ha:a<h.ns.length)(hb:b<h.ns.length)(hbud:h.bud+1<=200){G:Prop}
  (kk:∀ F' rest' h',Ok 3 32 [.ref 3,aa a,aa b,.tup rs] (F.st rest) (.bool (decide (h.cl a≠h.cl b))) (F'.st rest')->HI F' rest' h'->Fr h.D h'.D rest rest'->eW F F'->Jn h h' a b->G):G:=by
 by_cases e:h.cl a=h.cl b
 ·rw[Tk fun q=>q e] at kk;exact kk _ _ _ (nH H ha hb e hbud) ((H.edge _ hbud).grow _) (Fr.grow _ _ _) (eW.refl _) ⟨rfl,rfl,rfl,fun _ q=>q,SN _,fun _ _ _ _=>.inr rfl,SN _,fun q=>SP e q,fun x y=>⟨.inl,fun q=>q.elim id fun q=>q.elim (fun q=>q.1.trans (e.trans q.2.symm)) fun q=>q.1.trans (e.symm.trans q.2.symm)⟩⟩
 ·refine FM (k:=h.cl) e H.rootAt ha hb fun k g hkg kg ik hik ig hig=>?_;refine H.lotref ((H.roots k).mp ⟨ik,hik⟩).1 fun jk hjk _ _=>?_;refine H.lotref ((H.roots g).mp ⟨ig,hig⟩).1 fun jg hjg _ _=>?_;have HJ:=H.joined (l1:=AO.list [aa (h.cl a),aa (h.cl b)]) (l2:=AO.list [aa k,aa g]) (a1:=.tup [aa k,aa g]) (a2:=.tup [aa a,aa b,.tup rs]) (a3:=.int ((F.edges.length:Int)+1-1)) kg hik hig hjk hjg rfl;have O:=nI H ha hb hkg hik hig hjk hjg hbud (rs:=rs);rw[SV e] at kk;refine kk _ _ _ O HJ.1 HJ.2 (eW.refl _) ⟨rfl,rfl,rfl,fun i q=>Tl _ q,?_,fun i op ks hi=>?_,T0 _,fun _=>rfl,uo hkg⟩;have h1:=jG (k:=k) (new:=rest.length+2) H.keys hig;have h2:=H.avle hig
  ·show(h.wt++h.av g).length+41*(h.abj k g _).length<=_;rw[SZ];exact Ro h1 h2
  ·by_cases q:∃ c∈ks,h.cl c=g
   ·obtain⟨c,hc,q⟩:=q;have:=H.kid i op ks hi c hc;rw[q] at this;exact .inl (Tx _ this)
   ·refine .inr (TN fun c hc=>?_);show eB h.cl k g c=_;unfold eB;rw[SL fun r=>q ⟨c,hc,r⟩]
end
theorem ir{α:Type}[DecidableEq α](es:List (α×Nat))(k k':α)(n:Nat):lk (es++[(k',n)]) k=match lk es k with | some m=>some m | none=>if k'=k then some n else none:=by
 unfold lk;rw[List.find?_append]
 cases es.find? fun e=>decide (e.1=k) with
 | some e=>rfl
 | none=>
  by_cases q:k'=k
  ·simp[q]
  ·simp[q]
section
variable{F F':Fx}{rest:St}{h:HS}
structure Hl(h h':HS)(n op:Nat)(ks:List Nat):Prop where
 ns:h'.ns=h.ns
 ex:h'.ex=[]
 meas:h'.wt.length+41*h'.ab.length<=h.wt.length+41*h.ab.length
 bud:h'.bud=h.bud
 kn:h'.kn=h.kn\/h'.kn=h.kn++[((op,ks.map h.cl),n)]
 cl:(h'.cl=h.cl/\h'.wt=h.wt/\h'.lt=h.lt)\/∃ m,lk h.kn (op,ks.map h.cl)=some m/\∀ x y,h'.cl x=h'.cl y↔h.cl x=h.cl y\/(h.cl x=h.cl m/\h.cl y=h.cl n)\/(h.cl x=h.cl n/\h.cl y=h.cl m)
 hit:∀ m,lk h.kn (op,ks.map h.cl)=some m->h'.cl m=h'.cl n
theorem Hl.lk{h h':HS}{n op:Nat}{ks:List Nat}(L:Hl h h' n op ks){d:Nd}{m:Nat}(e:lk h.kn d=some m):lk h'.kn d=some m:=by
 rcases L.kn with q | q
 ·rw[q];exact e
 ·rw[q,ir,e]
theorem HI.nodeAt(H:HI F rest h){n op:Nat}{ks:List Nat}(hn:h.ns[n]?=some (op,ks)):F.nodes[n]?=some (aJ (op,ks)):=by
 rw[H.nodes,TD,hn];rfl
theorem HI.kidlt(H:HI F rest h){n op:Nat}{ks:List Nat}(hn:h.ns[n]?=some (op,ks)):∀ k∈ks,k<h.ns.length:=fun k hk=>by
 have:=(H.kids n op ks hn).1 k hk;have:=(SR.mp hn).1;exact T3 ‹_› this
theorem HI.node(H:HI F rest h){n op:Nat}{ks:List Nat}(hn:h.ns[n]?=some (op,ks)):Ok 3 27 [.ref 3,aa n] (F.st rest) (aJ (op,ks.map h.cl)) (F.st (rest++[.list ((ks.map h.cl).map aa)])):=
 Bx H.up H.uf (fun k hk=>by rw[H.upl];exact H.kidlt hn k hk) H.upz (by have:=(H.kids n op ks hn).2;exact SJ this (by decide)) (H.nodeAt hn)
theorem HI.knlt(H:HI F rest h){d:Nd}{m:Nat}(e:lk h.kn d=some m):m<h.ns.length:=by
 obtain⟨op,ks,h1,_⟩:=H.inK _ (fi e);exact(SR.mp h1).1
def Ff(F:Fx)(h:HS)(rest:St)(n op:Nat)(ks:List Nat)(G:Prop):Prop:=∀(H:HI F rest h) (hn:h.ns[n]?=some (op,ks)) (hex:h.ex=[n]) (hbud:h.bud+1<=200) (kk:∀ F' rest' h',Ok 4 29 [.ref 3,aa n] (F.st rest) .none (F'.st rest')->HI F' rest' h'->Fr h.D h'.D rest rest'->eW F F'->Hl h h' n op ks->G),G
def Jk(a:Fx×HS×St×Nat×Nat×List Nat×Prop):Prop:=Ff a.1 a.2.1 a.2.2.1 a.2.2.2.1 a.2.2.2.2.1 a.2.2.2.2.2.1 a.2.2.2.2.2.2
noncomputable def sH:=lN (Ds,Hh,default) Jk
noncomputable def Fe:=sH.1
noncomputable def gz:=sH.2.1
noncomputable def sG:=sH.2.2.1
noncomputable def BS:=sH.2.2.2.1
noncomputable def iq:=sH.2.2.2.2.1
noncomputable def fQ:=sH.2.2.2.2.2.1
noncomputable def RP:=sH.2.2.2.2.2.2
theorem NJ:Ff Fe gz sG BS iq fQ RP:=fun H hn hex hbud kk=>by
 have hnl:=(SR.mp hn).1;have hd:aA Fe.known (aJ (iq,fQ.map gz.cl))=(lk gz.kn (iq,fQ.map gz.cl)).map aa:=by rw[H.known];exact qd gz.kn _ aa
 have hidem:(fQ.map gz.cl).map gz.cl=fQ.map gz.cl:=by rw[TP];exact TN fun c _=>H.uf.idem c
 have hkl:Fe.known.length+1<=ay:=by have:=H.budW;have:=H.size;rw[H.known,S7];unfold ay;exact Rn ‹_› this
 have pn:=c8 (iq,fQ.map gz.cl);have hG:=H.grow [.list ((fQ.map gz.cl).map aa)]
 cases hl:lk gz.kn (iq,fQ.map gz.cl) with
 | none=>
  have H':HI (Fe.t15 (Fe.known++[(aJ (iq,fQ.map gz.cl),aa BS)])) (sG++[.list ((fQ.map gz.cl).map aa)]) { gz with kn:=gz.kn++[((iq,fQ.map gz.cl),BS)],ex:=[] }:=
   {hG with
    known:=by show Fe.known++_=_;rw[H.known,Th];rfl
    inK:=fun x hx=>by
     rcases Tg.mp hx with hx | hx
     ·exact H.inK x hx
     ·rw[SY.mp hx];exact⟨iq,fQ,hn,rfl,hidem⟩
    J:=fun i op' ks' hi=>by
     rcases H.J i op' ks' hi with q | q | ⟨m,q1,q2⟩
     ·exact .inl q
     ·rw[hex] at q;obtain rfl:=SY.mp q;rw[hn] at hi;cases hi
      exact .inr (.inr ⟨BS,by show lk (gz.kn++_) _=_;rw[ir,hl];simp,rfl⟩)
     ·exact .inr (.inr ⟨m,by show lk (gz.kn++_) _=_;rw[ir,q1],q2⟩)
    budW:=by
     have:=H.budW;rw[hex] at this;show(gz.kn++[_]).length+0+_+_<=_;simp at this ⊢;exact this }
  refine kk _ _ _ ?_ H' (Fr.grow _ _ _) (eW.refl _) ⟨rfl,rfl,SN _,rfl,.inr rfl,.inl ⟨rfl,rfl,rfl⟩,fun m' q=>nomatch hl.symm.trans q⟩
  refine .mk rfl rfl fun k hk=>?_;have h1:=H.node hn k (hk);have h2:=H'.hfind hnl k (SJ (by decide) hk)
  rw[hl,Option.map_none] at hd;exists h1,hd,hkl,pn,h2,um rfl
 | some m=>
  have hm:=H.knlt hl;rw[hl,Option.map_some] at hd
  by_cases e:gz.cl m=gz.cl BS
  ·have H':HI Fe (sG++[.list ((fQ.map gz.cl).map aa)]) { gz with ex:=[] }:=
    {hG with
     J:=fun i op' ks' hi=>by
      rcases H.J i op' ks' hi with q | q | ⟨m,q1,q2⟩
      ·exact .inl q
      ·rw[hex] at q;obtain rfl:=SY.mp q;rw[hn] at hi;cases hi
       exact .inr (.inr ⟨m,hl,e⟩)
      ·exact .inr (.inr ⟨m,q1,q2⟩)
     budW:=by have:=H.budW;show gz.kn.length+0+gz.wt.length+41*gz.ab.length<=43*gz.ns.length;exact Pk this }
   refine kk _ _ _ ?_ H' (Fr.grow _ _ _) (eW.refl _) ⟨rfl,rfl,SN _,rfl,.inl rfl,.inl ⟨rfl,rfl,rfl⟩,fun m' q=>S0 (hl.symm.trans q)▸e⟩;refine .mk rfl rfl fun k hk=>?_;have h1:=H.node hn k (hk);have h2:=hG.hfind hnl k (SJ (by decide) hk)
   have h3:=hG.hfind hm k (SJ (by decide) hk)
   exists h1,hd,pn,h2,h3,um e
  ·refine ug hG (a:=m) (b:=BS) (rs:=[.sym 14]) hm hnl hbud fun F' rest' h' O H' fr lw jn=>?_;have H'':HI F' rest' { h' with ex:=[] }:=
    {H' with
     J:=fun i op' ks' hi=>by
      have hi':gz.ns[i]?=some (op',ks'):=by rw[<- jn.ns];exact hi
      rcases H'.J i op' ks' hi with q | q | q
      ·exact .inl q
      ·rw[jn.ex,hex] at q;obtain rfl:=SY.mp q;rw[hn] at hi';cases hi'
       rcases jn.tch BS iq fQ hn with q | q
       ·exact .inl q
       ·refine .inr (.inr ⟨m,?_,(jn.cl m BS).mpr (.inr (.inl ⟨rfl,rfl⟩))⟩);show lk h'.kn (iq,fQ.map h'.cl)=_;rw[jn.kn,q];exact hl
      ·exact .inr (.inr q)
     budW:=by have:=H'.budW;show h'.kn.length+0+h'.wt.length+41*h'.ab.length<=43*h'.ns.length;exact Pk this }
   refine kk _ _ _ ?_ H'' ((Fr.grow _ _ _).trans fr) lw ⟨jn.ns,rfl,jn.meas,jn.budd e,.inl jn.kn,.inr ⟨m,hl,jn.cl⟩,fun m' q=>S0 (hl.symm.trans q)▸(jn.cl m BS).mpr (.inr (.inl ⟨rfl,rfl⟩))⟩;refine .mk rfl rfl fun k hk=>?_;have h1:=H.node hn k (hk);have h2:=hG.hfind hnl k (SJ (by decide) hk)
   have h3:=hG.hfind hm k (SJ (by decide) hk)
   have h4:=O k (hk);exists h1,hd,pn,h2,h3,Dj e,h4
theorem ue{n op:Nat}{ks:List Nat}{G:Prop}:Ff F h rest n op ks G:=bF Jk NJ (F,h,rest,n,op,ks,G)
end
structure bM(ns:List Nd)(R:Nat->Nat->Prop):Prop where
 refl:∀ x,R x x
 symm:∀ x y,R x y->R y x
 trans:∀ x y z,R x y->R y z->R x z
 cong:∀(i j op:Nat) (ks ks':List Nat),ns[i]?=some (op,ks)->ns[j]?=some (op,ks')->ks.length=ks'.length->(∀(t a b:Nat),ks[t]?=some a->ks'[t]?=some b->R a b)->R i j
theorem bM.mrg{ns:List Nd}{R:Nat->Nat->Prop}(C:bM ns R){f:Nat->Nat}{a b x y:Nat}(h:R a b)(S:∀ x y,f x=f y->R x y)(e:f x=f y\/(f x=f a/\f y=f b)\/(f x=f b/\f y=f a)):R x y:=
 e.elim (S x y) fun e=>e.elim (fun e=>C.trans _ _ _ (S x a e.1) (C.trans _ _ _ h (S b y e.2.symm))) fun e=>C.trans _ _ _ (S x b e.1) (C.trans _ _ _ (C.symm _ _ h) (S a y e.2.symm))
def wO(h:HS)(R:Nat->Nat->Prop):Prop:=∀ x y,h.cl x=h.cl y->R x y
section
variable{F F':Fx}{rest:St}{h h':HS}{R:Nat->Nat->Prop}
theorem wO.look(S:wO h R)(H:HI F rest h){n op:Nat}{ks:List Nat}(hn:h.ns[n]?=some (op,ks))(L:Hl h h' n op ks)(C:bM h.ns R):wO h' R:=by
 intro x y e
 rcases L.cl with⟨q,_⟩ | ⟨m,q1,q2⟩
 ·exact S x y (by rw[q] at e;exact e)
 ·have hmn:R m n:=by
   obtain⟨op',ks',e1,e2,e3⟩:=H.inK _ (fi q1);dsimp only at e1 e2 e3;subst e2;have hidem:(ks.map h.cl).map h.cl=ks.map h.cl:=by rw[TP];exact TN fun c _=>H.uf.idem c
   rw[hidem] at e3;have hl:ks'.length=ks.length:=by have:=SI List.length e3;simpa using this.symm
   refine C.cong m n _ ks' ks e1 hn hl fun t a b ha hb=>S a b ?_;have:=SI (·[t]?) e3;simp only[List.getElem?_map,ha,hb,Option.map_some,Option.some.injEq] at this;exact this.symm
  exact C.mrg hmn S ((q2 x y).mp e)
theorem Hl.mono{n op:Nat}{ks:List Nat}(L:Hl h h' n op ks){x y:Nat}(e:h.cl x=h.cl y):h'.cl x=h'.cl y:=by
 rcases L.cl with⟨q,_⟩ | ⟨m,q1,q2⟩
 ·rw[q];exact e
 ·exact(q2 x y).mpr (.inl e)
structure Oz(h h':HS):Prop where
 ns:h'.ns=h.ns
 ex:h'.ex=[]
 wt:h'.wt=[]
 bud:h'.bud=h.bud
 kn:∀ d m,lk h.kn d=some m->lk h'.kn d=some m
 mono:∀ x y,h.cl x=h.cl y->h'.cl x=h'.cl y
 snd:∀ R,bM h.ns R->wO h R->wO h' R
theorem pD:∀(m:Nat) {F:Fx} {rest:St} {h:HS},HI F rest h->h.ex=[]->h.bud+1<=200->h.wt.length+41*h.ab.length<m->
  ∀(G:Prop),(∀ F' rest' h',(∀(k:Nat) (U:En),4<=k->U 0=some (.ref 3)->dN (fun U Y=>jN (au ⟨az ak k⟩ (.cmp .gt (.blt .len [.attr (.loc 0) 12]) (.cst (.int 0))) U Y)) (bn ⟨az ak k⟩ [.expr (.meth (.loc 0) 47 [.meth (.attr (.loc 0) 12) 29 []])]) m U (F.st rest)=some (none,U,F'.st rest'))->HI F' rest' h'->Fr h.D h'.D rest rest'->eW F F'->Oz h h'->G)->G
 :=by
 intro m;induction m with
 | zero=>exact fun _ _ _ hm=>SP hm Rm
 | succ m ih=>
  intro F rest h H hex hb hm G kk
  rcases List.eq_nil_or_concat h.wt with hw | ⟨wt,n,hw⟩
  ·refine kk F rest h (fun k U hk h0=>?_) H (Fr.refl _ _) (eW.refl _) ⟨rfl,hex,hw,rfl,fun _ _ e=>e,fun _ _ e=>e,fun _ _ s=>s⟩;have hF:F.waiting.length=0:=by rw[H.wait,hw];rfl
   exact rf (by exists h0,I7 (SM hF))
  ·rw[List.concat_eq_append] at hw;have hnl:n<h.ns.length:=H.wtlt n (by rw[hw];simp)
   obtain⟨⟨op,ks⟩,hn⟩:∃ d,h.ns[n]?=some d:=⟨_,TC hnl⟩;have hF:F.waiting=wt.map aa++[aa n]:=by rw[H.wait,hw,Th];rfl
   have H1:HI (F.t17 (wt.map aa)) rest { h with wt:=wt,ex:=[n] }:=
    {H with
     wait:=rfl
     wtlt:=fun i hi=>H.wtlt i (by rw[hw];exact Tl _ hi)
     J:=fun i op' ks' hi=>by
      rcases H.J i op' ks' hi with q | q | q
      ·rw[hw] at q
       rcases Tg.mp q with q | q
       ·exact .inl q
       ·exact .inr (.inl q)
      ·rw[hex] at q;cases q
      ·exact .inr (.inr q)
     budW:=by
      have:=H.budW;rw[hw,hex] at this;show h.kn.length+1+wt.length+41*h.ab.length<=43*h.ns.length;simp at this;exact Rl this }
   refine ue H1 hn rfl hb fun F2 rest2 h2 O H2 fr2 lw2 L=>?_;have hmeas:=L.meas;have hwl:h.wt.length=wt.length+1:=by rw[hw];simp
   refine ih H2 L.ex (by rw[L.bud];exact hb) (by dsimp only at hmeas;exact Rj hm hmeas hwl) _ fun F3 rest3 h3 e3 H3 fr3 lw3 st=>?_
   refine kk F3 rest3 h3 (fun k U hk h0=>?_) H3 (fr2.trans fr3) (eW.trans (F':=F2) lw2 lw3) ⟨st.ns.trans L.ns,st.ex,st.wt,st.bud.trans L.bud,fun d m e=>st.kn d m (L.lk e),fun x y e=>st.mono x y (L.mono (h:={ h with wt:=wt,ex:=[n] }) e),fun R C S=>st.snd R (by rw[L.ns];exact C) (wO.look (h:={ h with wt:=wt,ex:=[n] }) S H1 hn L C)⟩
   have hO:=O k hk;have hbody:bn ⟨az ak k⟩ [.expr (.meth (.loc 0) 47 [.meth (.attr (.loc 0) 12) 29 []])] U (F.st rest)=some (none,U,F2.st rest2):=by
    have g1:F.waiting.getLast?=some (aa n):=by rw[hF];exact List.getLast?_concat
    have g2:∀{F':Fx} {R:St},(F'.st R).set 17 (.list F.waiting.dropLast)=(F'.t17 (wt.map aa)).st R:=by intro F' R;rw[hF,List.dropLast_concat];rfl
    exists h0,g1,g2,hO
   have hcond:jN (au ⟨az ak k⟩ (.cmp .gt (.blt .len [.attr (.loc 0) 12]) (.cst (.int 0))) U (F.st rest))=some (true,F.st rest):=by
    exists h0,I6 (b:=0) (by rw[hF,SZ];exact Nat.succ_pos _)
   exact AC hcond hbody (e3 k U hk h0)
theorem ms(H:HI F rest h)(hex:h.ex=[])(hb:h.bud+1<=200){G:Prop}
  (kk:∀ F' rest' h',Ok 5 33 [.ref 3] (F.st rest) .none (F'.st rest')->HI F' rest' h'->Fr h.D h'.D rest rest'->eW F F'->Oz h h'->G):G:=by
 have hm:h.wt.length+41*h.ab.length<bB:=by have:=H.budW;have:=H.size;unfold bB;exact Ri ‹_› this
 refine pD bB H hex hb hm _ fun F' rest' h' e H' fr lw st=>?_;refine kk F' rest' h' ?_ H' fr lw st;refine .mk rfl rfl fun k hk=>?_;show ed (bn _ [.whl _ _] _ _)=_;rw[seq ((zF ..).trans (e k _ hk rfl))];rfl
end
theorem xf{α:Type}(l:List α):l.zipIdx.map (·.1)=l:=by simp
theorem sI{ns:List Nd}(hn:ns.Nodup){i:Nat}{d:Nd}(h:ns[i]?=some d):lk ns.zipIdx d=some i:=by
 refine nV (by rw[xf];exact hn) ?_
 rw[List.mk_mem_zipIdx_iff_getElem?];exact h
theorem iP{ns:List Nd}{d:Nd}(h:d∉ns):lk ns.zipIdx d=none:=by
 cases e:lk ns.zipIdx d with
 | none=>rfl
 | some j=>
  have:=fi e;rw[List.mk_mem_zipIdx_iff_getElem?] at this;exact SP (Tm this) h
theorem kq(l:List Int):cC (l.map .int)=some l:=by
 induction l with
 | nil=>rfl
 | cons a l ih=>exact SI (Option.map (a::·)) ih
section
variable{F F':Fx}{rest:St}{h h':HS}
def KV(rest:St)(kv:AV)(ks:List Nat):Prop:=kv=.tup (ks.map aa)\/∃ j,kv=.ref (j+19)/\rest[j]?=some (AO.list (ks.map aa))
theorem pQ(H:HI F rest h){i op:Nat}{ks:List Nat}{kv:AV}(hi:h.ns[i]?=some (op,ks))(hk:KV rest kv ks)(hl:ks.length<=50):Ok 1 14 [.ref 4,.sym op,kv] (F.st rest) (aa i) (F.st rest):=by
 refine .mk rfl rfl fun n _=>?_;have hd:aA F.numbers (AV.tup ([AV.sym op]++ks.map aa))=some (aa i):=by
  rw[H.numbers];exact(qd h.ns.zipIdx (op,ks) aa).trans (by rw[sI H.nd hi];rfl)
 have hp:(AV.tup ([AV.sym op]++ks.map aa)).pur=true:=c8 (op,ks);have h5:=v8 (a:=.sym op) (v7 (f:=aa) (Jp hl));have h6:=SI Option.isSome hd
 rcases hk with rfl | ⟨j,rfl,hj⟩
 ·exists h5,hd,hp,h6
 ·exists h5,hd,hp,h6,hj
theorem O9:∀ op,op<7->1<=op->gb op=some [op]/\eJ op=some false/\xK op 25=some false/\pc op 0=some op:=by decide
theorem yr{op:Nat}(ho:1<=op/\op<=6):Ok 1 0 [.sym op] (F.st rest) (.bool true) (F.st (rest++[.list [],.list []])):=by
 refine .mk rfl rfl fun n _=>?_;obtain⟨hc,h1,h2,_⟩:=O9 op (T4 ho.2) ho.1;have h3:au ⟨az ak n⟩ (.comp (.loc 2) (.one 2) (.loc 0) [.or (.meth (.loc 2) 33 []) (.cmp .isIn (.loc 2) (.cst (.sym 25)))]) (fun j=>[AV.sym op][j]?) (F.st rest)=some (.ref (rest.length+19),F.st (rest++[.list []])):=by
  refine bm (v:=.sym op) (s:=⟨[.sym op],[]⟩) (Y1:=F.st rest) (Y2:=F.st rest) (vs:=[]) (aG rfl) rfl (by show cP (Option.map _ (gb op)) _=_;rw[hc];rfl) ?_ (S8 rfl) rfl rfl
  exact CB rfl rfl (oZ (HK (xn (aG rfl) rfl rfl cJ (J5 h1)) (O8 rfl (l8 (aG rfl) rfl HP rfl h2)))) (cg rfl)
 exists h3,AL (T8 ho.1)
theorem rY{op:Nat}(ho:1<=op/\op<=6):Ok 2 15 [.ref 4,.sym op] (F.st rest) .none (F.st (rest++[.list [],.list []])):=by
 refine .mk rfl rfl fun n hn=>?_;have h1:=yr (F:=F) (rest:=rest) ho n (hn);have hs:=(O9 op (T4 ho.2) ho.1).2.2.2;exists h1,hs,AL (Pj ho:op≠9)
theorem zn{p:ax}{b:En->St->RS}{U:En}{Y:St}{α:Type}{i:α->AV}:∀{vs:List α} {U:En},(∀ v∈vs,∀ U:En,U 0=some (.ref 4)->∃ U',bV p (i v) U Y=some U'/\U' 0=some (.ref 4)/\U' 3=U 3/\b U' Y=some (none,U',Y))->U 0=some (.ref 4)->
  ∀(G:Prop),(∀ U',dT [] p b (vs.map i) U Y=some (none,U',Y)->U' 0=some (.ref 4)->U' 3=U 3->G)->G:=by
 intro vs;induction vs with
 | nil=>exact fun _ h0 _ kk=>kk _ (bU rfl) h0 rfl
 | cons v vs ih=>exact fun h h0 _ kk=>(h v (.head _) _ h0).elim fun U1 e=>ih (fun u hu=>h u (.tail _ hu)) e.2.1 _ fun U2 q1 q2 q3=>kk U2 (cm rfl e.1 e.2.2.2 q1) q2 (q3.trans e.2.2.1)
end
theorem N9{α:Type}(l m:List α)(k:Nat):(l++m)[l.length+k]?=m[k]?:=by rw[TR (Rh)];congr 1;exact Rg
theorem qE{es:List (AV×AV)}{k v:AV}(h:aA es k=none):aU es k v=es++[(k,v)]:=by
 unfold aU;rw[SL];intro q;simp only[List.any_eq_true,decide_eq_true_eq] at q;obtain⟨e,he,q⟩:=q;unfold aA at h;simp at h;exact h _ _ he q
noncomputable abbrev xE:List S:=[.ite (.not (.cmp2 .le .lt (.cst (.int 0)) (.loc 4) (.blt .len [.attr (.loc 0) 0]))) [.raise] []]
theorem vf{F:Fx}{rest:St}{n op:Nat}{ks:List Nat}{U:En}(h0:U 0=some (.ref 4))(h3:U 3=some (aJ (op,ks)))(hks:∀ k∈ks,k<F.nodes.length){G:Prop}
  (kk:∀ U',dS ⟨az ak n⟩ (.for_ (.one 4) (.slc (.loc 3) .tail) xE) U (F.st rest)=some (none,U',F.st rest)->U' 0=some (.ref 4)->U' 3=some (aJ (op,ks))->G):G:=by
 have hstep:∀ k∈ks,∀ U:En,U 0=some (.ref 4)->∃ U',bV (.one 4) (aa k) U (F.st rest)=some U'/\U' 0=some (.ref 4)/\U' 3=U 3/\bn ⟨az ak n⟩ xE U' (F.st rest)=some (none,U',F.st rest):=
  fun k hk U h0=>⟨ah U 4 (aa k),rfl,h0,rfl,by exists(show ah U 4 (aa k) 0=_ from h0),I5 (a:=0) (Tb k),Dk (hks k hk)⟩
 refine zn (p:=.one 4) (b:=bn ⟨az ak n⟩ xE) (Y:=F.st rest) (i:=aa) (vs:=ks) (U:=U) hstep h0 _ fun U' q1 q2 q3=>?_;exact kk U' ((cY (s:=⟨ks.map aa,[]⟩) (l6 (aG h3) rfl jI) rfl rfl).trans q1) q2 (q3.trans h3)
section
variable{F F':Fx}{rest:St}{h h':HS}
theorem me{n a:Nat}{ks:List Nat}{fs:List AV}{ws:List Int}{op:Nat}{U:En}{F1:Fx}{r1 τ:St}{kk:Nat}(h0:U 0=some (.ref 4))(h3:U 3=some (aJ (op,ks)))(ha:∀ U':En,U' 0=some (.ref 4)->∃ i,au ⟨az ak n⟩ (.attr (.loc 0) a) U' (F1.st r1)=some (.ref i,F1.st r1)/\aj (F1.st r1) i=some fs)
  (hw:fs=ws.map .int) (hl:∀ k∈ks,k<ws.length) (hz:ks.length<=2) (hn:(F1.st r1).length=kk) (hs:F1.st r1++[.list ((ks.map fun k=>ws.getD k 0).map .int)]=τ) :
  au ⟨az ak n⟩ (.comp (.sub (.attr (.loc 0) a) (.loc 6)) (.one 6) (.slc (.loc 3) .tail) []) U (F1.st r1)=some (.ref kk,τ):=by
 refine bm (v:=.tup (ks.map aa)) (s:=⟨ks.map aa,[]⟩) (Y1:=F1.st r1) (Y2:=F1.st r1) (vs:=ks.map fun k=>.int (ws.getD k 0)) (l6 (aG h3) rfl jI) rfl rfl (cE rfl fun k hk=>⟨_,rfl,rfl,?_⟩) (by rw[S7];exact SJ hz (S8 rfl)) hn (by rw[<- hs,TP];rfl)
 obtain⟨i,e1,e2⟩:=ha (ah U 6 (aa k)) h0;have:fs[k]?=some (.int (ws.getD k 0)):=by
  rw[hw,TD,TC (hl k hk),UJ,TC (hl k hk)];rfl
 exact io (oS e1 rfl (aG rfl) rfl (ny e2 (d9 this))) rfl
theorem pR(H:HI F rest h){op:Nat}{ks:List Nat}{kv:AV}(ho:1<=op/\op<=6)(hi:(op,ks)∉h.ns)(hk:KV rest kv ks)(hks:∀ k∈ks,k<h.ns.length)(hl:ks.length<=2){G:Prop}
  (kk:∀(l:St) (w d:Int),Ok 3 14 [.ref 4,.sym op,kv] (F.st rest) (aa h.ns.length)
   (((((F.t6 (F.numbers++[(aJ (op,ks),aa h.ns.length)])).t5 (F.nodes++[aJ (op,ks)])).t7 (F.weights++[.int w])).t8 (F.depths++[.int d])).st (rest++l))->G):G:=by
 obtain⟨ws,hw,hwl⟩:=H.wts;obtain⟨ds,hdp,hdl⟩:=H.dps;have hns:F.nodes.length=h.ns.length:=by rw[H.nodes,S7]
 have hL:h.ns.length+1<=ay:=SJ (Nat.add_le_add_right H.size 1) (S8 rfl);have hnl2:F.weights.length+1<=ay:=by rw[hw,S7,hwl];exact hL
 have hnl3:F.depths.length+1<=ay:=by rw[hdp,S7,hdl];exact hL
 have hnu:F.numbers.length+1<=ay:=by rw[H.numbers,S7,List.length_zipIdx];exact hL
 have hdg:aA F.numbers (aJ (op,ks))=none:=by
  rw[H.numbers];exact(qd h.ns.zipIdx (op,ks) aa).trans (by rw[iP hi];rfl)
 have hpt:aU F.numbers (aJ (op,ks)) (.int F.nodes.length)=F.numbers++[(aJ (op,ks),aa h.ns.length)]:=by rw[hns];exact qE hdg
 let wl:List Int:=ks.map fun k=>ws.getD k 0
 let dl:List Int:=ks.map fun k=>ds.getD k 0
 obtain⟨m1,m2,hdc⟩:=List.exists_cons_of_ne_nil (l:=dl++[0]) (List.append_ne_nil_of_right_ne_nil _ nofun)
 refine kk [.list [],.list [],.list (wl.map .int),.list (dl.map .int),.list [.int 0],.list (dl.map .int++[.int 0])] (1+wl.sum) (1+m2.foldl max m1) ?_;refine .mk rfl rfl fun n hn=>?_;have hq:=rY (F:=F) (rest:=rest) ho n (SJ (by decide) hn)
 have h5:=v8 (a:=.sym op) (v7 (f:=aa) (SJ hl (S8 rfl):ks.length<=99999));have hA:au ⟨az ak n⟩ (.bin .add (.tup [.loc 1]) (.blt .tupleOf [.loc 2])) (fun i=>[AV.ref 4,.sym op,kv][i]?) (F.st rest)=some (aJ (op,ks),F.st rest):=by
  rcases hk with rfl | ⟨j,rfl,hj⟩
  ·exists nP h5
  ·exists nP h5,hj
 refine vf (n:=n) (F:=F) (rest:=rest++[.list [],.list []]) (op:=op) (ks:=ks) (U:=ah (fun i=>[AV.ref 4,.sym op,kv][i]?) 3 (aJ (op,ks))) rfl rfl (by rw[hns];exact hks) fun U' q1 q2 r3=>?_
 have tA:∀{F1:Fx} {r1 τ:St} {kk:Nat},F1.weights=F.weights->(F1.st r1).length=kk->F1.st r1++[.list (wl.map .int)]=τ->au ⟨az ak n⟩ (.comp (.sub (.attr (.loc 0) 2) (.loc 6)) (.one 6) (.slc (.loc 3) .tail) []) U' (F1.st r1)=some (.ref kk,τ):=
  fun e hn hs=>me q2 r3 (fun U' h0=>⟨7,jK (aG h0) rfl rfl,SI some e⟩) hw (fun k hk=>hwl▸hks k hk) hl hn hs
 have ad':∀{F1:Fx} {r1 τ:St} {kk:Nat},F1.depths=F.depths->(F1.st r1).length=kk->F1.st r1++[.list (dl.map .int)]=τ->au ⟨az ak n⟩ (.comp (.sub (.attr (.loc 0) 3) (.loc 6)) (.one 6) (.slc (.loc 3) .tail) []) U' (F1.st r1)=some (.ref kk,τ):=
  fun e hn hs=>me q2 r3 (fun U' h0=>⟨8,jK (aG h0) rfl rfl,SI some e⟩) hdp (fun k hk=>hdl▸hks k hk) hl hn hs
 have i1:cC (wl.map .int)=some wl:=kq wl;have i2:cC (dl.map .int++[.int 0])=some (m1::m2):=by rw[<- hdc,<- kq (dl++[0]),Th];rfl
 have hs6:∀{R:St},(F.st R).set 6 (.dict (aU F.numbers (aJ (op,ks)) (.int F.nodes.length)))=(F.t6 (F.numbers++[(aJ (op,ks),aa h.ns.length)])).st R:=by intro R;rw[hpt];rfl
 have hl6:(aU F.numbers (aJ (op,ks)) (.int F.nodes.length)).length<=ay:=by rw[hpt,SZ];exact hnu
 have h7:(dl.map AV.int++[AV.int 0]).length<=ay:=by rw[SZ,S7,S7];exact SJ (Nat.add_le_add_right hl 1) (S8 rfl)
 have hR:∀{Y:St},i7 .sub Y (.int (F.nodes++[aJ (op,ks)]).length) (.int 1)=some (aa h.ns.length,Y):=by intro Y;rw[SZ,hns];show some (AV.int ((h.ns.length:Int)+1-1),Y)=_;rw[Int.add_sub_cancel]
 exists hA,c8 _,SI Option.isSome hdg,hq,q1,q2,r3,hs6,hl6,(hns▸hL:F.nodes.length+1<=ay),tA rfl KE Kj,ad' rfl Py PU,hnl2,hnl3,i1,i2,h7,hR
end
noncomputable def dd:List Nat->List Nat
 | []=>[]
 | [a]=>[a]
 | [a,b]=>if a=b then[a] else if b<a then[b,a] else[a,b]
 | _=>[]
theorem om{l:List Nat}(hl:l.length<=2)(x:Nat):x∈dd l↔x∈l:=by
 match l,hl with
 | [],_=>simp[dd]
 | [a],_=>simp[dd]
 | [a,b],_=>
  simp only[dd]
  split
  ·rename_i e;subst e;simp
  ·split<;>simp<;>try (constructor<;>(intro q;rcases q with q | q<;>simp[q]))
theorem zN{l:List Nat}(hl:l.length<=2):(dd l).Nodup:=by
 match l,hl with
 | [],_=>simp[dd]
 | [a],_=>simp[dd]
 | [a,b],_=>
  simp only[dd]
  split
  ·simp
  ·rename_i e
   split<;>simp<;>intro q
   ·exact e q.symm
   ·exact e q
theorem zO{l:List Nat}(hl:l.length<=2):(dd l).length<=2:=by
 match l,hl with
 | [],_=>simp[dd]
 | [a],_=>simp[dd]
 | [a,b],_=>
  simp only[dd]
  split
  ·simp
  ·split<;>simp
theorem yG{α β:Type}{f:α->β}:∀{l:List α} {x y:α},(l.map f).Nodup->x∈l->y∈l->f x=f y->x=y:=by
 intro l;induction l with
 | nil=>exact fun _ h=>nomatch h
 | cons a l ih=>
  intro x y hn hx hy e;have hn:=Tq.mp hn;exact(SW.mp hx).elim (fun p=>(SW.mp hy).elim (fun q=>p.trans q.symm) fun q=>SP (Ta.mpr ⟨y,q,e.symm.trans (SI f p)⟩) hn.1)
   fun p=>(SW.mp hy).elim (fun q=>SP (Ta.mpr ⟨x,p,e.trans (SI f q)⟩) hn.1) fun q=>ih hn.2 p q e
theorem F7{l:List Nat}(hl:l.length<=2):∃ ys,lv (l.map aa)=some ys/\b7 ys=some ((dd l).map aa):=by
 match l,hl with
 | [],_=>exact⟨[],rfl,rfl⟩
 | [a],_=>exact⟨_,rfl,rfl⟩
 | [a,b],_=>
  by_cases e:a=b
  ·subst e;exact⟨[aa a],by show some (bif decide (aa a=aa a) then _ else _)=_;rw[SV rfl];rfl,by rw[dd,SQ rfl];rfl⟩
  ·refine⟨[aa a,aa b],by show some (bif decide (aa a=aa b) then _ else _)=_;rw[Tk fun q=>e (jv.mp q)];rfl,?_⟩
   by_cases q:b<a
   ·rw[dd,SL e,SQ q];exact Ey q
   ·rw[dd,SL e,SL q];exact A6 (Nat.le_of_not_lt q)
section
variable{F:Fx}
noncomputable abbrev GE:List S:=[.expr (.meth (.sub (.attr (.loc 0) 4) (.loc 4)) 27 [.loc 3])]
theorem Al{N jl:Nat}{ab:List (Nat×Nat)}{items:List AV}(hF:F.above=ab.map fun x=>(aa x.1,.ref (x.2+19)))(hk:(ab.map (·.1)).Nodup)(hr:(ab.map (·.2)).Nodup)(hjl:jl∉ab.map (·.2)):∀(cs:List Nat) (r:St) (av:Nat->List Nat),cs.Nodup->
  (∀ c∈cs,∃ j,(c,j)∈ab)->r[jl]?=some (AO.list items)->(∀ x∈ab,r[x.2]?=some (AO.list ((av x.1).map aa))/\(av x.1).length+cs.length<=1000)->
  ∀(G:Prop),(∀ r',(∀(n:Nat) (U:En),U 0=some (.ref 3)->U 3=some (aa N)->∃ U',dT [(jl+19,some items)] (.one 4) (bn ⟨az ak n⟩ GE) (cs.map aa) U (F.st r)=some (none,U',F.st r')/\U' 0=some (.ref 3)/\U' 3=some (aa N))->r'.length=r.length->(∀ j,j∉ab.map (·.2)->r'[j]?=r[j]?)->(∀ x∈ab,r'[x.2]?=some (AO.list ((if x.1∈cs then av x.1++[N] else av x.1).map aa)))->G)->G:=by
 intro cs;induction cs with
 | nil=>exact fun r av _ _ hj ha _ kk=>kk r (fun n U h0 h3=>⟨U,bU (bv hj),h0,h3⟩) rfl (fun _ _=>rfl) fun x hx=>(ha x hx).1
 | cons c cs ih=>
  intro r av hn hc hj ha G kk;obtain⟨jc,hjc⟩:=hc c (.head _);obtain⟨hn1,hn2⟩:=Tq.mp hn;have hd:aA F.above (aa c)=some (.ref (jc+19)):=by rw[hF];exact(nU ab c fun j=>.ref (j+19)).trans (by rw[nV hk hjc];rfl)
  obtain⟨a1,a2⟩:=ha _ hjc;dsimp only at a1 a2;have hlen:jc<r.length:=(SR.mp a1).1;have hne:jc≠jl:=fun e=>hjl (e▸Ta.mpr ⟨_,hjc,rfl⟩);have hLIM:(av c).length+1<=ay:=by simp only[List.length_cons] at a2;unfold ay;exact LF a2
  have hb:∀(n:Nat) (U:En),U 0=some (.ref 3)->U 3=some (aa N)->bn ⟨az ak n⟩ GE (ah U 4 (aa c)) (F.st r)=some (none,ah U 4 (aa c),F.st (r.set jc (.list ((av c).map aa++[aa N])))):=fun n U h0 h3=>by
   exists(show ah U 4 (aa c) 0=_ from h0),(show ah U 4 (aa c) 3=_ from h3),hd,a1,(by rw[S7];exact hLIM:((av c).map aa).length+1<=ay)
  have same:∀ x∈ab,x.2=jc->x.1=c:=fun x hx e=>by
   exact SI (·.1) (yG hr hx hjc e)
  have samek:∀ x∈ab,x.1=c->x.2=jc:=fun x hx e=>SI (·.2) (yG hk hx hjc e);refine ih (r.set jc (.list ((av c).map aa++[aa N]))) (fun x=>if x=c then av c++[N] else av x) hn2 (fun d hd=>hc d (.tail _ hd)) (by rw[Tt hne];exact hj)
   (fun x hx=>by
    by_cases e:x.2=jc
    ·have:=same x hx e;rw[e,TY hlen,this];simp only[List.length_cons] at a2;refine⟨by simp,by simp;exact Rf a2⟩
    ·have e':x.1≠c:=fun q=>e (samek x hx q);rw[Tt (fun q=>e q.symm)];simp only[e',if_false];refine⟨(ha x hx).1,?_⟩;have:=(ha x hx).2;simp only[List.length_cons] at this;exact Re this) _ fun r' q q4 q5 q6=>?_
  refine kk r' (fun n U h0 h3=>?_) (q4.trans Uu) (fun j hj'=>?_) fun x hx=>?_
  ·obtain⟨U',q1,q2,q3⟩:=q n (ah U 4 (aa c)) h0 h3;refine⟨U',?_,q2,q3⟩;exact cm (bv hj) rfl (hb n U h0 h3) q1
  ·rw[q5 j hj',Tt];intro e;exact hj' (e▸Ta.mpr ⟨_,hjc,rfl⟩)
  ·rw[q6 x hx]
   by_cases e:x.1=c
   ·rw[e];simp[hn1]
   ·simp[e]
end
theorem bf{α:Type}{P:α->Prop}{a:α}{l:List α}(h:P a)(t:∀ x∈l,P x):∀ x∈a::l,P x:=List.forall_mem_cons.mpr ⟨h,t⟩
section
variable{α:Type}{a b c d e f g:α}{l:List α}
theorem m1:b∈a::b::l:=.tail _ (.head _)
theorem m2:c∈a::b::c::l:=.tail _ m1
theorem m3:d∈a::b::c::d::l:=.tail _ m2
theorem m4:e∈a::b::c::d::e::l:=.tail _ m3
theorem m5:f∈a::b::c::d::e::f::l:=.tail _ m4
theorem m6:g∈a::b::c::d::e::f::g::l:=.tail _ m5
end
theorem rB{es:List (Nat×Nat)}{f g:Nat×Nat->Nat}(h:∀ x∈es,f x<=g x):(es.map f).sum<=(es.map g).sum:=by
 induction es with
 | nil=>exact SN _
 | cons a l ih=>
  have h1:=h a (.head _);have h2:=ih fun x hx=>h x (.tail _ hx);simp only[List.map_cons,List.sum_cons];exact Ug h1 h2
theorem tU{es:List (Nat×Nat)}{f g:Nat×Nat->Nat}:(es.map fun x=>f x+g x).sum=(es.map f).sum+(es.map g).sum:=by
 induction es with
 | nil=>rfl
 | cons a l ih=>simp only[List.map_cons,List.sum_cons,ih];exact Rd
theorem xO(es:List (Nat×Nat)):(es.map fun _=>0).sum=0:=by
 induction es with
 | nil=>rfl
 | cons a l ih=>exact(T7 _).trans ih
theorem AW{es:List (Nat×Nat)}(hn:(es.map (·.1)).Nodup)(c:Nat):(es.map fun x=>if x.1=c then 1 else 0).sum<=1:=by
 induction es with
 | nil=>simp
 | cons a l ih=>
  obtain⟨h1,h2⟩:=Tq.mp hn;have:=ih h2;simp only[List.map_cons,List.sum_cons]
  split
  ·rename_i e;have z:(l.map fun x=>if x.1=c then 1 else 0).sum=0:=by
    have:∀ x∈l,x.1≠c:=fun x hx q=>h1 (Ta.mpr ⟨x,hx,q.trans e.symm⟩);have:(l.map fun x=>if x.1=c then 1 else 0)=l.map fun _=>0:=TN fun x hx=>by rw[SL (this x hx)]
    rw[this];exact xO l
   rw[z];exact SN _
  ·rw[T7];exact this
theorem tT{es:List (Nat×Nat)}(hn:(es.map (·.1)).Nodup):∀ cs:List Nat,(es.map fun x=>if x.1∈cs then 1 else 0).sum<=cs.length
 | []=>by
  simp only[List.not_mem_nil,if_false];clear hn;induction es with
  | nil=>simp
  | cons a l ih=>simpa using ih
 | c::cs=>by
  have h1:=AW hn c;have h2:=tT hn cs;have h3:(es.map fun x=>if x.1∈c::cs then 1 else 0).sum<=(es.map fun x=>(if x.1=c then 1 else 0)+(if x.1∈cs then 1 else 0)).sum:=by
   apply rB;intro x _
   by_cases q1:x.1=c<;>by_cases q2:x.1∈cs<;>simp[q1,q2]
  rw[tU] at h3;simp only[List.length_cons];exact Rc h1 h2 h3
section
variable{F F':Fx}{rest r4:St}{h:HS}
noncomputable def HS.grown(h:HS)(op:Nat)(ks:List Nat)(jt jn:Nat):HS:=
 {h with
  ns:=h.ns++[(op,ks)]
  ab:=h.ab++[(h.ns.length,jn)]
  av:=fun x=>if x∈dd (ks.map h.cl) then(if x=h.ns.length then[] else h.av x)++[h.ns.length] else(if x=h.ns.length then[] else h.av x)
  lt:=fun x=>if x=h.ns.length then[aa h.ns.length] else h.lt x
  up:=h.up++[h.ns.length]
  lr:=h.lr++[jt]
  ex:=[h.ns.length] }
theorem fZ{α:Type}{l:List α}{i:Nat}{a x:α}(h:(l++[a])[i]?=some x):(i<l.length/\l[i]?=some x)\/(i=l.length/\x=a):=by
 rcases Nat.lt_or_ge i l.length with q | q
 ·rw[Tf q] at h;exact .inl ⟨q,h⟩
 ·rw[TR q] at h
  cases e:i-l.length with
  | zero=>rw[e] at h;exact .inr ⟨Pi q e,(S0 h).symm⟩
  | succ k=>rw[e] at h;cases h
def FO(F:Fx)(h:HS)(rest r4:St)(op:Nat)(ks:List Nat)(jt jn:Nat)(w d:Int):Prop:=∀{F':Fx} (H:HI F rest h) (hi:(op,ks)∉h.ns) (hks:∀ k∈ks,k<h.ns.length) (hl:ks.length<=2) (hsz:h.ns.length+1<=20) (hex:h.ex=[]) (hF:F'=(((((((F.t6 (F.numbers++[(aJ (op,ks),aa h.ns.length)])).t5 (F.nodes++[aJ (op,ks)])).t7 (F.weights++[.int w])).t8 (F.depths++[.int d])).t10 (F.up++[aa h.ns.length])).t11 (F.lots++[.ref (jt+19)])).t16 (F.above++[(aa h.ns.length,.ref (jn+19))]))) (ht:rest.length<=jt) (hn:rest.length<=jn) (htn:jt≠jn) (hlr:∀ j∈h.lr,r4[j]?=rest[j]?) (hjt:r4[jt]?=some (AO.list [aa h.ns.length])) (hab:∀ x∈(h.grown op ks jt jn).ab,r4[x.2]?=some (AO.list (((h.grown op ks jt jn).av x.1).map aa))),HI F' r4 (h.grown op ks jt jn)
def JJ(a:Fx×HS×St×St×Nat×List Nat×Nat×Nat×Int×Int):Prop:=FO a.1 a.2.1 a.2.2.1 a.2.2.2.1 a.2.2.2.2.1 a.2.2.2.2.2.1 a.2.2.2.2.2.2.1 a.2.2.2.2.2.2.2.1 a.2.2.2.2.2.2.2.2.1 a.2.2.2.2.2.2.2.2.2
noncomputable def lJ:=lN (Ds,Hh,default) JJ
noncomputable def Cf:=lJ.1
noncomputable def aY:=lJ.2.1
noncomputable def sR:=lJ.2.2.1
noncomputable def JI:=lJ.2.2.2.1
noncomputable def N7:=lJ.2.2.2.2.1
noncomputable def lI:=lJ.2.2.2.2.2.1
noncomputable def FN:=lJ.2.2.2.2.2.2.1
noncomputable def qp:=lJ.2.2.2.2.2.2.2.1
noncomputable def KH:=lJ.2.2.2.2.2.2.2.2.1
noncomputable def PC:=lJ.2.2.2.2.2.2.2.2.2
theorem N8:FO Cf aY sR JI N7 lI FN qp KH PC:=fun{F'} H hi hks hl hsz hex hF ht hn htn hlr hjt hab=>by
 subst hF;have hcs:∀ x∈dd (lI.map aY.cl),x<aY.ns.length:=fun x hx=>by
  rw[om (by simpa using hl)] at hx
  obtain⟨k,hk,rfl⟩:=Ta.mp hx;exact H.clt (hks k hk)
 have hrt:∀ k j,(k,j)∈aY.ab->k<aY.ns.length:=fun k j hk=>((H.roots k).mp ⟨j,hk⟩).1;have hN:aY.cl aY.ns.length=aY.ns.length:=H.uf.out _ (by rw[H.upl];exact SN _)
 have hD:=Ts.mp H.refs;refine⟨?_,?_,?_,fun i op' ks' hi'=>?_,by show(aY.ns++[_]).length<=20;simp;exact Rb hsz,?_,?_,?_,?_,?_,?_,?_,fun a j hj=>?_,?_,?_,fun k=>?_,hab,?_,H.known,H.wait,fun x hx=>?_,fun i op' ks' hi' k hk=>?_,fun x hx i hi'=>?_,fun i hi'=>?_,fun i op' ks' hi'=>?_,?_,?_,?_,?_,H.budF,H.budM,H.bud⟩
 ·show Cf.nodes++_=(aY.ns++[_]).map aJ;rw[H.nodes,Th];rfl
 ·show Cf.numbers++_=(aY.ns++[_]).zipIdx.map _;rw[H.numbers,List.zipIdx_append,Th];simp
 ·show(aY.ns++[_]).Nodup;refine Ts.mpr ⟨H.nd,by simp,fun a ha b hb e=>?_⟩
  rw[SY.mp hb] at e;subst e;exact hi ha
 ·rcases fZ hi' with⟨q,q'⟩ | ⟨rfl,e⟩
  ·exact H.kids i op' ks' q'
  ·cases e;exact⟨hks,hl⟩
 ·obtain⟨ws,e1,e2⟩:=H.wts;exact⟨ws++[KH],by show Cf.weights++_=_;rw[e1,Th];rfl,by show _=(aY.ns++[_]).length;simp[e2]⟩
 ·obtain⟨ws,e1,e2⟩:=H.dps;exact⟨ws++[PC],by show Cf.depths++_=_;rw[e1,Th];rfl,by show _=(aY.ns++[_]).length;simp[e2]⟩
 ·show Cf.up++_=(aY.up++[_]).map aa;rw[H.up,Th];rfl
 ·show(aY.up++[_]).length=(aY.ns++[_]).length;simp[H.upl]
 ·show UF (aY.up++[_]) aY.cl;refine⟨fun a ha=>?_,H.uf.le,H.uf.idem,fun a ha=>H.uf.out a (by simp at ha;exact Nat.le_of_succ_le ha)⟩
  rcases Nat.lt_or_ge a aY.up.length with q | q
  ·obtain⟨b,e1,e2⟩:=H.uf.step a q;exact⟨b,by rw[Tf q];exact e1,e2⟩
  ·have:a=aY.up.length:=by simp at ha;exact Ph q ha
   subst this;refine⟨aY.ns.length,by simp,by rw[H.upl];exact SN _,by rw[H.upl],fun _=>?_⟩
   rw[H.upl];exact hN
 ·show Cf.lots++_=(aY.lr++[_]).map _;rw[H.lots,Th];rfl
 ·show(aY.lr++[_]).length=(aY.ns++[_]).length;simp[H.lrl]
 ·show JI[j]?=some (AO.list (if a=aY.ns.length then _ else _))
  have hj:(aY.lr++[FN])[a]?=some j:=hj
  rcases Nat.lt_or_ge a aY.lr.length with q | q
  ·rw[Tf q] at hj;have q':=H.lrl;rw[SL (Ra q q'),hlr j (Tm hj),H.lotAt a j hj]
  ·rw[TR q] at hj;have e:a-aY.lr.length=0:=by
    have:=(SR.mp hj).1;simp at this;exact this
   rw[e] at hj;cases hj
   have q':=H.lrl;rw[SQ (Q9 q e q'),hjt]
 ·show Cf.above++_=(aY.ab++[_]).map _;rw[H.above,Th];rfl
 ·show((aY.ab++[(aY.ns.length,qp)]).map (·.1)).Nodup;rw[Th];refine Ts.mpr ⟨H.keys,by simp,fun a ha b hb e=>?_⟩
  simp at hb;subst hb e;obtain⟨x,hx,e⟩:=Ta.mp ha;have h1:=hrt x.1 x.2 hx;have h2:x.1=aY.ns.length:=e;exact Pg e h1
 ·show(∃ j,(k,j)∈aY.ab++[(aY.ns.length,qp)])↔k<(aY.ns++[_]).length/\aY.cl k=k
  constructor
  ·rintro⟨j,hj⟩
   rcases Tg.mp hj with hj | hj
   ·have:=(H.roots k).mp ⟨j,hj⟩;exact⟨by simp;exact Q8 this,this.2⟩
   ·simp at hj;obtain⟨rfl,rfl⟩:=hj;exact⟨by simp,hN⟩
  ·rintro⟨r1,r2⟩
   simp at r1
   rcases Nat.lt_or_ge k aY.ns.length with q | q
   ·obtain⟨j,hj⟩:=(H.roots k).mpr ⟨q,r2⟩;exact⟨j,Tl _ hj⟩
   ·have:k=aY.ns.length:=Q7 r1 q;subst this;exact⟨qp,by simp⟩
 ·show((aY.lr++[FN])++(aY.ab++[(aY.ns.length,qp)]).map (·.2)).Nodup;rw[Th];have b1:∀ j∈aY.lr,j<sR.length:=fun j hj=>H.inr (Tl _ hj);have b2:∀ j∈aY.ab.map (·.2),j<sR.length:=fun j hj=>H.inr (Tx _ hj);refine Ts.mpr ⟨Ts.mpr ⟨hD.1,by simp,fun a ha b hb e=>?_⟩,Ts.mpr ⟨hD.2.1,by simp,fun a ha b hb e=>?_⟩,fun a ha b hb e=>?_⟩
  ·simp at hb;have:=b1 a ha;exact Pf ht e hb this
  ·simp at hb;have:=b2 a ha;exact Pf hn e hb this
  ·subst e
   rcases Tg.mp ha with ha | ha<;>rcases Tg.mp hb with hb | hb
   ·exact hD.2.2 a ha a hb rfl
   ·simp at hb;have:=b1 a ha;exact LE hn hb this
   ·simp at ha;have:=b2 a hb;exact LE ht ha this
   ·simp at ha hb;exact Q6 htn ha hb
 ·obtain⟨op',ks',e1,e2,e3⟩:=H.inK x hx;exact⟨op',ks',by show(aY.ns++[_])[_]?=_;rw[Tf (SR.mp e1).1];exact e1,e2,e3⟩
 ·show i∈(if aY.cl k∈dd (lI.map aY.cl) then(if aY.cl k=aY.ns.length then[] else aY.av (aY.cl k))++[aY.ns.length] else(if aY.cl k=aY.ns.length then[] else aY.av (aY.cl k)))
  rcases fZ hi' with⟨q,q'⟩ | ⟨rfl,e⟩
  ·have h1:=H.kid i op' ks' q' k hk;have h2:aY.cl k≠aY.ns.length:=by
    have:=(H.kids i op' ks' q').1 k hk;have:=H.uf.le k;exact Q5 q ‹_› this
   rw[SL h2]
   split
   ·exact Tl _ h1
   ·exact h1
  ·cases e
   rw[SQ ((om (by simpa using hl) _).mpr (Ta.mpr ⟨k,hk,rfl⟩))]
   simp
 ·show i<(aY.ns++[_]).length;have hi':i∈(if x.1∈dd (lI.map aY.cl) then(if x.1=aY.ns.length then[] else aY.av x.1)++[aY.ns.length] else(if x.1=aY.ns.length then[] else aY.av x.1)):=hi'
  have hx:x∈aY.ab++[(aY.ns.length,qp)]:=hx;have key:∀ i∈(if x.1=aY.ns.length then[] else aY.av x.1),i<aY.ns.length:=fun i hi=>by
   split at hi
   ·cases hi
   ·rename_i q
    rcases Tg.mp hx with hx | hx
    ·exact H.avlt x hx i hi
    ·simp at hx;subst hx;exact SP rfl q
  rw[SZ,List.length_singleton]
  split at hi'
  ·rcases Tg.mp hi' with q | q
   ·have:=key i q;exact TL this
   ·simp at q;exact Q4 q
  ·have:=key i hi';exact TL this
 ·show i<(aY.ns++[_]).length;have:=H.wtlt i hi';simp;exact TL this
 ·rcases fZ hi' with⟨q,q'⟩ | ⟨rfl,e⟩
  ·rcases H.J i op' ks' q' with r | r | r
   ·exact .inl r
   ·rw[hex] at r;cases r
   ·exact .inr (.inr r)
  ·exact .inr (.inl (by show _∈[_];simp))
 ·show((aY.ab++[(aY.ns.length,qp)]).map fun x=>(if x.1∈dd (lI.map aY.cl) then(if x.1=aY.ns.length then[] else aY.av x.1)++[aY.ns.length] else(if x.1=aY.ns.length then[] else aY.av x.1)).length).sum<=2*(aY.ns++[_]).length
  have h1:=H.sumA;have h2:=tT H.keys (dd (lI.map aY.cl));have h3:=zO (l:=lI.map aY.cl) (by simpa using hl)
  have h4:(aY.ab.map fun x=>(if x.1∈dd (lI.map aY.cl) then(if x.1=aY.ns.length then[] else aY.av x.1)++[aY.ns.length] else(if x.1=aY.ns.length then[] else aY.av x.1)).length).sum<=(aY.ab.map fun x=>(aY.av x.1).length+if x.1∈dd (lI.map aY.cl) then 1 else 0).sum:=by
   apply rB;intro x hx;have:=hrt x.1 x.2 hx;rw[SL (show ¬x.1=aY.ns.length from Te this)]
   split<;>simp
  rw[tU] at h4;have h5:aY.ns.length∉dd (lI.map aY.cl):=fun q=>by have:=hcs _ q;exact Uq _ this
  rw[Th,List.sum_append];simp[h5] at h1 h2 h4 ⊢;exact Q3 h1 h2 h3 h4
 ·show((aY.ab++[(aY.ns.length,qp)]).map fun x=>(if x.1=aY.ns.length then[aa aY.ns.length] else aY.lt x.1).length).sum<=(aY.ns++[_]).length
  have h1:=H.sumL;have h4:(aY.ab.map fun x=>(if x.1=aY.ns.length then[aa aY.ns.length] else aY.lt x.1).length).sum<=(aY.ab.map fun x=>(aY.lt x.1).length).sum:=by
   apply rB;intro x hx;have:=hrt x.1 x.2 hx;rw[SL (Te this)];exact SN _
  rw[Th,List.sum_append];simp at h1 h4 ⊢;exact SJ h4 h1
 ·have:=H.budW;rw[hex] at this;show aY.kn.length+1+aY.wt.length+41*(aY.ab++[_]).length<=43*(aY.ns++[_]).length;simp at this ⊢;exact Q2 this
 ·have:=H.budE;show Cf.edges.length+(aY.ab++[_]).length<=(aY.ns++[_]).length+aY.bud;simp;exact Q1 this
theorem HI.grown{op:Nat}{ks:List Nat}{jt jn:Nat}{w d:Int}:FO F h rest r4 op ks jt jn w d:=bF JJ N8 (F,h,rest,r4,op,ks,jt,jn,w,d)
end
section
variable{F F':Fx}{rest r4:St}{h:HS}
theorem By{N:Nat}(hu:F.up.length=N)(hl:F.lots.length=N)(hN:N<=100):Ok 1 19 [.ref 9] (F.st rest) (aa N) (((F.t10 (F.up++[aa N])).t11 (F.lots++[.ref (rest.length+19)])).st (rest++[.list [aa N]])):=by
 refine .mk rfl rfl fun n _=>?_;have h1:N+1<=ay:=by unfold ay;exact Pe hN
 exists hu,hl,NT hu,(hu▸h1:F.up.length+1<=ay),(hl▸h1:F.lots.length+1<=ay)
theorem KV.isIt{r:St}{kv:AV}{ks:List Nat}(h:KV r kv ks):kv.isIt=false:=by
 rcases h with rfl | ⟨j,rfl,_⟩<;>rfl
theorem KV.grow{r:St}{kv:AV}{ks:List Nat}(h:KV r kv ks)(l:St):KV (r++l) kv ks:=by
 rcases h with rfl | ⟨j,rfl,hj⟩
 ·exact .inl rfl
 ·exact .inr ⟨j,rfl,by rw[Tf (SR.mp hj).1];exact hj⟩
theorem oo{C:Calls}{U:En}{r:St}{kv:AV}{ks:List Nat}{e it:X}{p:Nat}{g:Nat->AV}(hkv:KV r kv ks)(hit:au C it U (F.st r)=some (kv,F.st r))
  (he:∀ k∈ks,one (au C e (ah U p (aa k)) (F.st r))=some ([g k],F.st r)) (hl:ks.length<=ay):au C (.comp e (.one p) it []) U (F.st r)=some (.ref (r.length+19),F.st (r++[.list (ks.map g)])):=by
 rcases hkv with rfl | ⟨j,rfl,hj⟩
 ·exact bm (s:=⟨ks.map aa,[]⟩) (Y2:=F.st r) hit rfl rfl (cE rfl fun k hk=>⟨_,rfl,rfl,he k hk⟩) (by rw[S7];exact hl) rfl rfl
 ·have hg:ip (F.st r) [(j+19,some (ks.map aa))]=true:=bv hj;exact bm (s:=⟨ks.map aa,[(j+19,some (ks.map aa))]⟩) (Y2:=F.st r) hit rfl (aV (aK (cG hj))) (cE hg fun k hk=>⟨_,rfl,rfl,he k hk⟩) (by rw[S7];exact hl) rfl rfl
theorem UF.grow{up:List Nat}{cl:Nat->Nat}(UU:UF up cl):UF (up++[up.length]) cl:=by
 refine⟨fun a ha=>?_,UU.le,UU.idem,fun a ha=>UU.out a (by simp at ha;exact Nat.le_of_succ_le ha)⟩
 rcases Nat.lt_or_ge a up.length with q | q
 ·obtain⟨b,e1,e2⟩:=UU.step a q;exact⟨b,by rw[Tf q];exact e1,e2⟩
 ·have:a=up.length:=by simp at ha;exact Ph q ha
  subst this;exact⟨up.length,by simp,SN _,rfl,fun _=>UU.out _ (SN _)⟩
theorem fL(H:HI F rest h){i op:Nat}{ks:List Nat}{kv:AV}(hi:h.ns[i]?=some (op,ks))(hk:KV rest kv ks)(hl:ks.length<=50):Ok 2 28 [.ref 3,.sym op,kv] (F.st rest) (aa i) (F.st rest):=by
 refine .mk rfl rfl fun n hn=>?_;have h1:=pQ H hi hk hl n (hn);have h2:=eO (F:=F) (rest:=rest) n (hn);have h3:F.up.length=h.ns.length:=by rw[H.up,S7,H.upl]
 have h4:i<h.ns.length:=(SR.mp hi).1;exists h1,h2,Dk (Nat.lt_of_lt_of_eq h4 h3.symm),hk.isIt
structure k9(h h':HS)(op:Nat)(ks:List Nat):Prop where
 ns:h'.ns=h.ns++[(op,ks)]
 ex:h'.ex=[]
 bud:h'.bud=h.bud
 lk:∀ d m,lk h.kn d=some m->lk h'.kn d=some m
 kn:h'.kn=h.kn\/h'.kn=h.kn++[((op,ks.map h.cl),h.ns.length)]
 cl:(h'.cl=h.cl/\h'.wt=h.wt/\h'.lt=fun x=>if x=h.ns.length then[aa h.ns.length] else h.lt x)\/∃ m,Internal.lk h.kn (op,ks.map h.cl)=some m/\∀ x y,h'.cl x=h'.cl y↔h.cl x=h.cl y\/(h.cl x=h.cl m/\h.cl y=h.cl h.ns.length)\/(h.cl x=h.cl h.ns.length/\h.cl y=h.cl m)
 hit:∀ m,Internal.lk h.kn (op,ks.map h.cl)=some m->h'.cl m=h'.cl h.ns.length
def GB(F:Fx)(h:HS)(kv:AV)(rest:St)(op:Nat)(ks:List Nat)(G:Prop):Prop:=∀(H:HI F rest h) (ho:1<=op/\op<=6) (hi:(op,ks)∉h.ns) (hk:KV rest kv ks) (hks:∀ k∈ks,k<h.ns.length) (hl:ks.length<=2) (hsz:h.ns.length+1<=20) (hex:h.ex=[]) (hbud:h.bud+1<=200) (kk:∀ F' rest' h',Ok 5 28 [.ref 3,.sym op,kv] (F.st rest) (aa h.ns.length) (F'.st rest')->HI F' rest' h'->Fr h.D h'.D rest rest'->eW F F'->k9 h h' op ks->G),G
def Kh(a:Fx×HS×AV×St×Nat×List Nat×Prop):Prop:=GB a.1 a.2.1 a.2.2.1 a.2.2.2.1 a.2.2.2.2.1 a.2.2.2.2.2.1 a.2.2.2.2.2.2
noncomputable def tD:=lN (Ds,Hh,.none,default) Kh
noncomputable def lc:=tD.1
noncomputable def cn:=tD.2.1
noncomputable def wM:=tD.2.2.1
noncomputable def aB:=tD.2.2.2.1
noncomputable def kW:=tD.2.2.2.2.1
noncomputable def eV:=tD.2.2.2.2.2.1
noncomputable def Sk:=tD.2.2.2.2.2.2
theorem Ox:GB lc cn wM aB kW eV Sk:=fun H ho hi hk hks hl hsz hex hbud kk=>by
 refine pR H ho hi hk hks hl fun l w d hT=>?_;have hul:lc.up.length=cn.ns.length:=by rw[H.up,S7,H.upl]
 have hll:lc.lots.length=cn.ns.length:=by rw[H.lots,S7,H.lrl]
 have hN:cn.cl cn.ns.length=cn.ns.length:=H.uf.out _ (by rw[H.upl];exact SN _)
 have hclk:∀ k∈eV,cn.cl k<cn.ns.length:=fun k hk=>H.clt (hks k hk);have hrt:∀ x∈cn.ab,x.1<cn.ns.length:=fun x hx=>((H.roots x.1).mp ⟨x.2,hx⟩).1;have hdg:aA lc.above (aa cn.ns.length)=none:=by
  rw[H.above];refine(nU cn.ab cn.ns.length fun j=>.ref (j+19)).trans ?_
  cases e:lk cn.ab cn.ns.length with
  | none=>rfl
  | some j=>have:=hrt _ (fi e);dsimp only at this;exact(Uq _ this).elim
 have hpt:∀ v,aU lc.above (aa cn.ns.length) v=lc.above++[(aa cn.ns.length,v)]:=fun v=>qE hdg;have hapl:lc.above.length+1<=ay:=by have:=H.budW;have:=H.size;rw[H.above,S7];unfold ay;exact Q0 hsz ‹_›
 have hul2:(cn.up++[cn.up.length]).length<=100:=by have:=H.upl;simp;exact QZ hsz this
 obtain⟨ys,y1,y2⟩:=F7 (l:=eV.map cn.cl) (by simpa using hl)
 have hdd:=zO (l:=eV.map cn.cl) (by simpa using hl)
 generalize hcs:dd (eV.map cn.cl)=cs at y2 hdd;generalize hF1:((((lc.t6 (lc.numbers++[(aJ (kW,eV),aa cn.ns.length)])).t5 (lc.nodes++[aJ (kW,eV)])).t7 (lc.weights++[.int w])).t8 (lc.depths++[.int d]))=F1 at hT;have u1:F1.up=lc.up:=by rw[<- hF1]
 have u2:F1.lots=lc.lots:=by rw[<- hF1]
 have u3:F1.above=lc.above:=by rw[<- hF1]
 have hM:=By (F:=F1) (rest:=aB++l) (N:=cn.ns.length) (by rw[u1];exact hul) (by rw[u2];exact hll) (QY hsz)
 rw[u1,u2] at hM;generalize hF2:((F1.t10 (lc.up++[aa cn.ns.length])).t11 (lc.lots++[.ref ((aB++l).length+19)]))=F2 at hM;have v3:F2.above=lc.above:=by rw[<- hF2];exact u3
 have v4:F2.up=lc.up++[aa cn.ns.length]:=by rw[<- hF2]
 let r3:St:=aB++l++[.list [aa cn.ns.length],.list []]
 generalize hF3:(F2.t16 (lc.above++[(aa cn.ns.length,.ref ((aB++l).length+1+19))]))=F3;have z3:F3.above=(cn.ab++[(cn.ns.length,(aB++l).length+1)]).map fun x=>(aa x.1,.ref (x.2+19)):=by
  rw[<- hF3];show lc.above++_=_;rw[H.above,Th];rfl
 have z4:F3.up=(cn.up++[cn.up.length]).map aa:=by
  rw[<- hF3];show F2.up=_;rw[v4,H.up,Th,H.upl];rfl
 have hFind:∀ k∈eV,Ok 2 30 [.ref 3,aa k] (F3.st r3) (aa (cn.cl k)) (F3.st r3):=fun k hk=>j7 z4 H.uf.grow (by simp;have:=hks k hk;have:=H.upl;exact QX ‹_› this) hul2
 have r3l:r3.length=(aB++l).length+2:=by simp[r3];exact QW
 let r5:St:=r3++[.list ((eV.map cn.cl).map aa),.list (cs.map aa)]
 have lown:∀ j,j<aB.length->r5[j]?=aB[j]?:=fun j hj=>by
  show(r3++_)[j]?=_;rw[Tf (by simp[r3];exact QV hj)]
  show(aB++l++_)[j]?=_;rw[Tf (by simp;exact Un _ hj),Tf hj]
 have g0:r5[(aB++l).length]?=some (AO.list [aa cn.ns.length]):=by
  show(aB++l++[_,_]++[_,_])[_]?=_;rw[S6 (aB++l)];exact bN _ _ _
 have g1':r5[(aB++l).length+1]?=some (AO.list []):=by
  show(aB++l++[_,_]++[_,_])[_]?=_;rw[S6 (aB++l)];exact iZ _ _ _ _
 have g3':r5[r3.length+1]?=some (AO.list (cs.map aa)):=iZ _ _ _ _;have hD:=Ts.mp H.refs;have habr:∀ x∈cn.ab,x.2<aB.length:=fun x hx=>H.inr (Tx _ (Ta.mpr ⟨x,hx,rfl⟩));have hrl:aB.length<=(aB++l).length:=by simp
 have hcs2:∀ c∈cs,c<cn.ns.length:=fun c hc=>by
  rw[<- hcs,om (by simpa using hl)] at hc
  obtain⟨k,hk,rfl⟩:=Ta.mp hc;exact hclk k hk
 refine Al (F:=F3) (N:=cn.ns.length) (jl:=r3.length+1) (ab:=cn.ab++[(cn.ns.length,(aB++l).length+1)]) (items:=cs.map aa) z3
  (by
   rw[Th];refine Ts.mpr ⟨H.keys,by simp,fun a ha b hb e=>?_⟩
   simp at hb;subst hb e;obtain⟨x,hx,e⟩:=Ta.mp ha;have h1:=hrt x hx;have h2:x.1=cn.ns.length:=e;exact Pg e h1)
  (by
   rw[Th];refine Ts.mpr ⟨hD.2.1,by simp,fun a ha b hb e=>?_⟩
   obtain⟨x,hx,rfl⟩:=Ta.mp ha;have:=habr x hx;simp at hb;exact QU e this hb)
  (fun q=>by
   rw[Th] at q
   rcases Tg.mp q with q | q
   ·obtain⟨x,hx,e⟩:=Ta.mp q;have:=habr x hx;exact QT r3l hrl e this
   ·have q:=SY.mp q;dsimp only at q;exact QS r3l q)
  cs r5 (fun x=>if x=cn.ns.length then[] else cn.av x) (hcs▸zN (by simpa using hl))
  (fun c hc=>by
   rw[<- hcs,om (by simpa using hl)] at hc
   obtain⟨k,hk,rfl⟩:=Ta.mp hc;obtain⟨j,hj⟩:=H.rootAt (hks k hk);exact⟨j,Tl _ hj⟩)
  g3'
  (fun x hx=>by
   rcases Tg.mp hx with hx | hx
   ·have h1:=hrt x hx;rw[SL (Te h1),lown _ (habr x hx)];exact⟨H.abAt x hx,by have:=H.avle (show(x.1,x.2)∈cn.ab from hx);exact QR hdd this⟩
   ·rw[SY.mp hx];dsimp only;rw[SQ rfl];exact⟨g1',by simp;exact SJ hdd (by decide)⟩) _ fun r4 hloop q4 q5 q6=>?_
 have hr5:aB.length<=r5.length:=by simp[r5,r3]
 have HG:HI F3 r4 (cn.grown kW eV (aB++l).length ((aB++l).length+1)):=by
  refine H.grown (w:=w) (d:=d) hi hks hl hsz hex (by rw[<- hF3,<- hF2,<- hF1]) hrl (Nat.le_succ_of_le hrl) (Pd) (fun j hj=>?_) ?_ fun x hx=>?_
  ·have hjr:=H.inr (Tl _ hj);rw[q5 j fun q=>?_,lown j hjr];rw[Th] at q
   rcases Tg.mp q with q | q
   ·exact hD.2.2 j hj j q rfl
   ·simp at q;exact Pc hjr q
  ·rw[q5 _ fun q=>?_,g0];rw[Th] at q
   rcases Tg.mp q with q | q
   ·obtain⟨x,hx,e⟩:=Ta.mp q;have:=habr x hx;exact LE hrl e this
   ·simp at q
  ·rw[q6 x hx,<- hcs];rfl
 have hFr1:Fr cn.D (cn.grown kW eV (aB++l).length ((aB++l).length+1)).D aB r4:=by
  refine⟨QQ q4 hr5,fun j hj hn=>?_,fun j hj=>?_⟩
  ·rw[q5 j fun q=>?_,lown j hj];rw[Th] at q
   rcases Tg.mp q with q | q
   ·exact hn (Tx _ q)
   ·simp at q;exact Pc hj q
  ·have hj:j∈(cn.lr++[(aB++l).length])++(cn.ab++[(cn.ns.length,(aB++l).length+1)]).map (·.2):=hj;rw[Th] at hj
   rcases Tg.mp hj with hj | hj<;>rcases Tg.mp hj with hj | hj
   ·exact .inl (Tl _ hj)
   ·simp at hj;exact .inr (QP hj)
   ·exact .inl (Tx _ hj)
   ·simp at hj;exact .inr (QO hj)
 have hnN:(cn.grown kW eV (aB++l).length ((aB++l).length+1)).ns[cn.ns.length]?=some (kW,eV):=by
  show(cn.ns++[_])[_]?=_;simp
 refine ue HG hnN rfl hbud fun F' rest' h' O H' fr lw L=>?_;refine kk F' rest' h' ?_ H' (hFr1.trans fr) (eW.trans (F':=F3) ?_ lw) ⟨L.ns,L.ex,L.bud,fun d m e=>L.lk e,L.kn,L.cl,L.hit⟩
 ·refine .mk rfl rfl fun n hn=>?_;have t1:=hT n (SJ (by decide) hn)
  have t2:=eO (F:=F1) (rest:=aB++l) n (SJ (by decide) hn)
  have t3:=hM n (SJ (by decide) hn)
  have s16:∀{R:St},(F2.st R).set 16 (.dict (aU F2.above (aa cn.ns.length) (.ref ((aB++l).length+1+19))))=F3.st R:=by intro R;rw[v3,hpt,<- hF3];rfl
  have l16:(aU F2.above (aa cn.ns.length) (.ref ((aB++l).length+1+19))).length<=ay:=by rw[v3,hpt,SZ];exact hapl
  have hcomp:au ⟨az ak n⟩ (.comp (.meth (.loc 0) 41 [.loc 6]) (.one 6) (.loc 2) []) (ah (fun i=>[AV.ref 3,.sym kW,wM][i]?) 3 (aa cn.ns.length)) (F3.st r3)=some (.ref (r3.length+19),F3.st (r3++[.list (eV.map fun k=>aa (cn.cl k))])):=by
   refine oo (ks:=eV) (kv:=wM) ?_ (aG rfl) (fun k hk=>?_) (SJ hl (S8 rfl))
   ·show KV (aB++l++_) _ _;rw[S6];exact hk.grow _
   ·exists hFind k hk n (SJ (by decide) hn)
  have hmm:(eV.map fun k=>aa (cn.cl k))=(eV.map cn.cl).map aa:=by rw[TP];rfl
  rw[hmm] at hcomp;have hsrt:au ⟨az ak n⟩ (.blt .sorted [.blt .set [.comp (.meth (.loc 0) 41 [.loc 6]) (.one 6) (.loc 2) []]]) (ah (fun i=>[AV.ref 3,.sym kW,wM][i]?) 3 (aa cn.ns.length)) (F3.st r3)=some (.ref (r3.length+1+19),F3.st r5):=by
   exists hcomp,y1,y2
  obtain⟨U',p1,p2,p3⟩:=hloop n (ah (fun i=>[AV.ref 3,.sym kW,wM][i]?) 3 (aa cn.ns.length)) rfl rfl;have hfor:dS ⟨az ak n⟩ (.for_ (.one 4) (.blt .sorted [.blt .set [.comp (.meth (.loc 0) 41 [.loc 6]) (.one 6) (.loc 2) []]]) GE) (ah (fun i=>[AV.ref 3,.sym kW,wM][i]?) 3 (aa cn.ns.length)) (F3.st r3)=some (none,U',F3.st r4):=
   (cY (s:=⟨cs.map aa,[(r3.length+1+19,some (cs.map aa))]⟩) hsrt rfl (aV (aK (cG g3')))).trans p1
  have t5:=O n (hn);exists t1,hk.isIt,t2,Dl (SM (by rw[u1,hul])),t3,s16,l16,hfor,p2,p3,t5
 ·rw[<- hF3,<- hF2,<- hF1];exact eW.refl lc
theorem fM{op:Nat}{ks:List Nat}{kv:AV}{G:Prop}:GB F h kv rest op ks G:=bF Kh Ox (F,h,kv,rest,op,ks,G)
end
section
variable{F F':Fx}{rest:St}{h:HS}
theorem cz{s:Nat}{b:Bool}(hb:(s=7\/s=8)/\b=true\/(1<=s/\s<=6)/\b=false):Ok 1 1 [.tup [.sym s]] (F.st rest) (.bool b) (F.st rest):=by
 refine .mk rfl rfl fun n _=>?_
 rcases hb with⟨rfl | rfl,rfl⟩ | ⟨hs,rfl⟩
 ·exists trivial
 ·exists trivial
 ·have h1:eL s=some s:=by
   have:s=1\/s=2\/s=3\/s=4\/s=5\/s=6:=QN hs
   rcases this with rfl | rfl | rfl | rfl | rfl | rfl<;>rfl
  have h2:∀{Y},bi .eq Y (.sym s) (.sym 9)=some false:=SI some (AL (Pj hs:s≠9));exists h1,h2
theorem dj{v w:AV}{vs:List AV}(hv:vs.length<=40):Ok 1 1 [.tup (v::w::vs)] (F.st rest) (.bool false) (F.st rest):=by
 refine .mk rfl rfl fun n _=>?_;exists iO (b:=1) (o97:vs.length+1+1≠1)
def cH(k:Nat)(F:Fx)(h:HS)(jp jd:Nat)(es:List (AV×AV))(p:AV)(n:Nat):Prop:=
 ∀ rest:St,HI F rest h->rest[jp]?=some (.inst 5 [(14,.ref 3)])->rest[jd]?=some (.dict es)->∃ l:St,Ok k 44 [.ref (jp+19),p,.ref (jd+19)] (F.st rest) (aa n) (F.st (rest++l))
theorem cH.up{k k' jp jd n:Nat}{es:List (AV×AV)}{p:AV}(x:cH k F h jp jd es p n)(e:k<=k'):cH k' F h jp jd es p n:=fun rest H h1 h2=>by
 obtain⟨l,O⟩:=x rest H h1 h2;exact⟨l,O.up e⟩
theorem cH.var{jp jd n s:Nat}{es:List (AV×AV)}(hs:s=7\/s=8)(he:aA es (.sym s)=some (aa n)):cH 2 F h jp jd es (.tup [.sym s]) n:=fun rest H h1 h2=>by
 refine⟨[],?_⟩;rw[Tr];refine .mk rfl rfl fun k hk=>?_;have t:=cz (F:=F) (rest:=rest) (.inl ⟨hs,rfl⟩) k (hk);exists t,h2,he
theorem cH.node1{k jp jd n op c:Nat}{es:List (AV×AV)}{p:AV}(x:cH k F h jp jd es p c)(hk:2<=k)(hn:h.ns[n]?=some (op,[c]))(hp:p.isIt=false):cH (k+1) F h jp jd es (.tup [.sym op,p]) n:=fun rest H h1 h2=>by
 obtain⟨l,O⟩:=x rest H h1 h2;have h0:(rest++l++[AO.list [aa c]])[(rest++l).length]?=some (AO.list [aa c]):=bN _ _ _;have HA:=H.grow (l++[AO.list [aa c]]);rw[<- S6] at HA;have A:=fL HA hn (kv:=.ref ((rest++l).length+19)) (.inr ⟨_,rfl,h0⟩) (by simp)
 refine⟨l++[.list [aa c]],?_⟩;rw[<- S6];refine .mk rfl rfl fun m hm=>?_;have t1:=dj (F:=F) (rest:=rest) (v:=.sym op) (w:=p) (vs:=[]) (by simp) m (Pb hk hm)
 have t2:=O m hm;have t3:=A m (Pa hk hm);have hc:au ⟨az ak m⟩ (.comp (.meth (.loc 0) 55 [.loc 4,.loc 2]) (.one 4) (.slc (.loc 1) .tail) []) (fun i=>[AV.ref (jp+19),.tup [.sym op,p],.ref (jd+19)][i]?) (F.st rest)=some (.ref ((rest++l).length+19),F.st (rest++l++[.list [aa c]])):=by
  refine bm (v:=.tup [p]) (s:=⟨[p],[]⟩) (Y1:=F.st rest) (Y2:=F.st (rest++l)) (vs:=[aa c]) (by exists trivial) rfl rfl ?_ (S8 rfl) rfl rfl
  exists h1,t2,hp
 exists t1,hc,t3,h1
theorem cH.node2{k jp jd n op c c':Nat}{es:List (AV×AV)}{p p':AV}(x:cH k F h jp jd es p c)(x':cH k F h jp jd es p' c')(hk:2<=k)(hn:h.ns[n]?=some (op,[c,c']))(hp:p.isIt=false)(hp':p'.isIt=false):cH (k+1) F h jp jd es (.tup [.sym op,p,p']) n:=fun rest H h1 h2=>by
 obtain⟨l,O⟩:=x rest H h1 h2;have h1':(rest++l)[jp]?=some (AO.inst 5 [(14,.ref 3)]):=by rw[Tf (SR.mp h1).1];exact h1
 have h2':(rest++l)[jd]?=some (AO.dict es):=by rw[Tf (SR.mp h2).1];exact h2
 obtain⟨l',O'⟩:=x' (rest++l) (H.grow l) h1' h2';have h0:(rest++l++l'++[AO.list [aa c,aa c']])[(rest++l++l').length]?=some (AO.list [aa c,aa c']):=bN _ _ _;have HA:=((H.grow l).grow l').grow [AO.list [aa c,aa c']];have A:=fL HA hn (kv:=.ref ((rest++l++l').length+19)) (.inr ⟨_,rfl,h0⟩) (by simp)
 refine⟨l++l'++[.list [aa c,aa c']],?_⟩;rw[<- S6,<- S6];refine .mk rfl rfl fun m hm=>?_;have t1:=dj (F:=F) (rest:=rest) (v:=.sym op) (w:=p) (vs:=[p']) (by simp) m (Pb hk hm)
 have t2:=O m hm;have t2':=O' m hm;have t3:=A m (Pa hk hm);have hc:au ⟨az ak m⟩ (.comp (.meth (.loc 0) 55 [.loc 4,.loc 2]) (.one 4) (.slc (.loc 1) .tail) []) (fun i=>[AV.ref (jp+19),.tup [.sym op,p,p'],.ref (jd+19)][i]?) (F.st rest)=some (.ref ((rest++l++l').length+19),F.st (rest++l++l'++[.list [aa c,aa c']])):=by
  refine bm (v:=.tup [p,p']) (s:=⟨[p,p'],[]⟩) (Y1:=F.st rest) (Y2:=F.st (rest++l++l')) (vs:=[aa c,aa c']) (by exists trivial) rfl rfl ?_ (S8 rfl) rfl rfl
  exists h1,h1',t2,t2',hp,hp'
 exists t1,hc,t3,h1
end
theorem ag{r:St}{j:Nat}{o:AO}(h:r[j]?=some o)(l:St):(r++l)[j]?=some o:=by rw[Tf (SR.mp h).1];exact h
section
variable{F F':Fx}{rest:St}{h:HS}
theorem nC(H:HI F rest h){jp jd d:Nat}{es:List (AV×AV)}(h1:rest[jp]?=some (AO.inst 5 [(14,.ref 3)]))(h2:rest[jd]?=some (AO.dict es))(he:aA es (.sym 7)=some (aa d))(hd:d<h.ns.length)(hi:(5,[d])∉h.ns)(hsz:h.ns.length+1<=20)(hex:h.ex=[])(hbud:h.bud+1<=200){G:Prop}
  (kk:∀ F' rest' h',Ok 6 44 [.ref (jp+19),.tup [.sym 5,.tup [.sym 7]],.ref (jd+19)] (F.st rest) (aa h.ns.length) (F'.st rest')->HI F' rest' h'->Fr h.D h'.D rest rest'->eW F F'->k9 h h' 5 [d]->G):G:=by
 obtain⟨l,O⟩:=cH.var (F:=F) (h:=h) (jp:=jp) (jd:=jd) (.inl rfl) he rest H h1 h2;have h0:(rest++l++[AO.list [aa d]])[(rest++l).length]?=some (AO.list [aa d]):=bN _ _ _;have HA:=(H.grow l).grow [AO.list [aa d]];refine fM HA (op:=5) (ks:=[d]) (kv:=.ref ((rest++l).length+19)) (by decide) hi (.inr ⟨_,rfl,h0⟩) (by simpa using hd) (by simp) hsz hex hbud fun F' rest' h' A H' fr lw ap=>?_
 refine kk F' rest' h' (.mk rfl rfl fun m hm=>?_) H' (((Fr.grow _ _ _).trans (Fr.grow _ _ _)).trans fr) lw ap;have t1:=dj (F:=F) (rest:=rest) (v:=.sym 5) (w:=.tup [.sym 7]) (vs:=[]) (by simp) m (SJ (by decide) hm)
 have t2:=O m (SJ (by decide) hm)
 have t3:=A m (hm);have hc:au ⟨az ak m⟩ (.comp (.meth (.loc 0) 55 [.loc 4,.loc 2]) (.one 4) (.slc (.loc 1) .tail) []) (fun i=>[AV.ref (jp+19),.tup [.sym 5,.tup [.sym 7]],.ref (jd+19)][i]?) (F.st rest)=some (.ref ((rest++l).length+19),F.st (rest++l++[.list [aa d]])):=by
  refine bm (v:=.tup [.tup [.sym 7]]) (s:=⟨[.tup [.sym 7]],[]⟩) (Y1:=F.st rest) (Y2:=F.st (rest++l)) (vs:=[aa d]) (by exists trivial) rfl rfl ?_ (S8 rfl) rfl rfl
  exists h1,t2
 exists t1,hc,t3,h1
theorem Dv{jp jd:Nat}{m:Nat}{M:Nat}:au ⟨az ak m⟩ (.comp (.meth (.loc 0) M [.loc 4,.loc 2]) (.one 4) (.slc (.loc 1) .tail) []) (fun i=>[AV.ref (jp+19),.tup [.sym 6],.ref (jd+19)][i]?) (F.st rest)=some (.ref (rest.length+19),F.st (rest++[.list []])):=by
 refine bm (v:=.tup []) (s:=⟨[],[]⟩) (Y1:=F.st rest) (Y2:=F.st rest) (vs:=[]) (by exists trivial) rfl rfl ?_ (S8 rfl) rfl rfl
 exact cg rfl
theorem nE(H:HI F rest h){jp jd i:Nat}(h1:rest[jp]?=some (AO.inst 5 [(14,.ref 3)]))(hi:h.ns[i]?=some (6,[])) :
  ∃ l:St,Ok 3 44 [.ref (jp+19),.tup [.sym 6],.ref (jd+19)] (F.st rest) (aa i) (F.st (rest++l)):=by
 have h0:(rest++[AO.list []])[rest.length]?=some (AO.list []):=bN _ _ _;have A:=fL (H.grow [AO.list []]) hi (kv:=.ref (rest.length+19)) (.inr ⟨_,rfl,h0⟩) (by simp)
 refine⟨[.list []],.mk rfl rfl fun m hm=>?_⟩;have t1:=cz (F:=F) (rest:=rest) (s:=6) (.inr ⟨by decide,rfl⟩) m (SJ (by decide) hm)
 have t3:=A m (hm);have hc:=Dv (F:=F) (rest:=rest) (jp:=jp) (jd:=jd) (m:=m) (M:=55);exists t1,hc,t3,h1
theorem nF(H:HI F rest h){jp jd:Nat}(h1:rest[jp]?=some (AO.inst 5 [(14,.ref 3)]))(hi:(6,[])∉h.ns)(hsz:h.ns.length+1<=20)(hex:h.ex=[])(hbud:h.bud+1<=200){G:Prop}
  (kk:∀ F' rest' h',Ok 6 44 [.ref (jp+19),.tup [.sym 6],.ref (jd+19)] (F.st rest) (aa h.ns.length) (F'.st rest')->HI F' rest' h'->Fr h.D h'.D rest rest'->eW F F'->k9 h h' 6 []->G):G:=by
 have h0:(rest++[AO.list []])[rest.length]?=some (AO.list []):=bN _ _ _;refine fM (H.grow [AO.list []]) (op:=6) (ks:=[]) (kv:=.ref (rest.length+19)) (by decide) hi (.inr ⟨_,rfl,h0⟩) (by simp) (by simp) hsz hex hbud fun F' rest' h' A H' fr lw ap=>?_
 refine kk F' rest' h' (.mk rfl rfl fun m hm=>?_) H' ((Fr.grow _ _ _).trans fr) lw ap;have t1:=cz (F:=F) (rest:=rest) (s:=6) (.inr ⟨by decide,rfl⟩) m (SJ (by decide) hm)
 have t3:=A m (hm);have hc:=Dv (F:=F) (rest:=rest) (jp:=jp) (jd:=jd) (m:=m) (M:=55);exists t1,hc,t3,h1
theorem Bv(H:HI F rest h){j:Nat}(hj:rest[j]?=some (AO.list []))(hl:lk h.kn (1,[])=some 0)(hN:0<h.ns.length):∃ l:St,Ok 3 37 [.ref 3,.sym 1,.ref (j+19)] (F.st rest) (aa (h.cl 0)) (F.st (rest++l)):=by
 have hd:aA F.known (.tup [.sym 1])=some (aa 0):=by rw[H.known];exact(qd h.kn (1,[]) aa).trans (by rw[hl];rfl)
 refine⟨[.list []],.mk rfl rfl fun m hm=>?_⟩;have hc:au ⟨az ak m⟩ (.comp (.meth (.loc 0) 41 [.loc 5]) (.one 5) (.loc 2) []) (fun i=>[AV.ref 3,.sym 1,.ref (j+19)][i]?) (F.st rest)=some (.ref (rest.length+19),F.st (rest++[.list []])):=by
  exact oo (ks:=[]) (g:=aa) (.inr ⟨j,rfl,hj⟩) (by exists trivial) (fun k hk=>by cases hk) (by simp)
 have hf:=(H.grow [AO.list []]).hfind hN m (hm);have hp:AV.pur (.tup [.sym 1])=true:=rfl;have hg:(aA F.known (.tup ([.sym 1]++[]))).getD (.int (-1))=aa 0:=by rw[show([.sym 1]++[]:List AV)=[.sym 1] from rfl,hd];rfl
 exists hc,hg,hp,Dl (b:=0) (Tb 0),hf
theorem sj(H:HI F rest h){jp jd d:Nat}{es:List (AV×AV)}(h1:rest[jp]?=some (AO.inst 5 [(14,.ref 3)]))(h2:rest[jd]?=some (AO.dict es))(he:aA es (.sym 7)=some (aa d))(hd:d<h.ns.length) :
  Ok 3 45 [.ref (jp+19),.tup [.sym 7],.ref (jd+19)] (F.st rest) (aa (h.cl d)) (F.st rest):=by
 refine .mk rfl rfl fun m hm=>?_;have t1:=cz (F:=F) (rest:=rest) (s:=7) (.inl ⟨.inl rfl,rfl⟩) m (SJ (by decide) hm)
 have hf:=H.hfind hd m (hm);exists t1,h1,h2,he,hf
theorem sk(H:HI F rest h){jp jd:Nat}(h1:rest[jp]?=some (AO.inst 5 [(14,.ref 3)]))(hl:lk h.kn (1,[])=some 0)(hN:0<h.ns.length) :
  ∃ l:St,Ok 4 45 [.ref (jp+19),.tup [.sym 1],.ref (jd+19)] (F.st rest) (aa (h.cl 0)) (F.st (rest++l)):=by
 have h0:(rest++[AO.list []])[rest.length]?=some (AO.list []):=bN _ _ _;obtain⟨l,O⟩:=Bv (H.grow [AO.list []]) h0 hl hN;refine⟨[.list []]++l,?_⟩;rw[<- S6];refine .mk rfl rfl fun m hm=>?_;have t1:=cz (F:=F) (rest:=rest) (s:=1) (.inr ⟨by decide,rfl⟩) m (SJ (by decide) hm)
 have t2:=O m (hm);have hc:au ⟨az ak m⟩ (.comp (.meth (.loc 0) 56 [.loc 5,.loc 2]) (.one 5) (.slc (.loc 1) .tail) []) (fun i=>[AV.ref (jp+19),.tup [.sym 1],.ref (jd+19)][i]?) (F.st rest)=some (.ref (rest.length+19),F.st (rest++[.list []])):=by
  refine bm (v:=.tup []) (s:=⟨[],[]⟩) (Y1:=F.st rest) (Y2:=F.st rest) (vs:=[]) (by exists trivial) rfl rfl ?_ (S8 rfl) rfl rfl
  exact cg rfl
 have h1':=ag h1 [AO.list []];exists t1,h1',hc,t2
theorem yt(H:HI F rest h){jp jd d s:Nat}{es:List (AV×AV)}(h1:rest[jp]?=some (AO.inst 5 [(14,.ref 3)]))(h2:rest[jd]?=some (AO.dict es))(he:aA es (.sym 7)=some (aa d))(hd:d<h.ns.length)(hl:lk h.kn (1,[])=some 0) :
  ∃ l:St,Ok 5 46 [.ref (jp+19),.tup [.sym s,.tup [.sym 7],.tup [.sym 1]],.ref (jd+19)] (F.st rest) (.bool (decide (h.cl d=h.cl 0)==decide (s=11))) (F.st (rest++l)):=by
 obtain⟨l,O⟩:=sk (jd:=jd) H h1 hl (Nat.zero_lt_of_lt hd);refine⟨l,.mk rfl rfl fun m hm=>?_⟩;have t1:=sj H h1 h2 he hd m (SJ (by decide) hm)
 have t2:=O m (hm);have t3:decide (aa (h.cl d)=AV.int (-1))=false:=Tk fun q=>by have:=AV.int.inj q;exact NA this
 have t4:decide (aa (h.cl d)=aa (h.cl 0))=decide (h.cl d=h.cl 0):=decide_eq_decide.mpr mx;have t5:decide (AV.sym s=AV.sym 11)=decide (s=11):=decide_eq_decide.mpr ⟨AV.sym.inj,fun q=>q▸rfl⟩;have t6:∀{Y},bi .eq Y (aa (h.cl d)) (aa (h.cl 0))=some (decide (h.cl d=h.cl 0)):=SI some t4;have t7:∀{Y},bi .eq Y (.sym s) (.sym 11)=some (decide (s=11)):=SI some t5;exists t1,t2,t3,t6,t7,ag h1
end
inductive Cg (ns:List Nd) (ps:List (Nat×Nat)):Nat->Nat->Prop
 | refl (x:Nat):Cg ns ps x x
 | symm {x y:Nat}:Cg ns ps x y->Cg ns ps y x
 | trans {x y z:Nat}:Cg ns ps x y->Cg ns ps y z->Cg ns ps x z
 | pair {x y:Nat}:(x,y)∈ps->Cg ns ps x y
 | cong {i j op:Nat} {ks ks':List Nat}:ns[i]?=some (op,ks)->ns[j]?=some (op,ks')->ks.length=ks'.length->(∀(t a b:Nat),ks[t]?=some a->ks'[t]?=some b->Cg ns ps a b)->Cg ns ps i j
theorem Cg.congR(ns:List Nd)(ps:List (Nat×Nat)):bM ns (Cg ns ps):=⟨.refl,fun _ _=>.symm,fun _ _ _=>.trans,fun _ _ _ _ _=>.cong⟩
theorem Cg.least{ns:List Nd}{ps:List (Nat×Nat)}{R:Nat->Nat->Prop}(C:bM ns R)(hp:∀ x y,(x,y)∈ps->R x y){x y:Nat}(h:Cg ns ps x y):R x y:=by
 induction h with
 | refl x=>exact C.refl x
 | symm _ ih=>exact C.symm _ _ ih
 | trans _ _ i1 i2=>exact C.trans _ _ _ i1 i2
 | pair h=>exact hp _ _ h
 | cong h1 h2 h3 _ ih=>exact C.cong _ _ _ _ _ h1 h2 h3 ih
theorem bM.app{ns:List Nd}{d:Nd}{R:Nat->Nat->Prop}(C:bM (ns++[d]) R):bM ns R:=
 ⟨C.refl,C.symm,C.trans,fun i j op ks ks' h1 h2=>C.cong i j op ks ks' (by rw[Tf (SR.mp h1).1];exact h1) (by rw[Tf (SR.mp h2).1];exact h2)⟩
theorem bM.nil{ns:List Nd}{R:Nat->Nat->Prop}(C:bM ns R):bM [] R:=⟨C.refl,C.symm,C.trans,fun i j op ks ks' h1=>by cases h1⟩
theorem Cg.mono{ns:List Nd}{d:Nd}{ps ps':List (Nat×Nat)}(hp:∀ x∈ps,x∈ps'){x y:Nat}(h:Cg ns ps x y):Cg (ns++[d]) ps' x y:=h.least (Cg.congR _ _).app fun x y q=>.pair (hp _ q)
theorem Cg.monoP{ns:List Nd}{ps ps':List (Nat×Nat)}(hp:∀ x∈ps,x∈ps'){x y:Nat}(h:Cg ns ps x y):Cg ns ps' x y:=h.least (Cg.congR _ _) fun x y q=>.pair (hp _ q)
theorem nW(cl:Nat->Nat):bM [] (fun x y=>cl x=cl y):=⟨fun _=>rfl,fun _ _ e=>e.symm,fun _ _ _ e f=>e.trans f,fun i j op ks ks' h1=>by cases h1⟩
theorem E9{f g:Nat->Nat}(f1:∀ x,f x<=x)(f2:∀ x,f (f x)=f x)(g1:∀ x,g x<=x)(g2:∀ x,g (g x)=g x)(e:∀ x y,f x=f y↔g x=g y)(x:Nat):f x=g x:=by
 have a:=(e (f x) x).mp (f2 x);have b:=(e (g x) x).mpr (g2 x);have c:=g1 (f x);have d:=f1 (g x);exact Nz a b c d
inductive Rk | c | x | h
noncomputable def Rk.av:Rk->AV
 | .c=>.tup [.sym 6] | .x=>.tup [.sym 7] | .h=>.tup [.sym 5,.tup [.sym 7]]
noncomputable def qo(ws:List Nd)(d:Nd):Nat×List Nd:=match lk ws.zipIdx d with | some i=>(i,ws) | none=>(ws.length,ws++[d])
noncomputable def aL(rt:Rk)(ws:List Nd)(d:Nat):Nat×List Nd:=match rt with | .x=>(d,ws) | .c=>qo ws (6,[]) | .h=>qo ws (5,[d])
noncomputable abbrev W:=List Nd×List (Nat×Nat)
open Classical in
noncomputable def same(ns:List Nd)(ps:List (Nat×Nat))(a b:Nat):Bool:=decide (Cg ns ps a b)
noncomputable def E8(like:Option Bool)(w:W)(d:Nat):Bool:=match like with | some b=>same w.1 w.2 d 0 != b | none=>false
noncomputable def bk(like:Option Bool)(rt:Rk)(w:W)(n d:Nat):Bool×W:=
 if E8 like w d then(false,w) else
  let r:=aL rt w.1 d
  if same (if like.isSome then r.2 else[]) w.2 n r.1 then(false,(r.2,w.2)) else(true,(r.2,w.2++[(n,r.1)]))
open Classical in
open Classical in
theorem nu{ns:List Nd}{ps:List (Nat×Nat)}{a b:Nat}{p:Prop}[Decidable p](h:Cg ns ps a b↔p):same ns ps a b=decide p:=by
 unfold same;exact decide_eq_decide.mpr h
noncomputable def dC(ws:List Nd)(n:Nat):Nat:=(ws[n]?.map (·.1)).getD 0
structure cr(like:Option Bool)(rt:Rk)(P:List (Nat×Nat))(w:W)(h:HS):Prop where
 ns:h.ns=w.1
 ex:h.ex=[]
 one:lk h.kn (1,[])=some 0
 pairs:∀ x y,(x,y)∈w.2->h.cl x=h.cl y
 snd:wO h (Cg w.1 w.2)
 plt:∀ x∈w.2,x.1<w.1.length/\x.2<w.1.length
 na:like=none->rt≠.h->wO h (Cg [] w.2)
 nh:like=none->rt=.h->∀ n y,n≠y->h.cl n=h.cl y->dC w.1 n=3\/dC w.1 n=4->∃ d r,(n,d)∈P/\(n,r)∈w.2/\w.1[r]?=some (5,[d])
section
variable{F:Fx}{rest:St}{h h':HS}{like:Option Bool}{rt:Rk}{P:List (Nat×Nat)}{w:W}
theorem sF{f:Nat->Nat}:∀{l m:List Nat},l.length=m.length->(∀(t a b:Nat),l[t]?=some a->m[t]?=some b->f a=f b)->l.map f=m.map f:=by
 intro l;induction l with
 | nil=>exact fun{m} e _=>by cases m with | nil=>rfl | cons=>exact nomatch e
 | cons a l ih=>
  intro m e h
  cases m with
  | nil=>exact nomatch e
  | cons b m=>exact(congr (SI List.cons (h 0 a b rfl rfl)) (ih (Nat.succ.inj e) fun t x y p q=>h (t+1) x y p q):f a::l.map f=f b::m.map f)
theorem HI.keyAt(H:HI F rest h)(hex:h.ex=[])(hwt:h.wt=[]){i op:Nat}{ks:List Nat}(hi:h.ns[i]?=some (op,ks)):∃ m,lk h.kn (op,ks.map h.cl)=some m/\h.cl m=h.cl i:=
 (H.J i op ks hi).elim (fun q=>nomatch(hwt▸q:i∈[])) fun q=>q.elim (fun q=>nomatch(hex▸q:i∈[])) id
theorem gM(H:HI F rest h)(hex:h.ex=[])(hwt:h.wt=[]):bM h.ns (fun x y=>h.cl x=h.cl y):=by
 refine⟨fun _=>rfl,fun _ _ e=>e.symm,fun _ _ _ e f=>e.trans f,fun i j op ks ks' h1 h2 hl hk=>?_⟩;obtain⟨m,m1,m2⟩:=H.keyAt hex hwt h1;obtain⟨m',m3,m4⟩:=H.keyAt hex hwt h2;rw[sF hl hk,m3] at m1;exact m2.symm.trans ((SI h.cl (S0 m1).symm).trans m4)
theorem cr.settle(S:cr like rt P w h)(st:Oz h h')(hl:like.isSome):cr like rt P w h':=by
 refine⟨st.ns.trans S.ns,st.ex,st.kn _ _ S.one,fun x y q=>st.mono _ _ (S.pairs x y q),st.snd _ (by rw[S.ns];exact Cg.congR _ _) S.snd,S.plt,fun q=>?_,fun q=>?_⟩<;>(subst q;cases hl)
theorem HI.keyop(H:HI F rest h){d:Nd}{m:Nat}(e:lk h.kn d=some m):∃ ks,h.ns[m]?=some (d.1,ks)/\d.2.map h.cl=ks.map h.cl:=by
 obtain⟨op,ks,e1,e2,e3⟩:=H.inK _ (fi e);dsimp only at e1 e2 e3;subst e2;exact⟨ks,e1,e3⟩
theorem k9.congr(A:k9 h h' op ks)(H:HI F rest h)(hks:∀ k∈ks,k<h.ns.length){R:Nat->Nat->Prop}(S:wO h R)(C:bM (h.ns++[(op,ks)]) R):wO h' R:=by
 intro x y e
 rcases A.cl with⟨q,_⟩ | ⟨m,q1,q2⟩
 ·exact S x y (by rw[q] at e;exact e)
 ·have hmn:R m h.ns.length:=by
   obtain⟨ks',e1,e3⟩:=H.keyop q1;dsimp only at e1 e3;have hidem:(ks.map h.cl).map h.cl=ks.map h.cl:=by rw[TP];exact TN fun c _=>H.uf.idem c
   rw[hidem] at e3;have hl:ks'.length=ks.length:=by have:=SI List.length e3;simpa using this.symm
   refine C.cong m h.ns.length op ks' ks (by rw[Tf (SR.mp e1).1];exact e1) (by simp) hl fun t a b ha hb=>S a b ?_
   have:=SI (·[t]?) e3;simp only[List.getElem?_map,ha,hb,Option.map_some,Option.some.injEq] at this;exact this.symm
  exact C.mrg hmn S ((q2 x y).mp e)
theorem k9.mono(A:k9 h h' op ks){x y:Nat}(e:h.cl x=h.cl y):h'.cl x=h'.cl y:=by
 rcases A.cl with⟨q,_⟩ | ⟨m,q1,q2⟩
 ·rw[q];exact e
 ·exact(q2 x y).mpr (.inl e)
theorem k9.complete(A:k9 h h' op ks)(H:HI F rest h)(hks:∀ k∈ks,k<h.ns.length)(hex:h.ex=[])(hwt:h.wt=[]):bM (h.ns++[(op,ks)]) (fun x y=>h'.cl x=h'.cl y):=by
 have C:=Internal.gM H hex hwt;have hN:h.cl h.ns.length=h.ns.length:=H.uf.out _ (by rw[H.upl];exact SN _)
 have low:∀ a b,a<h.ns.length->b<h.ns.length->h'.cl a=h'.cl b->h.cl a=h.cl b:=fun a b ha hb e=>by
  rcases A.cl with⟨q,_⟩ | ⟨m,q1,q2⟩
  ·rw[q] at e;exact e
  ·have h1:=H.uf.le a;have h2:=H.uf.le b
   rcases(q2 a b).mp e with q | ⟨r1,r2⟩ | ⟨r1,r2⟩
   ·exact q
   ·exact Ny hN hb h2 r2
   ·exact Nw hN ha h1 r1
 have one:∀(i:Nat) (ks1:List Nat),h.ns[i]?=some (op,ks1)->ks1.length=ks.length->(∀(t a b:Nat),ks1[t]?=some a->ks[t]?=some b->h'.cl a=h'.cl b)->h'.cl i=h'.cl h.ns.length:=fun i ks1 hi hl hk=>by
  have e:=sF (f:=h.cl) hl fun t a b ha hb=>low a b (by have:=(H.kids i op ks1 hi).1 a (Tm ha);have:=(SR.mp hi).1;exact T3 ‹_› this) (hks b (Tm hb)) (hk t a b ha hb)
  obtain⟨m,m1,m2⟩:=H.keyAt hex hwt hi;rw[e] at m1;exact(A.mono m2).symm.trans (A.hit m m1)
 refine⟨fun _=>rfl,fun _ _ e=>e.symm,fun _ _ _ e f=>e.trans f,fun i j op' k1 k2 h1 h2 hl hk=>?_⟩
 rcases fZ h1 with⟨a1,a2⟩ | ⟨rfl,a2⟩<;>rcases fZ h2 with⟨b1,b2⟩ | ⟨rfl,b2⟩
 ·refine A.mono (C.cong i j op' k1 k2 a2 b2 hl fun t a b ha hb=>low a b ?_ ?_ (hk t a b ha hb))
  ·have:=(H.kids i op' k1 a2).1 a (Tm ha);exact T3 this a1
  ·have:=(H.kids j op' k2 b2).1 b (Tm hb);exact T3 this b1
 ·cases b2
  exact one i k1 a2 hl hk
 ·cases a2
  exact(one j k2 b2 hl.symm fun t a b ha hb=>(hk t b a hb ha).symm).symm
 ·rfl
end
def KP(r:St)(D:List Nat)(os:List (Nat×AO)):Prop:=∀ x∈os,r[x.1]?=some x.2/\x.1∉D
theorem KP.fr{r r':St}{D D':List Nat}{os:List (Nat×AO)}(k:KP r D os)(f:Fr D D' r r'):KP r' D' os:=fun x hx=>by
 obtain⟨h1,h2⟩:=k x hx;have:=(SR.mp h1).1;refine⟨f.at h1 h2,fun q=>?_⟩
 rcases f.new _ q with q | q
 ·exact h2 q
 ·exact Ux q this
theorem KP.grow{r:St}{D:List Nat}{os:List (Nat×AO)}(k:KP r D os)(l:St):KP (r++l) D os:=k.fr (Fr.grow _ _ _)
theorem dH{ws:List Nd}{n op:Nat}{ks:List Nat}(h:ws[n]?=some (op,ks)):dC ws n=op:=by unfold dC;rw[h];rfl
theorem yp{ws:List Nd}{n:Nat}{d:Nd}(h:n<ws.length):dC (ws++[d]) n=dC ws n:=by unfold dC;rw[Tf h]
theorem jr{ws:List Nd}{n:Nat}(h:dC ws n=3\/dC ws n=4):n<ws.length:=by
 rcases Nat.lt_or_ge n ws.length with q | q
 ·exact q
 ·have:dC ws n=0:=by unfold dC;rw[List.getElem?_eq_none_iff.mpr q];rfl
  exact Nv h this
section
variable{F:Fx}{rest:St}{h h':HS}{like:Option Bool}{rt:Rk}{P:List (Nat×Nat)}{w:W}
theorem cr.add(S:cr like rt P w h)(H:HI F rest h){op:Nat}{ks:List Nat}{d:Nat}(A:k9 h h' op ks)(hnot:(op,ks)∉h.ns)(hks:∀ k∈ks,k<h.ns.length)(hrt:(rt=.c/\op=6/\ks=[])\/(rt=.h/\op=5/\ks=[d])):cr like rt P (w.1++[(op,ks)],w.2) h':=by
 have hN:h.cl h.ns.length=h.ns.length:=H.uf.out _ (by rw[H.upl];exact SN _)
 refine⟨by rw[A.ns,S.ns],A.ex,A.lk _ _ S.one,fun x y q=>A.mono (S.pairs x y q),?_,fun x hx=>?_,fun hl hr=>?_,fun hl hr=>?_⟩
 ·refine A.congr H hks (fun x y e=>(S.snd x y e).mono fun x q=>q) ?_;rw[S.ns];exact Cg.congR _ _
 ·have:=S.plt x hx;simp only[List.length_append,List.length_singleton];exact Nu this
 ·rcases hrt with⟨_,rfl,rfl⟩ | ⟨e,_⟩
  ·rcases A.cl with⟨q,_⟩ | ⟨m,q1,q2⟩
   ·intro x y e;rw[q] at e;exact S.na hl hr x y e
   ·obtain⟨ks',e1,e2⟩:=H.keyop q1;have:ks'=[]:=by cases ks' with
     | nil=>rfl
     | cons a l=>simp at e2
    subst this;exact SP (Tm e1) hnot
  ·exact SP e hr
 ·intro n y hny e ho;have hfg:=ho
  rcases hrt with⟨e,_⟩ | ⟨_,rfl,rfl⟩
  ·rw[e] at hr;cases hr
  ·have ho:dC (w.1++[(5,[d])]) n=3\/dC (w.1++[(5,[d])]) n=4:=ho;have hnN:n≠h.ns.length:=by
    intro q;have:dC (w.1++[(5,[d])]) n=5:=by rw[q,S.ns];exact dH (by simp;rfl)
    exact Nt ho this
   have hlt:=jr ho;simp only[List.length_append,List.length_singleton] at hlt;have hlt:n<w.1.length:=by rw[S.ns] at hnN;exact Nr hnN hlt
   rw[yp hlt] at ho;have old:∀ z,n≠z->h.cl n=h.cl z->∃ d' r,(n,d')∈P/\(n,r)∈w.2/\(w.1++[(5,[d])])[r]?=some (5,[d']):=fun z hz ez=>by
    obtain⟨d',r,h1,h2,h3⟩:=S.nh hl hr n z hz ez ho;exact⟨d',r,h1,h2,by rw[Tf (SR.mp h3).1];exact h3⟩
   rcases A.cl with⟨q,_⟩ | ⟨m,q1,q2⟩
   ·rw[q] at e;exact old y hny e
   ·obtain⟨ks',e1,_⟩:=H.keyop q1
    rcases(q2 n y).mp e with q | ⟨r1,r2⟩ | ⟨r1,r2⟩
    ·exact old y hny q
    ·refine old m (fun q=>?_) r1;rw[q,dH (op:=5) (by rw[<- S.ns];exact e1)] at ho
     exact I3 ho
    ·exact old _ hnN r1
theorem cr.joined(S:cr like rt P w h){n r d:Nat}(J:Jn h h' n r)(hP:(n,d)∈P)(hn:n<w.1.length)(hr:r<w.1.length)(hh:rt=.h->w.1[r]?=some (5,[d])):cr like rt P (w.1,w.2++[(n,r)]) h':=by
 have mon:∀{ns:List Nd} {x y:Nat},Cg ns w.2 x y->Cg ns (w.2++[(n,r)]) x y:=fun q=>q.monoP fun x q=>Tl _ q;have new:∀{ns:List Nd},Cg ns (w.2++[(n,r)]) n r:=.pair (by simp)
 have ext:∀{ns:List Nd},wO h (Cg ns w.2)->wO h' (Cg ns (w.2++[(n,r)])):=fun s x y e=>by
  rcases(J.cl x y).mp e with q | ⟨r1,r2⟩ | ⟨r1,r2⟩
  ·exact mon (s x y q)
  ·exact(mon (s x n r1)).trans (new.trans (mon (s r y r2.symm)))
  ·exact(mon (s x r r1)).trans (new.symm.trans (mon (s n y r2.symm)))
 refine⟨J.ns.trans S.ns,J.ex.trans S.ex,by rw[J.kn];exact S.one,fun x y q=>?_,ext S.snd,fun x hx=>?_,fun hl ht=>ext (S.na hl ht),fun hl ht n1 y hny e ho=>?_⟩
 ·rcases Tg.mp q with q | q
  ·exact(J.cl x y).mpr (.inl (S.pairs x y q))
  ·simp at q;obtain⟨rfl,rfl⟩:=q;exact(J.cl x y).mpr (.inr (.inl ⟨rfl,rfl⟩))
 ·rcases Tg.mp hx with q | q
  ·exact S.plt x q
  ·rw[SY.mp q];exact⟨hn,hr⟩
 ·have old:∀ z,n1≠z->h.cl n1=h.cl z->∃ d r',(n1,d)∈P/\(n1,r')∈w.2++[(n,r)]/\w.1[r']?=some (5,[d]):=fun z hz ez=>by
   obtain⟨d',r',h1,h2,h3⟩:=S.nh hl ht n1 z hz ez ho;exact⟨d',r',h1,Tl _ h2,h3⟩
  rcases(J.cl n1 y).mp e with q | ⟨r1,r2⟩ | ⟨r1,r2⟩
  ·exact old y hny q
  ·by_cases q:n1=n
   ·subst q;exact⟨d,r,hP,by simp,hh ht⟩
   ·exact old n q r1
  ·refine old r (fun q=>?_) r1;subst q;rw[dH (hh ht)] at ho;exact I3 ho
theorem cr.idle(S:cr like rt P w h){n r:Nat}(J:Jn h h' n r)(e:h.cl n=h.cl r):cr like rt P w h':=by
 have k:∀ x y,h'.cl x=h'.cl y↔h.cl x=h.cl y:=fun x y=>by
  rw[J.cl x y];exact⟨fun q=>q.elim id fun q=>q.elim (fun q=>q.1.trans (e.trans q.2.symm)) fun q=>q.1.trans (e.symm.trans q.2.symm),.inl⟩
 refine⟨J.ns.trans S.ns,J.ex.trans S.ex,by rw[J.kn];exact S.one,fun x y q=>(k x y).mpr (S.pairs x y q),fun x y q=>S.snd x y ((k x y).mp q),S.plt,fun hl ht x y q=>S.na hl ht x y ((k x y).mp q),fun hl ht n1 y hny q=>S.nh hl ht n1 y hny ((k n1 y).mp q)⟩
theorem cr.answer(S:cr like rt P w h)(H:HI F rest h){n r d:Nat}(hP:(n,d)∈P)(hfun:∀ d',(n,d')∈P->d'=d)(hn:dC w.1 n=3\/dC w.1 n=4)(hnr:n≠r)(hh:rt=.h->w.1[r]?=some (5,[d]))(hc:like.isSome->bM w.1 (fun x y=>h.cl x=h.cl y)) :
  same (if like.isSome then w.1 else[]) w.2 n r=decide (h.cl n=h.cl r):=by
 apply nu
 cases hl:like with
 | some b=>
  rw[hl] at hc;exact⟨fun q=>q.least (hc rfl) S.pairs,fun q=>S.snd n r q⟩
 | none=>
  refine⟨fun q=>q.least (nW h.cl) S.pairs,fun q=>?_⟩
  by_cases ht:rt=.h
  ·obtain⟨d',r',h1,h2,h3⟩:=S.nh hl ht n r hnr q hn;rw[hfun d' h1] at h3;have:r'=r:=by
    exact Di (S.ns▸H.nd) h3 (hh ht)
   subst this;exact .pair h2
  ·exact S.na hl ht n r q
end
inductive Lf | f1 | f2 | gxy | gxx
noncomputable def Lf.av:Lf->AV
 | .f1=>.tup [.sym 3,.tup [.sym 7]] | .f2=>.tup [.sym 3,.tup [.sym 3,.tup [.sym 7]]]
 | .gxy=>.tup [.sym 4,.tup [.sym 7],.tup [.sym 8]] | .gxx=>.tup [.sym 4,.tup [.sym 7],.tup [.sym 7]]
inductive cV (ws:List Nd):Lf->Nat->Nat->List AV->Prop
 | f1 {n d:Nat}:ws[n]?=some (3,[d])->cV ws .f1 n d [.tup [.sym 7,aa d]]
 | f2 {n k d:Nat}:ws[n]?=some (3,[k])->ws[k]?=some (3,[d])->cV ws .f2 n d [.tup [.sym 7,aa d]]
 | gxy {n d e:Nat}:ws[n]?=some (4,[d,e])->cV ws .gxy n d [.tup [.sym 7,aa d],.tup [.sym 8,aa e]]
 | gxx {n d:Nat}:ws[n]?=some (4,[d,d])->cV ws .gxx n d [.tup [.sym 7,aa d]]
theorem fO{ws l:List Nd}{n:Nat}{x:Nd}(h:ws[n]?=some x):(ws++l)[n]?=some x:=by rw[Tf (SR.mp h).1];exact h
theorem cV.app{ws l:List Nd}{lf:Lf}{n d:Nat}{fv:List AV}(p:cV ws lf n d fv):cV (ws++l) lf n d fv:=by
 cases p with
 | f1 h=>exact .f1 (fO h)
 | f2 h k=>exact .f2 (fO h) (fO k)
 | gxy h=>exact .gxy (fO h)
 | gxx h=>exact .gxx (fO h)
theorem cV.op{ws:List Nd}{lf:Lf}{n d:Nat}{fv:List AV}(p:cV ws lf n d fv):dC ws n=3\/dC ws n=4:=by
 cases p with
 | f1 h=>exact .inl (dH h)
 | f2 h k=>exact .inl (dH h)
 | gxy h=>exact .inr (dH h)
 | gxx h=>exact .inr (dH h)
theorem cV.dlt{ws:List Nd}{lf:Lf}{n d:Nat}{fv:List AV}(p:cV ws lf n d fv)(hk:∀(i op:Nat) (ks:List Nat),ws[i]?=some (op,ks)->∀ k∈ks,k<i):d<n:=by
 cases p with
 | f1 h=>exact hk _ _ _ h d (by simp)
 | f2 h k=>exact T3 (hk _ _ _ k d (by simp)) (hk _ _ _ h _ (by simp))
 | gxy h=>exact hk _ _ _ h d (by simp)
 | gxx h=>exact hk _ _ _ h d (by simp)
theorem cV.data{ws:List Nd}{lf:Lf}{n d:Nat}{fv:List AV}(p:cV ws lf n d fv):∃ es es',ff fv=some es/\es.length<=8/\es.foldl (fun es p=>aU es p.1 p.2) []=es'/\aA es' (.sym 7)=some (aa d)/\fv.length<=2/\
  ∀(F:Fx) (h:HS) (jp jd:Nat),h.ns=ws->cH 4 F h jp jd es' lf.av n:=by
 cases p with
 | f1 h=>
  refine⟨_,_,rfl,by simp,rfl,rfl,by simp,fun F h' jp jd e=>?_⟩
  subst e;exact(cH.node1 (k:=2) (cH.var (.inl rfl) rfl) (by decide) h rfl).up (by decide)
 | f2 h k=>
  refine⟨_,_,rfl,by simp,rfl,rfl,by simp,fun F h' jp jd e=>?_⟩
  subst e;exact(cH.node1 (k:=3) (cH.node1 (k:=2) (cH.var (.inl rfl) rfl) (by decide) k rfl) (by decide) h rfl).up (by decide)
 | gxy h=>
  refine⟨_,_,rfl,by simp,rfl,rfl,by simp,fun F h' jp jd e=>?_⟩
  subst e;exact(cH.node2 (k:=2) (cH.var (.inl rfl) rfl) (cH.var (.inr rfl) rfl) (by decide) h rfl rfl).up (by decide)
 | gxx h=>
  refine⟨_,_,rfl,by simp,rfl,rfl,by simp,fun F h' jp jd e=>?_⟩
  subst e;exact(cH.node2 (k:=2) (cH.var (.inl rfl) rfl) (cH.var (.inl rfl) rfl) (by decide) h rfl rfl).up (by decide)
theorem nZ{ws:List Nd}{d:Nd}{i:Nat}(hn:ws.Nodup)(h:ws[i]?=some d):qo ws d=(i,ws):=by unfold qo;rw[sI hn h]
theorem n7{ws:List Nd}{d:Nd}(h:d∉ws):qo ws d=(ws.length,ws++[d]):=by unfold qo;rw[iP h]
section
variable{F:Fx}{rest:St}{h:HS}{like:Option Bool}{rt:Rk}{P:List (Nat×Nat)}{w:W}
theorem qf{α:Type}(l:List α)(a:α):l.length<(l++[a]).length:=by rw[SZ];exact Uf _
theorem nB(S:cr like rt P w h)(H:HI F rest h){jp jd d n:Nat}{es:List (AV×AV)}(h1:rest[jp]?=some (AO.inst 5 [(14,.ref 3)]))(h2:rest[jd]?=some (AO.dict es))(he:aA es (.sym 7)=some (aa d))(hdn:d<n)(hn:dC w.1 n=3\/dC w.1 n=4)
  (hsz:h.ns.length+1<=20) (hbud:h.bud+1<=200) {G:Prop}
  (kk:∀ F' rest' h',Ok 6 44 [.ref (jp+19),rt.av,.ref (jd+19)] (F.st rest) (aa (aL rt w.1 d).1) (F'.st rest')->HI F' rest' h'->Fr h.D h'.D rest rest'->eW F F'->cr like rt P ((aL rt w.1 d).2,w.2) h'->h'.bud=h.bud->(rt=.h->(aL rt w.1 d).2[(aL rt w.1 d).1]?=some (5,[d]))->(aL rt w.1 d).1<(aL rt w.1 d).2.length->n≠(aL rt w.1 d).1->(∃ l,(aL rt w.1 d).2=w.1++l/\l.length<=1)->(h.wt=[]->bM (aL rt w.1 d).2 (fun x y=>h'.cl x=h'.cl y))->G):G:=by
 have hnl:n<h.ns.length:=by rw[S.ns];exact jr hn
 have hd:d<h.ns.length:=T3 hdn hnl;have nd:=H.nd;rw[S.ns] at nd;have ne:∀{i op:Nat} {ks:List Nat},w.1[i]?=some (op,ks)->op=5\/op=6->n≠i:=fun hi ho q=>by
  subst q;rw[dH hi] at hn;exact Nq hn ho
 have Hc:h.wt=[]->bM w.1 (fun x y=>h.cl x=h.cl y):=fun hw=>by rw[<- S.ns];exact gM H S.ex hw
 cases rt with
 | x=>
  obtain⟨l,O⟩:=cH.var (F:=F) (h:=h) (jp:=jp) (jd:=jd) (.inl rfl) he rest H h1 h2;exact kk F _ h (O.up (by decide)) (H.grow l) (Fr.grow _ _ _) (eW.refl _) S rfl nofun (S.ns▸hd) (T8 hdn) ⟨[],(Tr _).symm,Tb _⟩ Hc
 | c=>
  by_cases q:(6,[])∈w.1
  ·obtain⟨i,hi⟩:=Uc.mp q;have e:aL .c w.1 d=(i,w.1):=nZ nd hi;rw[e] at kk;obtain⟨l,O⟩:=nE H (jd:=jd) h1 (by rw[S.ns];exact hi)
   exact kk F _ h (O.up (by decide)) (H.grow l) (Fr.grow _ _ _) (eW.refl _) S rfl nofun (SR.mp hi).1 (ne hi (.inr rfl)) ⟨[],(Tr _).symm,Tb _⟩ Hc
  ·have e:aL .c w.1 d=(w.1.length,w.1++[(6,[])]):=n7 q;rw[e] at kk;have q':(6,[])∉h.ns:=by rw[S.ns];exact q
   refine nF H (jd:=jd) h1 q' hsz S.ex hbud fun F' rest' h' O H' fr lw A=>?_;exact kk F' rest' h' (S.ns▸O) H' fr lw (S.add (d:=d) H A q' nofun (.inl ⟨rfl,rfl,rfl⟩)) A.bud nofun (qf _ _) (Te (S.ns▸hnl)) ⟨_,rfl,SN _⟩ fun hw=>S.ns▸A.complete H nofun S.ex hw
 | h=>
  by_cases q:(5,[d])∈w.1
  ·obtain⟨i,hi⟩:=Uc.mp q;have e:aL .h w.1 d=(i,w.1):=nZ nd hi;rw[e] at kk;obtain⟨l,O⟩:=cH.node1 (F:=F) (h:=h) (jp:=jp) (jd:=jd) (k:=2) (n:=i) (op:=5) (c:=d) (cH.var (.inl rfl) he) (by decide) (by rw[S.ns];exact hi) rfl rest H h1 h2
   exact kk F _ h (O.up (by decide)) (H.grow l) (Fr.grow _ _ _) (eW.refl _) S rfl (fun _=>hi) (SR.mp hi).1 (ne hi (.inl rfl)) ⟨[],(Tr _).symm,Tb _⟩ Hc
  ·have e:aL .h w.1 d=(w.1.length,w.1++[(5,[d])]):=n7 q;rw[e] at kk;have q':(5,[d])∉h.ns:=by rw[S.ns];exact q
   refine nC H h1 h2 he hd q' hsz S.ex hbud fun F' rest' h' O H' fr lw A=>?_;have hd':∀ k∈[d],k<h.ns.length:=fun k hk=>SY.mp hk▸hd;exact kk F' rest' h' (S.ns▸O) H' fr lw (S.add (d:=d) H A q' hd' (.inr ⟨rfl,rfl,rfl⟩)) A.bud (fun _=>UI) (qf _ _) (Te (S.ns▸hnl)) ⟨_,rfl,SN _⟩ fun hw=>S.ns▸A.complete H hd' S.ex hw
end
noncomputable def aP:Option Bool->List AV
 | none=>[]
 | some b=>[.tup [.sym (if b then 11 else 12),.tup [.sym 7],.tup [.sym 1]]]
noncomputable abbrev cj(lf:Lf)(rt:Rk)(like:Option Bool):AO:=.inst 4 [(15,.sym 15),(16,lf.av),(17,rt.av),(18,.tup (aP like))]
theorem Lf.it(lf:Lf):lf.av.isIt=false:=by cases lf<;>rfl
theorem Rk.it(rt:Rk):rt.av.isIt=false:=by cases rt<;>rfl
section
variable{F:Fx}{rest:St}{h:HS}{like:Option Bool}{rt:Rk}{P:List (Nat×Nat)}{w:W}{lf:Lf}
theorem vM{F':Fx}{rest':St}{k:Nat}{a b c v:AV}(ha:a.isIt=false)(hb:b.isIt=false)(hc:c.isIt=false)(hv:v.isIt=false)(O:Ok k 32 [.ref 3,a,b,c] (F.st rest) v (F'.st rest')):Ok (k+1) 31 [.ref 3,a,b,c] (F.st rest) v (F'.st rest'):=by
 refine .mk rfl rfl fun m hm=>?_;have t:=O m hm;exists t,ha,hb,hc,hv
noncomputable abbrev f7(rn ru jd:Nat)(fv:List AV):En:=ah (fun i=>[AV.ref (rn+19),.ref (ru+19),.tup fv][i]?) 3 (.ref (jd+19))
theorem oE(S:cr like rt P w h)(H:HI F rest h){rn ru jd:Nat}{fs:List (Nat×AV)}{fv:List AV}(hR:rest[rn]?=some (AO.inst 6 fs))(f14:fs.lookup 14=some (.ref 3))(hUU:rest[ru]?=some (cj lf rt like))(hbud:h.bud+1<=200){G:Prop}
  (kk:∀ F' rest' h',(∀ m,8<=m->dS ⟨az ak m⟩ (.ite (.cmp .ne (.attr (.loc 1) 18) (.tup [])) [.expr (.meth (.attr (.loc 0) 14) 49 [])] []) (f7 rn ru jd fv) (F.st rest)=some (none,f7 rn ru jd fv,F'.st rest'))->HI F' rest' h'->Fr h.D h'.D rest rest'->eW F F'->cr like rt P w h'->h'.bud=h.bud->(like.isSome->h'.wt=[])->G):G:=by
 cases like with
 | none=>
  refine kk F rest h (fun m hm=>?_) H (Fr.refl _ _) (eW.refl _) S rfl nofun
  have hp:AV.pur (.tup [])=true:=rfl;exists hUU,hp
 | some b=>
  refine ms H S.ex hbud fun F' rest' h' O H' fr lw st=>?_;refine kk F' rest' h' (fun m hm=>?_) H' fr lw (S.settle st rfl) st.bud fun _=>st.wt;have hp:AV.pur (.tup [])=true:=rfl;have hp2:AV.pur (.tup [.tup [.sym (if b=true then 11 else 12),.tup [.sym 7],.tup [.sym 1]]])=true:=by cases b<;>rfl
  have t:=O m (SJ (by decide) hm)
  exists hUU,hp,hp2,hR,f14,t
theorem qW(S:cr like rt P w h)(H:HI F rest h){rn ru pl jd d:Nat}{fs:List (Nat×AV)}{es:List (AV×AV)}{fv:List AV}(hR:rest[rn]?=some (AO.inst 6 fs))(f22:fs.lookup 22=some (.ref (pl+19)))(hUU:rest[ru]?=some (cj lf rt like))(hp:rest[pl]?=some (AO.inst 5 [(14,.ref 3)]))
  (hd:rest[jd]?=some (AO.dict es)) (he:aA es (.sym 7)=some (aa d)) (hdl:d<h.ns.length) (hw:like.isSome->h.wt=[]) :
  ∃ l:St,∀ m,8<=m->au ⟨az ak m⟩ (.cmp .ne (.comp (.loc 7) (.one 7) (.attr (.loc 1) 18) [.not (.meth (.attr (.loc 0) 22) 57 [.loc 7,.loc 3])]) (.lst [])) (f7 rn ru jd fv) (F.st rest)=some (.bool (E8 like w d),F.st (rest++l)):=by
 cases like with
 | none=>
  refine⟨[.list [],.list []],fun m hm=>?_⟩;have hc:au ⟨az ak m⟩ (.comp (.loc 7) (.one 7) (.attr (.loc 1) 18) [.not (.meth (.attr (.loc 0) 22) 57 [.loc 7,.loc 3])]) (f7 rn ru jd fv) (F.st rest)=some (.ref (rest.length+19),F.st (rest++[.list []])):=by
   refine bm (v:=.tup []) (s:=⟨[],[]⟩) (Y1:=F.st rest) (Y2:=F.st rest) (vs:=[]) (by exists hUU) rfl rfl ?_ (S8 rfl) rfl rfl
   exact cg rfl
  show au _ _ _ _=some (.bool (!decide (([]:List AV)=[])),_);exists hc
 | some b=>
  obtain⟨l,O⟩:=yt (s:=if b=true then 11 else 12) H hp hd he hdl S.one
  have hsame:same w.1 w.2 d 0=decide (h.cl d=h.cl 0):=by
   apply nu;have C:=gM H S.ex (hw rfl);rw[S.ns] at C;exact⟨fun q=>q.least C S.pairs,fun q=>S.snd _ _ q⟩
  have hb:decide ((if b=true then 11 else 12)=11)=b:=by cases b<;>rfl
  rw[hb] at O
  let nd:AV:=.tup [.sym (if b=true then 11 else 12),.tup [.sym 7],.tup [.sym 1]]
  obtain⟨c,hc⟩:∃ c,(decide (h.cl d=h.cl 0)==b)=c:=⟨_,rfl⟩;rw[hc] at O
  let ls:List AV:=bif c then[] else[nd]
  refine⟨l++[.list ls,.list []],fun m hm=>?_⟩;rw[<- S6];have t:=O m (SJ (by decide) hm)
  have hn:nd.isIt=false:=rfl;have hpn:AV.pur nd=true:=by cases b<;>rfl
  have hl:ls.length<=1/\(AV.purs ls&&AV.purs [])=true/\E8 (some b) w d=!decide (ls=[])/\bz [] (.one 7) (f7 rn ru jd fv) (Cy ⟨az ak m⟩ [.not (.meth (.attr (.loc 0) 22) 57 [.loc 7,.loc 3])]) (fun U' Y'=>one (au ⟨az ak m⟩ (.loc 7) U' Y')) [nd] (F.st rest)=some (ls,F.st (rest++l)):=by
   have hm:E8 (some b) w d=!c:=by show(same w.1 w.2 d 0 != b)=_;rw[hsame,<- hc];rfl
   rw[hm];show List.length (bif _ then _ else _)<=1/\(AV.purs (bif _ then _ else _)&&_)=true/\_=!decide ((bif _ then _ else _)=_)/\_=some ((bif _ then _ else _),_)
   cases c with
   | true=>exact⟨Tb _,rfl,rfl,by exists hR,f22,hp,t,hn⟩
   | false=>exact⟨SN _,by show(([nd].all AV.pur)&&true)=true;rw[List.all_cons,hpn];rfl,rfl,by exists hR,f22,hp,t,hn⟩
  rw[hl.2.2.1];have hc:au ⟨az ak m⟩ (.comp (.loc 7) (.one 7) (.attr (.loc 1) 18) [.not (.meth (.attr (.loc 0) 22) 57 [.loc 7,.loc 3])]) (f7 rn ru jd fv) (F.st rest)=some (.ref ((rest++l).length+19),F.st (rest++l++[.list ls])):=
   bm (v:=.tup [nd]) (s:=⟨[nd],[]⟩) (Y1:=F.st rest) (Y2:=F.st (rest++l)) (vs:=ls) (by exists hUU) rfl rfl hl.2.2.2 (SJ hl.1 (S8 rfl)) rfl rfl
  exists hc,hl.2.1
def EU(F:Fx)(h:HS)(rt:Rk)(lf:Lf)(rest:St)(P:List (Nat×Nat))(w:W)(rn ru pl n d:Nat)(fs:List (Nat×AV))(fv:List AV)(G:Prop):Prop:=∀{like:Option Bool} (S:cr like rt P w h) (H:HI F rest h) (f14:fs.lookup 14=some (.ref 3)) (f22:fs.lookup 22=some (.ref (pl+19))) (K:KP rest h.D [(rn,.inst 6 fs),(ru,cj lf rt like),(pl,.inst 5 [(14,.ref 3)])]) (p:cV w.1 lf n d fv) (hP:(n,d)∈P) (hfun:∀ d',(n,d')∈P->d'=d) (hsz:h.ns.length+1<=20) (hbud:h.bud+1<=200) (kk:∀ F' rest' h',Ok 9 50 [.ref (rn+19),.ref (ru+19),.tup fv] (F.st rest) (.bool (bk like rt w n d).1) (F'.st rest')->HI F' rest' h'->Fr h.D h'.D rest rest'->eW F F'->cr like rt P (bk like rt w n d).2 h'->h'.bud<=h.bud+1->(∃ l,(bk like rt w n d).2.1=w.1++l/\l.length<=1)->G),G
def IH(a:Fx×HS×Rk×Lf×St×List (Nat×Nat)×W×Nat×Nat×Nat×Nat×Nat×List (Nat×AV)×List AV×Prop):Prop:=EU a.1 a.2.1 a.2.2.1 a.2.2.2.1 a.2.2.2.2.1 a.2.2.2.2.2.1 a.2.2.2.2.2.2.1 a.2.2.2.2.2.2.2.1 a.2.2.2.2.2.2.2.2.1 a.2.2.2.2.2.2.2.2.2.1 a.2.2.2.2.2.2.2.2.2.2.1 a.2.2.2.2.2.2.2.2.2.2.2.1 a.2.2.2.2.2.2.2.2.2.2.2.2.1 a.2.2.2.2.2.2.2.2.2.2.2.2.2.1 a.2.2.2.2.2.2.2.2.2.2.2.2.2.2
noncomputable def fN:=lN (Ds,Hh,.c,.f1,default) IH
noncomputable def IG:=fN.1
noncomputable def KC:=fN.2.1
noncomputable def eP:=fN.2.2.1
noncomputable def ss:=fN.2.2.2.1
noncomputable def cA:=fN.2.2.2.2.1
noncomputable def QL:=fN.2.2.2.2.2.1
noncomputable def pY:=fN.2.2.2.2.2.2.1
noncomputable def lD:=fN.2.2.2.2.2.2.2.1
noncomputable def lC:=fN.2.2.2.2.2.2.2.2.1
noncomputable def nO:=fN.2.2.2.2.2.2.2.2.2.1
noncomputable def wT:=fN.2.2.2.2.2.2.2.2.2.2.1
noncomputable def vQ:=fN.2.2.2.2.2.2.2.2.2.2.2.1
noncomputable def yy:=fN.2.2.2.2.2.2.2.2.2.2.2.2.1
noncomputable def vP:=fN.2.2.2.2.2.2.2.2.2.2.2.2.2.1
noncomputable def QM:=fN.2.2.2.2.2.2.2.2.2.2.2.2.2.2
theorem LD:EU IG KC eP ss cA QL pY lD lC nO wT vQ yy vP QM:=fun{like} S H f14 f22 K p hP hfun hsz hbud kk=>by
 obtain⟨es,es',p1,p2,p3,p4,p5,p6⟩:=p.data;have hkl:∀(i op:Nat) (ks:List Nat),pY.1[i]?=some (op,ks)->∀ k∈ks,k<i:=fun i op ks hi=>(H.kids i op ks (by rw[S.ns];exact hi)).1
 have hdn:=p.dlt hkl;have hnl:wT<KC.ns.length:=by rw[S.ns];exact jr p.op
 have K1:KP (cA++[AO.dict es']) KC.D [(lD,.inst 6 yy),(lC,cj ss eP like),(nO,.inst 5 [(14,.ref 3)]),(cA.length,.dict es')]:=fun x hx=>by
  have hx:x∈[(lD,AO.inst 6 yy),(lC,cj ss eP like),(nO,.inst 5 [(14,.ref 3)])]++[(cA.length,.dict es')]:=hx
  rcases Tg.mp hx with hx | hx
  ·exact K.grow _ x hx
  ·rw[SY.mp hx];exact⟨bN _ _ _,fun q=>by have:=H.inr q;dsimp only at this;exact Uq _ this⟩
 have k1:=fun x hx=>(K1 x hx).1;have H1:=H.grow [AO.dict es'];refine oE (fv:=vP) (jd:=cA.length) S H1 (k1 (lD,.inst 6 yy) (.head _)) f14 (k1 (lC,cj ss eP like) m1) hbud fun F2 rest2 h2 s1 H2 fr2 lw2 S2 b2 w2=>?_;have K2:=K1.fr fr2;have k2:=fun x hx=>(K2 x hx).1;have hns2:h2.ns=KC.ns:=S2.ns.trans S.ns.symm;obtain⟨l,s2⟩:=qW (lf:=ss) (fv:=vP) S2 H2 (k2 (lD,.inst 6 yy) (.head _)) f22 (k2 (lC,cj ss eP like) m1) (k2 (nO,.inst 5 [(14,.ref 3)]) m2) (k2 (cA.length,.dict es') m3) p4 (by rw[hns2];exact T3 hdn hnl) w2
 have e1:∀ m,9<=m+1->dS ⟨az ak m⟩ (.asg (.one 3) (.blt .dict [.loc 2])) (fun i=>[AV.ref (lD+19),.ref (lC+19),.tup vP][i]?) (IG.st cA)=some (none,f7 lD lC cA.length vP,IG.st (cA++[.dict es'])):=fun m _=>by
  exists p1,p2,(by rw[p3];rfl:IG.st cA++[AO.dict (List.foldl (fun es p=>aU es p.1 p.2) [] es)]=IG.st (cA++[AO.dict es']))
 cases hmis:E8 like pY vQ with
 | true=>
  have hls:bk like eP pY wT vQ=(false,pY):=by unfold bk;rw[SQ hmis]
  rw[hls] at kk;refine kk F2 (rest2++l) h2 (.mk rfl rfl fun m hm=>?_) (H2.grow l) (((Fr.grow _ _ _).trans fr2).trans (Fr.grow _ _ _)) lw2 S2 (Np b2) ⟨[],(Tr _).symm,Tb _⟩;have t:=s2 m hm;rw[hmis] at t;have q1:=e1 m (I2 hm);have q2:=s1 m hm;exists q1,q2,t
 | false=>
  have K3:=K2.grow l;have k3:=fun x hx=>(K3 x hx).1;have H3:=H2.grow l;obtain⟨l',s3⟩:=p6 F2 h2 nO cA.length S2.ns (rest2++l) H3 (k3 (nO,.inst 5 [(14,.ref 3)]) m2) (k3 (cA.length,.dict es') m3);have K4:=K3.grow l';have k4:=fun x hx=>(K4 x hx).1;refine nB S2 (H3.grow l') (k4 (nO,.inst 5 [(14,.ref 3)]) m2) (k4 (cA.length,.dict es') m3) p4 hdn p.op (by rw[hns2];exact hsz) (by rw[b2];exact hbud) fun F5 rest5 h5 s4 H5 fr5 lw5 S5 b5 r1 r2 r3 z12_ r6=>?_
  obtain⟨la,r4,r5⟩:=z12_;have hnl5:wT<h5.ns.length:=by rw[S5.ns];dsimp only;rw[r4,<- S.ns];simp;exact Un _ hnl
  have hrl5:(aL eP pY.1 vQ).1<h5.ns.length:=by rw[S5.ns];exact r2
  have hop5:dC (aL eP pY.1 vQ).2 wT=3\/dC (aL eP pY.1 vQ).2 wT=4:=by rw[r4];exact p.app.op
  have ans:=S5.answer H5 hP hfun hop5 r3 r1 (fun q=>r6 (w2 q));dsimp only at ans;refine ug H5 (rs:=[.sym 13,.sym 15,.tup vP]) hnl5 hrl5 (by rw[b5,b2];exact hbud) fun F6 rest6 h6 s5 H6 fr6 lw6 J=>?_
  have hls:bk like eP pY wT vQ=(decide (h5.cl wT≠h5.cl (aL eP pY.1 vQ).1),((aL eP pY.1 vQ).2,if h5.cl wT≠h5.cl (aL eP pY.1 vQ).1 then pY.2++[(wT,(aL eP pY.1 vQ).1)] else pY.2)):=by
   unfold bk;rw[SL (by rw[hmis];simp)]
   cases like<;>simp only[Option.isSome,if_true,if_false,Bool.false_eq_true] at ans ⊢<;>rw[ans]<;>by_cases q:h5.cl wT=h5.cl (aL eP pY.1 vQ).1<;>simp[q]
  rw[hls] at kk;have K5:=K4.fr fr5;refine kk F6 rest6 h6 (.mk rfl rfl fun m hm=>?_) H6 (((((Fr.grow _ _ _).trans fr2).trans (Fr.grow _ _ _)).trans (Fr.grow _ _ _)).trans (fr5.trans fr6)) (lw2.trans (lw5.trans lw6)) ?_ (No b2 b5 J.bud) ⟨la,r4,r5⟩
  ·have t:=s2 m hm;rw[hmis] at t;have q1:=e1 m (I2 hm);have q2:=s1 m hm;have v1:=s3 m (SJ (by decide) hm)
   have v2:=s4 m (SJ (by decide) hm)
   have a1:(rest2++l)[lD]?=_:=k3 _ (.head _);have a2:(rest2++l)[lC]?=_:=k3 _ m1;have a3:(rest2++l++l')[lD]?=_:=k4 _ (.head _);have a4:(rest2++l++l')[lC]?=_:=k4 _ m1;have a6:rest5[lD]?=_:=(K5 _ (.head _)).1;have a7:rest5[lC]?=_:=(K5 _ m1).1;have a8:(rest2++l)[nO]?=_:=k3 _ m2;have a9:(rest2++l++l')[nO]?=_:=k4 _ m2;have hm2:=vM rfl rfl rfl rfl s5 m (Nn hm);exists q1,q2,t,a1,a2,a3,a4,a6,a7,a8,a9,f22,f14,v1,v2,hm2,ss.it,eP.it
  ·by_cases q:h5.cl wT=h5.cl (aL eP pY.1 vQ).1
   ·rw[SL (by simpa using q)]
    exact S5.idle J q
   ·rw[SQ q];exact S5.joined J hP (by rw[S5.ns] at hnl5;exact hnl5) (by rw[S5.ns] at hrl5;exact hrl5) r1
theorem pX{rn ru pl n d:Nat}{fs:List (Nat×AV)}{fv:List AV}{G:Prop}:EU F h rt lf rest P w rn ru pl n d fs fv G:=bF IH LD (F,h,rt,lf,rest,P,w,rn,ru,pl,n,d,fs,fv,G)
end
noncomputable def fz(like:Option Bool)(rt:Rk)(most:Int):List (Nat×Nat×List AV)->W->Nat->W×Nat
 | [],w,c=>(w,c)
 | x::r,w,c=>if(w.1.length:Int)<=most then fz like rt most r (bk like rt w x.1 x.2.1).2 (c+if(bk like rt w x.1 x.2.1).1 then 1 else 0) else fz like rt most r w c
noncomputable def ar(x:Nat×Nat×List AV):AV:=.tup [aa x.1,.tup x.2.2]
structure Ad where
 rn:Nat
 ru:Nat
 pl:Nat
 rl:Nat
 op:Nat
 hs:Nat
 jl:Nat
section
variable{F:Fx}{rest:St}{h:HS}{like:Option Bool}{rt:Rk}{P:List (Nat×Nat)}{w:W}{lf:Lf}
noncomputable abbrev objs(A:Ad)(fs:List (Nat×AV))(lf:Lf)(rt:Rk)(like:Option Bool)(most:Int)(picks:List (Nat×Nat×List AV)):List (Nat×AO):=
 [(A.rn,.inst 6 fs),(A.ru,cj lf rt like),(A.pl,.inst 5 [(14,.ref 3)]),(A.rl,.list [.ref (A.ru+19)]),(A.op,.dict [(.sym 20,.int most)]),(A.jl,.list (picks.map ar))]
structure RF(A:Ad)(fs:List (Nat×AV)):Prop where
 f14:fs.lookup 14=some (.ref 3)
 f19:fs.lookup 19=some (.ref (A.rl+19))
 f20:fs.lookup 20=some (.ref (A.op+19))
 f22:fs.lookup 22=some (.ref (A.pl+19))
 f23:fs.lookup 23=some (.ref (A.hs+19))
 f24:fs.lookup 24=some (.int 0)
 m58:fs.lookup 58=none
 m60:fs.lookup 60=none
 m61:fs.lookup 61=none
theorem sg(S:cr like rt P w h)(H:HI F rest h){rn op:Nat}{most:Int}{fs:List (Nat×AV)}(f14:fs.lookup 14=some (.ref 3))(f20:fs.lookup 20=some (.ref (op+19)))(hR:rest[rn]?=some (AO.inst 6 fs))(hO:rest[op]?=some (AO.dict [(.sym 20,.int most)])) :
  Ok 3 48 [.ref (rn+19)] (F.st rest) (.bool (!decide ((w.1.length:Int)<=most))) (F.st rest):=by
 refine .mk rfl rfl fun m hm=>?_;have t:=er (F:=F) (rest:=rest) m (hm);have e:F.nodes.length=w.1.length:=by rw[H.nodes,S7,S.ns]
 have hd:aA [(AV.sym 20,AV.int most)] (.sym 20)=some (.int most):=rfl;have hx:decide (most<(w.1.length:Int))=!decide ((w.1.length:Int)<=most):=by
  by_cases q:(w.1.length:Int)<=most
  ·simp[q]
  ·simp[q];exact Nm q
 have hg:(aA [(AV.sym 20,AV.int most)] (.sym 20)).getD (.int 10000)=.int most:=rfl;have hy:∀{Y},bi .gt Y (aa F.nodes.length) (.int most)=some (!decide ((w.1.length:Int)<=most)):=by intro Y;rw[e,<- hx];rfl
 exists hR,hO,f14,f20,t,hg,hy
noncomputable abbrev GD:List S:=[.ite (.and (.not (.meth (.loc 0) 58 [])) (.meth (.loc 0) 60 [.sub (.attr (.loc 0) 19) (.loc 1),.loc 5])) [.asg (.one 3) (.bin .add (.loc 3) (.cst (.int 1)))] []]
theorem tB{A:Ad}{fs:List (Nat×AV)}(R:RF A fs){most:Int}{all:List (Nat×Nat×List AV)}(hfun:∀ n d d',(n,d)∈P->(n,d')∈P->d'=d):∀(ps:List (Nat×Nat×List AV)) {F:Fx} {rest:St} {h:HS} {w:W} (c:Nat),cr like rt P w h->HI F rest h->KP rest h.D (objs A fs lf rt like most all)->
  (∀ x∈ps,cV w.1 lf x.1 x.2.1 x.2.2/\(x.1,x.2.1)∈P)->h.ns.length+ps.length<=20->h.bud+ps.length<=200->
  ∀(G:Prop),(∀ F' rest' h',(∀ m,9<=m->∀ U:En,U 0=some (.ref (A.rn+19))->U 1=some (.int 0)->U 2=some (.ref (A.jl+19))->U 3=some (aa c)->∃ U',dT [(A.jl+19,some (all.map ar))] (.many [4,5]) (bn ⟨az ak m⟩ GD) (ps.map ar) U (F.st rest)=some (none,U',F'.st rest')/\
    U' 0=some (.ref (A.rn+19))/\U' 1=some (.int 0)/\U' 2=some (.ref (A.jl+19))/\U' 3=some (aa (fz like rt most ps w c).2))->HI F' rest' h'->Fr h.D h'.D rest rest'->eW F F'->cr like rt P (fz like rt most ps w c).1 h'->h'.bud<=h.bud+ps.length->G)->G:=by
 intro ps;induction ps with
 | nil=>
  intro F rest h w c S H K hp hsz hb G kk;have hj:=(K (A.jl,.list (all.map ar)) m5).1;exact kk F rest h (fun m hm U r0 r1 r2 r3=>⟨U,bU (bv hj),r0,r1,r2,r3⟩) H (Fr.refl _ _) (eW.refl _) S (SN _)
 | cons x ps ih=>
  intro F rest h w c S H K hp hsz hb G kk;have hj:=(K (A.jl,.list (all.map ar)) m5).1;have hR:=(K (A.rn,.inst 6 fs) (.head _)).1;have hUU:=(K (A.ru,cj lf rt like) m1).1;have hL:=(K (A.rl,.list [.ref (A.ru+19)]) m3).1;have hO:=(K (A.op,.dict [(.sym 20,.int most)]) m4).1;dsimp only at hj hR hUU hL hO;have full:=sg S H R.f14 R.f20 hR hO;have hbind:∀(U:En) (Y:St),bV (.many [4,5]) (ar x) U Y=some (ah (ah U 4 (aa x.1)) 5 (.tup x.2.2)):=fun _ _=>rfl;obtain⟨hp1,hp2⟩:=hp x (.head _);simp only[List.length_cons] at hsz hb
  by_cases q:(w.1.length:Int)<=most
  ·refine pX (rn:=A.rn) (ru:=A.ru) (pl:=A.pl) (lf:=lf) S H R.f14 R.f22 (bf (K _ (.head _)) (bf (K _ m1) (bf (K _ m2) nofun))) hp1 hp2 (fun d' hd'=>hfun _ _ _ hp2 hd') (I1 hsz) (Nl hb) fun F2 rest2 h2 O H2 fr2 lw2 S2 b2 z6_=>?_
   obtain⟨l,l1,l2⟩:=z6_;have hns2:h2.ns.length<=h.ns.length+1:=by rw[S2.ns,l1,S.ns,SZ];exact Nk l2
   refine ih (c+if(bk like rt w x.1 x.2.1).1 then 1 else 0) S2 H2 (K.fr fr2) (fun y hy=>⟨by rw[l1];exact(hp y (.tail _ hy)).1.app,(hp y (.tail _ hy)).2⟩) (Nj hsz hns2) (Ni hb b2) _ fun F3 rest3 h3 e3 H3 fr3 lw3 S3 b3=>?_
   rw[fz,SQ q] at kk;refine kk F3 rest3 h3 (fun m hm U r0 r1 r2 r3=>?_) H3 (fr2.trans fr3) (lw2.trans lw3) S3 (I0 b2 b3);have t1:=full m (SJ (by decide) hm)
   rw[SV q] at t1;have t2:=O m hm
   cases hs:(bk like rt w x.1 x.2.1).1 with
   | true=>
    rw[hs] at t2 e3;obtain⟨U3,v1,v2⟩:=e3 m hm (ah (ah (ah U 4 (aa x.1)) 5 (.tup x.2.2)) 3 (aa (c+1))) r0 r1 r2 rfl;refine⟨U3,cm (bv hj) rfl ?_ v1,v2⟩;exists r0,r1,r3,hR,R.m58,R.m60,t1,R.f19,hL,t2
   | false=>
    rw[hs] at t2 e3;obtain⟨U3,v1,v2⟩:=e3 m hm (ah (ah U 4 (aa x.1)) 5 (.tup x.2.2)) r0 r1 r2 r3;refine⟨U3,cm (bv hj) rfl ?_ v1,v2⟩;exists r0,r1,r3,hR,R.m58,R.m60,t1,R.f19,hL,t2
  ·refine ih c S H K (fun y hy=>hp y (.tail _ hy)) (IZ hsz) (Nh hb) _ fun F3 rest3 h3 e3 H3 fr3 lw3 S3 b3=>?_;rw[fz,SL q] at kk;refine kk F3 rest3 h3 (fun m hm U r0 r1 r2 r3=>?_) H3 fr3 lw3 S3 (Ng b3);have t1:=full m (SJ (by decide) hm)
   rw[Tk q] at t1;have u1:bn ⟨az ak m⟩ GD (ah (ah U 4 (aa x.1)) 5 (.tup x.2.2)) (F.st rest)=some (none,ah (ah U 4 (aa x.1)) 5 (.tup x.2.2),F.st rest):=by
    exists r0,hR,R.m58,t1
   obtain⟨U3,v1,v2⟩:=e3 m hm (ah (ah U 4 (aa x.1)) 5 (.tup x.2.2)) r0 r1 r2 r3;refine⟨U3,?_,v2⟩;exact cm (bv hj) rfl u1 v1
theorem nM{A:Ad}{fs:List (Nat×AV)}(R:RF A fs){most:Int}{all:List (Nat×Nat×List AV)}(hfun:∀ n d d',(n,d)∈P->(n,d')∈P->d'=d)(S:cr like rt P w h)(H:HI F rest h)(K:KP rest h.D ((A.hs,.list [])::objs A fs lf rt like most all))
  (hp:∀ x∈all,cV w.1 lf x.1 x.2.1 x.2.2/\(x.1,x.2.1)∈P) (hsz:h.ns.length+all.length<=20) (hb:h.bud+all.length<=200) {G:Prop}
  (kk:∀ F' rest' h',Ok 10 51 [.ref (A.rn+19),.int 0,.ref (A.jl+19)] (F.st rest) (aa (fz like rt most all w 0).2) (F'.st (rest'.set A.hs (.list [.tup [.int 0,.sym 15,aa all.length,aa (fz like rt most all w 0).2]])))->HI F' rest' h'->Fr h.D h'.D rest rest'->eW F F'->cr like rt P (fz like rt most all w 0).1 h'->h'.bud<=h.bud+all.length->G):G:=by
 refine tB R hfun all 0 S H (fun x hx=>K x (.tail _ hx)) hp hsz hb _ fun F' rest' h' e H' fr lw S' b'=>?_;have hj:=(K (A.jl,.list (all.map ar)) m6).1;have K':=K.fr fr;have hR:=(K' (A.rn,.inst 6 fs) m1).1;have hUU:=(K' (A.ru,cj lf rt like) m2).1;have hL:=(K' (A.rl,.list [.ref (A.ru+19)]) m4).1;have hH:=(K' (A.hs,.list []) (.head _)).1;have hj':=(K' (A.jl,.list (all.map ar)) m6).1;dsimp only at hj hR hUU hL hH hj';refine kk F' rest' h' (.mk rfl rfl fun m hm=>?_) H' fr lw S' b';obtain⟨U',q0,q1,q2,q3,q4⟩:=e m hm (ah (fun i=>[AV.ref (A.rn+19),.int 0,.ref (A.jl+19)][i]?) 3 (aa 0)) rfl rfl rfl rfl;have hfor:dS ⟨az ak m⟩ (.for_ (.many [4,5]) (.loc 2) GD) (ah (fun i=>[AV.ref (A.rn+19),.int 0,.ref (A.jl+19)][i]?) 3 (aa 0)) (F.st rest)=some (none,U',F'.st rest'):=
  (cY (v:=.ref (A.jl+19)) (s:=⟨all.map ar,[(A.jl+19,some (all.map ar))]⟩) (Y1:=F.st rest) (aG rfl) rfl (aV (aK (cG hj)))).trans q0
 exists hfor,q1,q2,q3,q4,hR,hUU,hL,hH,R.f19,R.f23,R.f24,hj',(S7 ..:(all.map ar).length=all.length)
end
structure Mn(N:Nat)(hm:Nat->Nat):Prop where
 le:∀ x,hm x<=x
 idem:∀ x,hm (hm x)=hm x
 out:∀ x,N<=x->hm x=x
theorem Mn.id(N:Nat):Mn N (fun x=>x):=⟨fun _=>SN _,fun _=>rfl,fun _ _=>rfl⟩
theorem Mn.mrg{N:Nat}{hm:Nat->Nat}(M:Mn N hm){k g:Nat}(hk:hm k=k)(hg:hm g=g)(kg:k<g)(hN:g<N):Mn N (eB hm k g):=by
 refine⟨fun a=>?_,fun a=>?_,fun a ha=>?_⟩
 ·unfold Internal.eB;split
  ·have:=M.le a;exact Po kg ‹_› this
  ·exact M.le a
 ·unfold Internal.eB;split
  ·rw[SL (MV hk kg),hk]
  ·rename_i q;rw[M.idem,SL q]
 ·unfold Internal.eB;rw[M.out a ha,SL (Pn hN ha)]
noncomputable def mu(N:Nat)(hm:Nat->Nat):Nat:=((List.range N).map hm).sum
theorem Ej{l:List Nat}{f g:Nat->Nat}(h:∀ x∈l,f x<=g x){y:Nat}(hy:y∈l)(hl:f y<g y):(l.map f).sum<(l.map g).sum:=by
 induction l with
 | nil=>cases hy
 | cons a l ih=>
  have h1:=h a (.head _);have h2:(l.map f).sum<=(l.map g).sum:=by
   clear ih hy hl
   induction l with
   | nil=>exact SN _
   | cons b l ih=>
    have h3:=h b (.tail _ (.head _));have h4:=ih fun x hx=>h x (by rcases SW.mp hx with e | e<;>simp[e])
    simp only[List.map_cons,List.sum_cons];exact Ug h3 h4
  simp only[List.map_cons,List.sum_cons]
  rcases SW.mp hy with e | e
  ·subst e;exact Nf hl h2
  ·have:=ih (fun x hx=>h x (.tail _ hx)) e;exact Nc h1 this
theorem E7{N:Nat}{hm:Nat->Nat}{k g:Nat}(hg:hm g=g)(kg:k<g)(hN:g<N):mu N (eB hm k g)<mu N hm:=by
 refine Ej (fun x _=>?_) (List.mem_range.mpr hN) ?_
 ·unfold eB;split
  ·rename_i e;exact SJ (TU kg) (SM e.symm)
  ·exact SN _
 ·unfold eB;rw[SQ hg];exact Nb hg kg
theorem I9{N:Nat}{hm:Nat->Nat}(M:Mn N hm):mu N hm<=N*N:=by
 unfold mu;have:∀(l:List Nat),(∀ x∈l,x<=N)->(l.map hm).sum<=l.length*N:=by
  intro l
  induction l with
  | nil=>intro _;simp
  | cons a l ih=>
   intro h;have h1:=ih fun x hx=>h x (.tail _ hx);have h2:=h a (.head _);have h3:=M.le a;simp only[List.map_cons,List.sum_cons,List.length_cons,Nat.add_mul];exact Na h1 h2 h3
 have:=this (List.range N) fun x hx=>by have:=List.mem_range.mp hx;exact TU this
 simpa using this
noncomputable abbrev Pr:=Nat×Nat
noncomputable def ea(hm:Nat->Nat)(d:Nd):Nd:=(d.1,d.2.map hm)
noncomputable def tV(hm:Nat->Nat):List Nd->Nat->List (Nd×Nat)×List Pr->List (Nd×Nat)×List Pr
 | [],_,s=>s
 | d::r,t,s=>match lk s.1 (ea hm d) with
  | some v=>tV hm r (t+1) (s.1,s.2++[(v,t)])
  | none=>tV hm r (t+1) (s.1++[(ea hm d,t)],s.2++[(t,t)])
noncomputable def lq:List Pr->(Nat->Nat)×Bool->(Nat->Nat)×Bool
 | [],s=>s
 | (a,b)::r,s=>lq r (if s.1 a=s.1 b then s else(eB s.1 (min (s.1 a) (s.1 b)) (max (s.1 a) (s.1 b)),true))
structure SA(ns:List Nd)(hm:Nat->Nat)(ps:List Pr)(t:Nat)(s:List (Nd×Nat)×List Pr):Prop where
 seen:∀ k v,lk s.1 k=some v->v<t/\∃ d,ns[v]?=some d/\ea hm d=k
 all:∀(i:Nat) (d:Nd),i<t->ns[i]?=some d->∃ v,lk s.1 (ea hm d)=some v/\(v,i)∈s.2
 todo:∀ x∈s.2,x∈ps\/x.2<t/\∃ d,ns[x.2]?=some d/\lk s.1 (ea hm d)=some x.1
 keep:∀ x∈ps,x∈s.2
 len:s.2.length=ps.length+t
 sl:s.1.length<=t
theorem uJ{α:Type}{l ds:List α}{t:Nat}{d:α}(h:l.drop t=d::ds):l[t]?=some d:=by
 have:=SI (·[0]?) h;simpa using this
theorem uH{α:Type}{l ds:List α}{t:Nat}{d:α}(h:l.drop t=d::ds):l.drop (t+1)=ds:=by
 have:=SI (List.drop 1) h;simpa[List.drop_drop,Nat.add_comm] using this
theorem xU{ns:List Nd}{hm:Nat->Nat}{ps:List Pr}:∀(ds:List Nd) (t:Nat) (s:List (Nd×Nat)×List Pr),ns.drop t=ds->SA ns hm ps t s->SA ns hm ps (t+ds.length) (tV hm ds t s):=by
 intro ds;induction ds with
 | nil=>exact fun _ _ _ h=>h
 | cons d ds ih=>
  intro t s hd h;have h0:ns[t]?=some d:=uJ hd;have hd':ns.drop (t+1)=ds:=uH hd;rw[show t+(d::ds).length=t+1+ds.length from IY,tV]
  cases hl:lk s.1 (ea hm d) with
  | some v=>
   refine ih (t+1) _ hd' ⟨fun k v' q=>?_,fun i d' hi hi'=>?_,fun x hx=>?_,fun x hx=>Tl _ (h.keep x hx),by rw[SZ,h.len];exact IX,Nat.le_succ_of_le h.sl⟩
   ·obtain⟨a,b⟩:=h.seen k v' q;exact⟨TL a,b⟩
   ·by_cases q:i=t
    ·subst q;rw[h0] at hi';cases hi'
     exact⟨v,hl,by simp⟩
    ·obtain⟨v',a,b⟩:=h.all i d' (EX hi q) hi';exact⟨v',a,Tl _ b⟩
   ·rcases Tg.mp hx with hx | hx
    ·rcases h.todo x hx with q | ⟨a,b⟩
     ·exact .inl q
     ·exact .inr ⟨TL a,b⟩
    ·rw[SY.mp hx];exact .inr ⟨by simp,d,h0,hl⟩
  | none=>
   have ext:∀ k v',lk s.1 k=some v'->lk (s.1++[(ea hm d,t)]) k=some v':=fun k v' q=>by rw[ir,q]
   have new:lk (s.1++[(ea hm d,t)]) (ea hm d)=some t:=by rw[ir,hl];simp
   refine ih (t+1) _ hd' ⟨fun k v' q=>?_,fun i d' hi hi'=>?_,fun x hx=>?_,fun x hx=>Tl _ (h.keep x hx),by rw[SZ,h.len];exact IX,by rw[SZ];exact T9 h.sl⟩
   ·dsimp only at q;rw[ir] at q
    cases hk:lk s.1 k with
    | some v2=>
     rw[hk] at q;cases q
     obtain⟨a,b⟩:=h.seen k _ hk;exact⟨TL a,b⟩
    | none=>
     rw[hk] at q;dsimp only at q
     split at q
     ·rename_i e2;cases q;exact⟨M9,d,h0,e2⟩
     ·cases q
   ·by_cases q:i=t
    ·subst q;rw[h0] at hi';cases hi'
     exact⟨i,new,by simp⟩
    ·obtain⟨v',a,b⟩:=h.all i d' (EX hi q) hi';exact⟨v',ext _ _ a,Tl _ b⟩
   ·rcases Tg.mp hx with hx | hx
    ·rcases h.todo x hx with q | ⟨a,d',b,c⟩
     ·exact .inl q
     ·exact .inr ⟨TL a,d',b,ext _ _ c⟩
    ·rw[SY.mp hx];exact .inr ⟨by simp,d,h0,new⟩
structure SB(N:Nat)(td:List Pr)(s r:(Nat->Nat)×Bool):Prop where
 mn:Mn N r.1
 snd:∀ R:Nat->Nat->Prop,bM [] R->(∀ x∈td,R x.1 x.2)->(∀ x y,s.1 x=s.1 y->R x y)->∀ x y,r.1 x=r.1 y->R x y
 mono:∀ x y,s.1 x=s.1 y->r.1 x=r.1 y
 hit:∀ x∈td,r.1 x.1=r.1 x.2
 dec:r=s\/r.2=true/\mu N r.1<mu N s.1
theorem xT{N:Nat}:∀(td:List Pr) (s:(Nat->Nat)×Bool),Mn N s.1->(∀ x∈td,x.1<N/\x.2<N)->SB N td s (lq td s):=by
 intro td;induction td with
 | nil=>exact fun s M _=>⟨M,fun R C _ h=>h,fun _ _ e=>e,nofun,.inl rfl⟩
 | cons p td ih=>
  intro s M hN;have htd:∀ x∈td,x.1<N/\x.2<N:=fun x hx=>hN x (.tail _ hx);have hp:=hN p (.head _)
  by_cases q:s.1 p.1=s.1 p.2
  ·have e:lq (p::td) s=lq td s:=by rw[lq,SQ q]
   rw[e];have I:=ih s M htd;exact⟨I.mn,fun R C hp hs=>I.snd R C (fun x hx=>hp x (.tail _ hx)) hs,I.mono,fun x hx=>(SW.mp hx).elim (fun r=>r▸I.mono _ _ q) (I.hit x),I.dec⟩
  ·have e:lq (p::td) s=lq td (eB s.1 (min (s.1 p.1) (s.1 p.2)) (max (s.1 p.1) (s.1 p.2)),true):=by rw[lq,SL q]
   rw[e];have kg:=M8 q;generalize min (s.1 p.1) (s.1 p.2)=k at kg ⊢;generalize max (s.1 p.1) (s.1 p.2)=g at kg ⊢;have hkk:s.1 k=k:=kg.elim (fun r=>r.2.1▸M.idem _) fun r=>r.2.1▸M.idem _;have hgg:s.1 g=g:=kg.elim (fun r=>r.2.2▸M.idem _) fun r=>r.2.2▸M.idem _;have hlt:k<g:=IW kg;have hgN:g<N:=M7 hp.1 hp.2 (M.le p.1) (M.le p.2) kg;have hcl:=uo (cl:=s.1) kg;have I:=ih (eB s.1 k g,true) (M.mrg hkk hgg hlt hgN) htd;have hmu:=E7 (hm:=s.1) hgg hlt hgN;exact⟨I.mn,fun R C hp hs=>I.snd R C (fun x hx=>hp x (.tail _ hx)) fun x y e=>C.mrg (hp p (.head _)) hs ((hcl x y).mp e),fun x y e=>I.mono x y ((hcl x y).mpr (.inl e)),
    fun x hx=>(SW.mp hx).elim (fun r=>r▸I.mono _ _ ((hcl _ _).mpr (.inr (.inl ⟨rfl,rfl⟩)))) (I.hit x),.inr (I.dec.elim (fun r=>by rw[r];exact⟨rfl,hmu⟩) fun r=>⟨r.1,T3 r.2 hmu⟩)⟩
theorem SA.init(ns:List Nd)(hm:Nat->Nat)(ps:List Pr):SA ns hm ps 0 ([],ps):=
 ⟨fun k v q=>by simp[lk] at q,fun i d hi=>SP hi (o4),fun x hx=>.inl hx,fun x hx=>hx,by simp,by simp⟩
theorem SA.cong{ns:List Nd}{hm:Nat->Nat}{ps:List Pr}{s:List (Nd×Nat)×List Pr}(A:SA ns hm ps ns.length s)(hs:∀ x∈s.2,hm x.1=hm x.2):bM ns (fun x y=>hm x=hm y):=by
 refine⟨fun _=>rfl,fun _ _ e=>e.symm,fun _ _ _ e f=>e.trans f,fun i j op ks ks' h1 h2 hl hk=>?_⟩;have e:=sF (f:=hm) hl hk;obtain⟨v,v1,v2⟩:=A.all i _ (SR.mp h1).1 h1;obtain⟨u,u1,u2⟩:=A.all j _ (SR.mp h2).1 h2;unfold ea at v1 u1;dsimp only at v1 u1;rw[e,u1] at v1;cases v1
 exact(hs _ v2).symm.trans (hs _ u2)
theorem SA.sound{ns:List Nd}{hm:Nat->Nat}{ps:List Pr}{t:Nat}{s:List (Nd×Nat)×List Pr}(A:SA ns hm ps t s){R:Nat->Nat->Prop}(C:bM ns R)(hp:∀ x∈ps,R x.1 x.2)(hR:∀ x y,hm x=hm y->R x y):∀ x∈s.2,R x.1 x.2:=fun x hx=>by
 rcases A.todo x hx with q | ⟨_,d,b,c⟩
 ·exact hp x q
 ·obtain⟨_,d',e1,e2⟩:=A.seen _ _ c;obtain⟨op,ks⟩:=d;obtain⟨op',ks'⟩:=d';simp only[ea,Prod.mk.injEq] at e2;obtain⟨rfl,e2⟩:=e2;refine C.cong _ _ _ _ _ e1 b (by have:=SI List.length e2;simpa using this) fun t a b ha hb=>hR a b ?_
  have:=SI (·[t]?) e2;simp only[List.getElem?_map,ha,hb,Option.map_some,Option.some.injEq] at this;exact this
theorem SA.lt{ns:List Nd}{hm:Nat->Nat}{ps:List Pr}{s:List (Nd×Nat)×List Pr}(A:SA ns hm ps ns.length s)(hp:∀ x∈ps,x.1<ns.length/\x.2<ns.length):∀ x∈s.2,x.1<ns.length/\x.2<ns.length:=fun x hx=>by
 rcases A.todo x hx with q | ⟨a,d,b,c⟩
 ·exact hp x q
 ·exact⟨(A.seen _ _ c).1,a⟩
noncomputable def hl(N:Nat)(hm:Nat->Nat):List AV:=(List.range N).map fun x=>aa (hm x)
theorem ku{N:Nat}{hm:Nat->Nat}{k:Nat}(h:k<N):(hl N hm)[k]?=some (aa (hm k)):=by simp[hl,h]
noncomputable def pv(x:Pr):AV:=.tup [aa x.1,aa x.2]
noncomputable def ev(x:Nd×Nat):AV:=.tup [aa x.2,aJ x.1]
noncomputable def dA(s:List (Nd×Nat)):List (AV×AV):=s.map fun x=>(aJ x.1,aa x.2)
theorem Fr.nil{r r':St}(h1:r.length<=r'.length)(h2:∀ j,j<r.length->r'[j]?=r[j]?):Fr [] [] r r':=⟨h1,fun j hj _=>h2 j hj,fun j hj=>by cases hj⟩
theorem Fr.get{r r':St}(f:Fr [] [] r r'){j:Nat}{o:AO}(h:r[j]?=some o):r'[j]?=some o:=f.at h (by simp)
noncomputable abbrev n9:List S:=[.expr (.meth (.loc 5) 27 [.tup [.meth (.loc 4) 32 [.bin .add (.slc (.loc 7) .first) (.blt .tupleOf [.comp (.sub (.loc 2) (.loc 13)) (.one 13) (.slc (.loc 7) .tail) []]),.loc 6],.loc 6]])]
noncomputable abbrev iu:List S:=[.asg (.many [10,11]) (.blt .sorted [.lst [.sub (.loc 2) (.loc 8),.sub (.loc 2) (.loc 9)]]),.ite (.cmp .ne (.loc 10) (.loc 11)) [.asg (.many [2,3]) (.tup [.comp (.ite (.cmp .eq (.loc 13) (.loc 11)) (.loc 10) (.loc 13)) (.one 13) (.loc 2) [],.cst (.bool true)])] []]
section
variable{F:Fx}
theorem Jj{N jh js jt:Nat}{hm:Nat->Nat}(e1:js≠jt)(e2:jh≠js)(e3:jh≠jt):∀(ds:List Nd) (t:Nat) (s:List (Nd×Nat)×List Pr) (r:St),
  (∀ d∈ds,(∀ k∈d.2,k<N)/\d.2.length<=2)->r[js]?=some (AO.dict (dA s.1))->r[jt]?=some (AO.list (s.2.map pv))->r[jh]?=some (AO.list (hl N hm))->s.2.length+ds.length<=1000->s.1.length+ds.length<=1000->
  ∀(G:Prop),(∀ r',r'[jt]?=some (AO.list ((tV hm ds t s).2.map pv))->r.length<=r'.length->(∀ i,i<r.length->i≠js->i≠jt->r'[i]?=r[i]?)->(∀(m:Nat) (U:En) (v0 v3:AV),(U 0=some v0/\U 1=some (.ref 18))->U 2=some (.ref (jh+19))->U 3=some v3->U 4=some (.ref (js+19))->U 5=some (.ref (jt+19))->∃ U',dT [(18,some F.world)] (.many [6,7]) (bn ⟨az ak m⟩ n9) ((ds.zipIdx t).map ev) U (F.st r)=some (none,U',F.st r')/\
    (U' 0=some v0/\U' 1=some (.ref 18))/\U' 2=some (.ref (jh+19))/\U' 3=some v3/\U' 5=some (.ref (jt+19)))->G)->G:=by
 intro ds;induction ds with
 | nil=>exact fun t s r hd hs ht hh _ _ _ kk=>kk r ht (SN _) (fun _ _ _ _=>rfl) fun m U v0 v3 r0 r2 r3 r4 r5=>⟨U,bU (mt _ rfl),r0,r2,r3,r5⟩
 | cons x ds ih=>
  obtain⟨op,ks⟩:=x;intro t s r hd hs ht hh hL1 hL2 G kk;have hk:∀ k∈ks,k<N:=(hd (op,ks) (.head _)).1;have hkl:ks.length<=2:=(hd (op,ks) (.head _)).2;have go:∀(r1:St) (s1:List (Nd×Nat)×List Pr),tV hm ((op,ks)::ds) t s=tV hm ds (t+1) s1->r1[js]?=some (AO.dict (dA s1.1))->r1[jt]?=some (AO.list (s1.2.map pv))->r1[jh]?=some (AO.list (hl N hm))->r.length<=r1.length->(∀ i,i<r.length->i≠js->i≠jt->r1[i]?=r[i]?)->s1.2.length<=s.2.length+1->s1.1.length<=s.1.length+1->
    (∀(m:Nat) (E:En),E 2=some (.ref (jh+19))->E 4=some (.ref (js+19))->E 5=some (.ref (jt+19))->E 6=some (aa t)->E 7=some (.tup (.sym op::ks.map aa))->bn ⟨az ak m⟩ n9 E (F.st r)=some (none,E,F.st r1))->G:=fun r1 s1 a1 a2 a3 a4 a5 a6 a7 a8 a9=>by
   rw[a1] at kk;refine ih (t+1) s1 r1 (fun d hd'=>hd d (.tail _ hd')) a2 a3 a4 (IV hL1 a7) (IV hL2 a8) _ fun r' b1 b2 b3 b4=>kk r' b1 (SJ a5 b2) (fun i hi q1 q2=>(b3 i (TJ hi a5) q1 q2).trans (a6 i hi q1 q2)) fun m U v0 v3 r0 r2 r3 r4 r5=>?_;obtain⟨U',c1,c2⟩:=b4 m (ah (ah U 6 (aa t)) 7 (aJ (op,ks))) v0 v3 r0 r2 r3 r4 r5;exact⟨U',cm (mt F.world rfl) rfl (a9 m (ah (ah U 6 (aa t)) 7 (aJ (op,ks))) r2 r4 r5 rfl rfl) c1,c2⟩
  clear kk ih;have lt1:=(SR.mp hs).1;have lt2:=(SR.mp ht).1;have NI:=(SR.mp hh).1;have hcomp:∀(m:Nat) (E:En),E 2=some (.ref (jh+19))->E 7=some (.tup (.sym op::ks.map aa))->au ⟨az ak m⟩ (.comp (.sub (.loc 2) (.loc 13)) (.one 13) (.slc (.loc 7) .tail) []) E (F.st r)=some (.ref (r.length+19),F.st (r++[AO.list (ks.map (aa∘hm))])):=fun m E r2 r7=>
   oo (C:=⟨az ak m⟩) (U:=E) (F:=F) (r:=r) (kv:=.tup (ks.map aa)) (ks:=ks) (e:=.sub (.loc 2) (.loc 13)) (it:=.slc (.loc 7) .tail) (p:=13) (g:=aa∘hm) (.inl rfl) (by exists r7) (fun k hk'=>by exists r2,hh,ku (hm:=hm) (hk k hk')) (by unfold ay;exact SJ hkl (by decide))
  have hj2:(ks.map hm).map aa=ks.map (aa∘hm):=TP;have hdg:aA (dA s.1) (.tup (.sym op::ks.map (aa∘hm)))=(lk s.1 (op,ks.map hm)).map aa:=by rw[<- hj2];exact qd s.1 (op,ks.map hm) aa
  have hpur:AV.pur (.tup (.sym op::ks.map (aa∘hm)))=true:=by rw[<- hj2];exact c8 (op,ks.map hm)
  have hl9:ks.length<=99999:=SJ hkl (by decide)
  have i1:∀ l,(r++l)[js]?=some (AO.dict (dA s.1)):=fun l=>ag hs l;have i2:∀ l,(r++l)[jt]?=some (AO.list (s.2.map pv)):=fun l=>ag ht l;have i3:∀ l,(r++l)[jh]?=some (AO.list (hl N hm)):=fun l=>ag hh l
  ·cases hlk:lk s.1 (op,ks.map hm) with
   | some v=>
    refine go ((r++[AO.list (ks.map (aa∘hm))]).set jt (AO.list (s.2.map pv++[pv (v,t)]))) (s.1,s.2++[(v,t)]) (by rw[tV];simp only[ea,hlk]) ?_ ?_ ?_ (by simp) (fun i hi q1 q2=>?_) (by simp) (by simp) fun m E r2 r4 r5 r6 r7=>?_
    ·rw[Tt (fun q=>e1 q.symm)];exact i1 _
    ·rw[TY (by simp;exact TL lt2)];simp
    ·rw[Tt (fun q=>e3 q.symm)];exact i3 _
    ·rw[Tt (fun q=>q2 q.symm),Tf hi]
    ·have hc:=hcomp m E r2 r7;have hlen:s.2.length+1<=100000:=LF hL1;rw[hlk] at hdg;have hdg:aA (dA s.1) (AV.tup ([AV.sym op]++ks.map (aa∘hm)))=some (aa v):=hdg;have hpur:AV.pur (AV.tup ([AV.sym op]++ks.map (aa∘hm)))=true:=hpur;exists hc,r4,r5,r6,r7,ht,hs,hdg,hpur,v8 (v7 hl9),(by rw[S7];exact hlen:(s.2.map pv).length+1<=ay)
   | none=>
    have hdp:dA (s.1++[((op,ks.map hm),t)])=dA s.1++[(.tup (.sym op::ks.map (aa∘hm)),aa t)]:=by
     unfold dA;rw[Th,<- hj2];rfl
    refine go (((r++[AO.list (ks.map (aa∘hm))]).set js (AO.dict (dA (s.1++[((op,ks.map hm),t)])))).set jt (AO.list (s.2.map pv++[pv (t,t)]))) (s.1++[((op,ks.map hm),t)],s.2++[(t,t)]) (by rw[tV];simp only[ea,hlk]) ?_ ?_ ?_ (by simp) (fun i hi q1 q2=>?_) (by simp) (by simp) fun m E r2 r4 r5 r6 r7=>?_
    ·rw[Tt (fun q=>e1 q.symm),TY (by simp;exact TL lt1)]
    ·rw[TY (by simp;exact TL lt2)];simp
    ·rw[Tt (fun q=>e3 q.symm),Tt (fun q=>e2 q.symm)];exact i3 _
    ·rw[Tt (fun q=>q2 q.symm),Tt (fun q=>q1 q.symm),Tf hi]
    ·have hc:=hcomp m E r2 r7;have hlen:s.2.length+1<=100000:=LF hL1;have hlen2:(dA s.1).length+1<=100000:=by simp[dA];exact M5 hL2
     rw[hlk] at hdg;rw[hdp];have hdg:aA (dA s.1) (AV.tup ([AV.sym op]++ks.map (aa∘hm)))=none:=hdg;have hpur:AV.pur (AV.tup ([AV.sym op]++ks.map (aa∘hm)))=true:=hpur;exists hc,r4,r5,r6,r7,ht,hs,e1,hdg,hpur,v8 (v7 hl9),hlen2,(by rw[S7];exact hlen:(s.2.map pv).length+1<=ay)
end
section
variable{F:Fx}
theorem Ji{N jt:Nat}{full:List AV}(hN:N<=1000):∀(td:List Pr) (s:(Nat->Nat)×Bool) (jh:Nat) (r:St),(∀ x∈td,x.1<N/\x.2<N)->r[jt]?=some (AO.list full)->r[jh]?=some (AO.list (hl N s.1))->
  ∀(G:Prop),(∀ r' jh',r'[jh']?=some (AO.list (hl N (lq td s).1))->Fr [] [] r r'->(∀(m:Nat) (U:En) (v0:AV),(U 0=some v0/\U 1=some (.ref 18))->U 2=some (.ref (jh+19))->U 3=some (.bool s.2)->∃ U',dT [(jt+19,some full)] (.many [8,9]) (bn ⟨az ak m⟩ iu) (td.map pv) U (F.st r)=some (none,U',F.st r')/\
    (U' 0=some v0/\U' 1=some (.ref 18))/\U' 2=some (.ref (jh'+19))/\U' 3=some (.bool (lq td s).2))->G)->G:=by
 intro td;induction td with
 | nil=>exact fun s jh r hd ht hh _ kk=>kk r jh hh (Fr.refl _ _) fun m U v0 r0 r2 r3=>⟨U,bU (bv ht),r0,r2,r3⟩
 | cons x td ih=>
  obtain⟨a,b⟩:=x;intro s jh r hd ht hh G kk;have ha:a<N:=(hd (a,b) (.head _)).1;have hb:b<N:=(hd (a,b) (.head _)).2;have go:∀(r1:St) (jh1:Nat) (s1:(Nat->Nat)×Bool),lq ((a,b)::td) s=lq td s1->r1[jh1]?=some (AO.list (hl N s1.1))->Fr [] [] r r1->
    (∀(m:Nat) (E:En) (v0:AV),(E 0=some v0/\E 1=some (.ref 18))->E 2=some (.ref (jh+19))->E 3=some (.bool s.2)->E 8=some (aa a)->E 9=some (aa b)->∃ E',bn ⟨az ak m⟩ iu E (F.st r)=some (none,E',F.st r1)/\(E' 0=some v0/\E' 1=some (.ref 18))/\E' 2=some (.ref (jh1+19))/\E' 3=some (.bool s1.2))->G:=fun r1 jh1 s1 a1 a2 a3 a4=>by
   rw[a1] at kk;refine ih s1 jh1 r1 (fun x hx=>hd x (.tail _ hx)) (a3.get ht) a2 _ fun r' jh' b1 b2 b3=>kk r' jh' b1 (a3.trans b2) fun m U v0 r0 r2 r3=>?_;obtain⟨E',c1,c2,c3,c4⟩:=a4 m (ah (ah U 8 (aa a)) 9 (aa b)) v0 r0 r2 r3 rfl rfl;obtain⟨U',d1,d2⟩:=b3 m E' v0 c2 c3 c4;exact⟨U',cm (bv ht) rfl c1 d1,d2⟩
  clear kk ih;have xa:=ku (hm:=s.1) ha;have xb:=ku (hm:=s.1) hb
  let k:=min (s.1 a) (s.1 b)
  let g:=max (s.1 a) (s.1 b)
  have kg:(s.1 b<s.1 a/\k=s.1 b/\g=s.1 a)\/(¬s.1 b<s.1 a/\k=s.1 a/\g=s.1 b):=by simp only[k,g];exact M4
  have hh1:∀ l,(r++l)[jh]?=some (AO.list (hl N s.1)):=fun l=>ag hh l;have step1:∀(m:Nat) (E:En),E 2=some (.ref (jh+19))->E 8=some (aa a)->E 9=some (aa b)->dS ⟨az ak m⟩ (.asg (.many [10,11]) (.blt .sorted [.lst [.sub (.loc 2) (.loc 8),.sub (.loc 2) (.loc 9)]])) E (F.st r)=some (none,ah (ah E 10 (aa k)) 11 (aa g),F.st (r++[AO.list [aa (s.1 a),aa (s.1 b)],AO.list [aa k,aa g]])):=fun m E r2 r8 r9=>by
   rcases kg with⟨q,e1,e2⟩ | ⟨q,e1,e2⟩<;>rw[e1,e2]
   ·exists r2,r8,r9,hh,d9 xa,d9 xb,Ey q
   ·exists r2,r8,r9,hh,d9 xa,d9 xb,A6 (Nat.le_of_not_lt q)
  ·by_cases q:s.1 a=s.1 b
   ·have ekg:k=g:=by simp only[k,g];exact M3 q
    refine go (r++[AO.list [aa (s.1 a),aa (s.1 b)],AO.list [aa k,aa g]]) jh s (by rw[lq,SQ q]) (hh1 _) (Fr.grow _ _ _) fun m E v0 r0 r2 r3 r8 r9=>⟨ah (ah E 10 (aa k)) 11 (aa g),?_,r0,r2,r3⟩
    have t:=step1 m E r2 r8 r9;unfold iu;exists t,um ekg
   ·have ekg:k≠g:=by simp only[k,g];exact M2 q
    refine go (r++[AO.list [aa (s.1 a),aa (s.1 b)],AO.list [aa k,aa g],AO.list (hl N (eB s.1 k g))]) (r.length+2) (eB s.1 k g,true) (by rw[lq,SL q]) (zk _ _ _ _ _) (Fr.grow _ _ _) fun m E v0 r0 r2 r3 r8 r9=>⟨ah (ah (ah (ah E 10 (aa k)) 11 (aa g)) 2 (.ref (r.length+2+19))) 3 (.bool true),?_,r0,rfl,rfl⟩
    have t:=step1 m E r2 r8 r9;have hc:∀(E:En),E 2=some (.ref (jh+19))->E 10=some (aa k)->E 11=some (aa g)->au ⟨az ak m⟩ (.comp (.ite (.cmp .eq (.loc 13) (.loc 11)) (.loc 10) (.loc 13)) (.one 13) (.loc 2) []) E (F.st (r++[AO.list [aa (s.1 a),aa (s.1 b)],AO.list [aa k,aa g]]))=some (.ref (r.length+2+19),F.st (r++[AO.list [aa (s.1 a),aa (s.1 b)],AO.list [aa k,aa g],AO.list (hl N (eB s.1 k g))])):=fun E r2 r10 r11=>by
     have hg:ip (F.st (r++[AO.list [aa (s.1 a),aa (s.1 b)],AO.list [aa k,aa g]])) [(jh+19,some (hl N s.1))]=true:=bv (hh1 _);refine bm (v:=.ref (jh+19)) (s:=⟨hl N s.1,[(jh+19,some (hl N s.1))]⟩) (Y1:=F.st (r++[AO.list [aa (s.1 a),aa (s.1 b)],AO.list [aa k,aa g]])) (Y2:=F.st (r++[AO.list [aa (s.1 a),aa (s.1 b)],AO.list [aa k,aa g]])) (vs:=hl N (eB s.1 k g)) (aG r2) rfl (aV (aK (cG (hh1 _)))) (cE hg fun x hx=>⟨_,rfl,rfl,?_⟩) (by simp[hl,ay];exact SJ hN (by decide)) KE Kj
     by_cases z:s.1 x=g
     ·rw[show eB s.1 k g x=k from SQ z];exists(show ah E 13 (aa (s.1 x)) 10=_ from r10),(show ah E 13 (aa (s.1 x)) 11=_ from r11),fE z
     ·rw[show eB s.1 k g x=s.1 x from SL z];exists(show ah E 13 (aa (s.1 x)) 10=_ from r10),(show ah E 13 (aa (s.1 x)) 11=_ from r11),iO z
    have hc':=hc (ah (ah E 10 (aa k)) 11 (aa g)) r2 rfl rfl;unfold iu;exists t,Dj ekg,hc'
structure WI(F:Fx)(r:St)(wd pr:Nat)(w:W):Prop where
 world:F.world=w.1.map aJ
 wd:r[wd]?=some (AO.dict [(.sym 20,.ref 18),(.sym 22,.ref (pr+19))])
 pr:r[pr]?=some (AO.list (w.2.map pv))
 lt:∀ x∈w.2,x.1<w.1.length/\x.2<w.1.length
 kids:∀(i op:Nat) (ks:List Nat),w.1[i]?=some (op,ks)->(∀ k∈ks,k<i)/\ks.length<=2
 size:w.1.length<=20
 plen:w.2.length<=30
theorem WI.fr{r r':St}{wd pr:Nat}{w:W}(h:WI F r wd pr w)(f:Fr [] [] r r'):WI F r' wd pr w:={ h with wd:=f.get h.wd,pr:=f.get h.pr }
noncomputable abbrev ze:List S:=[S.asg (ax.many [4,3,5]) (X.tup [X.dct [] [],X.cst (am.bool false),X.blt aO.listOf [X.sub (X.loc 0) (X.cst (am.sym 22))]]),.for_ (.many [6,7]) (.blt .enum [.loc 1]) n9,.for_ (.many [8,9]) (.loc 5) iu]
theorem xg{ws:List Nd}:((ws.map aJ).zipIdx.map fun x=>AV.tup [.int (x.2:Nat),x.1])=(ws.zipIdx 0).map ev:=by
 rw[List.zipIdx_map,TP];rfl
theorem sQ{r:St}{wd pr jh:Nat}{w:W}{hm:Nat->Nat}(H:WI F r wd pr w)(M:Mn w.1.length hm)(hh:r[jh]?=some (AO.list (hl w.1.length hm))){G:Prop}
  (kk:∀ r' jh' s,r'[jh']?=some (AO.list (hl w.1.length (lq s.2 (hm,false)).1))->Fr [] [] r r'->SA w.1 hm w.2 w.1.length s->(∀(m:Nat) (U:En),U 0=some (.ref (wd+19))->U 1=some (.ref 18)->U 2=some (.ref (jh+19))->∃ U',bn ⟨az ak m⟩ ze U (F.st r)=some (none,U',F.st r')/\U' 0=some (.ref (wd+19))/\U' 1=some (.ref 18)/\U' 2=some (.ref (jh'+19))/\U' 3=some (.bool (lq s.2 (hm,false)).2))->G):G:=by
 let r1:St:=r++[AO.dict [],AO.list (w.2.map pv)]
 have hpl:=H.plen;have hsz:=H.size;have g1:r1[r.length]?=some (AO.dict (dA [])):=bN _ _ _;have g2:r1[r.length+1]?=some (AO.list (w.2.map pv)):=iZ _ _ _ _;have lh:=(SR.mp hh).1;refine Jj (F:=F) (N:=w.1.length) (jh:=jh) (js:=r.length) (jt:=r.length+1) (hm:=hm) (Pd) (Te lh) (EW lh) w.1 0 ([],w.2) r1 (fun d hd=>by
   obtain⟨i,hi⟩:=Uc.mp hd;obtain⟨op,ks⟩:=d;obtain⟨q1,q2⟩:=H.kids i op ks hi;have:=(SR.mp hi).1;exact⟨fun k hk=>by have:=q1 k hk;exact T3 this ‹_›,q2⟩) g1 g2 (ag hh _) (SJ (Ug hpl hsz) (by decide)) (by simp;exact SJ hsz (by decide)) _ fun r2 a1 a2 a3 a4=>?_
 have sp:=xU w.1 0 ([],w.2) rfl (SA.init w.1 hm w.2);rw[T7] at sp;have hh2:r2[jh]?=some (AO.list (hl w.1.length hm)):=by rw[a3 jh (by simp[r1];exact Un _ lh) (Te lh) (EW lh)];exact ag hh _
 refine Ji (F:=F) (N:=w.1.length) (jt:=r.length+1) (full:=(tV hm w.1 0 ([],w.2)).2.map pv) (SJ hsz (by decide)) (tV hm w.1 0 ([],w.2)).2 (hm,false) jh r2 (sp.lt H.lt) a1 hh2 _ fun r3 jh' b1 b2 b3=>?_
 have f1:Fr [] [] r r2:=Fr.nil (M1 a2 (by simp[r1]:r1.length=r.length+2)) fun j hj=>by
  rw[a3 j (by simp[r1];exact Un _ hj) (Te hj) (EW hj)]
  exact Tf hj
 refine kk r3 jh' (tV hm w.1 0 ([],w.2)) b1 (f1.trans b2) sp fun m U q0 q1 q2=>?_;have hasg:dS ⟨az ak m⟩ (S.asg (ax.many [4,3,5]) (X.tup [X.dct [] [],X.cst (am.bool false),X.blt aO.listOf [X.sub (X.loc 0) (X.cst (am.sym 22))]])) U (F.st r)=some (none,ah (ah (ah U 4 (.ref (r.length+19))) 3 (.bool false)) 5 (.ref (r.length+1+19)),F.st r1):=by
  have hw:=H.wd;have hp:=H.pr;have hdg:aA [(AV.sym 20,AV.ref 18),(AV.sym 22,AV.ref (pr+19))] (.sym 22)=some (.ref (pr+19)):=rfl;exists q0,hw,hp,hdg
 generalize hE:ah (ah (ah U 4 (.ref (r.length+19))) 3 (.bool false)) 5 (.ref (r.length+1+19))=E at hasg;have E0:E 0=some (.ref (wd+19)):=by rw[<- hE];exact q0
 have E1:E 1=some (.ref 18):=by rw[<- hE];exact q1
 have E2:E 2=some (.ref (jh+19)):=by rw[<- hE];exact q2
 have E3:E 3=some (.bool false):=by rw[<- hE];exact rfl
 have E4:E 4=some (.ref (r.length+19)):=by rw[<- hE];exact rfl
 have E5:E 5=some (.ref (r.length+1+19)):=by rw[<- hE];exact rfl
 obtain⟨E',c1,c2,c3,c4,c5⟩:=a4 m E (.ref (wd+19)) (.bool false) ⟨E0,E1⟩ E2 E3 E4 E5;obtain⟨E'',d1,d2,d3,d4⟩:=b3 m E' (.ref (wd+19)) c2 c3 c4;have x18:F.world.length<=20:=by rw[H.world,S7];exact hsz
 have f2:dS ⟨az ak m⟩ (.for_ (.many [6,7]) (.blt .enum [.loc 1]) n9) E (F.st r1)=some (none,E',F.st r2):=by
  rw[cY (v:=.enm (.ref 18)) (s:=⟨(w.1.zipIdx 0).map ev,[(18,some F.world)]⟩) (Y1:=F.st r1) (by exists E1) rfl ?_]
  ·exact c1
  ·exact(tW (l:=F.world) rfl).trans (by rw[H.world];exact SI (fun l=>some (wX.mk l _)) xg)
 have f3:dS ⟨az ak m⟩ (.for_ (.many [8,9]) (.loc 5) iu) E' (F.st r2)=some (none,E'',F.st r3):=by
  exact(cY (v:=.ref (r.length+1+19)) (s:=⟨(tV hm w.1 0 ([],w.2)).2.map pv,[(r.length+1+19,some ((tV hm w.1 0 ([],w.2)).2.map pv))]⟩) (Y1:=F.st r2) (aG c5) rfl (aV (aK (cG a1)))).trans d1
 refine⟨E'',?_,d2.1,d2.2,d3,d4⟩;exact bK hasg (bK f2 (bK f3 rfl))
end
section
variable{F:Fx}
theorem sP{wd pr:Nat}{w:W}:∀(fuel:Nat) (r:St) (jh:Nat) (hm:Nat->Nat),WI F r wd pr w->Mn w.1.length hm->r[jh]?=some (AO.list (hl w.1.length hm))->mu w.1.length hm+2<fuel->
  ∀(G:Prop),(∀ r' jh' hm',r'[jh']?=some (AO.list (hl w.1.length hm'))->Fr [] [] r r'->Mn w.1.length hm'->(∀ R:Nat->Nat->Prop,bM w.1 R->(∀ x∈w.2,R x.1 x.2)->(∀ x y,hm x=hm y->R x y)->∀ x y,hm' x=hm' y->R x y)->bM w.1 (fun x y=>hm' x=hm' y)->(∀ x∈w.2,hm' x.1=hm' x.2)->(∀(m:Nat) (U:En),U 0=some (.ref (wd+19))->U 1=some (.ref 18)->U 2=some (.ref (jh+19))->U 3=some (.bool true)->∃ U',dN (fun U Y=>jN (au ⟨az ak m⟩ (.loc 3) U Y)) (bn ⟨az ak m⟩ ze) fuel U (F.st r)=some (none,U',F.st r')/\U' 2=some (.ref (jh'+19)))->G)->G:=by
 intro fuel;induction fuel with
 | zero=>exact fun _ _ _ _ _ _ hf=>SP hf MZ
 | succ fuel ih=>
  intro r jh hm H M hh hf G kk;refine sQ H M hh fun r1 jh1 s a1 a2 a3 a4=>?_;have B:=xT (N:=w.1.length) s.2 (hm,false) M (a3.lt H.lt);have cond:∀(m:Nat) (U:En) (r:St) (b:Bool),U 3=some (.bool b)->jN (au ⟨az ak m⟩ (.loc 3) U (F.st r))=some (b,F.st r):=fun m U r b q=>hYY (aG q)
  by_cases q:(lq s.2 (hm,false)).2=true
  ·have hmu:mu w.1.length (lq s.2 (hm,false)).1<mu w.1.length hm:=by
    rcases B.dec with e | ⟨_,e⟩
    ·rw[e] at q;cases q
    ·exact e
   refine ih r1 jh1 (lq s.2 (hm,false)).1 (H.fr a2) B.mn a1 (MY hf hmu) _ fun r' jh' hm' c1 c2 c3 c4 c5 c6 c7=>?_;refine kk r' jh' hm' c1 (a2.trans c2) c3 (fun R C hp hR=>c4 R C hp (B.snd R C.nil (a3.sound C hp hR) hR)) c5 c6 fun m U q0 q1 q2 q3=>?_;obtain⟨U1,d1,d2,d3,d4,d5⟩:=a4 m U q0 q1 q2;rw[q] at d5;obtain⟨U2,e1,e2⟩:=c7 m U1 d2 d3 d4 d5;refine⟨U2,?_,e2⟩;exact AC (cond m U r true q3) d1 e1
  ·have q:(lq s.2 (hm,false)).2=false:=by simpa using q
   have e:lq s.2 (hm,false)=(hm,false):=by
    rcases B.dec with e | ⟨e,_⟩
    ·exact e
    ·rw[q] at e;cases e
   have b4:=B.hit;rw[e] at a1 b4;refine kk r1 jh1 hm a1 a2 M (fun R C hp hR=>hR) (a3.cong b4) (fun x hx=>b4 x (a3.keep x hx)) fun m U q0 q1 q2 q3=>?_;obtain⟨U1,d1,d2,d3,d4,d5⟩:=a4 m U q0 q1 q2;rw[e] at d5;refine⟨U1,?_,d4⟩;obtain⟨f2,rfl⟩:∃ f2,fuel=f2+1:=⟨fuel-1,MX hf⟩;exact AC (cond m U r true q3) d1 (rf (cond m U1 r1 false d5))
theorem pT{r:St}{wd pr:Nat}{w:W}(H:WI F r wd pr w){G:Prop}
  (kk:∀ r' jh hm,Ok 1 10 [.ref (wd+19)] (F.st r) (.ref (jh+19)) (F.st r')->r'[jh]?=some (AO.list (hl w.1.length hm))->Fr [] [] r r'->Mn w.1.length hm->(∀ x y,hm x=hm y↔Cg w.1 w.2 x y)->G):G:=by
 have hsz:=H.size;have hmu:mu w.1.length (fun x=>x)+2<bB:=by
  have h1:=I9 (Mn.id w.1.length);have h2:w.1.length*w.1.length<=20*20:=Nat.mul_le_mul hsz hsz;unfold bB;exact MW h1 h2
 refine sP bB (r++[AO.list (hl w.1.length (fun x=>x))]) r.length (fun x=>x) (H.fr (Fr.grow _ _ _)) (Mn.id _) (bN _ _ _) hmu _ fun r' jh' hm' c1 c2 c3 c4 c5 c6 c7=>?_;refine kk r' jh' hm' (.mk rfl rfl fun m hm=>?_) c1 ((Fr.grow _ _ _).trans c2) c3 fun x y=>⟨fun q=>c4 _ (Cg.congR _ _) (fun x hx=>.pair hx) (fun x y e=>e▸.refl _) x y q,fun q=>q.least c5 fun x y hx=>c6 (x,y) hx⟩;have hasg:dS ⟨az ak m⟩ (.asg (ax.many [1,2,3]) (X.tup [X.sub (X.loc 0) (X.cst (am.sym 20)),X.blt aO.listOf [X.blt aO.range [X.blt aO.len [X.sub (X.loc 0) (X.cst (am.sym 20))]]],X.cst (am.bool true)])) (fun i=>[AV.ref (wd+19)][i]?) (F.st r)=some (none,ah (ah (ah (fun i=>[AV.ref (wd+19)][i]?) 1 (.ref 18)) 2 (.ref (r.length+19))) 3 (.bool true),F.st (r++[AO.list (hl w.1.length (fun x=>x))])):=by
  have hw:=H.wd;have hdg:aA [(AV.sym 20,AV.ref 18),(AV.sym 22,AV.ref (pr+19))] (.sym 20)=some (.ref 18):=rfl;have hl':F.world.length=w.1.length:=by rw[H.world,S7]
  have hle:w.1.length<=50000:=SJ hsz (by decide)
  exists hw,hdg,hl',hle
 obtain⟨U',d1,d2⟩:=c7 m (ah (ah (ah (fun i=>[AV.ref (wd+19)][i]?) 1 (.ref 18)) 2 (.ref (r.length+19))) 3 (.bool true)) rfl rfl rfl rfl;exact JV (bK hasg (bK ((zF ..).trans d1) (C8 (aG d2) rfl))) rfl
end
noncomputable def yi(f:Nat->Nat)(a b:Nat):Nat->Nat:=fun x=>if f x=f b then f a else f x
theorem Bm(f:Nat->Nat)(a b x y:Nat):yi f a b x=yi f a b y↔f x=f y\/(f x=f a/\f y=f b)\/(f x=f b/\f y=f a):=rn
noncomputable def xS:List Pr->(Nat->Nat)->Nat->Nat
 | [],f=>f
 | (a,b)::r,f=>xS r (yi f a b)
structure SC(ps:List Pr)(f g:Nat->Nat):Prop where
 snd:∀ R:Nat->Nat->Prop,bM [] R->(∀ x∈ps,R x.1 x.2)->(∀ x y,f x=f y->R x y)->∀ x y,g x=g y->R x y
 mono:∀ x y,f x=f y->g x=g y
 hit:∀ x∈ps,g x.1=g x.2
theorem xR:∀(ps:List Pr) (f:Nat->Nat),SC ps f (xS ps f):=by
 intro ps;induction ps with
 | nil=>exact fun f=>⟨fun R C _ h=>h,fun _ _ e=>e,nofun⟩
 | cons p ps ih=>
  intro f;have I:=ih (yi f p.1 p.2);have c:=Bm f p.1 p.2;exact⟨fun R C hp hf=>I.snd R C (fun x hx=>hp x (.tail _ hx)) fun x y e=>C.mrg (hp p (.head _)) hf ((c x y).mp e),fun x y e=>I.mono x y ((c x y).mpr (.inl e)),
   fun x hx=>(SW.mp hx).elim (fun r=>r▸I.mono _ _ ((c _ _).mpr (.inr (.inl ⟨rfl,rfl⟩)))) (I.hit x)⟩
noncomputable abbrev tY:List S:=[.asg (.one 4) (.comp (.ite (.cmp .eq (.loc 8) (.sub (.loc 4) (.loc 6))) (.sub (.loc 4) (.loc 5)) (.loc 8)) (.one 8) (.loc 4) [])]
section
variable{F:Fx}
theorem yb{N pr:Nat}{full:List AV}(hN:N<=1000):∀(ps:List Pr) (f:Nat->Nat) (jh:Nat) (r:St),(∀ x∈ps,x.1<N/\x.2<N)->r[pr]?=some (AO.list full)->r[jh]?=some (AO.list (hl N f))->
  ∀(G:Prop),(∀ r' jh',r'[jh']?=some (AO.list (hl N (xS ps f)))->Fr [] [] r r'->(∀(m:Nat) (U:En) (a b:AV),U 1=some a->U 2=some b->U 4=some (.ref (jh+19))->∃ U',dT [(pr+19,some full)] (.many [5,6]) (bn ⟨az ak m⟩ tY) (ps.map pv) U (F.st r)=some (none,U',F.st r')/\U' 1=some a/\U' 2=some b/\U' 4=some (.ref (jh'+19)))->G)->G:=by
 intro ps;induction ps with
 | nil=>exact fun f jh r hd ht hh _ kk=>kk r jh hh (Fr.refl _ _) fun m U a b r1 r2 r4=>⟨U,bU (bv ht),r1,r2,r4⟩
 | cons x ps ih=>
  obtain⟨a,b⟩:=x;intro f jh r hd ht hh G kk;have ha:a<N:=(hd (a,b) (.head _)).1;have hb:b<N:=(hd (a,b) (.head _)).2;have xa:=ku (hm:=f) ha;have xb:=ku (hm:=f) hb;refine ih (yi f a b) r.length (r++[AO.list (hl N (yi f a b))]) (fun x hx=>hd x (.tail _ hx)) (ag ht _) (bN _ _ _) _ fun r' jh' b1 b2 b3=>?_;refine kk r' jh' b1 ((Fr.grow _ _ _).trans b2) fun m U va vb q1 q2 q4=>?_;have hc:∀(E:En),E 4=some (.ref (jh+19))->E 5=some (aa a)->E 6=some (aa b)->bn ⟨az ak m⟩ tY E (F.st r)=some (none,ah E 4 (.ref (r.length+19)),F.st (r++[AO.list (hl N (yi f a b))])):=fun E r4 r5 r6=>by
   have hg:ip (F.st r) [(jh+19,some (hl N f))]=true:=bv hh;have hcc:au ⟨az ak m⟩ (.comp (.ite (.cmp .eq (.loc 8) (.sub (.loc 4) (.loc 6))) (.sub (.loc 4) (.loc 5)) (.loc 8)) (.one 8) (.loc 4) []) E (F.st r)=some (.ref (r.length+19),F.st (r++[AO.list (hl N (yi f a b))])):=by
    refine bm (v:=.ref (jh+19)) (s:=⟨hl N f,[(jh+19,some (hl N f))]⟩) (Y1:=F.st r) (Y2:=F.st r) (vs:=hl N (yi f a b)) (aG r4) rfl (aV (aK (cG hh))) (cE hg fun x hx=>⟨_,rfl,rfl,?_⟩) (by simp[hl,ay];exact SJ hN (by decide)) rfl rfl
    by_cases z:f x=f b
    ·rw[show yi f a b x=f a from SQ z];exists(show ah E 8 (aa (f x)) 4=_ from r4),(show ah E 8 (aa (f x)) 5=_ from r5),(show ah E 8 (aa (f x)) 6=_ from r6),hh,d9 xa,d9 xb,fE z
    ·rw[show yi f a b x=f x from SL z];exists(show ah E 8 (aa (f x)) 4=_ from r4),(show ah E 8 (aa (f x)) 6=_ from r6),hh,d9 xb,iO z
   unfold tY;exists hcc
  obtain⟨U',d1,d2⟩:=b3 m (ah (ah (ah U 5 (aa a)) 6 (aa b)) 4 (.ref (r.length+19))) va vb q1 q2 rfl;exact⟨U',cm (bv ht) rfl (hc (ah (ah U 5 (aa a)) 6 (aa b)) q4 rfl rfl) d1,d2⟩
theorem ud{r:St}{wd pr:Nat}{w:W}(H:WI F r wd pr w){a b:Nat}(ha:a<w.1.length)(hb:b<w.1.length)(full:Bool){G:Prop}
  (kk:∀ r',Ok 2 8 [.ref (wd+19),aa a,aa b,.bool full] (F.st r) (.bool (same (if full then w.1 else[]) w.2 a b)) (F.st r')->Fr [] [] r r'->G):G:=by
 have hsz:=H.size;have hm0:∀(G:Prop),(∀ r1 jh f,(∀ m,1<=m->au ⟨az ak m⟩ (.ite (.loc 3) (.call 10 [.loc 0]) (.blt .listOf [.blt .range [.blt .len [.sub (.loc 0) (.cst (.sym 20))]]])) (fun i=>[AV.ref (wd+19),aa a,aa b,.bool full][i]?) (F.st r)=some (.ref (jh+19),F.st r1))->
   r1[jh]?=some (AO.list (hl w.1.length f))->Fr [] [] r r1->(∀ x y,f x=f y↔Cg (if full then w.1 else[]) (if full then w.2 else[]) x y)->G)->G:=by
  clear kk;intro G kk
  cases full with
  | true=>
   refine pT H fun r' jh hm O h2 h3 _ h5=>?_;exact kk r' jh hm (fun m hm=>(by have t:=O m hm;exists t)) h2 h3 h5
  | false=>
   refine kk (r++[AO.list (hl w.1.length (fun x=>x))]) r.length (fun x=>x) (fun m hm=>?_) (bN _ _ _) (Fr.grow _ _ _) fun x y=>⟨fun e=>(show x=y from e)▸.refl _,fun q=>q.least (R:=fun x y=>x=y) (nW (fun x=>x)) fun x y h=>nomatch(h:(x,y)∈([]:List Pr))⟩
   have hw:=H.wd;have hdg:aA [(AV.sym 20,AV.ref 18),(AV.sym 22,AV.ref (pr+19))] (.sym 20)=some (.ref 18):=rfl;have hl':F.world.length=w.1.length:=by rw[H.world,S7]
   have hle:w.1.length<=50000:=SJ hsz (by decide)
   exists hw,hdg,hl',hle
 refine hm0 _ fun r1 jh f a1 a2 a3 a4=>?_;refine yb (F:=F) (N:=w.1.length) (pr:=pr) (full:=w.2.map pv) (SJ hsz (by decide)) w.2 f jh r1 H.lt (a3.get H.pr) a2 _ fun r2 jh2 b1 b2 b3=>?_
 have c:=xR w.2 f;refine kk r2 (.mk rfl rfl fun m hm=>?_) (a3.trans b2);have hsame:same (if full then w.1 else[]) w.2 a b=decide (xS w.2 f a=xS w.2 f b):=by
  apply nu
  constructor
  ·intro q
   cases full with
   | true=>exact c.mono a b ((a4 a b).mpr q)
   | false=>exact q.least (nW _) fun x y h=>c.hit (x,y) h
  ·refine c.snd _ (Cg.congR _ _).nil (fun x hx=>.pair hx) (fun x y e=>?_) a b;have:=(a4 x y).mp e
   cases full with
   | true=>exact this
   | false=>exact this.least (Cg.congR _ _) fun _ _ h=>by simp at h
 have hasg:dS ⟨az ak m⟩ (.asg (.one 4) (.ite (.loc 3) (.call 10 [.loc 0]) (.blt .listOf [.blt .range [.blt .len [.sub (.loc 0) (.cst (.sym 20))]]]))) (fun i=>[AV.ref (wd+19),aa a,aa b,.bool full][i]?) (F.st r)=some (none,ah (fun i=>[AV.ref (wd+19),aa a,aa b,.bool full][i]?) 4 (.ref (jh+19)),F.st r1):=
  ic (a1 m hm) rfl
 obtain⟨U',d1,d2,d3,d4⟩:=b3 m (ah (fun i=>[AV.ref (wd+19),aa a,aa b,.bool full][i]?) 4 (.ref (jh+19))) (aa a) (aa b) rfl rfl rfl;have hfor:dS ⟨az ak m⟩ (.for_ (.many [5,6]) (.sub (.loc 0) (.cst (.sym 22))) tY) (ah (fun i=>[AV.ref (wd+19),aa a,aa b,.bool full][i]?) 4 (.ref (jh+19))) (F.st r1)=some (none,U',F.st r2):=by
  have hw:=a3.get H.wd;have hp:=a3.get H.pr;have hdg:aA [(AV.sym 20,AV.ref 18),(AV.sym 22,AV.ref (pr+19))] (.sym 22)=some (.ref (pr+19)):=rfl;exact(cY (v:=.ref (pr+19)) (s:=⟨w.2.map pv,[(pr+19,some (w.2.map pv))]⟩) (Y1:=F.st r1) (by exists hw,hdg) rfl (aV (aK (cG hp)))).trans d1
 rw[hsame];have xa:=ku (hm:=xS w.2 f) ha;have xb:=ku (hm:=xS w.2 f) hb;have z:∀{Y},bi .eq Y (aa (xS w.2 f a)) (aa (xS w.2 f b))=some (decide (xS w.2 f a=xS w.2 f b)):=SI some (decide_eq_decide.mpr mx);exists hasg,hfor,d2,d3,d4,b1,d9 xa,d9 xb,z
end
theorem Cp{ws:List Nd}{d:Nd}:∀{i:Nat},ws.Nodup->ws[i]?=some d->(ws.map aJ).findIdx? (fun x=>decide (x=aJ d))=some i:=by
 induction ws with
 | nil=>exact fun _ h=>bZ h
 | cons a ws ih=>
  refine @fun i hn h=>?_;have hh:=Tq.mp hn;rw[List.map_cons,List.findIdx?_cons]
  cases i with
  | zero=>rw[S0 h,SV rfl];rfl
  | succ i=>rw[Tk fun e:aJ a=aJ d=>hh.1 ((jx e).symm▸Tm (show ws[i]?=some d from h)),ih hh.2 h];rfl
theorem zo{ws:List Nd}{d:Nd}(hn:d∉ws):((ws++[d]).map aJ).findIdx? (fun x=>decide (x=aJ d))=some ws.length:=by
 induction ws with
 | nil=>simp[List.findIdx?_cons]
 | cons a ws ih=>
  have hne:¬aJ a=aJ d:=fun e=>hn (by rw[jx e];exact .head _)
  have:=ih fun q=>hn (.tail _ q);rw[List.cons_append,List.map_cons,List.findIdx?_cons];simp only[hne,decide_false,Bool.false_eq_true,if_false,this,Option.map_some,List.length_cons]
theorem jq(ws:List Nd):AV.purs (ws.map aJ)=true:=by
 unfold AV.purs;simp only[List.all_map,List.all_eq_true];exact fun x _=>c8 x
theorem nS{ws:List Nd}{d:Nd}:aJ d∈ws.map aJ↔d∈ws:=
 ⟨fun h=>by obtain⟨e,h1,h2⟩:=Ta.mp h;rw[<- jx h2];exact h1,fun h=>Ta.mpr ⟨d,h,rfl⟩⟩
section
variable{F:Fx}
theorem yq{r:St}{wd pr:Nat}{w:W}(H:WI F r wd pr w)(hnd:w.1.Nodup)(rt:Rk)(d:Nat) :
  Ok 1 7 [.ref (wd+19),rt.av,aa d] (F.st r) (aa (aL rt w.1 d).1) ((F.t18 ((aL rt w.1 d).2.map aJ)).st r):=by
 have hw:=H.wd;have hdg:aA [(AV.sym 20,AV.ref 18),(AV.sym 22,AV.ref (pr+19))] (.sym 20)=some (.ref 18):=rfl;have hwo:=H.world;have hsz:w.1.length+1<=100000:=by have:=H.size;exact MU this
 have hself:(F.t18 (w.1.map aJ))=F:=hwo▸rfl;have p1:AV.pur (.tup [.sym 6])=true:=rfl;have p2:AV.pur (.tup [.sym 7])=true:=rfl;have p3:AV.pur (.tup [.sym 5,.tup [.sym 7]])=true:=rfl;have p4:AV.pur (.tup [.sym 5,aa d])=true:=rfl;refine .mk rfl (by cases rt<;>rfl) fun m hm=>?_
 have main:∀(nd:Nd) (E:En) (F0:Fx),F0=F->E 0=some (.ref (wd+19))->E 3=some (aJ nd)->ed (bn ⟨az ak m⟩ [.ite (.cmp .notIn (.loc 3) (.sub (.loc 0) (.cst (.sym 20)))) [.expr (.meth (.sub (.loc 0) (.cst (.sym 20))) 27 [.loc 3])] [],.ret (.meth (.sub (.loc 0) (.cst (.sym 20))) 30 [.loc 3])] E (F0.st r))=some (aa (qo w.1 nd).1,(F.t18 ((qo w.1 nd).2.map aJ)).st r):=fun nd E F0 hF r0 r3=>by
  subst hF;have hp:=c8 nd
  by_cases q:nd∈w.1
  ·obtain⟨i,hi⟩:=Uc.mp q;rw[nZ hnd hi];dsimp only;rw[hself];have hm':aJ nd∈w.1.map aJ:=nS.mpr q;have hf:=Cp hnd hi;simp only[<- hwo] at hm' hf;have hps:=jq w.1;rw[<- hwo] at hps;exists r0,r3,hw,hdg,jm hp hps,SV hm',hf
  ·rw[n7 q];have hm':¬aJ nd∈w.1.map aJ:=fun z=>q (nS.mp z);have hf:=zo q;have hps:=jq w.1;have hps2:=jq (w.1++[nd]);rw[Th] at hf hps2;simp only[List.map_cons,List.map_nil] at hf hps2;have hle:F0.world.length+1<=ay:=by rw[hwo,S7];exact hsz
   dsimp only;rw[Th,List.map_cons,List.map_nil];rw[<- hwo] at hm' hf hps hps2 ⊢;exists r0,r3,hw,hdg,jm hp hps,jm hp hps2,Tk hm',hle,hf
 cases rt with
 | c=>exact uO (by exists trivial) (uO (by exists trivial) (main (6,[]) (ah (fun i=>[AV.ref (wd+19),Rk.av .c,aa d][i]?) 3 (aJ (6,[]))) F rfl rfl rfl))
 | x=>
  have:aL .x w.1 d=(d,w.1):=rfl;rw[this];dsimp only;rw[hself];exists trivial
 | h=>exact uO (by exists trivial) (uO (by exists trivial) (main (5,[d]) (ah (fun i=>[AV.ref (wd+19),Rk.av .h,aa d][i]?) 3 (aJ (5,[d]))) F rfl rfl rfl))
end
theorem vz(rt:Rk)(ws:List Nd)(d:Nat):∃ l,(aL rt ws d).2=ws++l/\l.length<=1:=by
 have:∀ nd,∃ l,(qo ws nd).2=ws++l/\l.length<=1:=fun nd=>by
  unfold qo
  cases lk ws.zipIdx nd with
  | some i=>exact⟨[],by simp,by simp⟩
  | none=>exact⟨[nd],rfl,by simp⟩
 cases rt with
 | x=>exact⟨[],by simp[aL],by simp⟩
 | c=>exact this _
 | h=>exact this _
theorem y8(ws:List Nd)(nd:Nd):(qo ws nd).1<(qo ws nd).2.length:=by
 unfold qo
 cases h:lk ws.zipIdx nd with
 | some i=>
  have:=fi h;rw[List.mk_mem_zipIdx_iff_getElem?] at this;exact(SR.mp this).1
 | none=>simp
theorem yg(rt:Rk)(ws:List Nd)(d:Nat)(h:d<ws.length):(aL rt ws d).1<(aL rt ws d).2.length:=by
 cases rt with
 | x=>exact h
 | c=>exact y8 _ _
 | h=>exact y8 _ _
theorem qn{ws:List Nd}{nd:Nd}(hk:∀(i op:Nat) (ks:List Nat),ws[i]?=some (op,ks)->(∀ k∈ks,k<i)/\ks.length<=2)(h1:∀ k∈nd.2,k<ws.length)(h2:nd.2.length<=2) :
  ∀(i op:Nat) (ks:List Nat),(qo ws nd).2[i]?=some (op,ks)->(∀ k∈ks,k<i)/\ks.length<=2:=by
 unfold qo
 cases h:lk ws.zipIdx nd with
 | some i=>exact hk
 | none=>
  intro i op ks hi
  rcases fZ hi with q | ⟨rfl,rfl⟩
  ·exact hk i op ks q.2
  ·exact⟨h1,h2⟩
theorem mK{ws:List Nd}{nd:Nd}(h:ws.Nodup):(qo ws nd).2.Nodup:=by
 unfold qo
 cases hl:lk ws.zipIdx nd with
 | some i=>exact h
 | none=>
  refine Ts.mpr ⟨h,by simp,fun a ha b hb e=>?_⟩
  simp at hb;subst hb e;obtain⟨i,hi⟩:=Uc.mp ha;rw[sI h hi] at hl;cases hl
theorem rO{ws:List Nd}{d:Nat}(rt:Rk)(hk:∀(i op:Nat) (ks:List Nat),ws[i]?=some (op,ks)->(∀ k∈ks,k<i)/\ks.length<=2)(h1:d<ws.length) :
  ∀(i op:Nat) (ks:List Nat),(aL rt ws d).2[i]?=some (op,ks)->(∀ k∈ks,k<i)/\ks.length<=2:=by
 cases rt with
 | x=>exact hk
 | c=>exact qn hk (by simp) (by simp)
 | h=>exact qn hk (by simpa using h1) (by simp)
theorem iN{ws:List Nd}{d:Nat}(rt:Rk)(h:ws.Nodup):(aL rt ws d).2.Nodup:=by
 cases rt with
 | x=>exact h
 | c=>exact mK h
 | h=>exact mK h
section
variable{F:Fx}{like:Option Bool}{rt:Rk}{lf:Lf}
def ES(F:Fx)(rt:Rk)(lf:Lf)(r:St)(wd pr ru n d:Nat)(w:W)(fv:List AV)(G:Prop):Prop:=∀{like:Option Bool} (H:WI F r wd pr w) (hnd:w.1.Nodup) (hUU:r[ru]?=some (cj lf rt like)) (p:cV w.1 lf n d fv) (hsz:w.1.length+1<=20) (hpl:w.2.length+1<=30) (kk:∀ r',Ok 3 9 [.ref (wd+19),.ref (ru+19),.tup [aa n,.tup fv]] (F.st r) (.bool (bk like rt w n d).1) ((F.t18 ((bk like rt w n d).2.1.map aJ)).st r')->WI (F.t18 ((bk like rt w n d).2.1.map aJ)) r' wd pr (bk like rt w n d).2->(bk like rt w n d).2.1.Nodup->r.length<=r'.length->(∀ j,j<r.length->j≠pr->r'[j]?=r[j]?)->(∃ l,(bk like rt w n d).2.1=w.1++l/\l.length<=1)->(bk like rt w n d).2.2.length<=w.2.length+1->G),G
def IE(a:Fx×Rk×Lf×St×Nat×Nat×Nat×Nat×Nat×W×List AV×Prop):Prop:=ES a.1 a.2.1 a.2.2.1 a.2.2.2.1 a.2.2.2.2.1 a.2.2.2.2.2.1 a.2.2.2.2.2.2.1 a.2.2.2.2.2.2.2.1 a.2.2.2.2.2.2.2.2.1 a.2.2.2.2.2.2.2.2.2.1 a.2.2.2.2.2.2.2.2.2.2.1 a.2.2.2.2.2.2.2.2.2.2.2
noncomputable def iY:=lN (Ds,.c,.f1,default) IE
noncomputable def vO:=iY.1
noncomputable def dD:=iY.2.1
noncomputable def IC:=iY.2.2.1
noncomputable def ER:=iY.2.2.2.1
noncomputable def vN:=iY.2.2.2.2.1
noncomputable def sq:=iY.2.2.2.2.2.1
noncomputable def BB:=iY.2.2.2.2.2.2.1
noncomputable def wS:=iY.2.2.2.2.2.2.2.1
noncomputable def mw:=iY.2.2.2.2.2.2.2.2.1
noncomputable def gY:=iY.2.2.2.2.2.2.2.2.2.1
noncomputable def yx:=iY.2.2.2.2.2.2.2.2.2.2.1
noncomputable def ID:=iY.2.2.2.2.2.2.2.2.2.2.2
theorem LC:ES vO dD IC ER vN sq BB wS mw gY yx ID:=fun{like} H hnd hUU p hsz hpl kk=>by
 obtain⟨es,es',p1,p2,p3,p4,p5,_⟩:=p.data;have hdn:=p.dlt fun i op ks hi=>(H.kids i op ks hi).1;have hnl:=jr p.op;have hdl:mw<gY.1.length:=T3 hdn hnl;have hself:(vO.t18 (gY.1.map aJ))=vO:=H.world▸rfl
 let r1:St:=ER++[AO.dict es']
 have H1:WI vO r1 vN sq gY:=H.fr (Fr.grow _ _ _);have hU1:r1[BB]?=some (cj IC dD like):=ag hUU _
 let E:En:=ah (ah (ah (ah (fun i=>[AV.ref (vN+19),.ref (BB+19),.tup [aa wS,.tup yx]][i]?) 3 (aa wS)) 4 (.tup yx)) 5 (aa mw)) 6 (.bool like.isSome)
 have q2:∀ m,dS ⟨az ak m⟩ (S.asg (ax.many [5,6]) (X.tup [X.sub (X.blt aO.dict [X.loc 4]) (X.cst (am.sym 7)),X.cmp aS.ne (X.attr (X.loc 1) 18) (X.tup [])])) (ah (ah (fun i=>[AV.ref (vN+19),.ref (BB+19),.tup [aa wS,.tup yx]][i]?) 3 (aa wS)) 4 (.tup yx)) (vO.st ER)=some (none,E,vO.st r1):=fun m=>by
  have p5:vO.st ER++[AO.dict (List.foldl (fun es p=>aU es p.1 p.2) [] es)]=vO.st r1:=by rw[p3];rfl
  have hb:∀ b:Bool,((AV.tup [.tup [.sym (if b=true then 11 else 12),.tup [.sym 7],.tup [.sym 1]]]).pur&&(AV.tup []).pur)=true:=fun b=>by cases b<;>rfl
  cases like with
  | none=>exists p1,p2,p5,p4,hU1
  | some b=>exists p1,p2,p5,p4,hU1,hb b
 have asked:∀(ID:Prop),(∀ r2,(∀ m,2<=m->au ⟨az ak m⟩ (.and (.loc 6) (.cmp .ne (.call 8 [.loc 0,.loc 5,.cst (.int 0),.cst (.bool true)]) (.cmp .eq (.sub (.sub (.attr (.loc 1) 18) (.cst (.int 0))) (.cst (.int 0))) (.cst (.sym 11))))) E (vO.st r1)=some (.bool (E8 like gY mw),vO.st r2))->Fr [] [] r1 r2->ID)->ID:=by
  clear kk;intro ID kk
  cases hlk:like with
  | none=>
   have r6:E 6=some (.bool false):=by show some (AV.bool like.isSome)=_;rw[hlk];rfl
   exact kk r1 (fun m hm=>by rw[hlk];exact C1 (aG r6) (Kg rfl)) (Fr.refl _ _)
  | some b=>
   have r6:E 6=some (.bool true):=by show some (AV.bool like.isSome)=_;rw[hlk];rfl
   refine ud H1 hdl (Nat.zero_lt_of_lt hnl:0<gY.1.length) true fun r2 O f=>?_;refine kk r2 (fun m hm=>?_) f;rw[hlk];have t:=O m hm;have hU2:=f.get hU1;have hb:∀{Y},bi .eq Y (.sym (if b=true then 11 else 12)) (.sym 11)=some b:=by cases b<;>exact fun{Y}=>rfl
   rw[hlk] at hU2;exists r6,t,hU2,hb
 refine asked _ fun r2 s2 f2=>?_;clear asked;have H2:=H1.fr f2;have hU2:=f2.get hU1
 cases hmis:E8 like gY mw with
 | true=>
  have hls:bk like dD gY wS mw=(false,gY):=by unfold bk;rw[SQ hmis]
  rw[hls] at kk;dsimp only at kk;rw[hself] at kk;refine kk r2 (.mk rfl rfl fun m hm=>?_) H2 hnd ((Fr.grow _ _ _).trans f2).len (fun j hj _=>((Fr.grow [] ER _).trans f2).same j hj nofun) ⟨[],(Tr _).symm,Tb _⟩ (T0 _)
  have t:=s2 m hm;rw[hmis] at t;exists q2 m,t
 | false=>
  have t4:=yq H2 hnd dD mw;obtain⟨l,l1,l2⟩:=vz dD gY.1 mw;have hrl:=yg dD gY.1 mw hdl;have hn2:wS<(aL dD gY.1 mw).2.length:=by rw[l1,SZ];exact Un _ hnl
  have H3:WI (vO.t18 ((aL dD gY.1 mw).2.map aJ)) r2 vN sq ((aL dD gY.1 mw).2,gY.2):=
   ⟨rfl,H2.wd,H2.pr,fun x hx=>by have:=H.lt x hx;dsimp only;rw[l1,SZ];exact MT this,rO dD H.kids hdl,by dsimp only;rw[l1,SZ];exact MS hsz l2,H.plen⟩
  refine ud H3 hn2 hrl like.isSome fun r3 O f3=>?_;dsimp only at O;have H4:=H3.fr f3;have hU3:=f3.get hU2;have Q:∀ m,2<=m->au ⟨az ak m⟩ (.and (.loc 6) (.cmp .ne (.call 8 [.loc 0,.loc 5,.cst (.int 0),.cst (.bool true)]) (.cmp .eq (.sub (.sub (.attr (.loc 1) 18) (.cst (.int 0))) (.cst (.int 0))) (.cst (.sym 11))))) E (vO.st r1)=some (.bool false,vO.st r2):=fun m hm=>by
   have t:=s2 m hm;rw[hmis] at t;exact t
  cases hans:same (if like.isSome then(aL dD gY.1 mw).2 else[]) gY.2 wS (aL dD gY.1 mw).1 with
  | true=>
   have hls:bk like dD gY wS mw=(false,((aL dD gY.1 mw).2,gY.2)):=by
    unfold bk;rw[SL (by rw[hmis];simp)];dsimp only;rw[SQ hans]
   rw[hls] at kk;refine kk r3 (.mk rfl rfl fun m hm=>?_) H4 (iN dD hnd) (((Fr.grow _ _ _).trans f2).trans f3).len (fun j hj _=>(((Fr.grow [] ER _).trans f2).trans f3).same j hj nofun) ⟨l,l1,l2⟩ (T0 _)
   have t:=O m hm;rw[hans] at t;exists q2 m,Q m hm,hU2,dD.it,t4 m (SJ (by decide) hm),t
  | false=>
   have hls:bk like dD gY wS mw=(true,((aL dD gY.1 mw).2,gY.2++[(wS,(aL dD gY.1 mw).1)])):=by
    unfold bk;rw[SL (by rw[hmis];simp)];dsimp only;rw[SL (by rw[hans];simp)]
   rw[hls] at kk;have hpr:=H4.pr;have hwd:=H4.wd;have hprl:=(SR.mp hpr).1;have hne:vN≠sq:=fun e=>by rw[e] at hwd;rw[hwd] at hpr;cases hpr
   refine kk (r3.set sq (AO.list (gY.2.map pv++[pv (wS,(aL dD gY.1 mw).1)]))) (.mk rfl rfl fun m hm=>?_) ⟨H4.world,?_,?_,fun x hx=>?_,H4.kids,H4.size,by rw[SZ];exact hpl⟩ (iN dD hnd) (by rw[Uu];exact(((Fr.grow _ _ _).trans f2).trans f3).len) (fun j hj hjp=>?_) ⟨l,l1,l2⟩ (by rw[SZ];exact SN _)
   ·have t:=O m hm;rw[hans] at t;have hdg:aA [(AV.sym 20,AV.ref 18),(AV.sym 22,AV.ref (sq+19))] (.sym 22)=some (.ref (sq+19)):=rfl;have hle:(gY.2.map pv).length+1<=ay:=by rw[S7];exact SJ hpl (by decide)
    dsimp only at hpr;exists q2 m,Q m hm,hU2,dD.it,t4 m (SJ (by decide) hm),t,hwd,hdg,hpr,hle
   ·rw[Tt (fun q=>hne q.symm)];exact hwd
   ·rw[TY hprl];simp
   ·rcases Tg.mp hx with q | q
    ·exact H4.lt x q
    ·rw[SY.mp q];exact⟨hn2,hrl⟩
   ·rw[Tt (fun q=>hjp q.symm)];exact(((Fr.grow [] ER _).trans f2).trans f3).same j hj (by simp)
theorem ui{r:St}{wd pr ru n d:Nat}{w:W}{fv:List AV}{G:Prop}:ES F rt lf r wd pr ru n d w fv G:=bF IE LC (F,rt,lf,r,wd,pr,ru,n,d,w,fv,G)
end
def DP(F:Fx)(b:Nat):Prop:=∃(cs:List Int) (a:Nat),F.cells=cs.map .int/\F.ato=(a:Int)/\a<=b
theorem uz{x:Int}{k:Nat}(hk:0<k){G:Prop}
  (kk:∀ v,v<k->AV.int (x%(k:Int))=aa v->G):G:=by
 have h1:=Int.emod_nonneg x (MR hk:(k:Int)≠0);have h2:=Int.emod_lt_of_pos x (IU hk:(0:Int)<k);exact kk (x%(k:Int)).toNat ((Int.toNat_lt h1).mpr h2) (SI AV.int (Int.toNat_of_nonneg h1).symm)
section
variable{F:Fx}
theorem cK{r:St}{b k:Nat}(D:DP F b)(hb:b<=1000)(hk:0<k){G:Prop}
  (kk:∀(v:Nat) (a:Int),v<k->Ok 1 4 [.ref 2,aa k] (F.st r) (aa v) ((F.t2 a).st r)->DP (F.t2 a) (b+1)->G):G:=by
 obtain⟨cs,a,hc,ha,hab⟩:=D;have hkk:(0:Int)<(k:Int):=IU hk;have hs:(F.st r).set 2 (.dict (aU [(.sym 23,.ref 1),(.sym 24,.int F.ato)] (.sym 24) (.int (F.ato+1))))=(F.t2 (((a+1:Nat):Int))).st r:=by rw[ha];rfl
 by_cases q:a<cs.length
 ·refine uz (x:=cs[a]) hk fun v v1 v2=>?_;refine kk v (a+1:Nat) v1 (.mk rfl rfl fun m hm=>?_) ⟨cs,a+1,hc,rfl,T9 hab⟩;have q':F.ato<(F.cells.length:Int):=by rw[ha,hc,S7];exact MQ q
  have g:BC F.cells F.ato=some (.int cs[a]):=by rw[ha,hc];exact d9 (by rw[TD,TC q];rfl)
  rw[<- v2];exists hs,SV q',g,hkk
 ·refine uz (x:=((4*F.ato*F.ato+3*F.ato+5)%73)) hk fun v v1 v2=>?_;refine kk v (a+1:Nat) v1 (.mk rfl rfl fun m hm=>?_) ⟨cs,a+1,hc,rfl,T9 hab⟩;have q':¬F.ato<(F.cells.length:Int):=by rw[ha,hc,S7];exact MP q
  have m0:F.ato.natAbs<2^31:=by rw[ha];exact Tj hab (Tj hb (by decide))
  have m1:Int.natAbs 4<2^31/\F.ato.natAbs<2^31:=⟨by decide,m0⟩
  have m2:(4*F.ato).natAbs<2^31/\F.ato.natAbs<2^31:=⟨by rw[Int.natAbs_mul,ha];exact Tj (Nat.mul_le_mul_left 4 (SJ hab hb)) (by decide),m0⟩
  have m3:Int.natAbs 3<2^31/\F.ato.natAbs<2^31:=⟨by decide,m0⟩
  have m4:(0:Int)<73:=by decide
  rw[<- v2];exists hs,Tk q',m1,m2,m3,m4,hkk
end
structure NG(ws:List Nd):Prop where
 nd:ws.Nodup
 a:ws[0]?=some (1,[])
 b:ws[1]?=some (2,[])
 kids:∀(i op:Nat) (ks:List Nat),ws[i]?=some (op,ks)->(∀ k∈ks,k<i)/\((op=1\/op=2)/\ks=[]\/op=3/\ks.length=1\/op=4/\ks.length=2)
theorem NG.init:NG [(1,[]),(2,[])]:=by
 refine⟨by decide,rfl,rfl,fun i op ks h=>?_⟩
 cases i with
 | zero=>cases h;exact⟨nofun,.inl ⟨.inl rfl,rfl⟩⟩
 | succ i=>
  cases i with
  | zero=>cases h;exact⟨nofun,.inl ⟨.inr rfl,rfl⟩⟩
  | succ i=>cases h
theorem NG.snoc{ws:List Nd}(h:NG ws){nd:Nd}(hn:nd∉ws)(hk:∀ k∈nd.2,k<ws.length)(ho:nd.1=3/\nd.2.length=1\/nd.1=4/\nd.2.length=2):NG (ws++[nd]):=by
 refine⟨Ts.mpr ⟨h.nd,by simp,fun a ha b hb e=>?_⟩,fO h.a,fO h.b,fun i op ks hi=>?_⟩
 ·simp at hb;subst hb e;exact hn ha
 ·rcases fZ hi with q | ⟨rfl,rfl⟩
  ·exact h.kids i op ks q.2
  ·exact⟨hk,.inr ho⟩
noncomputable abbrev NB:List S:=[S.asg (ax.one 3) (X.bin cQ.add (X.cst (am.int 1)) (X.call 4 [X.loc 0,X.cst (am.int 2)])),S.asg (ax.one 4) (X.bin cQ.add (X.tup [X.sub (X.cst (am.sym 10)) (X.bin cQ.sub (X.loc 3) (X.cst (am.int 1)))]) (X.blt aO.tupleOf [X.comp (X.call 4 [X.loc 0,X.blt aO.len [X.loc 1]]) (ax.one 6) (X.blt aO.range [X.loc 3]) []])),S.ite (X.cmp aS.notIn (X.loc 4) (X.loc 1)) [S.expr (X.meth (X.loc 1) 27 [X.loc 4])] []]
theorem sA{F:Fx}{r:St}{ws:List Nd}{b:Nat}(D:DP F b)(hw:F.world=ws.map aJ)(N:NG ws)(hb:b+3<=1000)(hl:ws.length<=100){G:Prop}
  (kk:∀(a:Int) (l:St) (ws':List Nd),(∀ m,1<=m->∀ U:En,U 0=some (.ref 2)->U 1=some (.ref 18)->∃ U',bn ⟨az ak m⟩ NB U (F.st r)=some (none,U',((F.t2 a).t18 (ws'.map aJ)).st (r++l))/\U' 0=some (.ref 2)/\U' 1=some (.ref 18))->DP ((F.t2 a).t18 (ws'.map aJ)) (b+3)->NG ws'->ws'.length<=ws.length+1->G):G:=by
 have hpos:0<ws.length:=(SR.mp N.a).1;refine cK (r:=r) D (MO hb) (by decide:0<2) fun v a1 hv O1 D1=>?_
 have last:∀(nd:Nd) (a:Int) (b':Nat) (l:St),DP (F.t2 a) b'->b'<=b+3->(∀ k∈nd.2,k<ws.length)->(nd.1=3/\nd.2.length=1\/nd.1=4/\nd.2.length=2)->
   (∀ m,1<=m->∀ U:En,U 0=some (.ref 2)->U 1=some (.ref 18)->∃ U',(∀ y,bn ⟨az ak m⟩ [S.ite (X.cmp aS.notIn (X.loc 4) (X.loc 1)) [S.expr (X.meth (X.loc 1) 27 [X.loc 4])] []] U' ((F.t2 a).st (r++l))=y->bn ⟨az ak m⟩ NB U (F.st r)=y)/\U' 0=some (.ref 2)/\U' 1=some (.ref 18)/\U' 4=some (aJ nd))->
   G:=fun nd a b' l D' hb' hk ho hrun=>by
  have hp:=c8 nd;have hps:=jq ws;rw[<- hw] at hps;obtain⟨cs,x,y1,y2,y3⟩:=D'
  by_cases q:nd∈ws
  ·have hm':aJ nd∈F.world:=by rw[hw];exact nS.mpr q
   refine kk a l ws (fun m hm U r0 r1=>?_) ⟨cs,x,y1,y2,IT hb' y3⟩ N o0;obtain⟨U',e,s0,s1,s4⟩:=hrun m hm U r0 r1;refine⟨U',e _ ?_,s0,s1⟩;rw[<- hw];exists s0,s1,s4,jm hp hps,SV hm'
  ·have hm':¬aJ nd∈F.world:=by rw[hw];exact fun z=>q (nS.mp z)
   refine kk a l (ws++[nd]) (fun m hm U r0 r1=>?_) ⟨cs,x,y1,y2,IT hb' y3⟩ (N.snoc q hk ho) (by rw[SZ];exact SN _)
   obtain⟨U',e,s0,s1,s4⟩:=hrun m hm U r0 r1;refine⟨U',e _ ?_,s0,s1⟩;have hle:F.world.length+1<=ay:=by rw[hw,S7];unfold ay;exact Pe hl
   rw[Th,<- hw];exists s0,s1,s4,jm hp hps,Tk hm',hle
 have hwl:F.world.length=ws.length:=by rw[hw,S7]
 rcases(IS hv:v=0\/v=1) with rfl | rfl
 ·refine cK (r:=r) D1 (IR hb) hpos fun k a2 hk O2 D2=>?_;refine last (3,[k]) a2 (b+1+1) [.list [aa k]] D2 (MN) (by simpa using hk) (.inl ⟨rfl,rfl⟩) fun m hm U r0 r1=>?_
  have t1:=O1 m hm;have t2:=O2 m hm;refine⟨ah (ah U 3 (.int 1)) 4 (aJ (3,[k])),fun y hy=>bK (U1:=ah U 3 (.int 1)) (Y1:=(F.t2 a1).st r) (by exists r0,t1) (bK ?_ hy),r0,r1,rfl⟩
  have hc:au ⟨az ak m⟩ (X.comp (X.call 4 [X.loc 0,X.blt aO.len [X.loc 1]]) (ax.one 6) (X.blt aO.range [X.loc 3]) []) (ah U 3 (.int 1)) ((F.t2 a1).st r)=some (.ref (r.length+19),(F.t2 a2).st (r++[.list [aa k]])):=by
   refine bm (v:=.rng 1) (s:=⟨[.int 0],[]⟩) (Y1:=(F.t2 a1).st r) (Y2:=(F.t2 a2).st r) (vs:=[aa k]) (by exists trivial) rfl rfl ?_ (S8 rfl) rfl rfl
   exists(show ah (ah U 3 (.int 1)) 6 (.int 0) 0=_ from r0),(show ah (ah U 3 (.int 1)) 6 (.int 0) 1=_ from r1),hwl,t2
  exists hc
 ·refine cK (r:=r) D1 (IR hb) hpos fun k1 a2 hk1 O2 D2=>?_;refine cK (r:=r) D2 (MM hb) hpos fun k2 a3 hk2 O3 D3=>?_;refine last (4,[k1,k2]) a3 (b+1+1+1) [.list [aa k1,aa k2]] D3 (ML) (by simp;exact⟨hk1,hk2⟩) (.inr ⟨rfl,rfl⟩) fun m hm U r0 r1=>?_
  have t1:=O1 m hm;have t2:=O2 m hm;have t3:=O3 m hm;refine⟨ah (ah U 3 (.int 2)) 4 (aJ (4,[k1,k2])),fun y hy=>bK (U1:=ah U 3 (.int 2)) (Y1:=(F.t2 a1).st r) (by exists r0,t1) (bK ?_ hy),r0,r1,rfl⟩
  have hc:au ⟨az ak m⟩ (X.comp (X.call 4 [X.loc 0,X.blt aO.len [X.loc 1]]) (ax.one 6) (X.blt aO.range [X.loc 3]) []) (ah U 3 (.int 2)) ((F.t2 a1).st r)=some (.ref (r.length+19),(F.t2 a3).st (r++[.list [aa k1,aa k2]])):=by
   refine bm (v:=.rng 2) (s:=⟨[.int 0,.int 1],[]⟩) (Y1:=(F.t2 a1).st r) (Y2:=(F.t2 a3).st r) (vs:=[aa k1,aa k2]) (by exists trivial) rfl rfl ?_ (S8 rfl) rfl rfl
   exists(show ah (ah U 3 (.int 2)) 6 (.int 0) 0=_ from r0),(show ah (ah U 3 (.int 2)) 6 (.int 0) 1=_ from r1),(show ah (ah U 3 (.int 2)) 6 (.int 1) 0=_ from r0),(show ah (ah U 3 (.int 2)) 6 (.int 1) 1=_ from r1),hwl,t2,t3
  exists hc
theorem sB:∀(vs:List AV) {F:Fx} {r:St} {ws:List Nd} {b:Nat},DP F b->F.world=ws.map aJ->NG ws->b+3*vs.length<=1000->ws.length+vs.length<=100->
  ∀(G:Prop),(∀(a:Int) (l:St) (ws':List Nd),(∀ m,1<=m->∀ U:En,U 0=some (.ref 2)->U 1=some (.ref 18)->∃ U',dT [] (.one 2) (bn ⟨az ak m⟩ NB) vs U (F.st r)=some (none,U',((F.t2 a).t18 (ws'.map aJ)).st (r++l))/\U' 1=some (.ref 18))->DP ((F.t2 a).t18 (ws'.map aJ)) (b+3*vs.length)->NG ws'->ws'.length<=ws.length+vs.length->G)->G
 :=by
 intro vs;induction vs with
 | nil=>exact fun{F r ws b} D hw N hb hl G kk=>kk F.ato [] ws (fun m hm U r0 r1=>⟨U,by rw[<- hw,Tr];exact bU rfl,r1⟩) (by rw[<- hw];exact D) N (SN _)
 | cons v vs ih=>
  intro F r ws b D hw N hb hl G kk;refine sA (r:=r) D hw N (MK hb) (MJ hl) fun a1 l1 ws1 e1 D1 N1 h1=>?_;refine ih (r:=r++l1) D1 rfl N1 (MH hb) (MG hl h1) _ fun a2 l2 ws2 e2 D2 N2 h2=>?_;refine kk a2 (l1++l2) ws2 (fun m hm U r0 r1=>?_) ?_ N2 (I0 h1 h2)
  ·obtain⟨U1,s1,s2,s3⟩:=e1 m hm (ah U 2 v) r0 r1;obtain⟨U2,u1,u2⟩:=e2 m hm U1 s2 s3;refine⟨U2,?_,u2⟩;rw[<- S6];exact cm rfl rfl s1 u1
  ·obtain⟨cs,x,y1,y2,y3⟩:=D2;exact⟨cs,x,y1,y2,MF y3⟩
noncomputable def Fx.pre(F:Fx):St:=(F.st []).take 18
theorem Bp(F:Fx):F.pre.length=18:=rfl
theorem nG{F:Fx}{b:Nat}(D:DP F b)(hb:b<=900){G:Prop}
  (kk:∀(a:Int) (l:St) (ws:List Nd),Ok 2 5 [.ref 2] F.pre (.ref 18) (((F.t2 a).t18 (ws.map aJ)).st l)->DP ((F.t2 a).t18 (ws.map aJ)) (b+20)->NG ws->ws.length<=7->G):G:=by
 let F0:Fx:=(F.t18 ([.tup [.sym 1],.tup [.sym 2]]))
 have D0:DP F0 b:=D;refine cK (r:=[]) D0 (SJ hb (by decide)) (by decide:0<4) fun v a1 hv O1 D1=>?_
 refine sB ((List.range (2+v)).map fun(i:Nat)=>.int i) (F:=(F0.t2 a1)) (r:=[]) (ws:=[(1,[]),(2,[])]) D1 rfl NG.init (by simp;exact ME hb hv) (by simp;exact MD hv) _ fun a2 l ws e D2 N h1=>?_
 refine kk a2 l ws (.mk rfl rfl fun m hm=>?_) ?_ N (by simp at h1;exact MC hv h1)
 ·obtain⟨U',s1,s2⟩:=e m hm (ah (fun i=>[AV.ref 2][i]?) 1 (.ref 18)) rfl rfl;have t:=O1 m hm;have hz:(2:Int)+v=((2+v:Nat):Int):=MB;have hb:∀{Y},cq .range [.int (2+(v:Int))] Y=some (.rng (2+v),Y):=by intro Y;rw[hz];exact DC (MA hv)
  have hfor:dS ⟨az ak m⟩ (.for_ (.one 2) (.blt .range [.bin .add (.cst (.int 2)) (.call 4 [.loc 0,.cst (.int 4)])]) NB) (ah (fun i=>[AV.ref 2][i]?) 1 (.ref 18)) (F0.st [])=some (none,U',((F.t2 a2).t18 (ws.map aJ)).st l):=
   (cY (v:=.rng (2+v)) (s:=⟨(List.range (2+v)).map fun(i:Nat)=>.int i,[]⟩) (Y1:=(F0.t2 a1).st []) (by exists t,hb) rfl rfl).trans s1
  exists Bp F,(rfl:F.pre++[AO.list [.tup [.sym 1],.tup [.sym 2]]]=F0.st []),hfor,s2
 ·obtain⟨cs,x,y1,y2,y3⟩:=D2;exact⟨cs,x,y1,y2,by simp at y3;exact Mz hv y3⟩
structure bH(h:HS):Prop where
 cl:∀ x,h.cl x=x
 ex:h.ex=[]
 wt:h.wt=[]
 bud:h.bud=0
 lt:∀ x,x<h.ns.length->h.lt x=[aa x]
noncomputable def h0:HS:=⟨[],fun x=>x,[],[],fun _=>[],fun _=>[],[],[],[],[],0⟩
structure PW(F:Fx):Prop where
 nodes:F.nodes=[]
 numbers:F.numbers=[]
 weights:F.weights=[]
 depths:F.depths=[]
 up:F.up=[]
 lots:F.lots=[]
 merged:F.merged=[]
 edges:F.edges=[]
 forest:F.forest=[]
 known:F.known=[]
 above:F.above=[]
 waiting:F.waiting=[]
theorem HI.empty{F:Fx}{r:St}(e:PW F):HI F r h0 where
 nodes:=e.nodes
 numbers:=e.numbers
 nd:=Ue
 kids:=fun i op ks h=>by simp[h0] at h
 size:=by simp[h0]
 wts:=⟨[],by rw[e.weights];rfl,rfl⟩
 dps:=⟨[],by rw[e.depths];rfl,rfl⟩
 up:=e.up
 upl:=rfl
 uf:=⟨fun a ha=>SP ha (by simp[h0]),fun _=>SN _,fun _=>rfl,fun _ _=>rfl⟩
 lots:=e.lots
 lrl:=rfl
 lotAt:=fun a j h=>by simp[h0] at h
 above:=e.above
 keys:=Ue
 roots:=fun k=>⟨fun⟨j,hj⟩=>by simp[h0] at hj,fun⟨h,_⟩=>SP h (by simp[h0])⟩
 abAt:=fun x hx=>by simp[h0] at hx
 refs:=Ue
 known:=e.known
 wait:=e.waiting
 inK:=fun x hx=>by simp[h0] at hx
 kid:=fun i op ks h=>by simp[h0] at h
 avlt:=fun x hx=>by simp[h0] at hx
 wtlt:=fun x hx=>by simp[h0] at hx
 J:=fun i op ks h=>by simp[h0] at h
 sumA:=SN _
 sumL:=SN _
 budW:=SN _
 budE:=by rw[e.edges];exact SN _
 budF:=by rw[e.edges,e.forest];exact SN _
 budM:=by rw[e.edges,e.merged];exact SN _
 bud:=Tb _
theorem bH.empty:bH h0:=⟨fun _=>rfl,rfl,rfl,rfl,fun x h=>SP h (by simp[h0])⟩
theorem bH.add{F:Fx}{r:St}{h h':HS}{op:Nat}{ks:List Nat}(Z:bH h)(H:HI F r h)(hn:(op,ks)∉h.ns)(A:k9 h h' op ks):bH h':=by
 rcases A.cl with⟨q1,q2,q3⟩ | ⟨m,q1,_⟩
 ·refine⟨fun x=>by rw[q1];exact Z.cl x,A.ex,q2.trans Z.wt,A.bud.trans Z.bud,fun x hx=>?_⟩
  rw[q3];dsimp only
  split
  ·rename_i e;rw[e]
  ·rename_i e;rw[A.ns,SZ,List.length_singleton] at hx;exact Z.lt x (EX hx e)
 ·obtain⟨ks',e1,e2⟩:=H.keyop q1;have id:∀ l:List Nat,l.map h.cl=l:=fun l=>by
   conv=>rhs;rw[<- List.map_id l]
   exact TN fun x _=>Z.cl x
  dsimp only at e1 e2;rw[id,id,id] at e2;subst e2;exact SP (Tm e1) hn
theorem bH.key{F:Fx}{r:St}{h:HS}(Z:bH h)(H:HI F r h){i op:Nat}{ks:List Nat}(hi:h.ns[i]?=some (op,ks)):lk h.kn (op,ks)=some i:=by
 have id:∀ l:List Nat,l.map h.cl=l:=fun l=>by
  conv=>rhs;rw[<- List.map_id l]
  exact TN fun x _=>Z.cl x
 rcases H.J i op ks hi with q | q | ⟨m,q1,q2⟩
 ·rw[Z.wt] at q;cases q
 ·rw[Z.ex] at q;cases q
 ·rw[id] at q1;rw[Z.cl,Z.cl] at q2;rw[q1,q2]
theorem bH.sync{F:Fx}{r:St}{h:HS}(Z:bH h)(H:HI F r h){like:Option Bool}{rt:Rk}{P:List (Nat×Nat)}(N:NG h.ns):cr like rt P (h.ns,[]) h:=
 ⟨rfl,Z.ex,Z.key H N.a,fun x y q=>by simp at q,fun x y e=>by rw[Z.cl,Z.cl] at e;subst e;exact .refl _,fun x hx=>by simp at hx,fun _ _ x y e=>by rw[Z.cl,Z.cl] at e;subst e;exact .refl _,fun _ _ n y hn e=>by rw[Z.cl,Z.cl] at e;exact SP e hn⟩
noncomputable abbrev zh:List S:=[S.expr (X.meth (X.loc 2) 46 [X.sub (X.loc 4) (X.cst (am.int 0)),X.slc (X.loc 4) Sl.tail])]
theorem QK{op:Nat}{A B C:Prop}(h:(op=1\/op=2)/\A\/op=3/\B\/op=4/\C):1<=op/\op<=6:=
 have k:op∈[1,2,3,4]:=h.elim (fun h=>h.1.elim (fun e=>e▸.head _) fun e=>e▸.tail _ (.head _)) fun h=>h.elim (fun e=>e.1▸.tail _ (.tail _ (.head _))) fun e=>e.1▸.tail _ (.tail _ (.tail _ (.head _)))
 (by decide:∀ x∈[1,2,3,4],1<=x/\x<=6) op k
theorem wu{ws:List Nd}(N:NG ws)(hsz:ws.length<=7):∀(ds done:List Nd) {F:Fx} {r:St} {h:HS},ws=done++ds->h.ns=done->bH h->HI F r h->F.world=ws.map aJ->
  ∀(G:Prop),(∀ F' r' h',(∀ m,5<=m->∀ U:En,U 2=some (.ref 3)->∃ U',dT [(18,some (ws.map aJ))] (.one 4) (bn ⟨az ak m⟩ zh) (ds.map aJ) U (F.st r)=some (none,U',F'.st r')/\∀ j,j≠4->U' j=U j)->HI F' r' h'->Fr h.D h'.D r r'->eW F F'->h'.ns=ws->bH h'->G)->G:=by
 intro ds;induction ds with
 | nil=>exact fun done {F r h} hw hd Z H hW _ kk=>kk F r h (fun m hm U r2=>⟨U,bU (mt _ hW),fun _ _=>rfl⟩) H (Fr.refl _ _) (eW.refl _) (by rw[hd,hw,Tr]) Z
 | cons x ds ih=>
  obtain⟨op,ks⟩:=x;intro done F r h hw hd Z H hW G kk;have hat:ws[done.length]?=some (op,ks):=by rw[hw];simp
  obtain⟨k1,k2⟩:=N.kids _ _ _ hat;have hlen:done.length+1<=ws.length:=(SR.mp hat).1;have hno:(op,ks)∉h.ns:=by
   rw[hd];intro q;have:=N.nd;rw[hw] at this;exact(Ts.mp this).2.2 _ q _ (by simp) rfl
  have hks:ks.length<=2:=by rcases k2 with⟨_,e⟩ | ⟨_,e⟩ | ⟨_,e⟩<;>simp[e]
  refine fM H (op:=op) (ks:=ks) (kv:=.tup (ks.map aa)) (QK k2) hno (.inl rfl) (by rw[hd];exact k1) hks (by rw[hd];exact My hsz hlen) Z.ex (by rw[Z.bud];decide) fun F1 r1 h1 O H1 fr1 lw1 A=>?_
  have hW1:F1.world=ws.map aJ:=lw1.2.2.2.trans hW;refine ih (done++[(op,ks)]) (by rw[hw];simp) (by rw[A.ns,hd]) (Z.add H hno A) H1 hW1 _ fun F2 r2 h2 e2 H2 fr2 lw2 hn2 Z2=>?_
  refine kk F2 r2 h2 (fun m hm U q2=>?_) H2 (fr1.trans fr2) (lw1.trans lw2) hn2 Z2;obtain⟨U',s1,s2⟩:=e2 m hm (ah U 4 (aJ (op,ks))) q2;refine⟨U',?_,fun j hj=>by rw[s2 j hj];simp[ah,hj]⟩
  have t:=O m hm;have hb:bn ⟨az ak m⟩ zh (ah U 4 (aJ (op,ks))) (F.st r)=some (none,ah U 4 (aJ (op,ks)),F1.st r1):=by
   exists q2,t
  exact cm (mt _ hW) rfl hb s1
section
variable{F:Fx}{r:St}{h:HS}
theorem rZ(H:HI F r h)(Z:bH h){c:Nat}(hc:c<h.ns.length):Ok 2 23 [.ref 9,aa c] (F.st r) (.ref (r.length+19)) (F.st (r++[.list [aa c]])):=by
 refine .mk rfl rfl fun m hm=>?_;have t:=H.find hc m (hm);rw[Z.cl] at t;refine H.lotref hc fun j j1 j2 j3=>?_;rw[Z.lt c hc] at j3;exists t,j2,j3,b7
theorem pU(H:HI F r h)(Z:bH h){c:Nat}(hc:c<h.ns.length):Ok 3 35 [.ref 3,aa c] (F.st r) (.ref (r.length+19)) (F.st (r++[.list [aa c]])):=by
 refine .mk rfl rfl fun m hm=>?_;have t:=rZ H Z hc m (hm);exists t
theorem pS(H:HI F r h)(Z:bH h){c op:Nat}{ks:List Nat}(hc:h.ns[c]?=some (op,ks)){G:Prop}
  (kk:∀ l j,Ok 5 36 [.ref 3,aa c] (F.st r) (.ref (j+19)) (F.st (r++l))->(r++l)[j]?=some (AO.list [aJ (op,ks)])->G):G:=by
 have hcl:=(SR.mp hc).1;have id:∀ l:List Nat,l.map h.cl=l:=fun l=>by
  conv=>rhs;rw[<- List.map_id l]
  exact TN fun x _=>Z.cl x
 refine kk [.list [aa c],.list (ks.map aa),.list [aJ (op,ks)],.list [aJ (op,ks)]] (r.length+3) (.mk rfl rfl fun m hm=>?_) (Oc _ _ _ _ _ _);have t1:=pU H Z hcl m (SJ (by decide) hm)
 have t2:=(H.grow [.list [aa c]]).node hc m (SJ (by decide) hm)
 rw[id] at t2;have hcomp:au ⟨az ak m⟩ (.comp (.meth (.loc 0) 45 [.loc 3]) (.one 3) (.meth (.loc 0) 43 [.loc 1]) []) (fun i=>[AV.ref 3,aa c][i]?) (F.st r)=some (.ref (r.length+2+19),F.st (r++[.list [aa c],.list (ks.map aa),.list [aJ (op,ks)]])):=by
  refine bm (v:=.ref (r.length+19)) (s:=⟨[aa c],[(r.length+19,some [aa c])]⟩) (Y1:=F.st (r++[.list [aa c]])) (Y2:=F.st (r++[.list [aa c],.list (ks.map aa)])) (vs:=[aJ (op,ks)]) (by exists t1) rfl (aV (aK (cG (bN _ _ _)))) ?_ (S8 rfl) KE Kj
  have g0:(r++[AO.list [aa c]])[r.length]?=some (AO.list [aa c]):=bN _ _ _;have g1:(r++[AO.list [aa c],.list (ks.map aa)])[r.length]?=some (AO.list [aa c]):=bN _ _ _;simp only[List.append_assoc,List.cons_append,List.nil_append] at t2;exists t2,bv g0,bv g1,(c8 (op,ks)),(rfl:(aJ (op,ks)).isIt=false)
 have g2:(r++[AO.list [aa c],.list (ks.map aa),.list [aJ (op,ks)]])[r.length+2]?=some (AO.list [aJ (op,ks)]):=zk _ _ _ _ _;have hp:=c8 (op,ks);exists hcomp,(bd hp:lv [aJ (op,ks)]=some [aJ (op,ks)])
def LR(r:St)(j:Nat)(res:Option (List (AV×AV))):Prop:=match res with
 | none=>r[j]?=some (AO.list [])
 | some es=>∃ jn,r[j]?=some (AO.list [.ref (jn+19)])/\r[jn]?=some (AO.dict es)
def eX(k:Nat)(F:Fx)(h:HS)(wk:Nat)(p:AV)(es:List (AV×AV))(c:Nat)(res:Option (List (AV×AV))):Prop:=
 ∀(r:St) (jf:Nat),HI F r h->r[wk]?=some (AO.inst 3 [(14,.ref 3)])->r[jf]?=some (AO.dict es)->∃ l j,Ok k 39 [.ref (wk+19),.ref (jf+19),aa c,p] (F.st r) (.ref (j+19)) (F.st (r++l))/\LR (r++l) j res
theorem eX.up{k k' wk c:Nat}{p:AV}{es:List (AV×AV)}{res:Option (List (AV×AV))}(x:eX k F h wk p es c res)(hk:k<=k'):eX k' F h wk p es c res:=fun r jf H h1 h2=>by
 obtain⟨l,j,O,L⟩:=x r jf H h1 h2;exact⟨l,j,O.up hk,L⟩
theorem uF{wk c s v:Nat}{es:List (AV×AV)}(hs:s=7\/s=8)(he:es.length<=8)(hsy:es.all (fun e=>e.1.isSym)=true)(hd:(aU es (.sym s) (aa c)).length<=9)(hg:(aA es (.sym s)).getD (aa c)=aa v) :
  eX 2 F h wk (.tup [.sym s]) es c (if v=c then some (aU es (.sym s) (aa c)) else none):=fun r jf H h1 h2=>by
 have hle:(aU es (.sym s) (aa c)).length<=ay:=by unfold ay;exact SJ hd (by decide)
 have hjf:=(SR.mp h2).1
 by_cases q:v=c
 ·subst q;rw[SQ rfl];refine⟨[.dict (aU es (.sym s) (aa v)),.list [.ref (r.length+19)]],r.length+1,.mk rfl rfl fun m hm=>?_,r.length,iZ _ _ _ _,bN _ _ _⟩;have t1:=cz (F:=F) (rest:=r) (.inl ⟨hs,rfl⟩) m hm;exists t1,h2,he,hsy,hle,hg,fE rfl
 ·rw[SL q];refine⟨[.dict (aU es (.sym s) (aa c)),.list []],r.length+1,.mk rfl rfl fun m hm=>?_,iZ _ _ _ _⟩;have t1:=cz (F:=F) (rest:=r) (.inl ⟨hs,rfl⟩) m hm;exists t1,h2,he,hsy,hle,hg,iO q
noncomputable abbrev zA:S:=.asg (.one 8) (.comp2 (.loc 13) (.one 12) (.loc 8) (.one 13) (.meth (.loc 0) 52 [.loc 12,.loc 9,.loc 10]))
theorem zy{k wk c j8:Nat}{p:AV}{res0 res1:Option (List (AV×AV))}(hp:p.isIt=false)(H:HI F r h)(hw:r[wk]?=some (AO.inst 3 [(14,.ref 3)]))(L:LR r j8 res0)(hx:∀ es,res0=some es->eX k F h wk p es c res1){G:Prop}
  (kk:∀ l j,(∀ m,k<=m->∀ E:En,E 0=some (.ref (wk+19))->E 8=some (.ref (j8+19))->E 9=some (aa c)->E 10=some p->bn ⟨az ak m⟩ [zA] E (F.st r)=some (none,ah E 8 (.ref (j+19)),F.st (r++l)))->LR (r++l) j (res0.bind fun _=>res1)->r.length<=j->G):G:=by
 cases res0 with
 | none=>
  refine kk [.list []] r.length (fun m hm E r0 r8 r9 r10=>?_) (bN _ _ _) (SN _);have hc:au ⟨az ak m⟩ (.comp2 (.loc 13) (.one 12) (.loc 8) (.one 13) (.meth (.loc 0) 52 [.loc 12,.loc 9,.loc 10])) E (F.st r)=some (.ref (r.length+19),F.st (r++[.list []])):=by
   have L:r[j8]?=some (AO.list []):=L;exact m7 (v:=.ref (j8+19)) (s:=⟨[],[(j8+19,some [])]⟩) (Y1:=F.st r) (Y2:=F.st r) (vs:=[]) (aG r8) rfl (aV (aK (cG L))) (cg (bv L)) (S8 rfl) rfl rfl
  exact bK (ic hc rfl) rfl
 | some es=>
  obtain⟨jn,n1,n2⟩:=L;obtain⟨l,j,O,L1⟩:=hx es rfl r jn H hw n2;have key:∀ vs:List AV,(r++l)[j]?=some (AO.list vs)->(∀ v∈vs,v.isIt=false)->vs.length<=1->∀ m,k<=m->∀ E:En,E 0=some (.ref (wk+19))->E 8=some (.ref (j8+19))->E 9=some (aa c)->E 10=some p->
    bn ⟨az ak m⟩ [zA] E (F.st r)=some (none,ah E 8 (.ref ((r++l).length+19)),F.st (r++l++[.list vs])):=fun vs hv hi hl m hm E r0 r8 r9 r10=>by
   have t:=O m hm;have n3:=ag n1 l;have hin:FD ⟨az ak m⟩ (.loc 13) (.one 13) (.meth (.loc 0) 52 [.loc 12,.loc 9,.loc 10]) (ah E 12 (.ref (jn+19))) (F.st r)=some (vs,F.st (r++l)):=by
    have hd:au ⟨az ak m⟩ (.meth (.loc 0) 52 [.loc 12,.loc 9,.loc 10]) (ah E 12 (.ref (jn+19))) (F.st r)=some (.ref (j+19),F.st (r++l)):=by
     exists(show ah E 12 (.ref (jn+19)) 0=_ from r0),(show ah E 12 (.ref (jn+19)) 9=_ from r9),(show ah E 12 (.ref (jn+19)) 10=_ from r10),hw,hp,t
    refine y7 hd rfl (aV (aK (cG hv))) ?_
    match vs,hl,hi with
    | [],_,_=>exact cg (bv hv)
    | [v],_,hi=>exact iU (bv hv) rfl rfl (J0 rfl (io (aG rfl) (hi v (.head _))) (cg (bv hv)) rfl)
   have hc:au ⟨az ak m⟩ (.comp2 (.loc 13) (.one 12) (.loc 8) (.one 13) (.meth (.loc 0) 52 [.loc 12,.loc 9,.loc 10])) E (F.st r)=some (.ref ((r++l).length+19),F.st (r++l++[.list vs])):=by
    refine m7 (v:=.ref (j8+19)) (s:=⟨[.ref (jn+19)],[(j8+19,some [.ref (jn+19)])]⟩) (Y1:=F.st r) (Y2:=F.st (r++l)) (vs:=vs) (aG r8) rfl (aV (aK (cG n1))) ?_ (by unfold ay;exact SJ hl (by decide)) rfl rfl
    have:=uL (bv n1) rfl rfl hin (cg (p:=.one 12) (U:=E) (cc:=fun _ Y'=>some (true,Y')) (ee:=FD ⟨az ak m⟩ (.loc 13) (.one 13) (.meth (.loc 0) 52 [.loc 12,.loc 9,.loc 10])) (bv n3));rw[Tr] at this;exact this
   exact bK (ic hc rfl) rfl
  cases res1 with
  | none=>exact kk (l++[.list []]) (r++l).length (fun m hm E r0 r8 r9 r10=>by rw[<- S6];exact key [] L1 nofun (Tb _) m hm E r0 r8 r9 r10) (by rw[<- S6];exact bN _ _ _) (Fr.grow [] r l).len
  | some es'=>
   obtain⟨jn',a1,a2⟩:=L1;exact kk (l++[.list [.ref (jn'+19)]]) (r++l).length (fun m hm E r0 r8 r9 r10=>by rw[<- S6];exact key [.ref (jn'+19)] a1 (fun v hv=>SY.mp hv▸rfl) (SN _) m hm E r0 r8 r9 r10) ⟨jn',by rw[<- S6];exact bN _ _ _,by rw[<- S6];exact ag a2 _⟩ (Fr.grow [] r l).len
end
section
variable{F:Fx}{r:St}{h:HS}
noncomputable def Oy(k:Nat)(F:Fx)(h:HS)(wk:Nat):List (Nat×AV)->Option (List (AV×AV))->Option (List (AV×AV))->Prop
 | [],a,b=>a=b
 | (c,p)::t,a,b=>p.isIt=false/\∃ res1,(∀ es,a=some es->eX k F h wk p es c res1)/\Oy k F h wk t (a.bind fun _=>res1) b
theorem xd{k wk jz:Nat}:∀(zl:List (Nat×AV)) {r:St} {j8:Nat} {res0 resN:Option (List (AV×AV))},HI F r h->r[wk]?=some (AO.inst 3 [(14,.ref 3)])->r[jz]?=some AO.hid->LR r j8 res0->Oy k F h wk zl res0 resN->
  ∀(G:Prop),(∀ l j,(∀ m,k<=m->∀ E:En,E 0=some (.ref (wk+19))->E 8=some (.ref (j8+19))->∃ E',dT [(jz+19,none)] (.many [9,10]) (bn ⟨az ak m⟩ [zA]) (zl.map fun(x:Nat×AV)=>AV.tup [aa x.1,x.2]) E (F.st r)=some (none,E',F.st (r++l))/\E' 6=E 6/\E' 8=some (.ref (j+19)))->LR (r++l) j resN->(j=j8\/r.length<=j)->G)->G:=by
 intro zl;induction zl with
 | nil=>exact fun{r j8 res0 resN} H hw hz L hc _ kk=>kk [] j8 (fun m hm E r0 r8=>⟨E,by rw[Tr];exact bU (IA hz),rfl,r8⟩) (by rw[Tr];exact(show res0=resN from hc)▸L) (.inl rfl)
 | cons x t ih=>
  obtain⟨c,p⟩:=x;intro r j8 res0 resN H hw hz L hc G kk;obtain⟨hp,res1,x1,x2⟩:=hc;refine zy hp H hw L x1 fun l1 j1 e1 L1 g1=>?_;refine ih (H.grow l1) (ag hw l1) (ag hz l1) L1 x2 _ fun l2 j2 e2 L2 g2=>?_;refine kk (l1++l2) j2 (fun m hm E r0 r8=>?_) (by rw[<- S6];exact L2) (.inr (by rw[SZ] at g2;exact Mx g1 g2))
  have t1:=e1 m hm (ah (ah E 9 (aa c)) 10 p) r0 r8 rfl rfl;obtain⟨E',u1,u2,u3⟩:=e2 m hm (ah (ah (ah E 9 (aa c)) 10 p) 8 (.ref (j1+19))) r0 rfl;refine⟨E',?_,u2,u3⟩;rw[<- S6];exact cm (IA hz) rfl t1 u1
theorem uV(ks:List Nat)(ps:List AV):(((ks.map aa).zip ps).map fun(x:AV×AV)=>AV.tup [x.1,x.2])=(ks.zip ps).map fun(x:Nat×AV)=>AV.tup [aa x.1,x.2]:=by
 rw[List.zip_map_left,TP];rfl
noncomputable abbrev JW:List S:=[S.ite (X.and (X.cmp aS.eq (X.sub (X.loc 7) (X.cst (am.int 0))) (X.loc 4)) (X.cmp aS.eq (X.blt aO.len [X.loc 7]) (X.blt aO.len [X.loc 3]))) [S.asg (ax.one 8) (X.lst [X.loc 1]),S.for_ (ax.many [9,10]) (X.blt aO.zip [X.slc (X.loc 7) Sl.tail,X.slc (X.loc 3) Sl.tail]) [zA],S.expr (X.meth (X.loc 6) 28 [X.loc 8])] []]
theorem LR.vs{j:Nat}{res:Option (List (AV×AV))}(x:LR r j res):∃ vs,r[j]?=some (AO.list vs)/\vs.length<=1:=by
 cases res with
 | none=>exact⟨[],x,Tb _⟩
 | some es'=>obtain⟨jn,a,_⟩:=x;exact⟨_,a,SN _⟩
def FX(F:Fx)(h:HS)(p:AV)(k wk c op':Nat)(ks:List Nat)(ps:List AV)(es:List (AV×AV)):Prop:=∀{op:Nat} {res:Option (List (AV×AV))} (Z:bH h) (hc:h.ns[c]?=some (op',ks)) (hps:ps.length<=10) (hk:5<=k) (hr:if op'=op then ks.length=ps.length+1/\Oy k F h wk (ks.zip (p::ps)) (some es) res else res=none),eX (k+1) F h wk (.tup (.sym op::p::ps)) es c res
def JX(a:Fx×HS×AV×Nat×Nat×Nat×Nat×List Nat×List AV×List (AV×AV)):Prop:=FX a.1 a.2.1 a.2.2.1 a.2.2.2.1 a.2.2.2.2.1 a.2.2.2.2.2.1 a.2.2.2.2.2.2.1 a.2.2.2.2.2.2.2.1 a.2.2.2.2.2.2.2.2.1 a.2.2.2.2.2.2.2.2.2
noncomputable def lL:=lN (Ds,Hh,.none,default) JX
noncomputable def qC:=lL.1
noncomputable def PO:=lL.2.1
noncomputable def Cu:=lL.2.2.1
noncomputable def KI:=lL.2.2.2.1
noncomputable def zB:=lL.2.2.2.2.1
noncomputable def KJ:=lL.2.2.2.2.2.1
noncomputable def cD:=lL.2.2.2.2.2.2.1
noncomputable def eT:=lL.2.2.2.2.2.2.2.1
noncomputable def og:=lL.2.2.2.2.2.2.2.2.1
noncomputable def FW:=lL.2.2.2.2.2.2.2.2.2
theorem Og:FX qC PO Cu KI zB KJ cD eT og FW:=fun{op} {res} Z hc hps hk hr=>fun r jf H hw hf=>by
 refine pS (H.grow [AO.list []]) Z hc fun l1 j1 O hj1=>?_;have g6:(r++[AO.list []]++l1)[r.length]?=some (AO.list []):=ag (bN _ _ _) l1;have nt:∀ m,KI<=m->az ak m 1 [.tup (.sym op::Cu::og)] (qC.st r)=some (.bool false,qC.st r):=fun m hm=>dj (SJ hps (by decide)) m (Mw hk hm)
 generalize hE:ah (ah (fun i=>[AV.ref (zB+19),.ref (jf+19),aa KJ,.tup (.sym op::Cu::og)][i]?) 4 (.sym op)) 6 (.ref (r.length+19))=E;have E0:E 0=some (.ref (zB+19)):=by rw[<- hE];rfl
 have E1:E 1=some (.ref (jf+19)):=by rw[<- hE];rfl
 have E2:E 2=some (aa KJ):=by rw[<- hE];rfl
 have E3:E 3=some (.tup (.sym op::Cu::og)):=by rw[<- hE];rfl
 have E4:E 4=some (.sym op):=by rw[<- hE];rfl
 have E6:E 6=some (.ref (r.length+19)):=by rw[<- hE];rfl
 have hw1:=ag hw [AO.list []];have hturn:∀ l,(∀ m,KI<=m->∃ E',bn ⟨az ak m⟩ JW (ah E 7 (aJ (cD,eT))) (qC.st (r++[AO.list []]++l1))=some (none,E',qC.st (r++l))/\E' 6=some (.ref (r.length+19)))->(r++l)[j1]?=some (AO.list [aJ (cD,eT)])->LR (r++l) r.length res->∃ l j,Ok (KI+1) 39 [.ref (zB+19),.ref (jf+19),aa KJ,.tup (.sym op::Cu::og)] (qC.st r) (.ref (j+19)) (qC.st (r++l))/\LR (r++l) j res:=fun l e hj2 L=>by
  refine⟨l,r.length,.mk rfl rfl fun m hm=>?_,L⟩;obtain⟨E',u1,u2⟩:=e m hm;have hfor:dS ⟨az ak m⟩ (.for_ (.one 7) (.meth (.attr (.loc 0) 14) 50 [.loc 2]) JW) E (qC.st (r++[AO.list []]))=some (none,E',qC.st (r++l)):=by
   have t:=O m (Mv hk hm);refine(cY (v:=.ref (j1+19)) (s:=⟨[aJ (cD,eT)],[(j1+19,some [aJ (cD,eT)])]⟩) (Y1:=qC.st (r++[AO.list []]++l1)) ?_ rfl (aV (aK (cG hj1)))).trans (cm (bv hj1) rfl u1 (bU (bv hj2)));exists E0,E2,hw1,t
  rw[<- hE] at hfor;have t:=nt m hm;exists t,hfor,u2
 by_cases q:cD=op
 ·subst q;rw[SQ rfl] at hr;obtain⟨hkl,hz⟩:=hr
  let r1:St:=r++[AO.list []]++l1
  let r2:St:=r1++[AO.list [.ref (jf+19)],AO.hid]
  have H2:HI qC r2 PO:=((H.grow _).grow _).grow _;have hw2:r2[zB]?=some (AO.inst 3 [(14,.ref 3)]):=ag (ag hw1 l1) _;have hf2:r2[jf]?=some (AO.dict FW):=ag (ag (ag hf _) l1) _;have hz2:r2[r1.length+1]?=some AO.hid:=iZ _ _ _ _;have h82:LR r2 r1.length (some FW):=⟨jf,bN _ _ _,hf2⟩;refine xd (jz:=r1.length+1) (eT.zip (Cu::og)) H2 hw2 hz2 h82 hz _ fun l2 j8 ez L8 g8=>?_;have hj13:(r2++l2)[j1]?=some (AO.list [aJ (cD,eT)]):=ag (ag hj1 _) l2;have h63:(r2++l2)[r.length]?=some (AO.list []):=ag (ag g6 _) l2;obtain⟨vs,v1,v2⟩:=L8.vs;have hne:r.length≠j8:=by
   have:r1.length=r.length+1+l1.length:=by simp[r1];exact IY
   have:r2.length=r1.length+2:=by simp[r2]
   exact Mu g8 ‹_› this
  have hl9:r2++l2=r++([AO.list []]++l1++[AO.list [.ref (jf+19)],AO.hid]++l2):=by simp[r2,r1]
  generalize hl7:[AO.list []]++l1++[AO.list [.ref (jf+19)],AO.hid]++l2=l7 at hl9;rw[hl9] at hj13 h63 v1 L8;have hset:(r++l7).set r.length (AO.list vs)=r++l7.set 0 (AO.list vs):=by rw[List.set_append_right _ _ (SN _),Nat.sub_self]
  have hj1r:j1≠r.length:=fun e=>by rw[e,h63] at hj13;cases hj13
  refine hturn (l7.set 0 (AO.list vs)) (fun m hm=>?_) ?_ ?_
  ·have q1:∀{Y},bi .eq Y (.sym cD) (.sym cD)=some true:=SI some (Ld rfl);have q2:∀{Y},bi .eq Y (.int ((AV.sym cD::eT.map aa).length:Nat)) (.int ((AV.sym cD::Cu::og).length:Nat))=some true:=fE (by rw[List.length_cons,S7,hkl];rfl)
   have e3:ah E 7 (aJ (cD,eT)) 3=_:=E3;have e4:ah E 7 (aJ (cD,eT)) 4=_:=E4;have e1:ah E 7 (aJ (cD,eT)) 1=_:=E1;obtain⟨E',u1,u2,u3⟩:=ez m hm (ah (ah E 7 (aJ (cD,eT))) 8 (.ref (r1.length+19))) E0 rfl;have hzip:dS ⟨az ak m⟩ (.for_ (ax.many [9,10]) (X.blt aO.zip [X.slc (X.loc 7) Sl.tail,X.slc (X.loc 3) Sl.tail]) [zA]) (ah (ah E 7 (aJ (cD,eT))) 8 (.ref (r1.length+19))) (qC.st (r1++[AO.list [.ref (jf+19)]]))=some (none,E',qC.st (r++l7)):=by
    rw[<- hl9];refine(cY (v:=.zp (.tup (.ref (r1.length+1+19)::eT.map aa)) (.tup (Cu::og))) (s:=⟨(eT.zip (Cu::og)).map fun(x:Nat×AV)=>AV.tup [aa x.1,x.2],[(r1.length+1+19,none)]⟩) (Y1:=qC.st r2) ?_ rfl ?_).trans u1
    ·exact xp (bA (l6 (aG rfl) rfl jI) rfl (bA (l6 (aG E3) rfl jI) rfl cJ)) (DB NL KN)
    ·rw[<- uV];rfl
   have hE6:E' 6=some (.ref (r.length+19)):=u2.trans E6;have hle:vs.length<=ay:=by unfold ay;exact SJ v2 (by decide)
   have hs2:(qC.st (r++l7)).set (r.length+19) (.list ([]++vs))=qC.st (r++l7.set 0 (.list vs)):=SI qC.st hset;refine⟨E',?_,hE6⟩;exists q1,q2,e1,e3,e4,hzip,hE6,u3,h63,v1,BE hne,hle,hs2
  ·rw[<- hset,Tt (fun e=>hj1r e.symm)];exact hj13
  ·have hself:(r++l7.set 0 (AO.list vs))[r.length]?=some (AO.list vs):=by
    rw[<- hset,TY (SR.mp h63).1]
   cases res with
   | none=>
    have L8:(r++l7)[j8]?=some (AO.list []):=L8;rw[v1] at L8;cases L8
    exact hself
   | some es'=>
    obtain⟨jn,a,b⟩:=L8;rw[v1] at a;cases a
    refine⟨jn,hself,?_⟩;have:jn≠r.length:=fun e=>by rw[e,h63] at b;cases b
    rw[<- hset,Tt (fun e=>this e.symm)];exact b
 ·rw[SL q] at hr;subst hr;refine hturn ([AO.list []]++l1) (fun m hm=>⟨ah E 7 (aJ (cD,eT)),?_,E6⟩) (by rw[<- S6];exact hj1) (by rw[<- S6];exact g6)
  rw[<- S6];have e4:ah E 7 (aJ (cD,eT)) 4=_:=E4;have q1:∀{Y},bi .eq Y (.sym cD) (.sym op)=some false:=SI some (AL q);exists e4,q1
theorem gF{k wk c op':Nat}{ks:List Nat}{p:AV}{ps:List AV}{es:List (AV×AV)}:FX F h p k wk c op' ks ps es:=bF JX Og (F,h,p,k,wk,c,op',ks,ps,es)
end
section
variable{α:Type}{op k:Nat}{ks:List Nat}{x:α}
noncomputable def HQ(d:Nd)(g:Nat->Option α):Option α:=if d.1=3 then(match d.2 with | [k]=>g k | _=>none) else none
noncomputable def Ku(d:Nd)(g:Nat->Nat->Option α):Option α:=if d.1=4 then(match d.2 with | [a,b]=>g a b | _=>none) else none
theorem tP{g:Nat->Option α}(h:op≠3):HQ (op,ks) g=none:=SL h
theorem xu{g:Nat->Nat->Option α}(h:op≠4):Ku (op,ks) g=none:=SL h
theorem xv{d:Nd}{g:Nat->Option α}(h:HQ d g=some x):∃ k,d=(3,[k])/\g k=some x:=by
 obtain⟨op,ks⟩:=d
 by_cases e:op=3
 ·subst e
  cases ks with
  | nil=>cases h
  | cons k ks=>
   cases ks with
   | nil=>exact⟨k,rfl,h⟩
   | cons=>cases h
 ·cases(tP e).symm.trans h
theorem C2{d:Nd}{g:Nat->Nat->Option α}(h:Ku d g=some x):∃ a b,d=(4,[a,b])/\g a b=some x:=by
 obtain⟨op,ks⟩:=d
 by_cases e:op=4
 ·subst e
  cases ks with
  | nil=>cases h
  | cons a ks=>
   cases ks with
   | nil=>cases h
   | cons b ks=>
    cases ks with
    | nil=>exact⟨a,b,rfl,h⟩
    | cons=>cases h
 ·cases(xu e).symm.trans h
theorem z6{β:Type}{y:Option α}{f:α->Option β}{z:β}(h:y.bind f=some z):∃ a,y=some a/\f a=some z:=by
 cases y with
 | none=>cases h
 | some a=>exact⟨a,rfl,h⟩
end
noncomputable def PN(ws:List Nd)(lf:Lf)(d:Nd):Option (List (AV×AV)):=match lf with
 | .f1=>HQ d fun k=>some [(.sym 7,aa k)]
 | .f2=>HQ d fun k=>ws[k]?.bind fun d=>HQ d fun d=>some [(.sym 7,aa d)]
 | .gxy=>Ku d fun a b=>some [(.sym 7,aa a),(.sym 8,aa b)]
 | .gxx=>Ku d fun a b=>if a=b then some [(.sym 7,aa a)] else none
noncomputable def db(ws:List Nd)(lf:Lf)(c:Nat):Option (List (AV×AV)):=ws[c]?.bind (PN ws lf)
theorem bg{ws:List Nd}{lf:Lf}{c:Nat}{d:Nd}{x:Option (List (AV×AV))}(h:ws[c]?=some d)(g:PN ws lf d=x):db ws lf c=x:=(al h).trans g
theorem gE{ws:List Nd}{lf:Lf}{c:Nat}{es:List (AV×AV)}{P:Lf->List (AV×AV)->Prop}(h:db ws lf c=some es)(f1:∀ k,ws[c]?=some (3,[k])->P .f1 [(.sym 7,aa k)])(f2:∀ k d,ws[c]?=some (3,[k])->ws[k]?=some (3,[d])->P .f2 [(.sym 7,aa d)])
  (gxy:∀ a b,ws[c]?=some (4,[a,b])->P .gxy [(.sym 7,aa a),(.sym 8,aa b)]) (gxx:∀ a,ws[c]?=some (4,[a,a])->P .gxx [(.sym 7,aa a)]):P lf es:=by
 obtain⟨d,hd,h⟩:=z6 h
 cases lf with
 | f1=>obtain⟨k,rfl,h⟩:=xv h;cases h;exact f1 k hd
 | f2=>
  obtain⟨k,rfl,h⟩:=xv h;obtain⟨d,hk,h⟩:=z6 h;obtain⟨e,rfl,h⟩:=xv h
  cases h;exact f2 k e hd hk
 | gxy=>obtain⟨a,b,rfl,h⟩:=C2 h;cases h;exact gxy a b hd
 | gxx=>
  obtain⟨a,b,rfl,h⟩:=C2 h
  by_cases e:a=b
  ·subst e;cases(SQ rfl).symm.trans h;exact gxx a hd
  ·cases(SL e).symm.trans h
noncomputable def bX(es:List (AV×AV)):List AV:=es.map fun e=>.tup [e.1,e.2]
noncomputable def KL:List (AV×AV)->Nat
 | (_,.int d)::_=>d.toNat
 | _=>0
section
variable{F:Fx}{r:St}{h:HS}{lf:Lf}
theorem NG.one{ws:List Nd}(N:NG ws){c:Nat}{ks:List Nat}(h:ws[c]?=some (3,ks)):∃ k,ks=[k]:=
 (N.kids c 3 ks h).2.elim (fun e=>(Mt e.1).elim) fun e=>e.elim (fun e=>List.length_eq_one_iff.mp e.2) fun e=>(Ms e.1).elim
theorem Jm{α:Type}{l:List α}(h:l.length=2):∃ a b,l=[a,b]:=by
 cases l with
 | nil=>cases h
 | cons a l=>exact(List.length_eq_one_iff.mp (Nat.succ.inj h)).elim fun b e=>⟨a,b,e▸rfl⟩
theorem NG.two{ws:List Nd}(N:NG ws){c:Nat}{ks:List Nat}(h:ws[c]?=some (4,ks)):∃ a b,ks=[a,b]:=
 (N.kids c 4 ks h).2.elim (fun e=>(Mr e.1).elim) fun e=>e.elim (fun e=>(Mq e.1).elim) fun e=>Jm e.2
theorem zx{k wk c s v:Nat}{es es':List (AV×AV)}(hk:2<=k)(hs:s=7\/s=8)(hsy:es.all (fun e=>e.1.isSym)=true)(hl:es.length<=8)(hl':es'.length<=9)(hd:aU es (.sym s) (aa c)=es')(hg:(aA es (.sym s)).getD (aa c)=aa v)(e:v=c) :
  eX k F h wk (.tup [.sym s]) es c (some es'):=by
 have:=uF (F:=F) (h:=h) (wk:=wk) (c:=c) (s:=s) (v:=v) (es:=es) hs hl hsy (hd▸hl') hg;rw[SQ e,hd] at this;exact this.up hk
theorem zz(Z:bH h)(N:NG h.ns){wk c op':Nat}{ks:List Nat}(hc:h.ns[c]?=some (op',ks)):eX 6 F h wk Lf.f1.av [] c (db h.ns .f1 c):=by
 refine gF (k:=5) (op:=3) (p:=.tup [.sym 7]) (ps:=[]) Z hc (Tb _) (by decide) ?_
 by_cases q:op'=3
 ·subst q;rw[SQ rfl];obtain⟨k,rfl⟩:=N.one hc;rw[bg (lf:=.f1) hc rfl];refine⟨rfl,rfl,some [(.sym 7,aa k)],fun es e=>?_,rfl⟩
  cases e
  exact zx (by decide) (.inl rfl) rfl (S8 rfl) (S8 rfl) rfl rfl rfl
 ·rw[SL q];exact bg hc (tP q)
theorem FU(Z:bH h)(N:NG h.ns){wk c op':Nat}{ks:List Nat}(hc:h.ns[c]?=some (op',ks)):eX 7 F h wk lf.av [] c (db h.ns lf c):=by
 have first:∀ a,eX 5 F h wk (.tup [.sym 7]) [] a (some [(.sym 7,aa a)]):=fun a=>zx (by decide) (.inl rfl) rfl (S8 rfl) (S8 rfl) rfl rfl rfl
 cases lf with
 | f1=>exact(zz Z N hc).up (by decide)
 | f2=>
  refine gF (k:=6) (op:=3) (p:=.tup [.sym 3,.tup [.sym 7]]) (ps:=[]) Z hc (Tb _) (by decide) ?_
  by_cases q:op'=3
  ·subst q;rw[SQ rfl];obtain⟨k,rfl⟩:=N.one hc;have hk:=TC (T3 ((N.kids c 3 [k] hc).1 k (.head _)) (SR.mp hc).1)
   revert hk
   generalize h.ns[k]'_=d;intro hk;rw[show db h.ns .f2 c=db h.ns .f1 k from bg hc rfl];refine⟨rfl,rfl,db h.ns .f1 k,fun es e=>?_,rfl⟩
   cases e
   exact zz (op':=d.1) (ks:=d.2) Z N hk
  ·rw[SL q];exact bg hc (tP q)
 | gxy=>
  refine(gF (k:=5) (op:=4) (p:=.tup [.sym 7]) (ps:=[.tup [.sym 8]]) Z hc (by decide) (by decide) ?_).up (by decide)
  by_cases q:op'=4
  ·subst q;rw[SQ rfl];obtain⟨a,b,rfl⟩:=N.two hc;rw[bg (lf:=.gxy) hc rfl];refine⟨rfl,rfl,some [(.sym 7,aa a)],fun es e=>?_,rfl,some [(.sym 7,aa a),(.sym 8,aa b)],fun es e=>?_,rfl⟩
   ·cases e;exact first a
   ·cases e;exact zx (by decide) (.inr rfl) rfl (S8 rfl) (S8 rfl) rfl rfl rfl
  ·rw[SL q];exact bg hc (xu q)
 | gxx=>
  refine(gF (k:=5) (op:=4) (p:=.tup [.sym 7]) (ps:=[.tup [.sym 7]]) Z hc (by decide) (by decide) ?_).up (by decide)
  by_cases q:op'=4
  ·subst q;rw[SQ rfl];obtain⟨a,b,rfl⟩:=N.two hc;rw[bg (lf:=.gxx) hc rfl];refine⟨rfl,rfl,some [(.sym 7,aa a)],fun es e=>?_,rfl,if a=b then some [(.sym 7,aa a)] else none,fun es e=>?_,rfl⟩
   ·cases e;exact first a
   ·cases e
    have:=uF (F:=F) (h:=h) (wk:=wk) (c:=b) (s:=7) (v:=a) (es:=[(.sym 7,aa a)]) (.inl rfl) (S8 rfl) rfl (S8 rfl) rfl
    by_cases e:a=b
    ·subst e;rw[SQ rfl] at this ⊢;exact this.up (by decide)
    ·rw[SL e] at this ⊢;exact this.up (by decide)
  ·rw[SL q];exact bg hc (xu q)
theorem wz{ws:List Nd}{c:Nat}{es:List (AV×AV)}(h:db ws lf c=some es):es.all (fun e=>e.1.isSym)=true/\b7 (es.map fun e=>.tup [e.1,e.2])=some (bX es)/\AV.pur (.tup (bX es))=true/\es.length<=2:=by
 exact gE (P:=fun _ es=>es.all (fun e=>e.1.isSym)=true/\b7 (es.map fun e=>.tup [e.1,e.2])=some (bX es)/\AV.pur (.tup (bX es))=true/\es.length<=2) h (fun _ _=>⟨rfl,rfl,rfl,S8 rfl⟩) (fun _ _ _ _=>⟨rfl,rfl,rfl,S8 rfl⟩) (fun _ _ _=>⟨rfl,rfl,rfl,S8 rfl⟩) fun _ _=>⟨rfl,rfl,rfl,S8 rfl⟩
end
noncomputable def vH(ws:List Nd)(lf:Lf)(c:Nat):List AV:=match db ws lf c with | none=>[] | some es=>[.tup (bX es)]
section
variable{F:Fx}{r:St}{h:HS}{lf:Lf}
theorem pW(H:HI F r h)(Z:bH h)(N:NG h.ns){wk c:Nat}(hw:r[wk]?=some (AO.inst 3 [(14,.ref 3)]))(hc:c<h.ns.length){G:Prop}
  (kk:∀ l j,Ok 8 40 [.ref (wk+19),aa c,lf.av] (F.st r) (.ref (j+19)) (F.st (r++l))->(r++l)[j]?=some (AO.list (vH h.ns lf c))->G):G:=by
 obtain⟨⟨op,ks⟩,hn⟩:∃ d,h.ns[c]?=some d:=⟨_,TC hc⟩
 let r1:St:=r++[AO.dict [],AO.dict []]
 have hw1:r1[wk]?=some (AO.inst 3 [(14,.ref 3)]):=ag hw _;have hf1:r1[r.length+1]?=some (AO.dict []):=iZ _ _ _ _;have h31:r1[r.length]?=some (AO.dict []):=bN _ _ _;have H1:HI F r1 h:=H.grow _;obtain⟨l1,j1,O,L⟩:=FU (lf:=lf) Z N hn r1 (r.length+1) H1 hw1 hf1;have h32:=ag h31 l1;have hl2:r1++l1=r++([AO.dict [],AO.dict []]++l1):=by simp[r1]
 generalize hl3:[AO.dict [],AO.dict []]++l1=l2 at hl2;rw[hl2] at O L h32;have it:∀ m,7<=m->au ⟨az ak m⟩ (.meth (.loc 0) 52 [.dct [] [],.meth (.attr (.loc 0) 14) 41 [.loc 1],.loc 2]) (ah (fun i=>[AV.ref (wk+19),aa c,lf.av][i]?) 3 (.ref (r.length+19))) (F.st (r++[AO.dict []]))=some (.ref (j1+19),F.st (r++l2)):=fun m hm=>by
  have t1:=O m hm;have t2:=H1.hfind hc m (SJ (by decide) hm)
  rw[Z.cl] at t2;have hwa:=ag hw [AO.dict []];exists lf.it,hw,hwa,hw1,t1,t2
 have s0:∀ m,dS ⟨az ak m⟩ (.asg (.one 3) (.dct [] [])) (fun i=>[AV.ref (wk+19),aa c,lf.av][i]?) (F.st r)=some (none,ah (fun i=>[AV.ref (wk+19),aa c,lf.av][i]?) 3 (.ref (r.length+19)),F.st (r++[AO.dict []])):=fun m=>by exists trivial
 cases hx:db h.ns lf c with
 | none=>
  rw[hx] at L;have L:(r++l2)[j1]?=some (AO.list []):=L;have ho:vH h.ns lf c=[]:=by unfold vH;rw[hx]
  rw[ho] at kk;refine kk (l2++[.list []]) (r++l2).length ?_ (by rw[<- S6];exact bN _ _ _)
  rw[<- S6];refine .mk rfl rfl fun m hm=>?_;have hfor:dS ⟨az ak m⟩ (.for_ (.one 4) (.meth (.loc 0) 52 [.dct [] [],.meth (.attr (.loc 0) 14) 41 [.loc 1],.loc 2]) [S.setSub (X.loc 3) (X.blt aO.tupleOf [X.blt aO.sorted [X.meth (X.loc 4) 34 []]]) (X.cst (am.bool true))]) (ah (fun i=>[AV.ref (wk+19),aa c,lf.av][i]?) 3 (.ref (r.length+19))) (F.st (r++[AO.dict []]))=some (none,ah (fun i=>[AV.ref (wk+19),aa c,lf.av][i]?) 3 (.ref (r.length+19)),F.st (r++l2)):=
   (cY (s:=⟨[],[(j1+19,some [])]⟩) (it m hm) rfl (aV (aK (cG L)))).trans (bU (bv L))
  exists s0 m,hfor,h32
 | some es=>
  rw[hx] at L;obtain⟨jn,L1,L2⟩:=L;have ho:vH h.ns lf c=[.tup (bX es)]:=by unfold vH;rw[hx]
  rw[ho] at kk;obtain⟨x1,x2,x3,x4⟩:=wz hx;have hjn:jn≠r.length:=fun e=>by
   rw[e,h32] at L2;cases L2
   exact gE (P:=fun _ es=>es≠[]) hx (fun _ _=>nofun) (fun _ _ _ _=>nofun) (fun _ _ _=>nofun) (fun _ _=>nofun) rfl
  have hj1:j1≠r.length:=fun e=>by rw[e,h32] at L1;cases L1
  have h33:=ag h32 [AO.list (bX es)];have hlt:=(SR.mp h33).1;have hset:∀ o,((r++l2)++[AO.list (bX es)]).set r.length o=r++(l2++[AO.list (bX es)]).set 0 o:=fun o=>by
   rw[S6,List.set_append_right _ _ (SN _),Nat.sub_self]
  have hself:(r++(l2++[AO.list (bX es)]).set 0 (AO.dict [(.tup (bX es),.bool true)]))[r.length]?=some (AO.dict [(.tup (bX es),.bool true)]):=by
   rw[<- hset,TY hlt]
  refine kk ((l2++[AO.list (bX es)]).set 0 (AO.dict [(.tup (bX es),.bool true)])++[.list [.tup (bX es)]]) (r++(l2++[AO.list (bX es)]).set 0 (AO.dict [(.tup (bX es),.bool true)])).length ?_ (by rw[<- S6];exact bN _ _ _)
  clear kk;rw[<- S6];refine .mk rfl rfl fun m hm=>?_;have hbody:bn ⟨az ak m⟩ [S.setSub (X.loc 3) (X.blt aO.tupleOf [X.blt aO.sorted [X.meth (X.loc 4) 34 []]]) (X.cst (am.bool true))] (ah (ah (fun i=>[AV.ref (wk+19),aa c,lf.av][i]?) 3 (.ref (r.length+19))) 4 (.ref (jn+19))) (F.st (r++l2))=some (none,ah (ah (fun i=>[AV.ref (wk+19),aa c,lf.av][i]?) 3 (.ref (r.length+19))) 4 (.ref (jn+19)),F.st (r++(l2++[AO.list (bX es)]).set 0 (AO.dict [(.tup (bX es),.bool true)]))):=by
   rw[<- hset];exists L2,x1,x2,x3,h33
  have hfor:dS ⟨az ak m⟩ (.for_ (.one 4) (.meth (.loc 0) 52 [.dct [] [],.meth (.attr (.loc 0) 14) 41 [.loc 1],.loc 2]) [S.setSub (X.loc 3) (X.blt aO.tupleOf [X.blt aO.sorted [X.meth (X.loc 4) 34 []]]) (X.cst (am.bool true))]) (ah (fun i=>[AV.ref (wk+19),aa c,lf.av][i]?) 3 (.ref (r.length+19))) (F.st (r++[AO.dict []]))=some (none,ah (ah (fun i=>[AV.ref (wk+19),aa c,lf.av][i]?) 3 (.ref (r.length+19))) 4 (.ref (jn+19)),F.st (r++(l2++[AO.list (bX es)]).set 0 (AO.dict [(.tup (bX es),.bool true)]))):=by
   have L3:(r++(l2++[AO.list (bX es)]).set 0 (AO.dict [(.tup (bX es),.bool true)]))[j1]?=some (AO.list [.ref (jn+19)]):=by
    rw[<- hset,Tt (fun e=>hj1 e.symm)];exact ag L1 _
   exact(cY (s:=⟨[.ref (jn+19)],[(j1+19,some [.ref (jn+19)])]⟩) (it m hm) rfl (aV (aK (cG L1)))).trans (cm (bv L1) rfl hbody (bU (bv L3)))
  generalize (l2++[AO.list (bX es)]).set 0 (AO.dict [(.tup (bX es),.bool true)])=l9 at *;exists s0 m,hfor,hself
end
noncomputable def aH(ws:List Nd)(lf:Lf):List (Nat×Nat×List AV):=(List.range ws.length).flatMap fun c=>match db ws lf c with | none=>[] | some es=>[(c,KL es,bX es)]
noncomputable def gr(ws:List Nd)(lf:Lf)(c:Nat):List AV:=match db ws lf c with | none=>[] | some es=>[.tup [aa c,.tup (bX es)]]
theorem fb(ws:List Nd)(lf:Lf):(aH ws lf).map ar=(List.range ws.length).flatMap (gr ws lf):=by
 unfold aH;rw[List.map_flatMap];congr 1
 funext c
 unfold gr
 cases db ws lf c<;>rfl
theorem qw{α β:Type}{f:α->List β}(h:∀ a,(f a).length<=1)(l:List α):(l.flatMap f).length<=l.length:=by
 induction l with
 | nil=>exact SN _
 | cons a l ih=>rw[List.flatMap_cons,SZ];exact Mp ih (h a)
theorem mr{ws:List Nd}{lf:Lf}{c:Nat}(h:db ws lf c=none):gr ws lf c=[]:=by unfold gr;rw[h]
theorem mq{ws:List Nd}{lf:Lf}{c:Nat}{es:List (AV×AV)}(h:db ws lf c=some es):gr ws lf c=[.tup [aa c,.tup (bX es)]]:=by unfold gr;rw[h]
theorem pP(ws:List Nd)(lf:Lf)(c:Nat):(gr ws lf c).length<=1:=by
 cases h:db ws lf c with
 | none=>rw[mr h];exact Tb _
 | some es=>rw[mq h];exact SN _
section
variable{F:Fx}{r:St}{h:HS}{lf:Lf}
theorem sh(H:HI F r h)(Z:bH h):Ok 1 24 [.ref 9] (F.st r) (.ref (r.length+19)) (F.st (r++[AO.list ((List.range h.ns.length).map aa)])):=by
 refine .mk rfl rfl fun m hm=>?_;have hul:F.up.length=h.ns.length:=by rw[H.up,S7,H.upl]
 have hsz:=H.size;have hle:h.ns.length<=50000:=SJ hsz (by decide)
 have hc:au ⟨az ak m⟩ (.comp (.loc 2) (.one 2) (.blt .range [.blt .len [.attr (.loc 0) 4]]) [.cmp .eq (.sub (.attr (.loc 0) 4) (.loc 2)) (.loc 2)]) (fun i=>[AV.ref 9][i]?) (F.st r)=some (.ref (r.length+19),F.st (r++[AO.list ((List.range h.ns.length).map aa)])):=by
  refine bm (v:=.rng h.ns.length) (s:=⟨(List.range h.ns.length).map fun(i:Nat)=>.int i,[]⟩) (Y1:=F.st r) (Y2:=F.st r) (vs:=(List.range h.ns.length).map aa) (by exists hul,hle) rfl rfl ?_ (by simp[ay];exact SJ hsz (by decide)) rfl rfl
  refine cE rfl fun x hx=>⟨_,rfl,?_,?_⟩
  ·have hxl:=List.mem_range.mp hx;obtain⟨b,b1,b2,b3,_⟩:=H.uf.step x (by rw[H.upl];exact hxl)
   rw[Z.cl,Z.cl] at b3;subst b3;have:F.up[b]?=some (aa b):=by rw[H.up,TD,b1];rfl
   exact oZ (l8 (oS (jK (aG rfl) rfl rfl) rfl (aG rfl) rfl (ny rfl (d9 this))) rfl (aG rfl) rfl (fE rfl))
  ·exists trivial
 exists hc
theorem pV(H:HI F r h)(Z:bH h):Ok 2 34 [.ref 3] (F.st r) (.ref (r.length+19)) (F.st (r++[AO.list ((List.range h.ns.length).map aa)])):=by
 refine .mk rfl rfl fun m hm=>?_;have t:=sh H Z m (hm);exists t
theorem sS(Z:bH h)(N:NG h.ns){wk jc:Nat}{all:List AV}:∀(vs:List Nat) {r:St},HI F r h->r[wk]?=some (AO.inst 3 [(14,.ref 3)])->r[jc]?=some (AO.list all)->(∀ c∈vs,c<h.ns.length)->
  ∃ l,∀ m,8<=m->∀ U:En,U 0=some (.ref (wk+19))->U 1=some lf.av->bz [(jc+19,some all)] (.one 3) U (fun _ Y=>some (true,Y)) (FD ⟨az ak m⟩ (.tup [.loc 3,.loc 4]) (.one 4) (.meth (.loc 0) 53 [.loc 3,.loc 1])) (vs.map aa) (F.st r)=some (vs.flatMap (gr h.ns lf),F.st (r++l))
 :=by
 intro vs;induction vs with
 | nil=>exact fun{r} H hw hj hv=>⟨[],fun m hm U r0 r1=>by rw[Tr];exact cg (bv hj)⟩
 | cons c vs ih=>
  intro r H hw hj hv;refine pW (lf:=lf) H Z N hw (hv c (.head _)) fun l1 j1 O L=>?_;obtain⟨l2,e2⟩:=ih (H.grow l1) (ag hw l1) (ag hj l1) fun c hc=>hv c (.tail _ hc);refine⟨l1++l2,fun m hm U r0 r1=>?_⟩;have t:=O m hm;have hin:FD ⟨az ak m⟩ (.tup [.loc 3,.loc 4]) (.one 4) (.meth (.loc 0) 53 [.loc 3,.loc 1]) (ah U 3 (aa c)) (F.st r)=some (gr h.ns lf c,F.st (r++l1)):=by
   have hd:au ⟨az ak m⟩ (.meth (.loc 0) 53 [.loc 3,.loc 1]) (ah U 3 (aa c)) (F.st r)=some (.ref (j1+19),F.st (r++l1)):=by
    exists(show ah U 3 (aa c) 0=_ from r0),(show ah U 3 (aa c) 1=_ from r1),hw,lf.it,t
   refine y7 hd rfl (aV (aK (cG L))) ?_;unfold vH at L ⊢;unfold gr
   cases hx:db h.ns lf c with
   | none=>rw[hx] at L;exact cg (bv L)
   | some es=>
    rw[hx] at L;exact iU (bv L) rfl rfl (J0 rfl (io (oR (bA (aG rfl) rfl (bA (aG rfl) rfl cJ)) (S8 rfl)) rfl) (cg (bv L)) rfl)
  rw[<- S6];exact iU (bv hj) rfl rfl (J0 rfl hin (e2 m hm U r0 r1) (List.flatMap_cons ..).symm)
theorem yu(H:HI F r h)(Z:bH h)(N:NG h.ns){wk:Nat}(hw:r[wk]?=some (AO.inst 3 [(14,.ref 3)])){G:Prop}
  (kk:∀ l j,Ok 9 41 [.ref (wk+19),lf.av] (F.st r) (.ref (j+19)) (F.st (r++l))->(r++l)[j]?=some (AO.list ((aH h.ns lf).map ar))->G):G:=by
 have hsz:=H.size;obtain⟨l,e⟩:=sS (lf:=lf) Z N (wk:=wk) (jc:=r.length) (all:=(List.range h.ns.length).map aa) (List.range h.ns.length) (H.grow [AO.list ((List.range h.ns.length).map aa)]) (ag hw _) (bN _ _ _) fun c hc=>List.mem_range.mp hc;rw[<- fb] at e;refine kk ([AO.list ((List.range h.ns.length).map aa)]++l++[AO.list ((aH h.ns lf).map ar)]) (r++[AO.list ((List.range h.ns.length).map aa)]++l).length ?_ (by rw[<- S6,<- S6];exact bN _ _ _)
 clear kk;rw[<- S6,<- S6];refine .mk rfl rfl fun m hm=>?_;have t:=pV H Z m (SJ (by decide) hm)
 have hlen:((aH h.ns lf).map ar).length<=ay:=by
  rw[fb];exact Mo hsz (SJ (qw (pP h.ns lf) (List.range h.ns.length)) (SM UD))
 have hc:au ⟨az ak m⟩ (.comp2 (.tup [.loc 3,.loc 4]) (.one 3) (.meth (.attr (.loc 0) 14) 44 []) (.one 4) (.meth (.loc 0) 53 [.loc 3,.loc 1])) (fun i=>[AV.ref (wk+19),lf.av][i]?) (F.st r)=some (.ref ((r++[AO.list ((List.range h.ns.length).map aa)]++l).length+19),F.st (r++[AO.list ((List.range h.ns.length).map aa)]++l++[AO.list ((aH h.ns lf).map ar)])):=by
  refine m7 (v:=.ref (r.length+19)) (s:=⟨(List.range h.ns.length).map aa,[(r.length+19,some ((List.range h.ns.length).map aa))]⟩) (Y1:=F.st (r++[AO.list ((List.range h.ns.length).map aa)])) (Y2:=F.st (r++[AO.list ((List.range h.ns.length).map aa)]++l)) (vs:=(aH h.ns lf).map ar) (by exists hw,t) rfl (aV (aK (cG (bN _ _ _)))) ?_ hlen rfl rfl
  exact e m (hm) (fun i=>[AV.ref (wk+19),lf.av][i]?) rfl rfl
 exists hc
theorem sd(H:HI F r h)(Z:bH h)(N:NG h.ns){rn ru rl op wk wa:Nat}{fs:List (Nat×AV)}{rt:Rk}{like:Option Bool}{most:Int}(hR:r[rn]?=some (AO.inst 6 fs))(f14:fs.lookup 19=some (.ref (rl+19)))(f20:fs.lookup 20=some (.ref (op+19)))(f21:fs.lookup 21=some (.ref (wk+19)))(f24:fs.lookup 24=some (.int 0))(f26:fs.lookup 26=some (.ref (wa+19)))
  (hUU:r[ru]?=some (cj lf rt like)) (hL:r[rl]?=some (AO.list [.ref (ru+19)])) (hO:r[op]?=some (AO.dict [(.sym 20,.int most)])) (hW:r[wk]?=some (AO.inst 3 [(14,.ref 3)])) (hA:r[wa]?=some (AO.list [.int 0])) {G:Prop}
  (kk:∀ l j,Ok 10 49 [.ref (rn+19),.int 0] (F.st r) (.ref (j+19)) (F.st (r++l))->(r++l)[j]?=some (AO.list ((aH h.ns lf).map ar))->G):G:=by
 refine yu (lf:=lf) H Z N hW fun l j O L=>?_;refine kk l j (.mk rfl rfl fun m hm=>?_) L;have t:=O m hm;have hd:aA [(AV.sym 20,AV.int most)] (.sym 16)=none:=rfl;have hR':=ag hR l;have hO':=ag hO l;exists hR,f14,f20,f21,f24,f26,hA,hL,hUU,hW,lf.it,t,hR',hO',hd
end
noncomputable abbrev pL:S:=S.ite (X.and (X.cmp2 aS.eq aS.eq (X.sub (X.loc 4) (X.cst (am.int 0))) (X.sub (X.loc 1) (X.cst (am.int 0))) (X.cst (am.sym 4))) (X.or (X.cmp aS.ne (X.sub (X.loc 1) (X.cst (am.int 1))) (X.sub (X.loc 1) (X.cst (am.int 2)))) (X.cmp aS.eq (X.sub (X.loc 4) (X.cst (am.int 1))) (X.sub (X.loc 4) (X.cst (am.int 2)))))) [S.expr (X.meth (X.loc 2) 27 [X.tup [X.loc 3,X.blt aO.tupleOf [X.blt aO.sorted [X.blt aO.set [X.lst [X.tup [X.sub (X.sub (X.loc 1) (X.cst (am.int 1))) (X.cst (am.int 0)),X.sub (X.loc 4) (X.cst (am.int 1))],X.tup [X.sub (X.sub (X.loc 1) (X.cst (am.int 2))) (X.cst (am.int 0)),X.sub (X.loc 4) (X.cst (am.int 2))]]]]]]])] []
noncomputable abbrev pM:S:=S.ite (X.cmp2 aS.eq aS.eq (X.sub (X.loc 4) (X.cst (am.int 0))) (X.sub (X.loc 1) (X.cst (am.int 0))) (X.cst (am.sym 3))) [S.asg (ax.one 5) (X.sub (X.loc 0) (X.sub (X.loc 4) (X.cst (am.int 1)))),S.ite (X.cmp aS.eq (X.sub (X.sub (X.loc 1) (X.cst (am.int 1))) (X.cst (am.int 0))) (X.cst (am.sym 7))) [S.expr (X.meth (X.loc 2) 27 [X.tup [X.loc 3,X.tup [X.tup [X.cst (am.sym 7),X.sub (X.loc 4) (X.cst (am.int 1))]]]])] [S.ite (X.cmp aS.eq (X.sub (X.loc 5) (X.cst (am.int 0))) (X.cst (am.sym 3))) [S.expr (X.meth (X.loc 2) 27 [X.tup [X.loc 3,X.tup [X.tup [X.cst (am.sym 7),X.sub (X.loc 5) (X.cst (am.int 1))]]]])] []]] []
def PK(F:Fx)(lf:Lf)(j2 c:Nat)(d:Nd)(r r':St):Prop:=∀(m:Nat) (E:En),E 0=some (.ref 18)->E 1=some lf.av->E 2=some (.ref (j2+19))->E 3=some (aa c)->E 4=some (aJ d)->
 ∃ E',bn ⟨az ak m⟩ [pL,pM] E (F.st r)=some (none,E',F.st r')/\E' 0=some (.ref 18)/\E' 1=some lf.av/\E' 2=some (.ref (j2+19))
theorem mh{x:AV}(hp:x.pur=true)(hk:ce x x=true):lv [x,x]=some [x]:=by
 show de (x.pur&&x.pur&&ce x x) (bif decide (x=x) then[x] else[x,x])=_;rw[hp,hk,SV rfl];rfl
section
variable{F:Fx}{lf:Lf}
theorem eM{C:Calls}{E:En}{Y:St}{op h:Nat}{v w:List AV}(e1:E 1=some (.tup (.sym h::v)))(e4:E 4=some (.tup (.sym op::w)))(hn:op=h->h≠4):dS C pL E Y=some (none,E,Y):=by
 by_cases q:op=h
 ·have q1:∀{Y},bi .eq Y (.sym op) (.sym h)=some true:=SI some (Ld q);have q2:∀{Y},bi .eq Y (.sym h) (.sym 4)=some false:=SI some (AL (hn q));exists e1,e4,q1,q2
 ·have q1:∀{Y},bi .eq Y (.sym op) (.sym h)=some false:=SI some (AL q);exists e1,e4,q1
theorem eN{C:Calls}{E:En}{Y:St}{op h:Nat}{v w:List AV}(e1:E 1=some (.tup (.sym h::v)))(e4:E 4=some (.tup (.sym op::w)))(hn:op=h->h≠3):bn C [pM] E Y=some (none,E,Y):=by
 by_cases q:op=h
 ·have q1:∀{Y},bi .eq Y (.sym op) (.sym h)=some true:=SI some (Ld q);have q2:∀{Y},bi .eq Y (.sym h) (.sym 3)=some false:=SI some (AL (hn q));exists e1,e4,q1,q2
 ·have q1:∀{Y},bi .eq Y (.sym op) (.sym h)=some false:=SI some (AL q);exists e1,e4,q1
def EP(F:Fx)(ws:List Nd)(r:St)(c j2:Nat)(acc:List AV)(G:Prop):Prop:=∀{lf:Lf} (N:NG ws) (hW:F.world=ws.map aJ) {op:Nat} {ks:List Nat} (hc:ws[c]?=some (op,ks)) (hj:r[j2]?=some (AO.list acc)) (hl:acc.length<=1000) (kk:∀ r1,r1[j2]?=some (AO.list (acc++gr ws lf c))->r.length<=r1.length->(∀ i,i<r.length->i≠j2->r1[i]?=r[i]?)->PK F lf j2 c (op,ks) r r1->G),G
def Iw(a:Fx×List Nd×St×Nat×Nat×List AV×Prop):Prop:=EP a.1 a.2.1 a.2.2.1 a.2.2.2.1 a.2.2.2.2.1 a.2.2.2.2.2.1 a.2.2.2.2.2.2
noncomputable def rU:=lN (Ds,default) Iw
noncomputable def KB:=rU.1
noncomputable def Bq:=rU.2.1
noncomputable def Dd:=rU.2.2.1
noncomputable def De:=rU.2.2.2.1
noncomputable def yl:=rU.2.2.2.2.1
noncomputable def ub:=rU.2.2.2.2.2.1
noncomputable def Ly:=rU.2.2.2.2.2.2
theorem Lz:EP KB Bq Dd De yl ub Ly:=fun{lf} N hW {op} {ks} hc hj hl kk=>by
 obtain⟨n1,n2⟩:=N.kids De op ks hc;have hlt:=(SR.mp hj).1;have hle:ub.length+1<=ay:=by unfold ay;exact Mm hl
 have skip:db Bq lf De=none->PK KB lf yl De (op,ks) Dd Dd->Ly:=fun ho he=>kk Dd (by rw[mr ho,Tr];exact hj) (SN _) (fun _ _ _=>rfl) he
 have find:∀(es:List (AV×AV)) (l:St),db Bq lf De=some es->PK KB lf yl De (op,ks) Dd ((Dd++l).set yl (AO.list (ub++[.tup [aa De,.tup (bX es)]])))->Ly:=fun es l ho he=>
  kk ((Dd++l).set yl (AO.list (ub++[.tup [aa De,.tup (bX es)]]))) (by rw[mq ho,TY (by rw[SZ];exact Un _ hlt)]) (by rw[Uu];exact(Fr.grow [] Dd l).len) (fun i hi hne=>by rw[Tt (fun e=>hne e.symm),Tf hi]) he
 clear kk
 rcases n2 with⟨ho,rfl⟩ | ⟨rfl,hk⟩ | ⟨rfl,hk⟩
 ·refine skip (bg hc ?_) fun m E e0 e1 e2 e3 e4=>⟨E,?_,e0,e1,e2⟩
  ·rcases ho with rfl | rfl<;>cases lf<;>rfl
  ·have n3:∀ k,3<=k->op≠k:=fun k hk e=>Ux (e▸hk) (ho.elim (fun e=>e▸by decide) fun e=>e▸by decide)
   cases lf
   ·exact bK (eM e1 e4 fun q=>SP q (n3 3 (by decide))) (eN e1 e4 fun q=>SP q (n3 3 (by decide)))
   ·exact bK (eM e1 e4 fun q=>SP q (n3 3 (by decide))) (eN e1 e4 fun q=>SP q (n3 3 (by decide)))
   ·exact bK (eM e1 e4 fun q=>SP q (n3 4 (by decide))) (eN e1 e4 fun q=>SP q (n3 4 (by decide)))
   ·exact bK (eM e1 e4 fun q=>SP q (n3 4 (by decide))) (eN e1 e4 fun q=>SP q (n3 4 (by decide)))
 ·obtain⟨k,rfl⟩:=List.length_eq_one_iff.mp hk;have hkn:=TC (T3 (n1 k (.head _)) (SR.mp hc).1)
  revert hkn
  generalize Bq[k]'_=d;intro hkn;obtain⟨opk,kk⟩:=d;have hwk:KB.world[k]?=some (aJ (opk,kk)):=by rw[hW,TD,hkn];rfl
  cases lf with
  | f1=>
   refine find [(.sym 7,aa k)] [] (bg hc rfl) fun m E e0 e1 e2 e3 e4=>⟨ah E 5 (aJ (opk,kk)),?_,e0,e1,e2⟩;rw[Tr];refine bK (eM e1 e4 fun _=>by decide) ?_
   exists e0,e1,e2,e3,e4,d9 hwk,hj,hle
  | f2=>
   by_cases q:opk=3
   ·subst q;obtain⟨d,rfl⟩:=N.one hkn;refine find [(.sym 7,aa d)] [] (bg hc (al hkn)) fun m E e0 e1 e2 e3 e4=>⟨ah E 5 (aJ (3,[d])),?_,e0,e1,e2⟩;rw[Tr];refine bK (eM e1 e4 fun _=>by decide) ?_
    exists e0,e1,e2,e3,e4,d9 hwk,hj,hle
   ·refine skip (bg hc ((al hkn).trans (tP q))) fun m E e0 e1 e2 e3 e4=>⟨ah E 5 (aJ (opk,kk)),?_,e0,e1,e2⟩;have q9:∀{Y},bi .eq Y (.sym opk) (.sym 3)=some false:=SI some (AL q);refine bK (eM e1 e4 fun _=>by decide) ?_
    exists e0,e1,e2,e3,e4,d9 hwk,hj,hle,q9
  | gxy=>exact skip (bg hc rfl) fun m E e0 e1 e2 e3 e4=>⟨E,bK (eM e1 e4 fun q=>nomatch q) (eN e1 e4 fun _=>by decide),e0,e1,e2⟩
  | gxx=>exact skip (bg hc rfl) fun m E e0 e1 e2 e3 e4=>⟨E,bK (eM e1 e4 fun q=>nomatch q) (eN e1 e4 fun _=>by decide),e0,e1,e2⟩
 ·obtain⟨a,b,rfl⟩:=Jm hk
  cases lf with
  | f1=>exact skip (bg hc rfl) fun m E e0 e1 e2 e3 e4=>⟨E,bK (eM e1 e4 fun _=>by decide) (eN e1 e4 fun q=>nomatch q),e0,e1,e2⟩
  | f2=>exact skip (bg hc rfl) fun m E e0 e1 e2 e3 e4=>⟨E,bK (eM e1 e4 fun _=>by decide) (eN e1 e4 fun q=>nomatch q),e0,e1,e2⟩
  | gxy=>
   refine find [(.sym 7,aa a),(.sym 8,aa b)] [.list [.tup [.sym 7,aa a],.tup [.sym 8,aa b]],.list [.tup [.sym 7,aa a],.tup [.sym 8,aa b]]] (bg hc rfl) fun m E e0 e1 e2 e3 e4=>⟨E,?_,e0,e1,e2⟩;refine(seq ?_).trans (eN e1 e4 fun _=>by decide)
   exists e0,e1,e2,e3,e4,hj,hle,fE rfl,mh rfl rfl
  | gxx=>
   by_cases q:a=b
   ·subst q;refine find [(.sym 7,aa a)] [.list [.tup [.sym 7,aa a],.tup [.sym 7,aa a]],.list [.tup [.sym 7,aa a]]] (bg hc (SQ rfl)) fun m E e0 e1 e2 e3 e4=>⟨E,?_,e0,e1,e2⟩;refine(seq ?_).trans (eN e1 e4 fun _=>by decide)
    exists e0,e1,e2,e3,e4,hj,hle,fE rfl,mh rfl rfl
   ·refine skip (bg hc (SL q)) fun m E e0 e1 e2 e3 e4=>⟨E,?_,e0,e1,e2⟩;refine(seq ?_).trans (eN e1 e4 fun _=>by decide)
    exists e0,e1,e2,e3,e4,iO q
theorem pJ{ws:List Nd}{r:St}{c j2:Nat}{acc:List AV}{G:Prop}:EP F ws r c j2 acc G:=bF Iw Lz (F,ws,r,c,j2,acc,G)
end
section
variable{F:Fx}{lf:Lf}
theorem pK{ws:List Nd}(N:NG ws)(hW:F.world=ws.map aJ){j2:Nat}:∀(ds:List Nd) (t:Nat) {r:St} {acc:List AV},ws.drop t=ds->r[j2]?=some (AO.list acc)->acc.length+ds.length<=1000->
  ∀(G:Prop),(∀ r',r'[j2]?=some (AO.list (acc++(List.range' t ds.length).flatMap (gr ws lf)))->r.length<=r'.length->(∀ i,i<r.length->i≠j2->r'[i]?=r[i]?)->(∀(m:Nat) (E:En),E 0=some (.ref 18)->E 1=some lf.av->E 2=some (.ref (j2+19))->∃ E',dT [(18,some F.world)] (.many [3,4]) (bn ⟨az ak m⟩ [pL,pM]) ((ds.zipIdx t).map ev) E (F.st r)=some (none,E',F.st r')/\E' 2=some (.ref (j2+19)))->G)->G:=by
 intro ds;induction ds with
 | nil=>exact fun t {r acc} hd hj hl _ kk=>kk r (by show _=some (AO.list (acc++[]));rw[Tr];exact hj) (SN _) (fun _ _ _=>rfl) fun m E e0 e1 e2=>⟨E,bU (mt _ rfl),e2⟩
 | cons x ds ih=>
  obtain⟨op,ks⟩:=x;intro t r acc hd hj hl G kk;have hc:ws[t]?=some (op,ks):=uJ hd;have hd':ws.drop (t+1)=ds:=uH hd;refine pJ (lf:=lf) N hW hc hj (Ml hl) fun r1 a1 a2 a3 a4=>?_;have ho:=pP ws lf t;refine ih (t+1) hd' a1 (by rw[SZ];exact Mk hl ho) _ fun r' b1 b2 b3 b4=>?_
  refine kk r' ?_ (SJ a2 b2) (fun i hi hne=>(b3 i (TJ hi a2) hne).trans (a3 i hi hne)) fun m E e0 e1 e2=>?_
  ·rw[List.length_cons,List.range'_succ,List.flatMap_cons,<- S6];exact b1
  ·obtain⟨E1,c1,c2,c3,c4⟩:=a4 m (ah (ah E 3 (aa t)) 4 (aJ (op,ks))) e0 e1 e2 rfl rfl;obtain⟨E2,d1,d2⟩:=b4 m E1 c2 c3 c4;refine⟨E2,?_,d2⟩;exact cm (mt _ rfl) rfl c1 d1
theorem vL{ws:List Nd}(N:NG ws)(hW:F.world=ws.map aJ)(hsz:ws.length<=100){r:St}{G:Prop}
  (kk:∀ l j,Ok 1 6 [.ref 18,lf.av] (F.st r) (.ref (j+19)) (F.st (r++l))->(r++l)[j]?=some (AO.list ((aH ws lf).map ar))->r.length<=j->G):G:=by
 refine pK (lf:=lf) N hW (j2:=r.length) ws 0 (r:=r++[.list []]) (acc:=[]) rfl (bN _ _ _) (by simp;exact SJ hsz (by decide)) _ fun r' a1 a2 a3 a4=>?_
 rw[List.nil_append,<- List.range_eq_range',<- fb] at a1;have hr:r'=r++r'.drop r.length:=by
  apply List.ext_getElem?;intro i
  rcases Nat.lt_or_ge i r.length with q | q
  ·rw[Tf q,a3 i (by simp;exact TL q) (Te q),Tf q]
  ·rw[TR q,List.getElem?_drop];congr 1;exact IQ q
 rw[hr] at a1;refine kk (r'.drop r.length) r.length (.mk rfl rfl fun m hm=>?_) a1 (SN _);rw[<- hr] at a1 ⊢;have s1:dS ⟨az ak m⟩ (.asg (.one 2) (.lst [])) (fun i=>[AV.ref 18,lf.av][i]?) (F.st r)=some (none,ah (fun i=>[AV.ref 18,lf.av][i]?) 2 (.ref (r.length+19)),F.st (r++[.list []])):=by exists trivial
 obtain⟨E,b1,b2⟩:=a4 m (ah (fun i=>[AV.ref 18,lf.av][i]?) 2 (.ref (r.length+19))) rfl rfl rfl;have hfor:dS ⟨az ak m⟩ (.for_ (.many [3,4]) (.blt .enum [.loc 0]) [pL,pM]) (ah (fun i=>[AV.ref 18,lf.av][i]?) 2 (.ref (r.length+19))) (F.st (r++[.list []]))=some (none,E,F.st r'):=by
  rw[cY (v:=.enm (.ref 18)) (s:=⟨(ws.zipIdx 0).map ev,[(18,some F.world)]⟩) (Y1:=F.st (r++[.list []])) (by exists trivial) rfl ?_]
  ·exact b1
  ·exact(tW (l:=F.world) rfl).trans (by rw[hW];exact SI (fun l=>some (wX.mk l _)) xg)
 rw[seq s1];show ed (bn _ (.for_ (.many [3,4]) (.blt .enum [.loc 0]) [pL,pM]::_) _ _)=_;rw[seq hfor];exists b2
theorem vI{r:St}{j:Nat}:Ok 1 38 [.ref (r.length+19),.ref 3] (F.st (r++[.inst 3 []])) .none (F.st (r++[.inst 3 [(14,.ref 3)]])):=by
 refine .mk rfl rfl fun m hm=>?_;exists trivial
theorem vK{r:St}:Ok 1 43 [.ref (r.length+19),.ref 3] (F.st (r++[.inst 5 []])) .none (F.st (r++[.inst 5 [(14,.ref 3)]])):=by
 refine .mk rfl rfl fun m hm=>?_;exists trivial
end
noncomputable def pp(x:List AV×AV):AV:=.tup [.tup x.1,x.2]
def dh(k:Nat)(p:AV)(qs:List AV):Prop:=∀(F:Fx) (r:St),∃(l:St) (j:Nat) (ps:List (List AV×AV)),Ok k 3 [p] (F.st r) (.ref (j+19)) (F.st (r++l))/\(r++l)[j]?=some (AO.list (ps.map pp))/\ps.map (·.2)=qs/\(∀ x∈ps,x.1.length<=k/\x.2.isIt=false)
noncomputable abbrev nA:List S:=[S.expr (X.meth (X.loc 1) 28 [X.comp (X.tup [X.bin cQ.add (X.tup [X.loc 2]) (X.loc 5),X.loc 6]) (ax.many [5,6]) (X.call 3 [X.loc 3]) []])]
theorem rV{F:Fx}{k j1:Nat}(hk:k<=100):∀(kids:List (AV×List AV)) (t:Nat) {r:St} {acc:List (List AV×AV)},(∀ x∈kids,dh k x.1 x.2/\x.1.isIt=false)->r[j1]?=some (AO.list (acc.map pp))->(∀ x∈acc,x.1.length<=k+1/\x.2.isIt=false)->acc.length+(kids.flatMap (·.2)).length<=1000->
  ∀(G:Prop),(∀(r':St) (acc':List (List AV×AV)),r'[j1]?=some (AO.list (acc'.map pp))->acc'.map (·.2)=acc.map (·.2)++kids.flatMap (·.2)->(∀ x∈acc',x.1.length<=k+1/\x.2.isIt=false)->r.length<=r'.length->(∀ i,i<r.length->i≠j1->r'[i]?=r[i]?)->(∀(m:Nat),k<=m->∀ E:En,E 1=some (.ref (j1+19))->∃ E',dT [] (.many [2,3]) (bn ⟨az ak m⟩ nA) (((kids.map (·.1)).zipIdx t).map fun(x:AV×Nat)=>AV.tup [.int (x.2:Nat),x.1]) E (F.st r)=some (none,E',F.st r')/\E' 1=some (.ref (j1+19)))->G)->G:=by
 intro kids;induction kids with
 | nil=>exact fun t {r acc} hx hj ha hl _ kk=>kk r acc hj (Tr _).symm ha (SN _) (fun _ _ _=>rfl) fun m hm E e1=>⟨E,bU rfl,e1⟩
 | cons x kids ih=>
  obtain⟨p,qs⟩:=x;intro t r acc hx hj ha hl G kk;have hp:dh k p qs:=(hx (p,qs) (.head _)).1;have hpi:p.isIt=false:=(hx (p,qs) (.head _)).2;obtain⟨l,j,ps,O,L,hq,hb⟩:=hp F r;have hlt:=(SR.mp hj).1;have hj2:=ag hj l
  let nw:List (List AV×AV):=ps.map fun x=>(AV.int (t:Nat)::x.1,x.2)
  have hnw:nw.map (·.2)=qs:=by rw[<- hq];simp[nw,Function.comp_def]
  have hpl:ps.length=qs.length:=by rw[<- hq,S7]
  simp only[List.flatMap_cons,List.length_append] at hl
  let r1:St:=(r++l++[AO.list (nw.map pp)]).set j1 (AO.list ((acc++nw).map pp))
  have h1:r1[j1]?=some (AO.list ((acc++nw).map pp)):=by
   show((r++l++[AO.list (nw.map pp)]).set j1 _)[j1]?=_;rw[TY (by simp;exact Mj hlt)]
  refine ih (t+1) (fun x hx'=>hx x (.tail _ hx')) h1 (fun x hx'=>by
   rcases Tg.mp hx' with q | q
   ·exact ha x q
   ·obtain⟨y,hy,rfl⟩:=Ta.mp q;have:=hb y hy;exact⟨T9 this.1,this.2⟩) (by rw[SZ];simp only[nw,List.length_map];exact Mi hpl hl) _ fun r' acc' b1 b2 b3 b4 b5 b6=>?_
  have hr1:r1.length=r.length+l.length+1:=by simp[r1];exact Mh
  refine kk r' acc' b1 ?_ b3 (Mg b4 hr1) (fun i hi hne=>?_) fun m hm E e1=>?_
  ·rw[b2,Th,hnw,List.flatMap_cons,S6]
  ·rw[b5 i (by rw[hr1];exact TL (Un _ hi)) hne]
   show((r++l++[AO.list (nw.map pp)]).set j1 _)[i]?=_;rw[Tt (fun e=>hne e.symm),S6,Tf hi]
  ·have hbody:bn ⟨az ak m⟩ nA (ah (ah E 2 (.int (t:Nat))) 3 p) (F.st r)=some (none,ah (ah E 2 (.int (t:Nat))) 3 p,F.st r1):=by
    have t1:=O m hm;have hcomp:au ⟨az ak m⟩ (.comp (X.tup [X.bin cQ.add (X.tup [X.loc 2]) (X.loc 5),X.loc 6]) (ax.many [5,6]) (X.call 3 [X.loc 3]) []) (ah (ah E 2 (.int (t:Nat))) 3 p) (F.st r)=some (.ref ((r++l).length+19),F.st (r++l++[AO.list (nw.map pp)])):=by
     have hg:=bv (F:=F) L;refine bm (v:=.ref (j+19)) (s:=⟨ps.map pp,[(j+19,some (ps.map pp))]⟩) (Y1:=F.st (r++l)) (Y2:=F.st (r++l)) (vs:=ps.map fun x=>pp (AV.int (t:Nat)::x.1,x.2)) (by exists hpi,t1) rfl (aV (aK (cG L))) (cE hg fun x hx'=>⟨_,rfl,rfl,?_⟩) (by simp[ay];exact Mf hpl hl) rfl (by rw[show nw.map pp=ps.map (fun x=>pp (AV.int (t:Nat)::x.1,x.2)) from TP ..];rfl)
     have hb':=hb x hx';have h9:x.1.length<=99999:=SJ hb'.1 (SJ hk (by decide))
     exact io (oR (bA (xq (oR (bA (aG rfl) rfl cJ) (S8 rfl)) rfl (aG rfl) rfl (nP (v8 h9))) rfl (bA (aG rfl) hb'.2 cJ)) (S8 rfl)) rfl
    have hne:j1≠(r++l).length:=by simp;exact Me hlt
    have g0:(r++l++[AO.list (nw.map pp)])[(r++l).length]?=some (AO.list (nw.map pp)):=bN _ _ _;have hj3:=ag hj2 [AO.list (nw.map pp)];have hle:acc.length+nw.length<=ay:=by unfold ay;simp only[nw,List.length_map];exact Md hpl hl
    have hs1:F.st r1=(F.st (r++l++[AO.list (nw.map pp)])).set (j1+19) (AO.list ((acc++nw).map pp)):=by rw[sr]
    rw[hs1];unfold nA;generalize r++l++[AO.list (nw.map pp)]=r9 at *;have hs2:(F.st r9).set (j1+19) (AO.list (acc.map pp++nw.map pp))=(F.st r9).set (j1+19) (AO.list ((acc++nw).map pp)):=by rw[Th]
    exists(show ah (ah E 2 (.int (t:Nat))) 3 p 1=_ from e1),hj,hcomp,hj3,g0,BE hne,Jl hle,hs2
   obtain⟨E',c1,c2⟩:=b6 m hm (ah (ah E 2 (.int (t:Nat))) 3 p) e1;refine⟨E',?_,c2⟩;exact cm rfl rfl hbody c1
theorem A2{r r':St}(h:∀ i,i<r.length->r'[i]?=r[i]?)(hl:r.length<=r'.length):r'=r++r'.drop r.length:=by
 apply List.ext_getElem?;intro i
 rcases Nat.lt_or_ge i r.length with q | q
 ·rw[Tf q,h i q]
 ·rw[TR q,List.getElem?_drop];congr 1;exact IQ q
theorem fc{k s:Nat}(hk:k<=100)(kids:List (AV×List AV))(hx:∀ x∈kids,dh k x.1 x.2/\x.1.isIt=false)(hl:(kids.flatMap (·.2)).length<=900) :
  dh (k+1) (.tup (.sym s::kids.map (·.1))) (.tup (.sym s::kids.map (·.1))::kids.flatMap (·.2)):=fun F r=>by
 generalize hp:AV.tup (.sym s::kids.map (·.1))=p;have hpi:p.isIt=false:=by rw[<- hp];rfl
 refine rV (F:=F) (j1:=r.length) hk kids 0 (r:=r++[AO.list [pp ([],p)]]) (acc:=[([],p)]) hx (bN _ _ _) (fun x hx=>SY.mp hx▸⟨Tb _,hpi⟩) (by rw[List.length_singleton];exact Mc hl) _ fun r' acc' b1 b2 b3 b4 b5 b6=>?_
 have hr:r'=r++r'.drop r.length:=A2 (fun i hi=>by rw[b5 i (by simp;exact TL hi) (Te hi),Tf hi]) (by simp at b4;exact Nat.le_of_succ_le b4)
 refine⟨r'.drop r.length,r.length,acc',.mk rfl rfl fun m hm=>?_,by rw[<- hr];exact b1,by rw[b2];rfl,b3⟩
 rw[<- hr];obtain⟨E,c1,c2⟩:=b6 m (hm) (ah (fun i=>[p][i]?) 1 (.ref (r.length+19))) rfl;have hs:F.st r++[AO.list [.tup [.tup [],p]]]=F.st (r++[AO.list [pp ([],p)]]):=rfl;have hfor:dS ⟨az ak m⟩ (.for_ (.many [2,3]) (.blt .enum [.slc (.loc 0) .tail]) nA) (ah (fun i=>[p][i]?) 1 (.ref (r.length+19))) (F.st (r++[AO.list [pp ([],p)]]))=some (none,E,F.st r'):=by
  refine(cY (v:=.enm (.tup (kids.map (·.1)))) (s:=⟨((kids.map (·.1)).zipIdx 0).map fun(x:AV×Nat)=>AV.tup [.int (x.2:Nat),x.1],[]⟩) (Y1:=F.st (r++[AO.list [pp ([],p)]])) ?_ rfl rfl).trans c1;rw[<- hp];exists trivial
 exists hpi,hs,hfor,c2
noncomputable def sM(v:AV):Bool:=decide (v=.tup [.sym 7])||decide (v=.tup [.sym 8])
noncomputable def JK:AV->AV
 | .tup (v::_)=>v
 | _=>.none
def dB(k:Nat)(p:AV)(vs:List AV):Prop:=∀(F:Fx) (r:St),∃(l:St) (j:Nat),Ok k 2 [p] (F.st r) (.ref (j+19)) (F.st (r++l))/\(r++l)[j]?=some (AO.list vs)
theorem qz{α β:Type}(f:α->β)(p:β->Bool){γ:Type}(g:β->γ)(l:List α):(l.filter fun x=>p (f x)).map (fun x=>g (f x))=((l.map f).filter p).map g:=by
 rw[List.filter_map,TP];rfl
theorem dY{k:Nat}{p:AV}{qs ys vs:List AV}(hk:1<=k/\k<=50)(P:dh k p qs)(hq:∀ q∈qs,∀(F:Fx) (r:St),Ok 1 1 [q] (F.st r) (.bool (sM q)) (F.st r))(hq2:∀ q∈qs,∃ v vs,q=.tup (v::vs)/\v.isIt=false)(hl:qs.length<=100)(hs:lv ((qs.filter sM).map JK)=some ys)(ht:b7 ys=some vs)(hpi:p.isIt=false) :
  dB (k+1) p vs:=fun F r=>by
 obtain⟨l,j,ps,O,L,Hi,hb⟩:=P F r
 let ls:List AV:=(qs.filter sM).map JK
 have hls:(ps.filter fun x=>sM x.2).map (fun x=>JK x.2)=ls:=by
  show _=(qs.filter sM).map JK;rw[<- Hi];exact qz _ _ _ ps
 refine⟨l++[AO.list ls,AO.list vs],(r++l).length+1,?_,by rw[<- S6];exact iZ _ _ _ _⟩
 rw[<- S6];refine .mk rfl rfl fun m hm=>?_;have t1:=O m hm;have hcomp:au ⟨az ak m⟩ (.comp (.sub (.loc 3) (.cst (.int 0))) (.many [2,3]) (.call 3 [.loc 0]) [.call 1 [.loc 3]]) (fun i=>[p][i]?) (F.st r)=some (.ref ((r++l).length+19),F.st (r++l++[AO.list ls])):=by
  refine bm (v:=.ref (j+19)) (s:=⟨ps.map pp,[(j+19,some (ps.map pp))]⟩) (Y1:=F.st (r++l)) (Y2:=F.st (r++l)) (vs:=(ps.filter fun x=>sM x.2).map fun x=>JK x.2) (m9 (bA (aG rfl) hpi cJ) t1) rfl (aV (aK (cG L))) (wG (bv L) fun x hx=>⟨_,rfl,?_,fun hv=>?_⟩) ?_ rfl (by rw[hls];rfl)
  ·have hx2:x.2∈qs:=by rw[<- Hi];exact Ta.mpr ⟨x,hx,rfl⟩
   exact oZ (m9 (bA (aG rfl) (hb x hx).2 cJ) (hq x.2 hx2 F (r++l) m (Mb hk hm)))
  ·have hx2:x.2∈qs:=by rw[<- Hi];exact Ta.mpr ⟨x,hx,rfl⟩
   obtain⟨v,vs',e,ei⟩:=hq2 x.2 hx2;exact io (oS (aG rfl) (hb x hx).2 AH rfl (by rw[e];rfl)) (by rw[e];exact ei)
  ·rw[hls];have h1:ls.length<=qs.length:=by simp only[ls,List.length_map];exact List.length_filter_le _ _
   exact SJ h1 (SJ hl (by decide))
 have hs':lv ls=some ys:=hs;exists hcomp,hs',ht
theorem dy{s:Nat}:dh 1 (.tup [.sym s]) [.tup [.sym s]]:=fc (k:=0) (by decide) [] (fun x hx=>by cases hx) (by simp)
theorem gA{s:Nat}(h:s=7\/s=8)(F:Fx)(r:St):Ok 1 1 [.tup [.sym s]] (F.st r) (.bool (sM (.tup [.sym s]))) (F.st r):=by
 have:sM (.tup [.sym s])=true:=by rcases h with rfl | rfl<;>rfl
 rw[this];exact cz (.inl ⟨h,rfl⟩)
theorem Jw{v w:AV}{vs:List AV}:sM (.tup (v::w::vs))=false:=by
 unfold sM;have g:∀ k,AV.tup (v::w::vs)≠.tup [.sym k]:=fun k e=>nomatch(List.cons.inj (AV.tup.inj e)).2
 rw[Tk (g 7),Tk (g 8)];rfl
theorem Jx{s:Nat}(h:1<=s/\s<=6):sM (.tup [.sym s])=false:=by
 unfold sM;have g:∀ k,7<=k->AV.tup [.sym s]≠.tup [.sym k]:=fun k hk e=>Ux (SJ hk (SM (AV.sym.inj (List.cons.inj (AV.tup.inj e)).1).symm)) (T4 h.2);rw[Tk (g 7 (by decide)),Tk (g 8 (by decide))];rfl
theorem B4{s:Nat}(h:1<=s/\s<=6)(F:Fx)(r:St):Ok 1 1 [.tup [.sym s]] (F.st r) (.bool (sM (.tup [.sym s]))) (F.st r):=by
 rw[Jx h];exact cz (.inr ⟨h,rfl⟩)
theorem jB{v w:AV}{vs:List AV}(hv:vs.length<=40)(F:Fx)(r:St):Ok 1 1 [.tup (v::w::vs)] (F.st r) (.bool (sM (.tup (v::w::vs)))) (F.st r):=by rw[Jw];exact dj hv
theorem CY:dB 2 (.tup [.sym 7]) [.sym 7]:=dY (by decide) dy (fun q hq F r=>by rw[SY.mp hq];exact gA (.inl rfl) F r) (fun q hq=>by rw[SY.mp hq];exact⟨_,_,rfl,rfl⟩) (by simp) (ys:=[.sym 7]) rfl rfl rfl
theorem xl{s:Nat}(h:1<=s/\s<=6):dB 2 (.tup [.sym s]) []:=by
 have hs:=Jx h;exact dY (by decide) dy (fun q hq F r=>by rw[SY.mp hq];exact B4 h F r) (fun q hq=>by rw[SY.mp hq];exact⟨_,_,rfl,rfl⟩) (by simp) (ys:=[]) (by simp[hs,lv]) rfl rfl
theorem uE{s:Nat}:dh 2 (.tup [.sym s,.tup [.sym 7]]) [.tup [.sym s,.tup [.sym 7]],.tup [.sym 7]]:=fc (k:=1) (by decide) [(.tup [.sym 7],[.tup [.sym 7]])] (fun x hx=>by rw[SY.mp hx];exact⟨dy,rfl⟩) (by simp)
theorem zu{s:Nat}:dB 3 (.tup [.sym s,.tup [.sym 7]]) [.sym 7]:=dY (by decide) uE (fun q hq F r=>by
  rcases SW.mp hq with rfl | hq
  ·exact jB (by simp) F r
  ·rw[SY.mp hq];exact gA (.inl rfl) F r) (fun q hq=>by
  rcases SW.mp hq with rfl | hq
  ·exact⟨_,_,rfl,rfl⟩
  ·rw[SY.mp hq];exact⟨_,_,rfl,rfl⟩) (by simp) (ys:=[.sym 7]) (by rw[List.filter_cons,Jw];rfl) rfl rfl
theorem zv:dh 3 Lf.f2.av [Lf.f2.av,.tup [.sym 3,.tup [.sym 7]],.tup [.sym 7]]:=fc (k:=2) (by decide) [(.tup [.sym 3,.tup [.sym 7]],[.tup [.sym 3,.tup [.sym 7]],.tup [.sym 7]])] (fun x hx=>by rw[SY.mp hx];exact⟨uE,rfl⟩) (by simp)
theorem uD{s:Nat}:dh 2 (.tup [.sym 4,.tup [.sym 7],.tup [.sym s]]) [.tup [.sym 4,.tup [.sym 7],.tup [.sym s]],.tup [.sym 7],.tup [.sym s]]:=fc (k:=1) (by decide) [(.tup [.sym 7],[.tup [.sym 7]]),(.tup [.sym s],[.tup [.sym s]])] (fun x hx=>by
  rcases SW.mp hx with rfl | hx
  ·exact⟨dy,rfl⟩
  ·rw[SY.mp hx];exact⟨dy,rfl⟩) (by simp)
noncomputable def Lf.vs:Lf->List AV
 | .gxy=>[.sym 7,.sym 8]
 | _=>[.sym 7]
noncomputable def Rk.vs:Rk->List AV
 | .c=>[]
 | _=>[.sym 7]
theorem BU(lf:Lf):dB 4 lf.av lf.vs:=by
 have g3:∀{s:Nat},(s=7\/s=8)->∀ q∈[AV.tup [.sym 4,.tup [.sym 7],.tup [.sym s]],.tup [.sym 7],.tup [.sym s]],(∀(F:Fx) (r:St),Ok 1 1 [q] (F.st r) (.bool (sM q)) (F.st r))/\∃ v vs,q=.tup (v::vs)/\v.isIt=false:=fun hs q hq=>by
  rcases SW.mp hq with rfl | hq
  ·exact⟨jB (by simp),_,_,rfl,rfl⟩
  ·rcases SW.mp hq with rfl | hq
   ·exact⟨gA (.inl rfl),_,_,rfl,rfl⟩
   ·rw[SY.mp hq];exact⟨gA hs,_,_,rfl,rfl⟩
 cases lf with
 | f1=>exact fun F r=>by obtain⟨l,j,O,L⟩:=zu (s:=3) F r;exact⟨l,j,O.up (by decide),L⟩
 | f2=>
  exact dY (by decide) zv (fun q hq F r=>by
   rcases SW.mp hq with rfl | hq
   ·exact jB (by simp) F r
   ·rcases SW.mp hq with rfl | hq
    ·exact jB (by simp) F r
    ·rw[SY.mp hq];exact gA (.inl rfl) F r) (fun q hq=>by
   rcases SW.mp hq with rfl | hq
   ·exact⟨_,_,rfl,rfl⟩
   ·rcases SW.mp hq with rfl | hq
    ·exact⟨_,_,rfl,rfl⟩
    ·rw[SY.mp hq];exact⟨_,_,rfl,rfl⟩) (by simp) (ys:=[.sym 7]) rfl rfl rfl
 | gxy=>
  have:=dY (by decide) (uD (s:=8)) (fun q hq=>(g3 (.inr rfl) q hq).1) (fun q hq=>(g3 (.inr rfl) q hq).2) (by simp) (ys:=[.sym 7,.sym 8]) rfl rfl rfl
  exact fun F r=>by obtain⟨l,j,O,L⟩:=this F r;exact⟨l,j,O.up (by decide),L⟩
 | gxx=>
  have:=dY (by decide) (uD (s:=7)) (fun q hq=>(g3 (.inl rfl) q hq).1) (fun q hq=>(g3 (.inl rfl) q hq).2) (by simp) (ys:=[.sym 7]) rfl rfl rfl
  exact fun F r=>by obtain⟨l,j,O,L⟩:=this F r;exact⟨l,j,O.up (by decide),L⟩
theorem t9(rt:Rk):dB 3 rt.av rt.vs:=by
 cases rt with
 | c=>exact fun F r=>by obtain⟨l,j,O,L⟩:=xl (s:=6) (by decide) F r;exact⟨l,j,O.up (by decide),L⟩
 | x=>exact fun F r=>by obtain⟨l,j,O,L⟩:=CY F r;exact⟨l,j,O.up (by decide),L⟩
 | h=>exact zu
noncomputable abbrev yf:List S:=[S.ite (X.cmp aS.notIn (X.loc 7) (X.tup [X.cst (am.sym 11),X.cst (am.sym 12)])) [S.raise] [],S.asg (ax.one 10) (X.comp (X.loc 12) (ax.one 12) (X.bin cQ.add (X.call 2 [X.loc 8]) (X.call 2 [X.loc 9])) [X.cmp aS.notIn (X.loc 12) (X.loc 5)]),S.ite (X.cmp aS.ne (X.loc 10) (X.lst [])) [S.raise] []]
theorem aZ{U:En}{v:AV}{i n j:Nat}(h:i<n)(e:Nat.ble n j=true):ah U j v i=U i:=SL (Te (TJ h (S8 e)))
section
variable{F:Fx}
theorem mj{r:St}{j5 s:Nat}{a b:AV}{vl va vb:List AV}(hs:s=11\/s=12)(hj:r[j5]?=some (AO.list vl))(hvl:AV.purs vl=true)(A:dB 4 a va)(B:dB 4 b vb)(hai:a.isIt=false)(hbi:b.isIt=false)(hab:∀ v∈va++vb,v∈vl/\v.isIt=false/\v.pur=true)(hl:(va++vb).length<=100){G:Prop}
  (kk:∀ l:St,(∀ m,4<=m->∀ E:En,E 5=some (.ref (j5+19))->E 7=some (.sym s)->E 8=some a->E 9=some b->∃ j,bn ⟨az ak m⟩ yf E (F.st r)=some (none,ah E 10 (.ref (j+19)),F.st (r++l)))->G):G:=by
 obtain⟨la,ja,Oa,La⟩:=A F r;obtain⟨lb,jb,Ob,Lb⟩:=B F (r++la)
 let r2:St:=r++la++lb
 have La2:r2[ja]?=some (AO.list va):=ag La lb;have hj2:r2[j5]?=some (AO.list vl):=ag (ag hj la) lb
 let r3:St:=r2++[AO.list (va++vb)]
 have hj3:r3[j5]?=some (AO.list vl):=ag hj2 _;have g3:r3[r2.length]?=some (AO.list (va++vb)):=bN _ _ _;have hall:r3++[AO.list [],AO.list []]=r++(la++lb++[AO.list (va++vb),AO.list [],AO.list []]):=by simp[r3,r2]
 refine kk (la++lb++[AO.list (va++vb),AO.list [],AO.list []]) fun m hm E e5 e7 e8 e9=>⟨r3.length,?_⟩;clear kk;rw[<- hall];have ta:=Oa m hm;have tb:=Ob m hm;have hle:va.length+vb.length<=ay:=by rw[SZ] at hl;unfold ay;exact Ma hl
 have ca:au ⟨az ak m⟩ (.call 2 [.loc 8]) E (F.st r)=some (.ref (ja+19),F.st (r++la)):=by exists e8,hai,ta
 have cb:au ⟨az ak m⟩ (.call 2 [.loc 9]) E (F.st (r++la))=some (.ref (jb+19),F.st r2):=by
  exact m9 (bA (aG e9) hbi cJ) tb
 have hadd:au ⟨az ak m⟩ (.bin .add (.call 2 [.loc 8]) (.call 2 [.loc 9])) E (F.st r)=some (.ref (r2.length+19),F.st r3):=by
  exact xq ca rfl cb rfl (yz (aK (cG La2)) (aK (cG Lb)) (by rw[SZ];exact hle) rfl rfl)
 have hc:au ⟨az ak m⟩ (.comp (.loc 12) (.one 12) (.bin .add (.call 2 [.loc 8]) (.call 2 [.loc 9])) [.cmp .notIn (.loc 12) (.loc 5)]) E (F.st r)=some (.ref (r3.length+19),F.st (r3++[AO.list []])):=by
  have hg:ip (F.st r3) [(r2.length+19,some (va++vb))]=true:=bv g3;refine bm (v:=.ref (r2.length+19)) (s:=⟨va++vb,[(r2.length+19,some (va++vb))]⟩) (Y1:=F.st r3) (Y2:=F.st r3) (vs:=[]) hadd rfl (aV (aK (cG g3))) ?_ (Tb _) rfl rfl;have key:∀ vs:List AV,(∀ v∈vs,v∈vl/\v.isIt=false/\v.pur=true)->bz [(r2.length+19,some (va++vb))] (.one 12) E (Cy ⟨az ak m⟩ [.cmp .notIn (.loc 12) (.loc 5)]) (fun U' Y'=>one (au ⟨az ak m⟩ (.loc 12) U' Y')) vs (F.st r3)=some ([],F.st r3):=by
   intro vs
   induction vs with
   | nil=>intro _;exact cg hg
   | cons v vs ih=>
    intro h;obtain⟨x1,x2,x3⟩:=h v (.head _);exact iU hg rfl (oZ (l8 (aG rfl) x2 (aG e5) rfl (Dy (Dz (cG hj3) (jm x3 hvl) (SV x1))))) (PQ rfl (ih fun v hv=>h v (.tail _ hv)))
  exact key (va++vb) hab
 have q1:dS ⟨az ak m⟩ (S.ite (X.cmp aS.notIn (X.loc 7) (X.tup [X.cst (am.sym 11),X.cst (am.sym 12)])) [S.raise] []) E (F.st r)=some (none,E,F.st r):=by
  rcases hs with rfl | rfl<;>exists e7
 have q2:r3=r3:=rfl;generalize r3=r9 at *;exists q1,hc
theorem qe(lf:Lf):AV.purs lf.vs=true:=by cases lf<;>rfl
theorem pF(lf:Lf):∀ v∈([.sym 7,.sym 7]:List AV),v∈lf.vs/\v.isIt=false/\v.pur=true:=fun v hv=>by
 have:v=.sym 7:=by simp at hv;exact hv
 subst this;exact⟨by cases lf<;>simp[Lf.vs],rfl,rfl⟩
theorem dB.up{k k':Nat}{p:AV}{vs:List AV}(x:dB k p vs)(h:k<=k'):dB k' p vs:=fun F r=>by
 obtain⟨l,j,O,L⟩:=x F r;exact⟨l,j,O.up h,L⟩
theorem v6(lf:Lf)(F:Fx)(r:St):Ok 1 1 [lf.av] (F.st r) (.bool false) (F.st r):=by
 cases lf<;>exact dj (by simp)
theorem Bw{r:St}{lf:Lf}{rt:Rk}{like:Option Bool} :
  ∃ l:St,Ok 5 42 [.ref (r.length+19),.sym 15,lf.av,rt.av,.tup (aP like)] (F.st (r++[.inst 4 []])) .none (F.st (r++cj lf rt like::l)):=by
 obtain⟨l1,j5,O,L⟩:=BU lf F (r++[.inst 4 []])
 let need:List AV:=.tup [.sym 11,rt.av,rt.av]::aP like
 let r2:St:=r++[.inst 4 []]++l1++[AO.list [.tup [.sym 11,rt.av,rt.av]],AO.list (aP like),AO.list need]
 have hj2:r2[j5]?=some (AO.list lf.vs):=ag L _;have hrs:∀ v∈rt.vs++rt.vs,v∈lf.vs/\v.isIt=false/\v.pur=true:=fun v hv=>by
  refine pF lf v ?_
  cases rt<;>simp[Rk.vs] at hv ⊢<;>exact hv
 refine mj (F:=F) (r:=r2) (s:=11) (.inl rfl) hj2 (qe lf) ((t9 rt).up (by decide)) ((t9 rt).up (by decide)) rt.it rt.it hrs (by cases rt<;>simp[Rk.vs]) fun l2 S1=>?_
 let j6:=(r++[AO.inst 4 []]++l1).length+2
 have h6:r2[j6]?=some (AO.list need):=zk _ _ _ _ _;obtain⟨l3,S2⟩:∃ l3:St,∀ m,4<=m->∀ E:En,E 5=some (.ref (j5+19))->∃ E',dT [(j6+19,some need)] (.many [7,8,9]) (bn ⟨az ak m⟩ yf) need E (F.st r2)=some (none,E',F.st (r2++l3))/\∀ i,i<7->E' i=E i:=by
  cases hlk:like with
  | none=>
   refine⟨l2,fun m hm E e5=>?_⟩;obtain⟨j,t⟩:=S1 m hm (ah (ah (ah E 7 (.sym 11)) 8 rt.av) 9 rt.av) e5 rfl rfl rfl;refine⟨ah (ah (ah (ah E 7 (.sym 11)) 8 rt.av) 9 rt.av) 10 (.ref (j+19)),cm (bv h6) rfl t ?_,fun i hi=>?_⟩
   ·have:aP like=[]:=by rw[hlk];rfl
    rw[this];exact bU (bv (ag h6 l2))
   ·exact(aZ hi rfl).trans ((aZ hi rfl).trans ((aZ hi rfl).trans (aZ hi rfl)))
  | some bb=>
   refine mj (F:=F) (r:=r2++l2) (s:=if bb=true then 11 else 12) (a:=.tup [.sym 7]) (b:=.tup [.sym 1]) (by cases bb<;>simp) (ag hj2 l2) (qe lf) (CY.up (by decide)) ((xl (s:=1) (by decide)).up (by decide)) rfl rfl (fun v hv=>pF lf v (by simp at hv ⊢;exact hv)) (by simp) fun l4 S4=>?_
   refine⟨l2++l4,fun m hm E e5=>?_⟩;obtain⟨j,t⟩:=S1 m hm (ah (ah (ah E 7 (.sym 11)) 8 rt.av) 9 rt.av) e5 rfl rfl rfl;generalize hE1:ah (ah (ah (ah E 7 (.sym 11)) 8 rt.av) 9 rt.av) 10 (.ref (j+19))=E1 at t;have e15:E1 5=some (.ref (j5+19)):=by rw[<- hE1];exact e5
   obtain⟨j',t'⟩:=S4 m hm (ah (ah (ah E1 7 (.sym (if bb=true then 11 else 12))) 8 (.tup [.sym 7])) 9 (.tup [.sym 1])) e15 rfl rfl rfl
   refine⟨ah (ah (ah (ah E1 7 (.sym (if bb=true then 11 else 12))) 8 (.tup [.sym 7])) 9 (.tup [.sym 1])) 10 (.ref (j'+19)),cm (bv h6) rfl t ?_,fun i hi=>?_⟩
   rotate_left
   ·rw[<- hE1];exact(aZ hi rfl).trans ((aZ hi rfl).trans ((aZ hi rfl).trans ((aZ hi rfl).trans ((aZ hi rfl).trans ((aZ hi rfl).trans ((aZ hi rfl).trans (aZ hi rfl)))))))
   ·have hn:aP like=[.tup [.sym (if bb=true then 11 else 12),.tup [.sym 7],.tup [.sym 1]]]:=by rw[hlk];rfl
    have h62:=ag h6 l2;have h63:=ag h62 l4;rw[hn,<- S6];exact cm (bv h62) rfl t' (bU (bv h63))
 let A0:En:=fun i=>[AV.ref (r.length+19),.sym 15,lf.av,rt.av,.tup (aP like)][i]?
 have hr2:r2++l3=r++AO.inst 4 []::(l1++[AO.list [.tup [.sym 11,rt.av,rt.av]],AO.list (aP like),AO.list need]++l3):=by simp[r2]
 generalize hl9:l1++[AO.list [.tup [.sym 11,rt.av,rt.av]],AO.list (aP like),AO.list need]++l3=l9 at hr2;refine⟨l9,.mk rfl rfl fun m hm=>?_⟩;have t1:=v6 lf F (r++[.inst 4 []]) m (SJ (by decide) hm)
 have t2:=O m hm;have q3:dS ⟨az ak m⟩ (.asg (.one 6) (.bin .add (.lst [.tup [.cst (.sym 11),.loc 3,.loc 3]]) (.blt .listOf [.loc 4]))) (ah A0 5 (.ref (j5+19))) (F.st (r++[.inst 4 []]++l1))=some (none,ah (ah A0 5 (.ref (j5+19))) 6 (.ref (j6+19)),F.st r2):=by
  have hln:([AV.tup [.sym 11,rt.av,rt.av]]++aP like).length<=ay:=by cases like<;>exact S8 rfl
  have hg:r2=(r++[.inst 4 []]++l1)++[AO.list [.tup [.sym 11,rt.av,rt.av]],AO.list (aP like),AO.list need]:=rfl;have hj:j6=(r++[AO.inst 4 []]++l1).length+2:=rfl;rw[hg,hj];generalize r++[AO.inst 4 []]++l1=r8;exists rt.it,hln,(Kj:F.st (r8++[AO.list [AV.tup [AV.sym 11,rt.av,rt.av]],AO.list (aP like)])++[AO.list ([AV.tup [AV.sym 11,rt.av,rt.av]]++aP like)]=F.st (r8++[AO.list [AV.tup [AV.sym 11,rt.av,rt.av]],AO.list (aP like),AO.list need]))
 obtain⟨E,c1,c2⟩:=S2 m (hm) (ah (ah A0 5 (.ref (j5+19))) 6 (.ref (j6+19))) rfl;have hfor:dS ⟨az ak m⟩ (.for_ (.many [7,8,9]) (.loc 6) yf) (ah (ah A0 5 (.ref (j5+19))) 6 (.ref (j6+19))) (F.st r2)=some (none,E,F.st (r++AO.inst 4 []::l9)):=by
  rw[<- hr2];exact(cY (v:=.ref (j6+19)) (s:=⟨need,[(j6+19,some need)]⟩) (Y1:=F.st r2) (aG rfl) rfl (aV (aK (cG h6)))).trans c1
 have E0:E 0=some (.ref (r.length+19)):=c2 0 (by decide)
 have E1:E 1=some (.sym 15):=c2 1 (by decide)
 have E2:E 2=some lf.av:=c2 2 (by decide)
 have E3:E 3=some rt.av:=c2 3 (by decide)
 have E4:E 4=some (.tup (aP like)):=c2 4 (by decide)
 exists lf.it,t1,t2,q3,hfor,E0,E1,E2,E3,E4,rt.it
end
section
variable{F:Fx}
noncomputable def gn(L ru op:Nat):List (Nat×AV):=[(14,.ref 3),(19,.ref (L+2+19)),(20,.ref (op+19)),(21,.ref (L+3+19)),(22,.ref (L+4+19)),(23,.ref (L+5+19)),(24,.int 0),(25,.ref (L+7+19)),(26,.ref (L+9+19))]
theorem vJ{r:St}{ru rl op:Nat}{most:Int}{lf:Lf}{rt:Rk}{like:Option Bool}(hL:r[rl]?=some (AO.list [.ref (ru+19)]))(hO:r[op]?=some (AO.dict [(.sym 20,.int most)]))(hUU:r[ru]?=some (cj lf rt like)) :
  Ok 2 47 [.ref (r.length+19),.ref 3,.ref (rl+19),.ref (op+19)] (F.st (r++[.inst 6 []])) .none
   (F.st (r++[.inst 6 (gn r.length ru op),.list [.sym 15],.list [.ref (ru+19)],.inst 3 [(14,.ref 3)],.inst 5 [(14,.ref 3)],.list [],.list [.int 0],.list [.int 0],.list [.int 0],.list [.int 0]])):=by
 refine .mk rfl rfl fun m hm=>?_
 let A0:En:=fun i=>[AV.ref (r.length+19),.ref 3,.ref (rl+19),.ref (op+19)][i]?
 have hd:(aA [(AV.sym 20,AV.int most)] (.sym 16)).getD (.sym 17)=.sym 17:=rfl;have hc:au ⟨az ak m⟩ (X.comp (X.attr (X.loc 6) 15) (ax.one 6) (X.loc 2) []) A0 (F.st (r++[.inst 6 []]))=some (.ref (r.length+1+19),F.st (r++[.inst 6 [],.list [.sym 15]])):=by
  have h1:=ag hL [.inst 6 []];have h2:=ag hUU [.inst 6 []];refine bm (v:=.ref (rl+19)) (s:=⟨[.ref (ru+19)],[(rl+19,some [.ref (ru+19)])]⟩) (Y1:=F.st (r++[.inst 6 []])) (Y2:=F.st (r++[.inst 6 []])) (vs:=[.sym 15]) (aG rfl) rfl (aV (aK (cG h1))) ?_ (S8 rfl) NL KN;exists bv h1,h2
 have tw:∀{a b c:AO},az ak m 38 [.ref (r.length+3+19),.ref 3] (F.st (r++[a,b,c,.inst 3 []]))=some (.none,F.st (r++[a,b,c,.inst 3 [(14,.ref 3)]])):=by
  intro a b c;have t:=vI (F:=F) (r:=r++[a,b,c]) (j:=0) m (hm);simp only[List.length_append,List.length_cons,List.length_nil,List.append_assoc,List.cons_append,List.nil_append] at t;exact t
 have tp:∀{a b c d:AO},az ak m 43 [.ref (r.length+4+19),.ref 3] (F.st (r++[a,b,c,d,.inst 5 []]))=some (.none,F.st (r++[a,b,c,d,.inst 5 [(14,.ref 3)]])):=by
  intro a b c d;have t:=vK (F:=F) (r:=r++[a,b,c,d]) m (hm);simp only[List.length_append,List.length_cons,List.length_nil,List.append_assoc,List.cons_append,List.nil_append] at t;exact t
 exists hO,hd,hc,hL,tw,tp
end
noncomputable def G5(vs:List AV):Fx:=⟨vs,vs,0,[],[],[],[],[],[],[],[],[],[],[],[],[]⟩
theorem wv(m:Nat)(vs:List AV):az ak (m+3) 25 [.ref 3] [.list vs,.list vs,.dict [(.sym 23,.ref 1),(.sym 24,.int 0)],.inst 2 []]=some (.none,(G5 vs).pre):=by
 kernel_rfl
noncomputable abbrev CC(m:Nat):Calls:=⟨az ak m⟩
theorem aD{m:Nat}{L:List S}{k:Nat}{s:S}{U U1:En}{Y Y1:St}(hs:L[k]?=some s)(h:dS (CC m) s U Y=some (none,U1,Y1)):bn (CC m) (L.drop k) U Y=bn (CC m) (L.drop (k+1)) U1 Y1:=by
 obtain⟨h1,h2⟩:=SR.mp hs;rw[UL h1,h2,seq h]
theorem yU{m:Nat}{L:List S}{k:Nat}{s:S}{U U1:En}{Y Y1:St}{v:AV}(hs:L[k]?=some s)(h:dS (CC m) s U Y=some (some v,U1,Y1)):bn (CC m) (L.drop k) U Y=some (some v,U1,Y1):=by
 obtain⟨h1,h2⟩:=SR.mp hs;rw[UL h1,h2,Ie h]
theorem HI.law{F F':Fx}{r:St}{h:HS}(H:HI F r h)(e:∃ a w,F'=((F.t2 a).t18 w)):HI F' r h:=by
 obtain⟨a,w,rfl⟩:=e;exact{ H with }
theorem NS{m:Nat}(hm:29<=m)(is:List Int)(U:En)(h0:U 0=some (.frz (is.map .int))){G:Prop}
  (kk:∀(F:Fx) (r:St) (ws:List Nd) (pr:Nat) (h:HS) (U':En),bn (CC m) (eG.2.drop 0) U []=bn (CC m) (eG.2.drop 3) U' (F.st r)->U' 1=some (.ref 2)->U' 2=some (.ref 3)->U' 3=some (.ref (pr+1+19))->HI F r h->bH h->h.ns=ws->NG ws->ws.length<=7->WI F r (pr+1) pr (ws,[])->DP F 40->pr∉h.D->pr+1∉h.D->G):G:=by
 let vs:List AV:=(is.take 30).map .int
 have hvs:(is.map AV.int).take 30=vs:=by simp[vs]
 have D0:DP (G5 vs) 0:=⟨is.take 30,0,rfl,rfl,SN _⟩;have hi:az ak m 25 [.ref 3] [.list vs,.list vs,.dict [(.sym 23,.ref 1),(.sym 24,.int 0)],.inst 2 []]=some (.none,(G5 vs).pre):=by obtain⟨k,rfl⟩:∃ k,m=k+3:=⟨m-3,L9 hm⟩;exact wv k vs
 have s0:dS (CC m) (S.asg (ax.many [1,2]) (X.tup [X.dct [23,24] [X.blt aO.listOf [X.slc (X.loc 0) Sl.first30],X.cst (am.int 0)],X.new 2 []])) U []=some (none,ah (ah U 1 (.ref 2)) 2 (.ref 3),(G5 vs).pre):=by
  have hs:([]:St)++[AO.list ((is.map AV.int).take 30)]=[.list vs]:=by rw[hvs];rfl
  have q1:au (CC m) (.slc (.loc 0) .first30) U []=some (.ref 0,[.list vs]):=l6 (aG h0) rfl (Hx rfl hs);have q2:au (CC m) (.blt .listOf [.slc (.loc 0) .first30]) U []=some (.ref 1,[.list vs,.list vs]):=xp (bA q1 rfl cJ) (Af (l:=vs) rfl rfl rfl);have q3:au (CC m) (.dct [23,24] [.blt .listOf [.slc (.loc 0) .first30],.cst (.int 0)]) U []=some (.ref 2,[.list vs,.list vs,.dict [(.sym 23,.ref 1),(.sym 24,.int 0)]]):=C0 (bA q2 rfl (bA AH rfl cJ)) rfl rfl (S8 rfl) rfl rfl;have q4:au (CC m) (.new 2 []) U [.list vs,.list vs,.dict [(.sym 23,.ref 1),(.sym 24,.int 0)]]=some (.ref 3,(G5 vs).pre):=by
   refine CZ (f:=25) (kk:=3) (τ:=[.list vs,.list vs,.dict [(.sym 23,.ref 1),(.sym 24,.int 0)],.inst 2 []]) cJ rfl rfl rfl ?_
   with_reducible exact hi
  exact yk (oR (bA q3 rfl (bA q4 rfl cJ)) (S8 rfl)) rfl rfl
 refine nG D0 (by decide) fun a l ws O1 D1 N hsz=>?_
 have t1:=O1 m (SJ (by decide) hm)
 generalize hF1:((G5 vs).t2 a).t18 (ws.map aJ)=F1 at t1 D1;have hW1:F1.world=ws.map aJ:=by rw[<- hF1]
 let r2:St:=l++[.list [],.dict [(.sym 20,.ref 18),(.sym 22,.ref (l.length+19))]]
 have s1:dS (CC m) (S.asg (ax.one 3) (X.dct [20,22] [X.call 5 [X.loc 1],X.lst []])) (ah (ah U 1 (.ref 2)) 2 (.ref 3)) (G5 vs).pre=some (none,ah (ah (ah U 1 (.ref 2)) 2 (.ref 3)) 3 (.ref (l.length+1+19)),F1.st r2):=by
  exists t1,(KN:F1.st (l++[AO.list []])++[AO.dict ((List.map AV.sym [20,22]).zip [AV.ref 18,AV.ref (l.length+19)])]=F1.st r2)
 have hE:PW F1:=by rw[<- hF1];exact⟨rfl,rfl,rfl,rfl,rfl,rfl,rfl,rfl,rfl,rfl,rfl,rfl⟩
 refine wu N hsz ws [] (F:=F1) (r:=r2) (h:=Internal.h0) rfl rfl bH.empty (HI.empty hE) hW1 _ fun F3 r3 h e3 H fr lw hns Z=>?_;obtain⟨U3,u1,u2⟩:=e3 m (SJ (by decide) hm) (ah (ah (ah U 1 (.ref 2)) 2 (.ref 3)) 3 (.ref (l.length+1+19))) rfl
 have s2:dS (CC m) (.for_ (.one 4) (.sub (.loc 3) (.cst (.sym 20))) zh) (ah (ah (ah U 1 (.ref 2)) 2 (.ref 3)) 3 (.ref (l.length+1+19))) (F1.st r2)=some (none,U3,F3.st r3):=by
  have hdg:aA [(AV.sym 20,AV.ref 18),(AV.sym 22,AV.ref (l.length+19))] (.sym 20)=some (.ref 18):=rfl;have g:r2[l.length+1]?=some (AO.dict [(.sym 20,.ref 18),(.sym 22,.ref (l.length+19))]):=iZ _ _ _ _;exact(cY (v:=.ref 18) (s:=⟨ws.map aJ,[(18,some (ws.map aJ))]⟩) (Y1:=F1.st r2) (by exists g,hdg) rfl (by rw[<- hW1];rfl)).trans u1
 have nD:∀ j,j<r2.length->j∉h.D:=fun j hj q=>by
  rcases fr.new j q with q | q
  ·exact(Ud (a:=j)) q
  ·exact Ux q hj
 have hr2:r2.length=l.length+2:=by simp[r2]
 have l1:l.length+1<r2.length:=TJ (Uf _) (SM hr2.symm);have l0:l.length<r2.length:=Nat.lt_of_succ_lt l1;refine kk F3 r3 ws l.length h U3 (((aD rfl s0).trans (aD rfl s1)).trans (aD rfl s2)) (u2 1 (by decide)) (u2 2 (by decide)) (u2 3 (by decide)) H Z hns N hsz ⟨lw.2.2.2.trans hW1,?_,?_,nofun,fun i op ks hi=>?_,SJ hsz (by decide),Tb _⟩ ?_ (nD _ l0) (nD _ l1)
 ·exact(fr.same _ l1 nofun).trans (iZ _ _ _ _)
 ·exact(fr.same _ l0 nofun).trans (bN _ _ _)
 ·obtain⟨k1,k2⟩:=N.kids i op ks hi;exact⟨k1,by rcases k2 with⟨_,e⟩ | ⟨_,e⟩ | ⟨_,e⟩<;>simp[e]⟩
 ·obtain⟨cs,x,y1,y2,y3⟩:=D1;exact⟨cs,x,lw.2.1.trans y1,lw.2.2.1.trans y2,L7 y3⟩
theorem NI{v:Nat}(h:v<3):v=0\/v=1\/v=2:=(Nat.lt_or_eq_of_le (Nat.le_of_lt_succ h)).elim (fun h=>(IS h).imp_right .inl) fun e=>.inr (.inr e)
theorem Px{v:Nat}(h:v<4):v=0\/v=1\/v=2\/v=3:=(Nat.lt_or_eq_of_le (Nat.le_of_lt_succ h)).elim (fun h=>(NI h).imp_right fun h=>h.imp_right .inl) fun e=>.inr (.inr (.inr e))
theorem DP.le{F F':Fx}{a b:Nat}(h:DP F a)(e:a<=b)(hc:F'.cells=F.cells)(ha:F'.ato=F.ato):DP F' b:=by
 obtain⟨cs,x,y1,y2,y3⟩:=h;exact⟨cs,x,hc.trans y1,ha.trans y2,SJ y3 e⟩
theorem yS{v:Nat}(h:v<4):∃ lf:Lf,∀ Y,ph Y (.tup [AV.tup [.sym 3,.tup [.sym 7]],.tup [.sym 3,.tup [.sym 3,.tup [.sym 7]]],.tup [.sym 4,.tup [.sym 7],.tup [.sym 8]],.tup [.sym 4,.tup [.sym 7],.tup [.sym 7]]]) (aa v)=some lf.av:=by
 rcases Px h with rfl | rfl | rfl | rfl
 ·exact⟨.f1,fun _=>rfl⟩
 ·exact⟨.f2,fun _=>rfl⟩
 ·exact⟨.gxy,fun _=>rfl⟩
 ·exact⟨.gxx,fun _=>rfl⟩
theorem vA{v:Nat}(h:v<3):∃ rt:Rk,∀ Y,ph Y (.tup [AV.tup [.sym 6],.tup [.sym 7],.tup [.sym 5,.tup [.sym 7]]]) (aa v)=some rt.av:=by
 rcases NI h with rfl | rfl | rfl
 ·exact⟨.c,fun _=>rfl⟩
 ·exact⟨.x,fun _=>rfl⟩
 ·exact⟨.h,fun _=>rfl⟩
theorem NR{m:Nat}(hm:29<=m){F:Fx}{r:St}{U:En}{b:Nat}(D:DP F b)(hb:b<=900)(h1:U 1=some (.ref 2))(h2:U 2=some (.ref 3)){G:Prop}
  (kk:∀(a:Int) (lf:Lf) (rt:Rk) (like:Option Bool) (most:Int) (U':En),bn (CC m) (eG.2.drop 3) U (F.st r)=bn (CC m) (eG.2.drop 7) U' ((F.t2 a).st r)->(∀ i,i<=4->U' i=U i)->U' 5=some lf.av->U' 6=some rt.av->U' 8=some (.tup (aP like))->U' 9=some (.int most)->DP (F.t2 a) (b+5)->G):G:=by
 refine cK (r:=r) D (SJ hb (by decide)) (by decide:0<4) fun v1 a1 hv1 O1 D1=>?_
 refine cK (r:=r) D1 (IP hb) (by decide:0<3) fun v2 a2 hv2 O2 D2=>?_
 have z4:aa 4=.int 4:=rfl;have z3:aa 3=.int 3:=rfl;have t1:=O1 m (SJ (by decide) hm)
 have t2:=O2 m (SJ (by decide) hm)
 rw[z4] at t1;rw[z3] at t2;obtain⟨lf,hlf⟩:=yS hv1;obtain⟨rt,hrt⟩:=vA hv2;have s3:dS (CC m) (S.asg (ax.many [5,6]) (X.tup [X.sub (X.glob 0) (X.call 4 [X.loc 1,X.cst (am.int 4)]),X.sub (X.glob 1) (X.call 4 [X.loc 1,X.cst (am.int 3)])])) U (F.st r)=some (none,ah (ah U 5 lf.av) 6 rt.av,(F.t2 a2).st r):=by
  exists h1,qq,t1,t2,hlf _,hrt _,lf.it,rt.it
 have asked:∀(G:Prop),(∀(q:Nat) (a3:Int),q<4->dS (CC m) (S.asg (ax.one 7) (X.ite (X.cmp aS.ne (X.sub (X.loc 6) (X.cst (am.int 0))) (X.cst (am.sym 6))) (X.call 4 [X.loc 1,X.cst (am.int 4)]) (X.cst (am.int 0)))) (ah (ah U 5 lf.av) 6 rt.av) ((F.t2 a2).st r)=some (none,ah (ah (ah U 5 lf.av) 6 rt.av) 7 (aa q),(F.t2 a3).st r)->DP (F.t2 a3) (b+3)->G)->G:=by
  clear kk s3;intro G kk
  cases rt with
  | c=>
   refine kk 0 a2 (by decide) ?_ (D2.le o0 rfl rfl)
   exists h1
  | x=>
   refine cK (r:=r) D2 (IO hb) (by decide:0<4) fun q a3 hq O3 D3=>?_
   have t3:=O3 m (SJ (by decide) hm)
   rw[z4] at t3;exact kk q a3 hq (by exists(show ah (ah U 5 lf.av) 6 _ 1=_ from h1),t3) D3
  | h=>
   refine cK (r:=r) D2 (IO hb) (by decide:0<4) fun q a3 hq O3 D3=>?_
   have t3:=O3 m (SJ (by decide) hm)
   rw[z4] at t3;exact kk q a3 hq (by exists(show ah (ah U 5 lf.av) 6 _ 1=_ from h1),t3) D3
 refine asked _ fun q a3 hq s4 D3=>?_;clear asked;obtain⟨like,s5⟩:∃ like:Option Bool,dS (CC m) (S.asg (ax.one 8) (X.ite (X.cmp aS.gt (X.loc 7) (X.cst (am.int 1))) (X.tup [X.tup [X.ite (X.cmp aS.eq (X.loc 7) (X.cst (am.int 2))) (X.cst (am.sym 11)) (X.cst (am.sym 12)),X.tup [X.cst (am.sym 7)],X.tup [X.cst (am.sym 1)]]]) (X.tup []))) (ah (ah (ah U 5 lf.av) 6 rt.av) 7 (aa q)) ((F.t2 a3).st r)=some (none,ah (ah (ah (ah U 5 lf.av) 6 rt.av) 7 (aa q)) 8 (.tup (aP like)),(F.t2 a3).st r):=by
  clear s4 s3 kk
  rcases Px hq with rfl | rfl | rfl | rfl
  ·exact⟨none,by exists trivial⟩
  ·exact⟨none,by exists trivial⟩
  ·exact⟨some true,by exists trivial⟩
  ·exact⟨some false,by exists trivial⟩
 refine cK (r:=r) D3 (L0 hb) (by decide:0<3) fun v4 a4 hv4 O4 D4=>?_
 have t4:=O4 m (SJ (by decide) hm)
 rw[z3] at t4;have ts:=er (F:=(F.t2 a3)) (rest:=r) m (SJ (by decide) hm)
 have last:∀(most a5:Int),dS (CC m) (S.asg (ax.one 9) (X.bin cQ.sub (X.bin cQ.add (X.meth (X.loc 2) 35 []) (X.ite (X.cmp aS.eq (X.call 4 [X.loc 1,X.cst (am.int 3)]) (X.cst (am.int 2))) (X.call 4 [X.loc 1,X.cst (am.int 4)]) (X.cst (am.int 40)))) (X.cst (am.int 1)))) (ah (ah (ah (ah U 5 lf.av) 6 rt.av) 7 (aa q)) 8 (.tup (aP like))) ((F.t2 a3).st r)=some (none,ah (ah (ah (ah (ah U 5 lf.av) 6 rt.av) 7 (aa q)) 8 (.tup (aP like))) 9 (.int most),(F.t2 a5).st r)->DP (F.t2 a5) (b+5)->G:=fun most a5 s6 D5=>
  kk a5 lf rt like most (ah (ah (ah (ah (ah U 5 lf.av) 6 rt.av) 7 (aa q)) 8 (.tup (aP like))) 9 (.int most)) ((((aD rfl s3).trans (aD rfl s4)).trans (aD rfl s5)).trans (aD rfl s6))
   (fun i hi=>have hi:=T4 hi;(aZ hi rfl).trans ((aZ hi rfl).trans ((aZ hi rfl).trans ((aZ hi rfl).trans (aZ hi rfl))))) rfl rfl rfl rfl D5
 clear kk s3 s4 s5
 ·have e1:ah (ah (ah (ah U 5 lf.av) 6 rt.av) 7 (aa q)) 8 (.tup (aP like)) 1=_:=h1;have e2:ah (ah (ah (ah U 5 lf.av) 6 rt.av) 7 (aa q)) 8 (.tup (aP like)) 2=_:=h2
  by_cases z:v4=2
  ·subst z;refine cK (r:=r) D4 (LZ hb) (by decide:0<4) fun v5 a5 hv5 O5 D5=>?_
   have t5:=O5 m (SJ (by decide) hm)
   rw[z4] at t5;exact last ((F.nodes.length:Int)+(v5:Nat)-1) a5 (by exists e1,e2,t4,t5,ts) D5
  ·exact last ((F.nodes.length:Int)+40-1) a4 (by exists e1,e2,t4,ts,NC (b:=2) z) (D4.le o0 rfl rfl)
noncomputable def IF(A:Ad)(fs:List (Nat×AV))(lf:Lf)(rt:Rk)(like:Option Bool)(most:Int):List (Nat×AO):=
 [(A.rn,.inst 6 fs),(A.ru,cj lf rt like),(A.pl,.inst 5 [(14,.ref 3)]),(A.rl,.list [.ref (A.ru+19)]),(A.op,.dict [(.sym 20,.int most)]),(A.hs,.list [])]
theorem zw{ws:List Nd}{lf:Lf}{c:Nat}:AV.purs (gr ws lf c)=true:=by
 unfold gr
 cases h:db ws lf c with
 | none=>rfl
 | some es=>
  exact gE (P:=fun _ es=>AV.purs [.tup [aa c,.tup (bX es)]]=true) h (fun _ _=>rfl) (fun _ _ _ _=>rfl) (fun _ _ _=>rfl) fun _ _=>rfl
theorem mo(ws:List Nd)(lf:Lf):AV.purs ((aH ws lf).map ar)=true:=by
 rw[fb];unfold AV.purs;rw[List.all_flatMap,Uw];exact fun c _=>zw
theorem NQ{m:Nat}(hm:29<=m){F:Fx}{r:St}{h:HS}{ws:List Nd}{pr:Nat}{U:En}{lf:Lf}{rt:Rk}{like:Option Bool}{most:Int}(H:HI F r h)(Z:bH h)(hns:h.ns=ws)(N:NG ws)(hsz:ws.length<=7)(Wi:WI F r (pr+1) pr (ws,[]))
  (h2:U 2=some (.ref 3)) (h3:U 3=some (.ref (pr+1+19))) (h5:U 5=some lf.av) (h6:U 6=some rt.av) (h8:U 8=some (.tup (aP like))) (h9:U 9=some (.int most)) {G:Prop}
  (kk:∀(r':St) (A:Ad) (fs:List (Nat×AV)) (U':En),bn (CC m) (eG.2.drop 7) U (F.st r)=bn (CC m) (eG.2.drop 11) U' (F.st r')->(∃ l,r'=r++l)->(∀ i,i<=9->U' i=U i)->U' 10=some (.ref (A.ru+19))->U' 11=some (.ref (A.rn+19))->U' 12=some (.ref (A.jl+19))->RF A fs->(∀ x∈IF A fs lf rt like most,r'[x.1]?=some x.2/\r.length<=x.1)->r'[A.jl]?=some (AO.list ((aH ws lf).map ar))->r.length<=A.jl->A.hs≠A.jl->G):G:=by
 obtain⟨l1,O1⟩:=Bw (F:=F) (r:=r) (lf:=lf) (rt:=rt) (like:=like)
 let ra:St:=r++cj lf rt like::l1
 have s7:dS (CC m) (S.asg (ax.one 10) (X.new 4 [X.cst (am.sym 15),X.loc 5,X.loc 6,X.loc 8])) U (F.st r)=some (none,ah U 10 (.ref (r.length+19)),F.st ra):=by
  have t:=O1 m (SJ (by decide) hm)
  exists h5,h6,h8,lf.it,rt.it,t
 let rb:St:=ra++[.list [.ref (r.length+19)],.dict [(.sym 20,.int most)]]
 have gL:rb[ra.length]?=some (AO.list [.ref (r.length+19)]):=bN _ _ _;have gO:rb[ra.length+1]?=some (AO.dict [(.sym 20,.int most)]):=iZ _ _ _ _;have gU0:ra[r.length]?=some (cj lf rt like):=bN _ _ _;have gU:rb[r.length]?=some (cj lf rt like):=ag gU0 _;have hrb:rb.length=ra.length+2:=by simp[rb]
 have hral:r.length<ra.length:=by simp[ra]
 have O2:=vJ (F:=F) gL gO gU
 let rc:St:=rb++[.inst 6 (gn rb.length r.length (ra.length+1)),.list [.sym 15],.list [.ref (r.length+19)],.inst 3 [(14,.ref 3)],.inst 5 [(14,.ref 3)],.list [],.list [.int 0],.list [.int 0],.list [.int 0],.list [.int 0]]
 have s8:dS (CC m) (S.asg (ax.one 11) (X.new 6 [X.loc 2,X.lst [X.loc 10],X.dct [20] [X.loc 9]])) (ah U 10 (.ref (r.length+19))) (F.st ra)=some (none,ah (ah U 10 (.ref (r.length+19))) 11 (.ref (rb.length+19)),F.st rc):=by
  have t:az ak m 47 [.ref (ra.length+2+19),.ref 3,.ref (ra.length+19),.ref (ra.length+1+19)] (F.st (ra++[.list [.ref (r.length+19)],.dict [(.sym 20,.int most)],.inst 6 []]))=some (.none,F.st rc):=by
   rw[show ra++[AO.list [.ref (r.length+19)],.dict [(.sym 20,.int most)],.inst 6 []]=rb++[.inst 6 []] from(S6 ra [_,_] [_]).symm,<- hrb];exact O2 m (SJ (by decide) hm)
  rw[hrb];exists h2,(show ah U 10 (.ref (r.length+19)) 9=_ from h9),t
 refine vL (F:=F) (lf:=lf) N Wi.world (SJ hsz (by decide)) (r:=rc) fun l2 j12 O3 L3 hj12=>?_
 have gc:∀(k:Nat) (o:AO),([AO.inst 6 (gn rb.length r.length (ra.length+1)),.list [.sym 15],.list [.ref (r.length+19)],.inst 3 [(14,.ref 3)],.inst 5 [(14,.ref 3)],.list [],.list [.int 0],.list [.int 0],.list [.int 0],.list [.int 0]]:St)[k]?=some o->rc[rb.length+k]?=some o:=fun k o e=>by
  show(rb++_)[rb.length+k]?=_;rw[N9];exact e
 have hrc:rc.length=rb.length+10:=by simp[rc]
 have s9:dS (CC m) (S.asg (ax.one 12) (X.call 6 [X.sub (X.loc 3) (X.cst (am.sym 20)),X.loc 5])) (ah (ah U 10 (.ref (r.length+19))) 11 (.ref (rb.length+19))) (F.st rc)=some (none,ah (ah (ah U 10 (.ref (r.length+19))) 11 (.ref (rb.length+19))) 12 (.ref (j12+19)),F.st (rc++l2)):=by
  have t:=O3 m (SJ (by decide) hm)
  have hw:rc[pr+1]?=some (AO.dict [(.sym 20,.ref 18),(.sym 22,.ref (pr+19))]):=ag (ag (ag Wi.wd _) _) _;have hdg:aA [(AV.sym 20,AV.ref 18),(AV.sym 22,AV.ref (pr+19))] (.sym 20)=some (.ref 18):=rfl;generalize rc=rc' at *;exists(show ah (ah U 10 (.ref (r.length+19))) 11 (.ref (rb.length+19)) 3=_ from h3),(show ah (ah U 10 (.ref (r.length+19))) 11 (.ref (rb.length+19)) 5=_ from h5),hw,hdg,lf.it,t
 let rd:St:=rc++l2
 have hd:∃ l,rd=r++l:=⟨cj lf rt like::l1++[.list [.ref (r.length+19)],.dict [(.sym 20,.int most)]]++[.inst 6 (gn rb.length r.length (ra.length+1)),.list [.sym 15],.list [.ref (r.length+19)],.inst 3 [(14,.ref 3)],.inst 5 [(14,.ref 3)],.list [],.list [.int 0],.list [.int 0],.list [.int 0],.list [.int 0]]++l2,by simp[rd,rc,rb,ra]⟩
 have Hd:HI F rd h:=by obtain⟨l,e⟩:=hd;rw[e];exact H.grow l
 have N':NG h.ns:=by rw[hns];exact N
 refine sd (lf:=lf) (rt:=rt) (like:=like) (most:=most) Hd Z N' (rn:=rb.length) (ru:=r.length) (rl:=rb.length+2) (op:=ra.length+1) (wk:=rb.length+3) (wa:=rb.length+9) (fs:=gn rb.length r.length (ra.length+1)) (ag (gc 0 _ rfl) l2) rfl rfl rfl rfl rfl (ag (ag gU _) l2) (ag (gc 2 _ rfl) l2) (ag (ag gO _) l2) (ag (gc 3 _ rfl) l2) (ag (gc 9 _ rfl) l2) fun l3 j O4 L4=>?_;rw[hns] at L4;have L5:=ag L3 l3;have s10:dS (CC m) (S.ite (X.cmp aS.ne (X.meth (X.loc 11) 59 [X.cst (am.int 0)]) (X.loc 12)) [S.ret (X.cst (am.bool false))] []) (ah (ah (ah U 10 (.ref (r.length+19))) 11 (.ref (rb.length+19))) 12 (.ref (j12+19))) (F.st rd)=some (none,ah (ah (ah U 10 (.ref (r.length+19))) 11 (.ref (rb.length+19))) 12 (.ref (j12+19)),F.st (rd++l3)):=by
  have t:=O4 m (SJ (by decide) hm)
  have hp:=mo ws lf;have hR:rd[rb.length]?=some (AO.inst 6 (gn rb.length r.length (ra.length+1))):=ag (gc 0 _ rfl) l2;have L5:(rd++l3)[j12]?=some (AO.list ((aH ws lf).map ar)):=L5;generalize (aH ws lf).map ar=pl at *;have hm:List.lookup 59 (gn rb.length r.length (ra.length+1))=none:=rfl;generalize rb.length=L at *;generalize gn L r.length (ra.length+1)=fs at *;generalize rd=rd' at *;exists hR,hm,t,L4,L5,jm hp hp,SV (rfl:pl=pl)
 have l0:r.length<=rb.length:=TU (TJ hral (hrb▸TH _ 2));have lk:∀ k,r.length<=rb.length+k:=fun k=>SJ l0 (TH _ k);have hj:r.length<=j12:=LY hrb hral hj12 hrc;refine kk (rd++l3) ⟨rb.length,r.length,rb.length+4,rb.length+2,ra.length+1,rb.length+5,j12⟩ (gn rb.length r.length (ra.length+1)) (ah (ah (ah U 10 (.ref (r.length+19))) 11 (.ref (rb.length+19))) 12 (.ref (j12+19))) ((((aD rfl s7).trans (aD rfl s8)).trans (aD rfl s9)).trans (aD rfl s10)) ?_ (fun i hi=>have hi:=T4 hi;(aZ hi rfl).trans ((aZ hi rfl).trans (aZ hi rfl))) rfl rfl rfl ⟨rfl,rfl,rfl,rfl,rfl,rfl,rfl,rfl,rfl⟩
  (bf ⟨ag (ag (gc 0 _ rfl) l2) l3,l0⟩ (bf ⟨ag (ag (ag gU _) l2) l3,SN _⟩ (bf ⟨ag (ag (gc 4 _ rfl) l2) l3,lk 4⟩ (bf ⟨ag (ag (gc 2 _ rfl) l2) l3,lk 2⟩ (bf ⟨ag (ag (ag gO _) l2) l3,TU (TL hral)⟩ (bf ⟨ag (ag (gc 5 _ rfl) l2) l3,lk 5⟩ nofun)))))) L5 hj (Te (TJ (Nat.add_lt_add_left (by decide) _) (hrc▸hj12)))
 obtain⟨l,e⟩:=hd;exact⟨l++l3,by rw[e,S6]⟩
theorem ie{ws:List Nd}{lf:Lf}{x:Nat×Nat×List AV}(h:x∈aH ws lf):∃ es,db ws lf x.1=some es/\x.2.1=KL es/\x.2.2=bX es:=by
 unfold aH at h;obtain⟨c,_,hc⟩:=List.mem_flatMap.mp h
 cases he:db ws lf c with
 | none=>rw[he] at hc;cases hc
 | some es=>
  rw[he] at hc;rw[SY.mp hc];exact⟨es,he,rfl,rfl⟩
theorem Br{ws:List Nd}{lf:Lf}{c:Nat}{es:List (AV×AV)}(h:db ws lf c=some es):cV ws lf c (KL es) (bX es):=by
 exact gE (P:=fun lf es=>cV ws lf c (KL es) (bX es)) h (fun _=>.f1) (fun _ _=>.f2) (fun _ _=>.gxy) fun _=>.gxx
noncomputable def ml(ws:List Nd)(lf:Lf):List (Nat×Nat):=(aH ws lf).map fun x=>(x.1,x.2.1)
theorem ua{ws:List Nd}{lf:Lf}:∀ n d d',(n,d)∈ml ws lf->(n,d')∈ml ws lf->d'=d:=fun n d d' h h'=>by
 obtain⟨x,hx,e⟩:=Ta.mp h;obtain⟨y,hy,e'⟩:=Ta.mp h';obtain⟨es,a1,a2,_⟩:=ie hx;obtain⟨es',b1,b2,_⟩:=ie hy;simp only[Prod.mk.injEq] at e e';rw[e.1] at a1;rw[e'.1,a1] at b1
 cases b1
 rw[<- e.2,<- e'.2,a2,b2]
theorem vD(ws:List Nd)(lf:Lf):(aH ws lf).length<=ws.length:=by
 unfold aH;exact SJ (qw (fun c=>by cases db ws lf c<;>exact S8 rfl) _) (SM UD)
theorem uP{ws:List Nd}{lf:Lf}{all:List (Nat×Nat×List AV)}(h:∀ x∈all,x∈aH ws lf):AV.purs (all.map ar)=true:=by
 have hp:=mo ws lf;unfold AV.purs at hp ⊢;rw[Uw] at hp ⊢;intro v hv;obtain⟨x,hx,rfl⟩:=Ta.mp hv;exact hp _ (Ta.mpr ⟨x,h x hx,rfl⟩)
theorem NP{m:Nat}(hm:29<=m){F:Fx}{r:St}{U:En}{b jl:Nat}{ws:List Nd}{lf:Lf}(D:DP F b)(hb:b<=900)(hsz:ws.length<=7)(h1:U 1=some (.ref 2))(h12:U 12=some (.ref (jl+19)))(hj:r[jl]?=some (AO.list ((aH ws lf).map ar))){G:Prop}
  (kk:∀(a:Int) (l:St) (jl':Nat) (all:List (Nat×Nat×List AV)) (U':En),bn (CC m) (eG.2.drop 11) U (F.st r)=bn (CC m) (eG.2.drop 13) U' ((F.t2 a).st (r++l))->(∀ i,i<=11->U' i=U i)->U' 12=some (.ref (jl'+19))->(r++l)[jl']?=some (AO.list (all.map ar))->(jl'=jl\/r.length<=jl')->(∀ x∈all,x∈aH ws lf)->all.length<=8->G):G:=by
 have hpl:=vD ws lf;have z2:aa 2=.int 2:=rfl;refine cK (r:=r) D (SJ hb (by decide)) (by decide:0<2) fun v1 a1 hv1 O1 D1=>?_
 have t1:=O1 m (SJ (by decide) hm)
 rw[z2] at t1;have turned:∀(G:Prop),(∀(l1:St) (j1:Nat) (p1:List (Nat×Nat×List AV)),dS (CC m) (S.ite (X.cmp aS.eq (X.call 4 [X.loc 1,X.cst (am.int 2)]) (X.cst (am.int 1))) [S.asg (ax.one 12) (X.slc (X.loc 12) Sl.rev)] []) U (F.st r)=some (none,ah U 12 (.ref (j1+19)),(F.t2 a1).st (r++l1))->(r++l1)[j1]?=some (AO.list (p1.map ar))->(j1=jl\/r.length<=j1)->(∀ x∈p1,x∈aH ws lf)->p1.length<=7->G)->G:=by
  clear kk;intro G kk
  by_cases q:v1=1
  ·subst q;refine kk [.list ((aH ws lf).reverse.map ar)] r.length (aH ws lf).reverse ?_ (bN _ _ _) (.inr (SN _)) (fun x hx=>List.mem_reverse.mp hx) (by rw[List.length_reverse];exact IN hsz hpl)
   clear kk;rw[List.map_reverse];generalize (aH ws lf).map ar=pl at *;exists h1,h12,t1,hj,Pp (a:=1) (b:=1) rfl
  ·refine kk [] jl (aH ws lf) ?_ (by rw[Tr];exact hj) (.inl rfl) (fun x hx=>hx) (IN hsz hpl)
   have hu:ah U 12 (.ref (jl+19))=U:=funext fun i=>if e:i=12 then(SQ e).trans (e▸h12.symm) else SL e
   rw[hu,Tr];exists h1,t1,NC (b:=1) q
 refine turned _ fun l1 j1 p1 s1 hj1 hjl1 hp1 hl1=>?_;clear turned;have hle1:p1.length+1<=100000:=LW hl1;have hpp:=uP hp1
 cases hp:p1 with
 | nil=>
  subst hp;refine kk a1 (l1++[.list []]) j1 [] (ah U 12 (.ref (j1+19))) ((aD rfl s1).trans (aD rfl ?_)) (fun i hi=>aZ (T4 hi) rfl) rfl (by rw[<- S6];exact ag hj1 _) hjl1 nofun (Tb _)
  ·clear kk;have hj1:(r++l1)[j1]?=some (AO.list []):=hj1;rw[<- S6];generalize r++l1=r1 at *;have e12:ah U 12 (.ref (j1+19)) 12=_:=Dm;exists e12,hj1
 | cons x rest=>
  refine cK (r:=r++l1++[.list []]) D1 (IP hb) (by decide:0<2) fun v2 a2 hv2 O2 D2=>?_
  have t2:=O2 m (SJ (by decide) hm)
  rw[z2] at t2;have hne:¬(p1.map ar)=[]:=by rw[hp];simp
  by_cases q:v2=0
  ·subst q;refine kk a2 (l1++[.list [],.list ((p1.map ar).take 1),.list ((p1++p1.take 1).map ar)]) ((r++l1).length+2) (p1++p1.take 1) (ah (ah U 12 (.ref (j1+19))) 12 (.ref ((r++l1).length+2+19))) ((aD rfl s1).trans (aD rfl ?_)) (fun i hi=>(aZ (T4 hi) rfl).trans (aZ (T4 hi) rfl)) rfl (by rw[<- S6];exact zk _ _ _ _ _) (.inr (SJ (Fr.grow [] r l1).len (TH _ 2))) (fun y hy=>?_) ?_
   ·clear kk;rw[<- S6,Th,List.map_take];have htl:(p1.map ar++(p1.map ar).take 1).length<=ay:=by rw[SZ,List.length_take,S7];unfold ay;exact LV hl1
    generalize p1.map ar=pl at *;generalize r++l1=r1 at *;have e1:ah U 12 (.ref (j1+19)) 1=_:=h1;exists e1,hj1,Tk hne,jm hpp rfl,t2,htl,Pp (a:=0) (b:=0) rfl
   ·rcases Tg.mp hy with hy | hy
    ·exact hp1 y hy
    ·exact hp1 y (List.mem_of_mem_take hy)
   ·rw[SZ,List.length_take];exact LU hl1
  ·refine kk a2 (l1++[.list []]) j1 p1 (ah U 12 (.ref (j1+19))) ((aD rfl s1).trans (aD rfl ?_)) (fun i hi=>aZ (T4 hi) rfl) rfl (by rw[<- S6];exact ag hj1 _) hjl1 hp1 (SJ hl1 (by decide))
   ·clear kk;rw[<- S6];generalize p1.map ar=pl at *;generalize r++l1=r1 at *;have e1:ah U 12 (.ref (j1+19)) 1=_:=h1;exists e1,hj1,Tk hne,jm hpp rfl,t2,NC (b:=0) q
structure LX(F:Fx)(r:St)(h:HS)(w' w:W)(A:Ad)(fs:List (Nat×AV))(lf:Lf)(rt:Rk)(like:Option Bool)(most:Int)(all:List (Nat×Nat×List AV))(pr:Nat)(P:List (Nat×Nat)):Prop where
 H:HI F r h
 S:cr like rt P w' h
 Wi:WI F r (pr+1) pr w
 K:KP r h.D ((A.hs,.list [])::objs A fs lf rt like most all)
 nd:w.1.Nodup
 prD:pr∉h.D
 wdD:pr+1∉h.D
 sep:∀ x∈(A.hs,AO.list [])::objs A fs lf rt like most all,x.1≠pr/\x.1≠pr+1
theorem WI.heap{F F':Fx}{r r':St}{pr:Nat}{w:W}{D D':List Nat}(Wi:WI F r (pr+1) pr w)(fr:Fr D D' r r')(lw:eW F F')(h1:pr∉D)(h2:pr+1∉D):WI F' r' (pr+1) pr w:=
 {Wi with world:=lw.2.2.2.trans Wi.world,wd:=fr.at Wi.wd h2,pr:=fr.at Wi.pr h1 }
theorem Fr.notin{D D':List Nat}{r r':St}(f:Fr D D' r r'){j:Nat}(h:j∉D)(hl:j<r.length):j∉D':=fun q=>by
 rcases f.new j q with q | q
 ·exact h q
 ·exact Ux q hl
section
variable{F:Fx}{r:St}{h:HS}{w' w:W}{A:Ad}{fs:List (Nat×AV)}{lf:Lf}{rt:Rk}{like:Option Bool}{most:Int}{all:List (Nat×Nat×List AV)}{pr:Nat}{P:List (Nat×Nat)}
theorem LX.grow(L:LX F r h w' w A fs lf rt like most all pr P)(l:St):LX F (r++l) h w' w A fs lf rt like most all pr P:=
 {L with H:=L.H.grow l,Wi:=L.Wi.fr (Fr.grow _ _ _),K:=L.K.grow l }
theorem LX.heap(L:LX F r h w' w A fs lf rt like most all pr P){F':Fx}{r':St}{h':HS}{w2:W}(H:HI F' r' h')(fr:Fr h.D h'.D r r')(lw:eW F F')(S:cr like rt P w2 h'):LX F' r' h' w2 w A fs lf rt like most all pr P:=
 {L with H:=H,S:=S,Wi:=L.Wi.heap fr lw L.prD L.wdD,K:=L.K.fr fr,prD:=fr.notin L.prD (SR.mp L.Wi.pr).1,wdD:=fr.notin L.wdD (SR.mp L.Wi.wd).1 }
theorem LX.law(L:LX F r h w' w A fs lf rt like most all pr P){F':Fx}{r':St}{w2:W}(hF:∃ a u,F'=((F.t2 a).t18 u))(Wi:WI F' r' (pr+1) pr w2)(nd:w2.1.Nodup)(hj:∀ j,j<r.length->j≠pr->r'[j]?=r[j]?):LX F' r' h w' w2 A fs lf rt like most all pr P:=
 {L with
  H:=(L.H.law hF).frame fun j hjD=>hj j (L.H.inr hjD) fun e=>L.prD (e▸hjD)
  Wi:=Wi
  nd:=nd
  K:=fun x hx=>by
   obtain⟨a,b⟩:=L.K x hx;exact⟨by rw[hj _ (SR.mp a).1 (L.sep x hx).1];exact a,b⟩ }
theorem LX.obj(L:LX F r h w' w A fs lf rt like most all pr P){j:Nat}{o:AO}(hx:(j,o)∈(A.hs,AO.list [])::objs A fs lf rt like most all):r[j]?=some o:=(L.K _ hx).1
theorem NO{m:Nat}(hm:29<=m)(L:LX F r h w w A fs lf rt like most all pr P)(R:RF A fs){ws:List Nd}(hw:w=(ws,[]))(hsz:ws.length<=7)(hbud:h.bud=0)(hp:∀ x∈all,cV ws lf x.1 x.2.1 x.2.2/\(x.1,x.2.1)∈P)(hfun:∀ n d d',(n,d)∈P->(n,d')∈P->d'=d)(hpur:AV.purs (all.map ar)=true)
  {U:En} (h3:U 3=some (.ref (pr+1+19))) (h10:U 10=some (.ref (A.ru+19))) (h11:U 11=some (.ref (A.rn+19))) (h12:U 12=some (.ref (A.jl+19))) {G:Prop}
  (kk:∀(F':Fx) (r':St) (h':HS) (w2:W),dS (CC m) (S.ite (X.and (X.cmp aS.ne (X.loc 12) (X.lst [])) (X.cmp aS.ne (X.meth (X.loc 11) 60 [X.loc 10,X.sub (X.sub (X.loc 12) (X.cst (am.int 0))) (X.cst (am.int 1))]) (X.call 9 [X.loc 3,X.loc 10,X.sub (X.loc 12) (X.cst (am.int 0))]))) [S.ret (X.cst (am.bool false))] []) U (F.st r)=some (none,U,F'.st r')->LX F' r' h' w2 w2 A fs lf rt like most all pr P->(∃ l,w2.1=ws++l/\l.length<=1)->w2.2.length<=1->h'.bud<=1->G):G:=by
 have hns:h.ns=ws:=by rw[L.S.ns,hw]
 have hjl:=L.obj (j:=A.jl) (o:=.list (all.map ar)) m6;have hjl2:=ag hjl [AO.list []]
 cases ha:all with
 | nil=>
  subst ha;subst hw;refine kk F (r++[AO.list []]) h (ws,[]) ?_ (L.grow _) ⟨[],(Tr _).symm,Tb _⟩ (Tb _) (LT hbud);clear kk;have hjl:r[A.jl]?=some (AO.list []):=hjl;have hjl2:(r++[AO.list []])[A.jl]?=some (AO.list []):=hjl2;exists h12,hjl,hjl2
 | cons x rest=>
  obtain⟨p1,p2⟩:=hp x (by rw[ha];exact .head _)
  have L1:=L.grow [AO.list []];have pw:cV w.1 lf x.1 x.2.1 x.2.2:=by rw[hw];exact p1
  refine pX (rn:=A.rn) (ru:=A.ru) (pl:=A.pl) (lf:=lf) L1.S L1.H R.f14 R.f22 (bf (L1.K _ m1) (bf (L1.K _ m2) (bf (L1.K _ m3) nofun))) pw p2 (fun d' hd'=>hfun _ _ _ p2 hd') (by rw[hns];exact IM hsz) (LS hbud) fun F2 r2 h2 O2 H2 fr2 lw2 S2 b2 z6_=>?_
  obtain⟨l2,l21,l22⟩:=z6_;have L2:=L1.heap H2 fr2 lw2 S2;refine ui (like:=like) (rt:=rt) (lf:=lf) (ru:=A.ru) L2.Wi L2.nd (L2.obj m2) pw (by rw[hw];exact IM hsz) (by rw[hw];exact S8 rfl) fun r3 O3 W3 nd3 len3 same3 _ plen3=>?_
  have L3:=L2.law ⟨F2.ato,_,rfl⟩ W3 nd3 same3;refine kk _ r3 h2 _ ?_ L3 ⟨l2,by rw[l21,hw],l22⟩ (SJ plen3 (by rw[hw];exact SN _)) (SJ b2 (by rw[hbud];exact SN _))
  clear kk;have t2:=O2 m (SJ (by decide) hm)
  have t3:=O3 m (SJ (by decide) hm)
  have hR:=ag (L.obj (j:=A.rn) (o:=.inst 6 fs) m1) [AO.list []];have hjl4:r2[A.jl]?=some (AO.list (all.map ar)):=L2.obj m6;have hx0:BC (all.map ar) 0=some (.tup [aa x.1,.tup x.2.2]):=d9 (j:=0) (by rw[ha];rfl)
  have hne:¬(all.map ar)=[]:=by rw[ha];exact nofun
  generalize hpl:all.map ar=pl at *
  cases hb:(bk like rt w x.1 x.2.1).1 with
  | true=>rw[hb] at t2 t3;exists h3,h10,h11,h12,hjl,hjl2,jm hpur rfl,Tk hne,hR,R.m60,hx0,t2,t3,hjl4
  | false=>rw[hb] at t2 t3;exists h3,h10,h11,h12,hjl,hjl2,jm hpur rfl,Tk hne,hR,R.m60,hx0,t2,t3,hjl4
end
noncomputable abbrev CD:List S:=[S.ite (X.cmp aS.le (X.blt aO.len [X.sub (X.loc 3) (X.cst (am.sym 20))]) (X.loc 9)) [S.asg (ax.one 13) (X.bin cQ.add (X.loc 13) (X.blt aO.int [X.call 9 [X.loc 3,X.loc 10,X.loc 14]]))] []]
section
variable{h:HS}{w':W}{A:Ad}{fs:List (Nat×AV)}{lf:Lf}{rt:Rk}{like:Option Bool}{most:Int}{all:List (Nat×Nat×List AV)}{pr:Nat}{P:List (Nat×Nat)}
theorem te{m:Nat}(hm:29<=m):∀(ps:List (Nat×Nat×List AV)) {F:Fx} {r:St} {w:W} (c:Nat) (U:En),LX F r h w' w A fs lf rt like most all pr P->(∀ x∈ps,cV w.1 lf x.1 x.2.1 x.2.2)->w.1.length+ps.length<=20->w.2.length+ps.length<=30->
  U 3=some (.ref (pr+1+19))->U 9=some (.int most)->U 10=some (.ref (A.ru+19))->U 13=some (aa c)->
  ∀(G:Prop),(∀(F':Fx) (r':St) (U':En),dT [(A.jl+19,some (all.map ar))] (.one 14) (bn (CC m) CD) (ps.map ar) U (F.st r)=some (none,U',F'.st r')->(∀ i,i<=12->U' i=U i)->U' 13=some (aa (fz like rt most ps w c).2)->LX F' r' h w' (fz like rt most ps w c).1 A fs lf rt like most all pr P->G)->G:=by
 intro ps;induction ps with
 | nil=>exact fun{F r w} c U L hp h1 h2 r3 r9 r10 r13 _ kk=>kk F r U (bU (bv (L.obj m6))) (fun _ _=>rfl) r13 L
 | cons x ps ih=>
  intro F r w c U L hp h1 h2 r3 r9 r10 r13 G kk;have hj:=L.obj (j:=A.jl) (o:=.list (all.map ar)) m6;have p1:=hp x (.head _);have hw:=L.Wi.wd;have hdg:aA [(AV.sym 20,AV.ref 18),(AV.sym 22,AV.ref (pr+19))] (.sym 20)=some (.ref 18):=rfl;have hl':F.world.length=w.1.length:=by rw[L.Wi.world,S7]
  have hpv:ar x=.tup [aa x.1,.tup x.2.2]:=rfl;have hpi:(ar x).isIt=false:=rfl;have e3:ah U 14 (ar x) 3=_:=r3;have e9:ah U 14 (ar x) 9=_:=r9;have e10:ah U 14 (ar x) 10=_:=r10;have e13:ah U 14 (ar x) 13=_:=r13
  by_cases q:(w.1.length:Int)<=most
  ·refine ui (like:=like) (rt:=rt) (lf:=lf) (ru:=A.ru) L.Wi L.nd (L.obj m2) p1 (I1 h1) (LQ h2) fun r3' O3 W3 nd3 len3 same3 z6_ plen3=>?_;obtain⟨l,l1,l2⟩:=z6_;have L3:=L.law ⟨F.ato,_,rfl⟩ W3 nd3 same3;have t:=O3 m (SJ (by decide) hm)
   have hb:bn (CC m) CD (ah U 14 (ar x)) (F.st r)=some (none,ah (ah U 14 (ar x)) 13 (aa (c+if(bk like rt w x.1 x.2.1).1 then 1 else 0)),((F.t18 ((bk like rt w x.1 x.2.1).2.1.map aJ)).st r3')):=by
    rw[<- hpv] at t;have q':∀{Y},bi .le Y (.int (w.1.length:Nat)) (.int most)=some true:=SI some (SV q)
    cases hs:(bk like rt w x.1 x.2.1).1 with
    | true=>rw[hs] at t;exists e3,e9,e10,e13,hw,hdg,hl',q',t,hpi
    | false=>rw[hs] at t;exists e3,e9,e10,e13,hw,hdg,hl',q',t,hpi
   refine ih (c+if(bk like rt w x.1 x.2.1).1 then 1 else 0) (ah (ah U 14 (ar x)) 13 (aa (c+if(bk like rt w x.1 x.2.1).1 then 1 else 0))) L3 (fun y hy=>by rw[l1];exact(hp y (.tail _ hy)).app) (by rw[l1,SZ];exact LP h1 l2) (LO h2 plen3) r3 r9 r10 rfl _ fun F' r' U' e k1 k2 k3=>?_
   rw[fz,SQ q] at kk;exact kk F' r' U' (cm (bv hj) rfl hb e) (fun i hi=>(k1 i hi).trans ((aZ (T4 hi) rfl).trans (aZ (T4 hi) rfl))) k2 k3
  ·have hb:bn (CC m) CD (ah U 14 (ar x)) (F.st r)=some (none,ah U 14 (ar x),F.st r):=by
    have q':∀{Y},bi .le Y (.int (w.1.length:Nat)) (.int most)=some false:=SI some (Tk q);exists e3,e9,hw,hdg,hl',q'
   refine ih c (ah U 14 (ar x)) L (fun y hy=>hp y (.tail _ hy)) (IZ h1) (LN h2) r3 r9 r10 r13 _ fun F' r' U' e k1 k2 k3=>?_;rw[fz,SL q] at kk;exact kk F' r' U' (cm (bv hj) rfl hb e) (fun i hi=>(k1 i hi).trans (aZ (T4 hi) rfl)) k2 k3
end
theorem zd{F:Fx}{r:St}{h:HS}{ws:List Nd}{ps:List Pr}{hm:Nat->Nat}(H:HI F r h)(hns:h.ns=ws)(M:Mn ws.length hm)(hk:∀ x y,hm x=hm y↔Cg ws ps x y)(hex:h.ex=[])(hwt:h.wt=[])(hp:∀ x y,(x,y)∈ps->h.cl x=h.cl y)(hs:wO h (Cg ws ps))(x:Nat):h.cl x=hm x:=by
 have C:=gM H hex hwt;rw[hns] at C;exact E9 H.uf.le H.uf.idem M.le M.idem (fun x y=>⟨fun e=>(hk x y).mpr (hs x y e),fun e=>((hk x y).mp e).least C hp⟩) x
theorem Iu{C:Calls}{U:En}{Y Y1:St}{e:X}{v:AV}(h:au C e U Y=some (v,Y1))(hi:v.isIt=false):dS C (.ret e) U Y=some (some v,U,Y1):=ao (ju hi h)
theorem FL(N:Nat)(hm:Nat->Nat):AV.purs (hl N hm)=true:=by
 unfold AV.purs hl;rw[List.all_map,Uw];exact fun x _=>rfl
section
variable{F:Fx}{r:St}{h:HS}{w w2:W}{A:Ad}{fs:List (Nat×AV)}{lf:Lf}{rt:Rk}{like:Option Bool}{most:Int}{all:List (Nat×Nat×List AV)}{pr:Nat}{P:List (Nat×Nat)}
theorem NN{m:Nat}(hm:29<=m)(L:LX F r h w w2 A fs lf rt like most all pr P)(R:RF A fs)(hw2:w2=(fz like rt most all w 0).1)(hp:∀ x∈all,cV w.1 lf x.1 x.2.1 x.2.2/\(x.1,x.2.1)∈P)(hfun:∀ n d d',(n,d)∈P->(n,d')∈P->d'=d)(hsz:w.1.length+all.length<=20)(hb:h.bud+all.length<=199)(hne:A.hs≠A.jl){U:En}
  (h2:U 2=some (.ref 3)) (h3:U 3=some (.ref (pr+1+19))) (h11:U 11=some (.ref (A.rn+19))) (h12:U 12=some (.ref (A.jl+19))) (h13:U 13=some (aa (fz like rt most all w 0).2)) {G:Prop}
  (kk:∀(Y':St) (U':En),bn (CC m) (eG.2.drop 16) U (F.st r)=some (some (.bool true),U',Y')->G):G:=by
 refine nM R hfun L.S L.H L.K hp (by rw[L.S.ns];exact hsz) (LM hb) fun F1 r1 h1 O1 H1 fr1 lw1 S1 b1=>?_
 have L1:=L.heap H1 fr1 lw1 S1;rw[<- hw2] at L1;generalize hc:(fz like rt most all w 0).2=c at *;have hhs:r1[A.hs]?=some (AO.list []):=L1.obj (.head _);have hlt:=(SR.mp hhs).1
 let r2:St:=r1.set A.hs (.list [.tup [.int 0,.sym 15,aa all.length,aa c]])
 have hR1:r1[A.rn]?=some (AO.inst 6 fs):=L1.obj m1;have hrh:A.hs≠A.rn:=fun e=>by rw[e,hR1] at hhs;cases hhs
 have hR2:r2[A.rn]?=some (AO.inst 6 fs):=by
  show(r1.set _ _)[_]?=_;rw[Tt hrh];exact hR1
 have hj2:r2[A.jl]?=some (AO.list (all.map ar)):=by
  show(r1.set _ _)[_]?=_;rw[Tt hne];exact L1.obj m6
 have hh2:r2[A.hs]?=some (AO.list [.tup [.int 0,.sym 15,aa all.length,aa c]]):=TY hlt;have hnD:A.hs∉h1.D:=(L1.K (A.hs,AO.list []) (.head _)).2;have H2:HI F1 r2 h1:=H1.frame fun j hj=>Tt fun(e:A.hs=j)=>hnD (by rw[e];exact hj)
 have Wi2:WI F1 r2 (pr+1) pr w2:={ L1.Wi with
  wd:=by show(r1.set _ _)[_]?=_;rw[Tt (L1.sep _ (.head _)).2];exact L1.Wi.wd
  pr:=by show(r1.set _ _)[_]?=_;rw[Tt (L1.sep _ (.head _)).1];exact L1.Wi.pr }
 let r3:St:=r2++[.list [.tup [.int 0,.sym 15,aa all.length,aa c]]]
 have s16:dS (CC m) (S.ite (X.or (X.cmp aS.ne (X.meth (X.loc 11) 61 [X.cst (am.int 0),X.loc 12]) (X.loc 13)) (X.cmp aS.ne (X.attr (X.loc 11) 23) (X.lst [X.tup [X.cst (am.int 0),X.cst (am.sym 15),X.blt aO.len [X.loc 12],X.loc 13]]))) [S.ret (X.cst (am.bool false))] []) U (F.st r)=some (none,U,F1.st r3):=by
  have t:=O1 m (SJ (by decide) hm)
  have hR:=L.obj (j:=A.rn) (o:=.inst 6 fs) m1;have t':az ak m 51 [.ref (A.rn+19),.int 0,.ref (A.jl+19)] (F.st r)=some (aa c,F1.st r2):=t;have hz:(List.map ar all).length=all.length:=S7 _;show dS _ _ _ _=some (none,U,F1.st (r2++[.list [.tup [.int 0,.sym 15,aa all.length,aa c]]]));generalize r2=r2' at *;generalize hpl:all.map ar=pl at *;have hd:decide ([AV.tup [.int 0,.sym 15,aa all.length,aa c]]=[AV.tup [.int 0,.sym 15,aa all.length,aa c]])=true:=SV rfl;exists h11,h12,h13,hR,R.f23,R.m61,t',hR2,hj2,hh2,hz,um (rfl:c=c),hd
 have hns1:h1.ns=w2.1:=L1.S.ns;refine ms (H2.grow [.list [.tup [.int 0,.sym 15,aa all.length,aa c]]]) L1.S.ex (LL hb b1) fun F4 r4 h4 O4 H4 fr4 lw4 st=>?_;have s17:dS (CC m) (S.expr (X.meth (X.loc 2) 49 [])) U (F1.st r3)=some (none,U,F4.st r4):=by
  have t:az ak m 33 [.ref 3] (F1.st r3)=some (.none,F4.st r4):=O4 m (SJ (by decide) hm)
  exists h2,t
 have Wi4:WI F4 r4 (pr+1) pr w2:=(Wi2.fr (Fr.grow [] r2 [.list [.tup [.int 0,.sym 15,aa all.length,aa c]]])).heap fr4 lw4 L1.prD L1.wdD;have hns4:h4.ns=w2.1:=st.ns.trans hns1;have hN:F4.nodes.length=w2.1.length:=by rw[H4.nodes,S7,hns4]
 have hWl:F4.world.length=w2.1.length:=by rw[Wi4.world,S7]
 have hszN:w2.1.length<=20:=Wi4.size;refine pT (Wi4.fr (Fr.grow [] r4 [.list (hl w2.1.length h4.cl)])) fun r6 jh hmm O6 g6 f6 M6 k6=>?_;have heq:hl w2.1.length h4.cl=hl w2.1.length hmm:=by
  unfold hl;apply TN;intro x _;exact SI aa (zd H4 hns4 M6 k6 st.ex st.wt (fun x y q=>st.mono x y (L1.S.pairs x y q)) (st.snd _ (by rw[hns1];exact Cg.congR _ _) L1.S.snd) x)
 refine kk (F4.st r6) U ((aD rfl s16).trans ((aD rfl s17).trans (yU rfl ?_)));clear kk;have hsize:=er (F:=F4) (rest:=r4) m (SJ (by decide) hm)
 rw[hN] at hsize;have hw4:=Wi4.wd;have hdg:aA [(AV.sym 20,AV.ref 18),(AV.sym 22,AV.ref (pr+19))] (.sym 20)=some (.ref 18):=rfl;have hle:w2.1.length<=50000:=SJ hszN (by decide)
 have hcomp:au (CC m) (X.comp (X.meth (X.loc 2) 41 [X.loc 16]) (ax.one 16) (X.blt aO.range [X.meth (X.loc 2) 35 []]) []) U (F4.st r4)=some (.ref (r4.length+19),F4.st (r4++[.list (hl w2.1.length h4.cl)])):=by
  refine bm (v:=.rng w2.1.length) (s:=⟨(List.range w2.1.length).map fun(i:Nat)=>.int i,[]⟩) (Y1:=F4.st r4) (Y2:=F4.st r4) (vs:=hl w2.1.length h4.cl) (by exists h2,hsize,hle) rfl rfl ?_ (by simp[hl,ay];exact SJ hszN (by decide)) rfl rfl
  refine cE rfl fun x hx=>⟨_,rfl,rfl,?_⟩;have hxl:=List.mem_range.mp hx;have t:=H4.hfind (a:=x) (by rw[hns4];exact hxl) m (SJ (by decide) hm)
  exists(show ah U 16 (aa x) 2=_ from h2),t
 have t6:=O6 m (SJ (by decide) hm)
 have ga:r6[r4.length]?=some (AO.list (hl w2.1.length h4.cl)):=f6.get (bN _ _ _);rw[heq] at ga hcomp t6;have hp6:=FL w2.1.length hmm;generalize hl w2.1.length hmm=ll at *;refine Iu (v:=.bool true) ?_ rfl;exists h2,h3,hsize,hw4,hdg,hWl,hcomp,t6,ga,g6,jm hp6 hp6,fE (rfl:w2.1.length=w2.1.length),SV (rfl:ll=ll)
end
theorem Bj{P:OB}{n f k:Nat}{b:List S}{vs:List AV}{Y:St}(hp:P[f]?=some (k,b))(hk:vs.length=k):az P (n+1) f vs Y=ed (bn ⟨az P n⟩ (b.drop 0) (fun i=>vs[i]?) Y):=by
 rw[az,hp];exact dK (SV hk)
theorem rS{m:Nat}(hm:29<=m)(is:List Int):∃ Y',az ak (m+1) 11 [.frz (is.map .int)] []=some (.bool true,Y'):=by
 let U0:En:=fun i=>[AV.frz (is.map .int)][i]?
 have hrun:az ak (m+1) 11 [.frz (is.map .int)] []=ed (bn (CC m) (eG.2.drop 0) U0 []):=Bj (P:=ak) (n:=m) (k:=1) (b:=eG.2) rfl rfl;refine NS hm is U0 rfl fun F1 r1 ws pr h U1 e1 a1 a2 a3 H1 Z hns N hsz W1 D1 n1 n2=>?_;refine NR hm (r:=r1) D1 (by decide) a1 a2 fun a lf rt like most U2 e2 b0 b5 b6 b8 b9 D2=>?_
 have H2:HI (F1.t2 a) r1 h:=H1.law ⟨a,F1.world,rfl⟩;have W2:WI (F1.t2 a) r1 (pr+1) pr (ws,[]):={ W1 with world:=W1.world };refine NQ hm (lf:=lf) (rt:=rt) (like:=like) (most:=most) H2 Z hns N hsz W2 ((b0 2 (by decide)).trans a2) ((b0 3 (by decide)).trans a3) b5 b6 b8 b9 fun r3 A fs U3 e3 z5_ c0 c10 c11 c12 R K3 J3 g3 hne=>?_
 obtain⟨l3,hl3⟩:=z5_;refine NP hm (F:=(F1.t2 a)) (r:=r3) D2 (by decide) hsz ((c0 1 (by decide)).trans ((b0 1 (by decide)).trans a1)) c12 J3 fun a' l4 jl all U4 e4 d0 d12 J4 hjl hall hal=>?_
 have W4:WI (F1.t2 a') (r3++l4) (pr+1) pr (ws,[]):=by
  rw[hl3,S6];exact{ W1 with world:=W1.world,wd:=ag W1.wd _,pr:=ag W1.pr _ }
 have H4:HI (F1.t2 a') (r3++l4) h:=by
  rw[hl3,S6];exact(H1.law ⟨a',F1.world,rfl⟩).grow _
 have hprl:=(SR.mp W1.pr).1;have hwdl:=(SR.mp W1.wd).1;have hr3:r1.length<=r3.length:=by rw[hl3];exact(Fr.grow [] r1 l3).len
 let A':Ad:={ A with jl:=jl }
 have R':RF A' fs:=⟨R.f14,R.f19,R.f20,R.f22,R.f23,R.f24,R.m58,R.m60,R.m61⟩;have up:∀{x:Nat×AO},r3[x.1]?=some x.2/\r1.length<=x.1->(r3++l4)[x.1]?=some x.2/\r1.length<=x.1:=fun h=>⟨ag h.1 _,h.2⟩;have hlow:∀ x∈(A'.hs,AO.list [])::objs A' fs lf rt like most all,(r3++l4)[x.1]?=some x.2/\r1.length<=x.1:=
  bf (up (K3 _ m5)) (bf (up (K3 _ (.head _))) (bf (up (K3 _ m1)) (bf (up (K3 _ m2)) (bf (up (K3 _ m3)) (bf (up (K3 _ m4)) (bf ⟨J4,hjl.elim (fun e=>SJ g3 (SM e.symm)) fun e=>SJ hr3 e⟩ nofun))))))
 have hhs:=(K3 (A.hs,AO.list []) m5).1;have hhsl:=(SR.mp hhs).1;have hne':A'.hs≠A'.jl:=by
  show A.hs≠jl
  rcases hjl with e | e
  ·rw[e];exact hne
  ·dsimp only at hhsl;exact LK hhsl e
 have S4:cr like rt (ml ws lf) (ws,[]) h:=by
  have:=Z.sync H4 (like:=like) (rt:=rt) (P:=ml ws lf) (by rw[hns];exact N)
  rw[hns] at this;exact this
 have L4:LX (F1.t2 a') (r3++l4) h (ws,[]) (ws,[]) A' fs lf rt like most all pr (ml ws lf):=
  ⟨H4,S4,W4,fun x hx=>⟨(hlow x hx).1,fun q=>Ux (hlow x hx).2 (H1.inr q)⟩,N.nd,n1,n2,fun x hx=>LJ hwdl (hlow x hx).2⟩
 have hp:∀ x∈all,cV ws lf x.1 x.2.1 x.2.2/\(x.1,x.2.1)∈ml ws lf:=fun x hx=>by
  obtain⟨es,p1,p2,p3⟩:=ie (hall x hx);refine⟨by rw[p2,p3];exact Br p1,Ta.mpr ⟨x,hall x hx,rfl⟩⟩
 have q3:U4 3=some (.ref (pr+1+19)):=(d0 3 (by decide)).trans ((c0 3 (by decide)).trans ((b0 3 (by decide)).trans a3))
 have q2:U4 2=some (.ref 3):=(d0 2 (by decide)).trans ((c0 2 (by decide)).trans ((b0 2 (by decide)).trans a2))
 have q9:U4 9=some (.int most):=(d0 9 (by decide)).trans ((c0 9 (by decide)).trans b9)
 have q10:U4 10=some (.ref (A'.ru+19)):=(d0 10 (by decide)).trans c10
 have q11:U4 11=some (.ref (A'.rn+19)):=(d0 11 (by decide)).trans c11
 have q12:U4 12=some (.ref (A'.jl+19)):=d12;refine NO hm L4 R' rfl hsz Z.bud hp ua (uP hall) q3 q10 q11 q12 fun F5 r5 h5 w2 s13 L5 z6_ hp5 hb5=>?_;obtain⟨l5,hw5,hl5⟩:=z6_;have hw5l:w2.1.length<=8:=by rw[hw5,SZ];exact LI hsz hl5
 have hp2:∀ x∈all,cV w2.1 lf x.1 x.2.1 x.2.2:=fun x hx=>by rw[hw5];exact(hp x hx).1.app
 have s14:dS (CC m) (S.asg (ax.one 13) (X.cst (am.int 0))) U4 (F5.st r5)=some (none,ah U4 13 (aa 0),F5.st r5):=ic AH rfl;refine te hm all 0 (ah U4 13 (aa 0)) L5 hp2 (IL hal hw5l) (LH hal hp5) q3 q9 q10 rfl _ fun F6 r6 U6 f1 f2 f3 L6=>?_;have s15:dS (CC m) (.for_ (.one 14) (.loc 12) CD) (ah U4 13 (aa 0)) (F5.st r5)=some (none,U6,F6.st r6):=by
  have hj:=L5.obj (j:=A'.jl) (o:=.list (all.map ar)) m6;exact(cY (v:=.ref (A'.jl+19)) (s:=⟨all.map ar,[(A'.jl+19,some (all.map ar))]⟩) (Y1:=F5.st r5) (aG (show ah U4 13 (aa 0) 12=_ from q12)) rfl (aV (aK (cG hj)))).trans f1
 refine NN hm L6 R' rfl (fun x hx=>⟨hp2 x hx,(hp x hx).2⟩) ua (IL hal hw5l) (LG hal hb5) hne' ((f2 2 (by decide)).trans q2) ((f2 3 (by decide)).trans q3) ((f2 11 (by decide)).trans q11) ((f2 12 (by decide)).trans q12) f3 fun Y' U' fin7=>?_
 refine⟨Y',?_⟩;exact hrun.trans (SI ed (e1.trans (e2.trans (e3.trans (e4.trans ((aD rfl s13).trans ((aD rfl s14).trans ((aD rfl s15).trans fin7))))))))
theorem premise(is:List Int):∃ Y',az ak 30 11 [.frz (is.map .int)] []=some (.bool true,Y'):=rS (SN 29) is
end
end Mine.Internal
set_option maxRecDepth 100000 in
theorem PySem.Challenge.cw_rh0018_01_holds : PySem.Challenge.rw_rh0018_01.Holds :=
  Mine.Internal.top Mine.Internal.premise
