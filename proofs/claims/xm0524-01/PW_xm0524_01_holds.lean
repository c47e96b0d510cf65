import PyProof.Rows.All
import PySem.Eval
import KE.KPar
import Wide.FinOn
import OpenK.AllK
import Wide.All
import PySem.Challenge.RW_xm0524_01
set_option linter.all false
set_option genSizeOf false
set_option genInjectivity false
set_option maxRecDepth 100000
set_option maxHeartbeats 1000000
set_option Elab.async false
open Nat (le_trans lt_of_le_of_lt sub_sub sub_le lt_of_le_of_ne le_of_lt le_antisymm le_succ sub_self le_succ_of_le lt_of_succ_lt le_of_eq)
open List (forIn_cons length_drop any_cons map_congr_left all_map any_map getElem_mem cons_ne_nil isEmpty_iff nodup_append find?_cons_of_pos not_mem_nil perm_nil filter_eq_self filter_eq_nil_iff nil_append contains_cons nil_perm mem_flatten)
open Bool (false_eq_true false_xor true_xor or_eq_true)
open Array (length_toList)
open Int (ofNat_inj toNat_natCast)
open Nat (beq ble blt)
open PySem (Expr)
namespace Tactic
namespace Kk
def PG:=@Option.some.inj
def PH:=@List.mem_singleton
def PI:=@of_decide_eq_true
def PJ:=@Nat.eq_of_beq_eq_true
def PK:=@PySem.wpAny_bind
def PL:=@decide_eq_true
def PM:=@Nat.le_trans
def PO:=@List.getElem?_eq_some_iff
def PQ:=@decide_eq_false
def PR:=@List.contains_iff_mem
def PS:=@List.length_map
def PU:=@PySem.wpAny_pure
def PX:=@List.length_append
def PY:=@PySem.Heap.get?_push_of_some
def PZ:=@List.mem_iff_getElem?
def P2:=@PySem.Heap.get?_push_size
def P4:=@List.mem_cons
def P5:=@List.all_eq_true
def P6:=@Nat.le_of_ble_eq_true
def P7:=@Bool.eq_iff_iff
def P8:=@List.mem_filter
def P9:=@List.size_toArray
def Qa:=@Nat.lt_of_le_of_lt
def Qb:=@congrArg
def Qc:=@Nat.zero_le
def Qd:=@List.mem_map
def Qe:=@List.mem_append
def Qf:=@List.length_cons
def Qg:=@List.getElem?_eq_getElem
def Qh:=@PySem.wpAny_execs_cons
def Qi:=@Nat.le_refl
def Qj:=@Bool.eq_false_iff
def Qm:=@Option.bind_eq_some_iff
def Qn:=@PySem.wpAny_holding
def Qo:=@Bool.not_eq_true'
def Qp:=@decide_eq_true_iff
def Qq:=@List.getElem?_append_left
def Qr:=@Option.map_eq_some_iff
def Qu:=@List.pairwise_singleton
def Qv:=@if_neg
def Qw:=@Nat.add_le_add_right
def Qx:=@if_pos
def Qy:=@List.append_nil
def Qz:=@List.mem_flatMap
def QA:=@List.any_eq_true
def QB:=@Nat.add_le_add_left
def QC:=@of_decide_eq_false
def QD:=@PySem.Calls.callWith_builtin
def QE:=@List.map_inj_left
def QF:=@Bool.false_or
def QG:=@List.length_filter_le
def QH:=@Nat.le_add_right
def QI:=@List.getElem?_concat_length
def QJ:=@List.flatMap_cons
def QK:=@List.append_assoc
def QL:=@Bool.and_eq_true_iff
def QM:=@List.mem_range
def QN:=@PySem.wpAny_truthy_bool
def QO:=@List.getElem?_set_self
def QP:=@PySem.wpAny_standAt
def QQ:=@List.getElem?_map
def QR:=@List.map_map
def QS:=@Option.isNone_iff_eq_none
def QT:=@List.perm_singleton
def QU:=@PySem.plainObj_wpAny_Assign_Attribute
def QV:=@Nat.le_add_left
def QW:=@Bool.or_eq_true_iff
def QX:=@congrFun
def QY:=@List.map_append
def QZ:=@Classical.byContradiction
def Q0:=@Option.isSome_iff_exists
def Q1:=@List.getElem?_append_right
def Q2:=@Nat.add_le_add
def Q3:=@PySem.Heap.lt_size
def Q4:=@List.map_cons
def Q5:=@PySem.Heap.get?_none_of_le
def Q6:=@Bool.true_and
def Q7:=@List.find?_cons_of_neg
def Q8:=@Nat.lt_trans
def Q9:=@Nat.ne_of_lt
def Ra:=@List.filter_cons_of_pos
def Rb:=@List.filter_cons_of_neg
def Rc:=@Nat.add_assoc
def Rd:=@List.Perm.eq_of_pairwise
def Rf:=@Nat.le_sub_of_add_le
def Rg:=@Int.natCast_nonneg
def Rh:=@PySem.wpAny_loadName_local
def Ri:=@decide_eq_true_eq
def Rj:=@PySem.getMethod_builtin
def Rk:=@PySem.wpAny_execs_nil
def Rl:=@Nat.sub_le_sub_left
def Rm:=@Nat.le_of_lt
def Rn:=@Nat.succ_le_succ
def Ro:=@Nat.le_of_not_lt
def Rp:=@List.pairwise_map
def Rq:=@Bool.and_eq_true
def Rt:=@PySem.Heap.size_push
def Ru:=@List.getD_eq_getElem?_getD
def Rv:=@List.perm_ext_iff_of_nodup
def Rx:=@List.getElem?_zip_eq_some
def Ry:=@List.getElem?_set_ne
def Rz:=@Bool.or_eq_false_iff
def RA:=@Nat.beq_refl
def RB:=@List.lookup_cons
def RC:=@PySem.Calls.Name_function_global
def RE:=@exists_congr
def RF:=@List.forall_mem_singleton
def RG:=@forall_congr'
def RH:=@PyProof.Rows.slot_tuple_getitem
def RI:=@ne_true_of_eq_false
def RJ:=@Nat.add_comm
def RK:=@or_congr_right
def RL:=@and_congr_left
def RM:=@PySem.Calls.callWith_function
def RN:=@List.nodup_cons
def RO:=@PySem.Calls.spliced_cons
def RP:=@Bool.or_true
def RQ:=@Bool.not_eq_false'
def RR:=@Bool.or_false
def RS:=@Nat.ble_eq_true_of_le
def RT:=@PySem.wpAny_pyIter_list
def RU:=@PySem.wpAny_assign_Name
def RX:=@Iff.rfl
def RY:=@List.length_set
def RZ:=@List.length_take
def R0:=@List.singleton_perm
def R1:=@Nat.sub_le_sub_right
def R2:=@List.length_range
def R3:=@beq_self_eq_true
def R4:=@Nat.add_sub_cancel'
def R5:=@beq_eq_false_iff_ne
def R6:=@Nat.succ_mul
def R7:=@List.pairwise_cons
def R8:=@and_congr_right
def R9:=@List.nodup_nil
def Sa:=@Nat.beq_eq
theorem aB{A B:α→Prop}(x:α)(h0:A x)(h1:B x):∃x,A x∧B x:=⟨x,h0,h1⟩
theorem eJ{A B C:α→Prop}(x:α)(h0:A x)(h1:B x)(h2:C x):∃x,A x∧B x∧C x:=⟨x,h0,h1,h2⟩
theorem jh{A B C D:α→Prop}(x:α)(h0:A x)(h1:B x)(h2:C x)(h3:D x):∃x,A x∧B x∧C x∧D x:=⟨x,h0,h1,h2,h3⟩
theorem KA{A B C D E:α→Prop}(x:α)(h0:A x)(h1:B x)(h2:C x)(h3:D x)(h4:E x):∃x,A x∧B x∧C x∧D x∧E x:=⟨x,h0,h1,h2,h3,h4⟩
theorem Kh{A B C D E F:α→Prop}(x:α)(h0:A x)(h1:B x)(h2:C x)(h3:D x)(h4:E x)(h5:F x):∃x,A x∧B x∧C x∧D x∧E x∧F x:=⟨x,h0,h1,h2,h3,h4,h5⟩
theorem N3{A:α→β→Prop}(x:α)(y:β)(h0:A x y):∃x y,A x y:=⟨x,y,h0⟩
theorem A4{A B:α→β→Prop}(x:α)(y:β)(h0:A x y)(h1:B x y):∃x y,A x y∧B x y:=⟨x,y,h0,h1⟩
theorem lb{A B C:α→β→Prop}(x:α)(y:β)(h0:A x y)(h1:B x y)(h2:C x y):∃x y,A x y∧B x y∧C x y:=⟨x,y,h0,h1,h2⟩
theorem ke{A B C D:α→β→Prop}(x:α)(y:β)(h0:A x y)(h1:B x y)(h2:C x y)(h3:D x y):∃x y,A x y∧B x y∧C x y∧D x y:=⟨x,y,h0,h1,h2,h3⟩
theorem qL{A B C D E:α→β→Prop}(x:α)(y:β)(h0:A x y)(h1:B x y)(h2:C x y)(h3:D x y)(h4:E x y):∃x y,A x y∧B x y∧C x y∧D x y∧E x y:=⟨x,y,h0,h1,h2,h3,h4⟩
theorem Kq{A B C D E F:α→β→Prop}(x:α)(y:β)(h0:A x y)(h1:B x y)(h2:C x y)(h3:D x y)(h4:E x y)(h5:F x y):∃x y,A x y∧B x y∧C x y∧D x y∧E x y∧F x y:=⟨x,y,h0,h1,h2,h3,h4,h5⟩
theorem Pd{A:α→β→γ→Prop}(x:α)(y:β)(z:γ)(h0:A x y z):∃x y z,A x y z:=⟨x,y,z,h0⟩
theorem tX{A B:α→β→γ→Prop}(x:α)(y:β)(z:γ)(h0:A x y z)(h1:B x y z):∃x y z,A x y z∧B x y z:=⟨x,y,z,h0,h1⟩
theorem BC{A B C D:α→β→γ→Prop}(x:α)(y:β)(z:γ)(h0:A x y z)(h1:B x y z)(h2:C x y z)(h3:D x y z):∃x y z,A x y z∧B x y z∧C x y z∧D x y z:=⟨x,y,z,h0,h1,h2,h3⟩
theorem O1{A B C D E F:α→β→γ→Prop}(x:α)(y:β)(z:γ)(h0:A x y z)(h1:B x y z)(h2:C x y z)(h3:D x y z)(h4:E x y z)(h5:F x y z):∃x y z,A x y z∧B x y z∧C x y z∧D x y z∧E x y z∧F x y z:=⟨x,y,z,h0,h1,h2,h3,h4,h5⟩
theorem Fd{A B C D:α→β→γ→δ→Prop}(x:α)(y:β)(z:γ)(u:δ)(h0:A x y z u)(h1:B x y z u)(h2:C x y z u)(h3:D x y z u):∃x y z u,A x y z u∧B x y z u∧C x y z u∧D x y z u:=⟨x,y,z,u,h0,h1,h2,h3⟩
theorem OX{A B C D E:α→β→γ→δ→Prop}(x:α)(y:β)(z:γ)(u:δ)(h0:A x y z u)(h1:B x y z u)(h2:C x y z u)(h3:D x y z u)(h4:E x y z u):∃x y z u,A x y z u∧B x y z u∧C x y z u∧D x y z u∧E x y z u:=⟨x,y,z,u,h0,h1,h2,h3,h4⟩
theorem U2{A B:Prop}{P:Prop}(h:A∧B)(k:A→B→P):P:=k  h.1 h.2
theorem U3{A B C:Prop}{P:Prop}(h:A∧B∧C)(k:A→B→C→P):P:=k  h.1 h.2.1 h.2.2
theorem U4{A B C D:Prop}{P:Prop}(h:A∧B∧C∧D)(k:A→B→C→D→P):P:=k  h.1 h.2.1 h.2.2.1 h.2.2.2
theorem U7{A B C D E F G:Prop}{P:Prop}(h:A∧B∧C∧D∧E∧F∧G)(k:A→B→C→D→E→F→G→P):P:=k  h.1 h.2.1 h.2.2.1 h.2.2.2.1 h.2.2.2.2.1 h.2.2.2.2.2.1 h.2.2.2.2.2.2
theorem X1{A:α→Prop}{P:Prop}(h:∃x,A x)(k:∀x,A x→P):P:=h.elim λx h=>k x h
theorem X2{A B:α→Prop}{P:Prop}(h:∃x,A x∧B x)(k:∀x,A x→B x→P):P:=h.elim λx h=>k x h.1 h.2
theorem X3{A B C:α→Prop}{P:Prop}(h:∃x,A x∧B x∧C x)(k:∀x,A x→B x→C x→P):P:=h.elim λx h=>k x h.1 h.2.1 h.2.2
theorem X4{A B C D:α→Prop}{P:Prop}(h:∃x,A x∧B x∧C x∧D x)(k:∀x,A x→B x→C x→D x→P):P:=h.elim λx h=>k x h.1 h.2.1 h.2.2.1 h.2.2.2
theorem X6{A B C D E F:α→Prop}{P:Prop}(h:∃x,A x∧B x∧C x∧D x∧E x∧F x)(k:∀x,A x→B x→C x→D x→E x→F x→P):P:=h.elim λx h=>k x h.1 h.2.1 h.2.2.1 h.2.2.2.1 h.2.2.2.2.1 h.2.2.2.2.2
theorem Y1{A:α→β→Prop}{P:Prop}(h:∃x y,A x y)(k:∀x y,A x y→P):P:=h.elim λx h=>h.elim λy h=>k x y h
theorem Y2{A B:α→β→Prop}{P:Prop}(h:∃x y,A x y∧B x y)(k:∀x y,A x y→B x y→P):P:=h.elim λx h=>h.elim λy h=>k x y h.1 h.2
theorem Y3{A B C:α→β→Prop}{P:Prop}(h:∃x y,A x y∧B x y∧C x y)(k:∀x y,A x y→B x y→C x y→P):P:=h.elim λx h=>h.elim λy h=>k x y h.1 h.2.1 h.2.2
theorem Y4{A B C D:α→β→Prop}{P:Prop}(h:∃x y,A x y∧B x y∧C x y∧D x y)(k:∀x y,A x y→B x y→C x y→D x y→P):P:=h.elim λx h=>h.elim λy h=>k x y h.1 h.2.1 h.2.2.1 h.2.2.2
theorem Y5{A B C D E:α→β→Prop}{P:Prop}(h:∃x y,A x y∧B x y∧C x y∧D x y∧E x y)(k:∀x y,A x y→B x y→C x y→D x y→E x y→P):P:=h.elim λx h=>h.elim λy h=>k x y h.1 h.2.1 h.2.2.1 h.2.2.2.1 h.2.2.2.2
theorem Y6{A B C D E F:α→β→Prop}{P:Prop}(h:∃x y,A x y∧B x y∧C x y∧D x y∧E x y∧F x y)(k:∀x y,A x y→B x y→C x y→D x y→E x y→F x y→P):P:=h.elim λx h=>h.elim λy h=>k x y h.1 h.2.1 h.2.2.1 h.2.2.2.1 h.2.2.2.2.1 h.2.2.2.2.2
theorem J1{A:α→β→γ→Prop}{P:Prop}(h:∃x y z,A x y z)(k:∀x y z,A x y z→P):P:=h.elim λx h=>h.elim λy h=>h.elim λz h=>k x y z h
theorem J2{A B:α→β→γ→Prop}{P:Prop}(h:∃x y z,A x y z∧B x y z)(k:∀x y z,A x y z→B x y z→P):P:=h.elim λx h=>h.elim λy h=>h.elim λz h=>k x y z h.1 h.2
theorem J3{A B C:α→β→γ→Prop}{P:Prop}(h:∃x y z,A x y z∧B x y z∧C x y z)(k:∀x y z,A x y z→B x y z→C x y z→P):P:=h.elim λx h=>h.elim λy h=>h.elim λz h=>k x y z h.1 h.2.1 h.2.2
theorem J4{A B C D:α→β→γ→Prop}{P:Prop}(h:∃x y z,A x y z∧B x y z∧C x y z∧D x y z)(k:∀x y z,A x y z→B x y z→C x y z→D x y z→P):P:=h.elim λx h=>h.elim λy h=>h.elim λz h=>k x y z h.1 h.2.1 h.2.2.1 h.2.2.2
theorem J6{A B C D E F:α→β→γ→Prop}{P:Prop}(h:∃x y z,A x y z∧B x y z∧C x y z∧D x y z∧E x y z∧F x y z)(k:∀x y z,A x y z→B x y z→C x y z→D x y z→E x y z→F x y z→P):P:=h.elim λx h=>h.elim λy h=>h.elim λz h=>k x y z h.1 h.2.1 h.2.2.1 h.2.2.2.1 h.2.2.2.2.1 h.2.2.2.2.2
theorem e44{A B C D:α→β→γ→δ→Prop}{P:Prop}(h:∃x y z u,A x y z u∧B x y z u∧C x y z u∧D x y z u)(k:∀x y z u,A x y z u→B x y z u→C x y z u→D x y z u→P):P:=h.elim λx h=>h.elim λy h=>h.elim λz h=>h.elim λu h=>k x y z u h.1 h.2.1 h.2.2.1 h.2.2.2
theorem e45{A B C D E:α→β→γ→δ→Prop}{P:Prop}(h:∃x y z u,A x y z u∧B x y z u∧C x y z u∧D x y z u∧E x y z u)(k:∀x y z u,A x y z u→B x y z u→C x y z u→D x y z u→E x y z u→P):P:=h.elim λx h=>h.elim λy h=>h.elim λz h=>h.elim λu h=>k x y z u h.1 h.2.1 h.2.2.1 h.2.2.2.1 h.2.2.2.2
theorem e54{A B C D:α→β→γ→δ→ε→Prop}{P:Prop}(h:∃x y z u v,A x y z u v∧B x y z u v∧C x y z u v∧D x y z u v)(k:∀x y z u v,A x y z u v→B x y z u v→C x y z u v→D x y z u v→P):P:=h.elim λx h=>h.elim λy h=>h.elim λz h=>h.elim λu h=>h.elim λv h=>k x y z u v h.1 h.2.1 h.2.2.1 h.2.2.2
theorem bC{m:Bool→Prop}(t:Bool)(false:m false)(true:m true):m t:=Bool.casesOn t false true
theorem oC{α:Type}{m:Option α→Prop}(t:Option α)(none:m none)(some:∀a,m (some a)):m t:=Option.casesOn t none some
theorem lC{α:Type}{m:List α→Prop}(t:List α)(nil:m [])(cons:∀a l,m (a::l)):m t:=List.casesOn t nil cons
theorem nC{m:Nat→Prop}(t:Nat)(zero:m 0)(succ:∀n,m (n+1)):m t:=Nat.casesOn t zero succ
theorem cps{P:Prop}(h:¬P→False):P:=QZ h
theorem ak{P:Prop}(h:false=true):P:=nomatch h
theorem eg{P:Prop}(h:true=false):P:=nomatch h
theorem ah{α:Type}{a:α}{P:Prop}(h:none=some a):P:=nomatch h
theorem qE{α:Type}{a:α}{P:Prop}(h:some a=none):P:=nomatch h
theorem az{α:Type}{a:α}{P:Prop}(h:a∈[]):P:=nomatch h
theorem aW{m c x:Nat}(h:m≤c)(d:Nat.ble x m=true):x≤c:=PM (P6 d) h
theorem mt{α:Type}{a b:α}{l:List α}(h:a∈l):a∈b::l:=.tail _ h
theorem sy{α:Sort u}{a b:α}(h:a=b):b=a:=h.symm
theorem mh{α:Type}{a:α}{l:List α}:a∈a::l:=.head _
theorem Nq{u d m k:Nat}(h:u+3*(d+1)+100<m)(e:Nat.ble k 3=true):u+k+3*d+100<m:=Qa (Qw (by rw[Rc,RJ k];exact QB (QB (P6 e) _) _) 100) h
theorem Nw{a b c:Nat}(h:b≤c):a+b+(c-b)≤a+c:=by rw[Rc,R4 h];exact Qi _
theorem sN{α:Type}{P:α→Prop}{c:Prop}[Decidable c]{a b:α}(x:c→P a)(y:¬c→P b):P (if c then a else b):=by by_cases h:c<;>simp only[h,if_true,if_false]<;>first |exact x h |exact y h
theorem ag{a b:Nat}(h:Nat.ble a b=true):a≤b:=P6 h
theorem L9{m c x:Nat}(h:c≤m)(d:Nat.ble m x=true):c≤x:=PM h (P6 d)
theorem bb{m c x:Nat}(h:c<m)(d:Nat.ble m x=true):c<x:=Nat.lt_of_lt_of_le h (P6 d)
theorem q8{x y:Nat}(h:x<y):0+x<y:=by rw[Nat.zero_add];exact h
theorem bc{a x y:Nat}(h:x<y-a):x+a<y:=Nat.add_lt_of_lt_sub h
theorem dH{a b c c1:Nat}(h:c-a≤c1)(k:b+a≤c):b≤c1:=PM (Rf k) h
theorem cC{a b c:Nat}(k:b+a≤c):b≤c-a:=Rf k
theorem ff{a c d:Nat}(k:Nat.ble a d=true):c-d≤c-a:=Rl (P6 k) c
theorem mK{a c c1 d:Nat}(h:c-a≤c1)(k:Nat.ble a d=true):c-d≤c1:=PM (Rl (P6 k) c) h
theorem cM{b c c1 d:Nat}(h:c-(d-b)≤c1)(k:Nat.ble b d=true):c-d≤c1-b:=by
 have e:=R1 h b
 rw[sub_sub,Nat.sub_add_cancel (P6 k)]at e
 exact e
theorem D8{b c c1 c2 d:Nat}(h:c1-b≤c2)(h2:c-(d-b)≤c1)(k:Nat.ble b d=true):c-d≤c2:=PM (cM h2 k) h
theorem uu{a b c:Nat}(h:a+b≤c):a≤c:=PM (QH a b) h
theorem xW{a b c:Nat}(h:a+b≤c):b≤c:=PM (QV b a) h
theorem xI{a b c:Nat}(h:a+b≤c):a≤c-b:=Rf h
theorem lg{a b c:Nat}(h:a+b<c):a<c:=Qa (QH a b) h
theorem Bp{a b e c:Nat}(h:a+(b+e)<c):a+b<c:=Qa (QB (QH b e) a) h
theorem uy{a b e d m:Nat}(h:a+(b+e)<m)(k:d≤a+e):d+b<m:=Qa (Qw k b) (by rw[Rc,RJ e b];exact h)
theorem OU{a b e d m:Nat}(h:a+(e+b)<m)(k:d≤a+e):d+b<m:=Qa (Qw k b) (by rw[Rc];exact h)
theorem tK{a b e m:Nat}(h:a+(b+e)<m):a+e+b<m:=uy h (Qi _)
theorem ug{a b d e:Nat}(h:a≤d)(k:b≤e):a+b≤e+d:=RJ d e▸Q2 h k
theorem O8{a b l m:Nat}(h:a≤m)(k:b≤l*m):a+b≤(l+1)*m:=by rw[R6];exact ug h k
theorem KS{a b d e:Nat}(h:d≤a+b):d+e≤a+(b+e):=by rw[← Rc];exact Qw h e
theorem NX{a b d e:Nat}(h:d≤a+b):d+e≤a+(e+b):=by rw[RJ e b];exact KS h
theorem NS{a b x y m:Nat}(h:a≤x)(k:b≤y)(n:Nat.ble (x+y) m=true):a+b≤m:=PM (Q2 h k) (P6 n)
theorem Oq{a l x d m:Nat}(h:a≤l*d)(k:l≤x)(n:Nat.ble (x*d) m=true):a≤m:=PM h (PM (Nat.mul_le_mul_right d k) (P6 n))
theorem BL{l x d m:Nat}(k:l≤x)(n:Nat.ble (x*d) m=true):l*d≤m:=Oq (Qi _) k n
theorem A6{l x d m e:Nat}(k:l≤x)(n:Nat.ble (x*d+e) m=true):l*d+e≤m:=PM (Qw (Nat.mul_le_mul_right d k) e) (P6 n)
theorem LK{l x d m e:Nat}(k:l≤x)(n:Nat.ble (e+d*x) m=true):e+d*l≤m:=PM (QB (Nat.mul_le_mul_left d k) e) (P6 n)
theorem Br{i n:Nat}(h:i<n):n-(i+1)<n-i:=Nat.sub_succ_lt_self n i h
theorem Fh{i n:Nat}(h:n+1≤i):i-n=i-(n+1)+1:=(Nat.succ_pred_eq_of_pos (Nat.sub_pos_of_lt h)).symm
theorem Jx{c c1 d l x:Nat}(h:c-d*l≤c1)(k:l≤x):c-d*x≤c1:=PM (Rl (Nat.mul_le_mul_left d k) c) h
theorem w9{l x d b m c:Nat}(h:m-l*d≤c)(k:l≤x)(n:Nat.ble (b+x*d) m=true):b≤c:=PM (Rf (PM (QB (Nat.mul_le_mul_right d k) b) (P6 n))) h
theorem NY{p x b m c:Nat}(h:m-p≤c)(k:p≤x)(n:Nat.ble (b+x) m=true):b≤c:=PM (Rf (PM (QB k b) (P6 n))) h
theorem N8{a b c d:Nat}(h:a≤b+c)(k:b≤d):a≤d+c:=PM h (Qw k c)
theorem OY{a b c d m:Nat}(h:a≤b+c)(k:b≤d)(n:Nat.ble (d+c) m=true):a≤m:=PM (N8 h k) (P6 n)
theorem KO{a b c c1:Nat}(h:c-a≤c1)(k:a+b≤c):b≤c1:=PM (Nat.le_sub_of_add_le' k) h
theorem OM{a b c c1:Nat}(h:c-a≤c1):c-(a+b)≤c1:=PM (Rl (QH a b) c) h
theorem tQ{a b c c1:Nat}(h:c-b-a≤c1):c-(a+b)≤c1:=by rw[RJ,← sub_sub];exact h
theorem JE{a b c c1 c2:Nat}(h:c-b≤c1)(k:c1-a≤c2):c-(a+b)≤c2:=tQ (PM (R1 h a) k)
theorem KR{a b t c c1:Nat}(k:t+(a+b)≤c)(h:c-b≤c1):t+a≤c1:=PM (Rf (by rw[Rc];exact k)) h
theorem Ln{a c:Nat}(h:a≤c):c=c-a+a:=(Nat.sub_add_cancel h).symm
theorem OD{a c m:Nat}(h:m≤c)(k:Nat.ble a m=true):c=c-a+a:=Ln (PM (P6 k) h)
theorem Eu{u x y t e m:Nat}(h:u+e<m)(k:x≤t)(n:Nat.ble t e=true):u+min x y<m:=Qa (QB (PM (Nat.min_le_left x y) (PM k (P6 n))) u) h
theorem Av{u x y t e m:Nat}(h:u+e<m)(k:x≤t)(n:Nat.ble (t+1) e=true):u+1+min x y<m:=Qa (by rw[Rc];exact QB (PM (QB (PM (Nat.min_le_left x y) k) 1) (RJ t 1▸P6 n)) u) h
end Kk
set_option compiler.extract_closed false
set_option hygiene false
namespace Kk
open Lean
def nk(a:Name)(k:String)(l:List Syntax):Syntax:=.node .none (.str a k) l.toArray
def nd(k:String)(l:List Syntax):Syntax:=nk `Lean.Parser.Tactic k l
def nu(l:List Syntax):Syntax:=mkNullNode l.toArray
def sq(l:List Syntax):Syntax:=nd "tacticSeq" [nd "tacticSeq1Indented" [nu l]]
def aT(s:String):Syntax:=mkAtom s
def pn(l:List Syntax):Syntax:=nd "paren" [aT "(",sq l,aT ")"]
def fs(l:List Syntax):Syntax:=nd "first" [aT "first",nu (l.map λt=>nk .anonymous "group" [aT "|",sq [t]])]
def rf(t:Syntax):Syntax:=nd "refine" [aT "refine",t]
def tm(k:String)(l:List Syntax):Syntax:=nk `Lean.Parser.Term k l
def ho:Syntax:=tm "hole" [aT "_"]
def hl:Syntax:=tm "syntheticHole" [aT "?",ho]
def ap(f:Syntax)(a:List Syntax):Syntax:=tm "app" [f,nu a]
def ci(n:String):Syntax:=mkIdent (.str `Kk n)
def sb(t:Syntax):Syntax:=rf (tm "subst" [t,aT "▸",nu [hl]])
def bx(f:Syntax→Syntax)(l:List Syntax):Syntax:=fs (l.map f++[nd "fail" [aT "fail",nu []]])
def rW(s:Syntax):MacroM Syntax:=
 if !s[3].isNone||s[1][0].getNumArgs != 0 then Macro.throwUnsupported else
 match s[2][1].getArgs.toList with
 |[x]=>
  let t:=x[1]
  return if x[0].isNone then bx (λt=>sb (ap (ci "sy") [t])) [t,ap t [ho],ap t [ho,ho]]else bx sb [t]
 |x::_::r=>
  let z (a:List Syntax):=s.setArg 2 (s[2].setArg 1 (nu a))
  return pn [z [x],aT ";",z r]
 |_=>Macro.throwUnsupported
def oB(s:Syntax):Syntax:=
 let p:=s[1][0]
 let t:=s[3][1][0]
 let k:Syntax:=mkIdent `k'
 let cl (x:Syntax):=nd "clear" [aT "clear",nu [x]]
 let g (l:List Syntax) (x:Syntax):=pn ([rf (ap (ci "cps") [hl]),aT ";",nd "intro" [aT "intro",nu [k]],aT ";"]++l++[nd "tactic_<;>_" [x,aT "<;>",pn [rf (ap k [hl]),aT ";",cl k]]])
 let ps:=p[0][0][1].getSepArgs.toList
 let h (i:String×Nat):=g [rf (ap (ci (i.1++toString (ps.length-i.2))) [t,hl]),aT ";",pn [nd "tacticTry_" [aT "try",sq [cl t]]],aT ";"] (nd "rintro" [aT "rintro",nu (ps.map λp=>nk `Lean.Parser.Tactic.rintroPat "one" [nk `Lean.Parser.Tactic.rcasesPat "paren" [aT "(",p,aT ")"]]),nu []])
 fs ((if p[0].getNumArgs==1 then [("X",1),("Y",2),("U",0),("J",3)].map h else [])++[g [] (nd "rcases" [aT "rcases",nu [nd "elimTarget" [nu [],t]],nu [aT "with",nd "rcasesPatLo" [p,nu []]]])])
end Kk
local macro_rules (kind:=Lean.Parser.Tactic.rewriteSeq)
 |s=>Kk.rW s
local macro_rules (kind:=Lean.Parser.Tactic.obtain)
 |s=>return Kk.oB s
open Kk in
local macro_rules (kind:=Lean.Parser.Tactic.show)
 |s=>return rf (tm "typeAscription" [tm "hygienicLParen" [aT "(",.node .none Lean.hygieneInfoKind #[Lean.mkIdent .anonymous]],hl,aT ":",nu [s[1]],aT ")"])
open Kk Lean in
local macro_rules (kind:=Lean.Parser.Tactic.cases)
 |s=>do
  let some x:=s[3].find? Syntax.isIdent |Macro.throwUnsupported
  let some e:=[("true","bC"),("false","bC"),("none","oC"),("some","oC"),("nil","lC"),("cons","lC"),("zero","nC"),("succ","nC")].lookup (toString x.getId) |Macro.throwUnsupported
  if(s[1].find? (·.isOfKind `Lean.Parser.Term.paren)).isSome then Macro.throwUnsupported
  return nd "induction" [aT "induction",s[1],nu [aT "using",ci e],nu [],s[3]]
set_option genSizeOfSpec false
namespace Kk
inductive H where|ref|tab|rows|index|fd|host
inductive V where
 |nul
 |bool (b:Bool)
 |int (i:Int)
 |str (s:List Nat)
 |tp (l:List V)
 |ls (l:List V)
 |rng (n:Nat)
 |id (k:Nat) (r:V)
 |hd (c:H) (i:Nat)
inductive O where
 |list (l:List V)
 |dict (l:List (V×V))
 |gone
structure St where
 c:Nat
 n:Nat
 late:Bool
 h:List O
 o:List (List V×List V)
abbrev VS:=PySem.Value→PySem.Shared→Prop
abbrev FS:=PySem.Flow→PySem.Shared→Prop
abbrev BS:=Bool→PySem.Shared→Prop
abbrev KP:=V→St→Prop
noncomputable abbrev au:=List (Option V)
noncomputable def H.code:H→Nat
 |.ref=>0|.tab=>1|.rows=>2|.index=>3|.fd=>4|.host=>5
noncomputable def V.asInt:V→Option Int|.int i=>some i|_=>none
noncomputable def V.asStr:V→Option (List Nat)|.str i=>some i|_=>none
noncomputable def V.asTup:V→Option (List V)|.tp i=>some i|_=>none
noncomputable def V.asLst:V→Option (List V)|.ls i=>some i|_=>none
noncomputable def V.asRng:V→Option Nat|.rng i=>some i|_=>none
noncomputable def V.asBool:V→Option Bool|.bool i=>some i|_=>none
noncomputable def V.asNone:V→Option Unit|.nul=>some ()|_=>none
noncomputable def V.asId:V→Option (Nat×V)|.id k r=>some (k,r)|_=>none
noncomputable def V.asHdl:V→Option (H×Nat)|.hd c i=>some (c,i)|_=>none
noncomputable def cj:List Nat→List Nat→Bool
 |[],m=>m.isEmpty
 |a::l,m=>match m with|[]=>false|b::m=>beq a b&&cj l m
mutual
noncomputable def V.beq:V→V→Bool
 |.nul,b=>b.asNone.isSome
 |.bool x,b=>b.asBool.any (x == ·)
 |.int x,b=>b.asInt.any λy=>decide (x=y)
 |.str x,b=>b.asStr.any (cj x)
 |.tp x,b=>b.asTup.any (V.beqL x)
 |.ls x,b=>b.asLst.any (V.beqL x)
 |.rng x,b=>b.asRng.any (Nat.beq x)
 |.id k x,b=>b.asId.any λy=>Nat.beq k y.1&&V.beq x y.2
 |.hd c i,b=>b.asHdl.any λy=>Nat.beq c.code y.1.code&&Nat.beq i y.2
noncomputable def V.beqL:List V→List V→Bool
 |[],m=>m.isEmpty
 |a::l,m=>match m with|[]=>false|b::m=>V.beq a b&&V.beqL l m
end
mutual
noncomputable def V.dat(c h:Bool)(k:Nat):V→Nat→Bool
 |.nul,_=>!h
 |.int i,_=>!c||decide (i<16)
 |.str _,_=>true
 |.id k' _,_=>c&&Nat.beq k' k
 |.tp l,n=>match n with|0=>false|n+1=>V.datL c h k l n
 |.ls l,n=>!h&&match n with|0=>false|n+1=>V.datL c h k l n
 |.bool _,_=>false
 |.rng _,_=>false
 |.hd _ _,_=>false
noncomputable def V.datL(c h:Bool)(k:Nat):List V→Nat→Bool
 |[],_=>true
 |x::l,n=>V.dat c h k x n&&V.datL c h k l n
end
mutual
noncomputable def V.free:V→Bool
 |.tp l=>V.freeL l
 |.ls l=>V.freeL l
 |.hd .ref _=>false
 |_=>true
noncomputable def V.freeL:List V→Bool
 |[]=>true
 |x::l=>V.free x&&V.freeL l
end
noncomputable def fS(k:Nat):V→Bool
 |.tp (.int c::l)=>match decide (c=3)||decide (c=4)with
  |true=>V.datL false true k l 5
  |false=>decide (c<16)&&V.datL true true k l 5
 |_=>false
inductive B2 where|add|sb|mul|mod|fdiv|band
inductive C2 where|eq|ne|lt|le|gt|ge|is_|isnot|in_|notin
inductive P1 where|len|sorted|tuple|isStr|all|any|range
inductive M1 where|put|append|extend|get|pop|join|split
inductive E where
 |v (j:Nat)
 |c (v:V)
 |tp (l:List E)
 |list (m:Bool) (l:List E)
 |dict (ks:List (List Nat)) (vs:List E)
 |and (a b:E)
 |or (a b:E)
 |not (a:E)
 |it (c a b:E)
 |bin (o:B2) (a b:E)
 |k (o:C2) (a b:E)
 |lt3 (a b c:E)
 |cl (f:Nat) (l:List E)
 |p (p:P1) (l:List E)
 |me (m:M1) (o:E) (l:List E)
 |hostm (f:Nat) (o:E) (l:List E)
 |attr (a:H) (o:E)
 |sb (o i:E)
 |slice (o:E) (lo hi:E)
 |rev (o:E)
 |comp (caps:List (Option Nat)) (j:Nat) (it:E) (conds:List E) (elt:E)
 |thaw (e:E)
 |newTab
 |newHost (t:E)
 |bad
inductive S where
 |a (j:Nat) (e:E)
 |unpack (js:List Nat) (e:E)
 |pair (j1 j2:Nat) (e1 e2:E)
 |setItem (o i v:E)
 |expr (e:E)
 |it (c:E) (a b:List S)
 |for_ (j:Nat) (it:E) (body:List S)
 |while_ (c:E) (body:List S)
 |ret (e:E)
 |pass
 |cont
 |bad
inductive Fl where
 |next
 |cont
 |ret (v:V)
abbrev KF:=Fl→au→St→Prop
noncomputable abbrev z3:List (Option V):=[none,none,none]
noncomputable abbrev z4:List (Option V):=[none,none,none,none]
noncomputable abbrev z5:List (Option V):=[none,none,none,none,none]
noncomputable abbrev z6:List (Option V):=[none,none,none,none,none,none]
noncomputable abbrev z7:List (Option V):=[none,none,none,none,none,none,none]
noncomputable abbrev z8:List (Option V):=[none,none,none,none,none,none,none,none]
noncomputable abbrev z9:List (Option V):=[none,none,none,none,none,none,none,none,none]
noncomputable abbrev xf:List (Option V):=[none,none,none,none,none,none,none,none,none,none]
noncomputable abbrev Nl:List (Option V):=[none,none,none,none,none,none,none,none,none,none,none]
noncomputable abbrev oa:List (Option V):=[none,none,none,none,none,none,none,none,none,none,none,none]
noncomputable abbrev CD:List (Option V):=[none,none,none,none,none,none,none,none,none,none,none,none,none]
noncomputable abbrev NG:List (Option V):=[none,none,none,none,none,none,none,none,none,none,none,none,none,none]
noncomputable abbrev PA:List (Option V):=[none,none,none,none,none,none,none,none,none,none,none,none,none,none,none]
noncomputable abbrev NM:List (Option V):=[none,none,none,none,none,none,none,none,none,none,none,none,none,none,none,none]
noncomputable abbrev E.i(n:Int):E:=.c (.int n)
theorem ae{α β:Type}{x:α}{S:β}(K:α→β→Prop)(q:K x S):K x S:=q
noncomputable abbrev rj:V:=.str [111,98,106,101,99,116]
noncomputable abbrev qz:V:=.str [117,110,107,110,111,119,110]
noncomputable abbrev kF:V:=.str [110,117,109,98,101,114]
noncomputable abbrev jm:V:=.str [115,116,114,105,110,103]
noncomputable abbrev qF:V:=.str [110,117,108,108]
noncomputable abbrev qA:V:=.str [116,114,117,101]
noncomputable abbrev oJ:V:=.str [117,110,100,101,102,105,110,101,100]
noncomputable abbrev pR:V:=.str [69,46,66]
noncomputable abbrev n9:V:=.str [102,97,108,115,101]
noncomputable abbrev om:V:=.str [70,46,65]
noncomputable abbrev oG:V:=.str [69,46,65]
noncomputable abbrev iD:V:=.tp [.str [101],.str [97],.str [98],.str [48],oG,om,pR,n9,qA,oJ,qF]
noncomputable def Fl.val:Fl→V|.ret v=>v|_=>.nul
inductive cF where
 |bad
 |ret (v:V) (S:St)
 |two (v w:V) (S:St)
 |perm (l:List V) (S:St)
noncomputable def iH(x:Option V)(S:St):cF:=match x with|some v=>.ret v S|none=>.bad
noncomputable def aD:Nat:=1048576
noncomputable def bT(S:St):V→Option (List V)
 |.ls l=>some l
 |.hd .ref i=>match S.h[i]? with|some (.list l)=>some l|_=>none
 |_=>none
noncomputable def bu(S:St)(v:V):Option (List V):=match v.asTup with|some l=>some l|none=>bT S v
noncomputable def dictAt(S:St)(v:V):Option (Nat×List (V×V)):=v.asHdl.bind λc=>match c with
 |(.ref,i)=>match S.h[i]? with|some (.dict l)=>some (i,l)|_=>none
 |_=>none
noncomputable def bI(S:St)(v:V):Option (Nat×List V):=v.asHdl.bind λc=>match c with
 |(.ref,i)=>match S.h[i]? with|some (.list l)=>some (i,l)|_=>none
 |_=>none
noncomputable def St.set(S:St)(i:Nat)(o:O):St:={S with h:=S.h.set i o}
noncomputable def St.new(S:St)(o:O):St:={S with h:=S.h++[o]}
noncomputable def ax:List V:=
 let key (s:List Nat):V:=.tp [.int 1,.str s]
 [key [97,110,121],key [117,110,107,110,111,119,110],key [110,101,118,101,114],key [118,111,105,100],
  key [117,110,100,101,102,105,110,101,100],key [110,117,108,108],key [115,116,114,105,110,103],key [110,117,109,98,101,114],
  .tp [.int 2,.int 0,.int 0],.tp [.int 2,.int 1,.int 0],key [111,98,106,101,99,116],
  .tp [.int 8,.tp [],.tp [],.tp [],.tp [],.tp [],.int 0],.tp [.int 6,.tp [.int 8,.int 9]],key [101,114,114,111,114],
  .tp [.int 2,.int 0,.int 1],.tp [.int 2,.int 1,.int 1]]
noncomputable def dc(x:V):List V→Nat→Option Nat
 |[],_=>none
 |y::ys,n=>match V.beq y x with|true=>some n|false=>dc x ys (n+1)
noncomputable def dM(k:Nat):List V:=
 let o (l:List V) (c:Nat):V:=.tp [.int 8,.tp [.tp l],.tp [],.tp [],.tp [],.tp [],.int c]
 let st (s:List Nat) (c:Nat):V:=.tp [.int 3,.str s,.int c]
 let en (d:Int) (s:Nat) (v:V) (c:Nat):V:=.tp [.int 5,.int d,.str [s],v,.int c]
 let e:Int:=match k with|0=>1|_=>5
 let f:Int:=match k with|0=>4|_=>2
 let p (s:Nat) (t:V):List V:=[.str [s],t,.int 0,.int 0]
 let i (r:V):V:=.id k r
 [st [] 0,st [97] 0,st [98] 0,.tp [.int 4,.int 0,.int 0],en e 65 (.int 0) 0,en f 65 (.int 0) 0,en e 66 (.str [97]) 0,st [97] 1,.tp [.int 4,.int 0,.int 1],en e 65 (.int 0) 1,
  o (p 107 (i (st [97] 0))) 0,o (p 107 (i (st [98] 0))) 0,o (p 112 (i (.tp [.int 4,.int 7,.int 0]))) 0,o (p 107 (i (en e 66 (.str [97]) 0))) 0,o (p 107 (i (st [97] 0))) 1]
noncomputable def dG(S:St)(k:Nat)(r:V):Bool:=S.late&&beq (k+1) S.n&&(dc r (dM k) 0).isSome
noncomputable def ct{α:Type}(x:Option α)(f:α→cF):cF:=match x with|some v=>f v|none=>.bad
noncomputable def eM(b:Bool)(o:cF):cF:=match b with|true=>o|false=>.bad
noncomputable def A9(v:V)(S:St):cF:=match S.c with|0=>.bad|c+1=>.ret v {S with c:=c}
noncomputable def lI(k:Nat)(r:V)(S:St):cF:=eM (fS k r) (match dc r ax 0 with
 |some i=>.ret (.int i) S
 |none=>match dG S k r with
  |true=>.ret (.id k r) S
  |false=>A9 (.id k r) S)
noncomputable def w5(k:Nat)(r d:V)(S:St):cF:=eM (fS k r) (match dc r ax 0 with
 |some i=>.ret (.int i) S
 |none=>match dG S k r with
  |true=>.ret (.id k r) S
  |false=>.two (.id k r) d S)
noncomputable def ko:Int→Option Nat|.ofNat n=>some n|_=>none
noncomputable def bU(k:Nat)(t:V):Option V:=match t.asId with
 |some x=>match beq k x.1 with|true=>some x.2|false=>none
 |none=>t.asInt.bind λi=>(ko i).bind λn=>ax[n]?
noncomputable def aC(x:V):List (V×V)→Option V
 |[]=>none
 |p::l=>match V.beq p.1 x with|true=>some p.2|false=>aC x l
noncomputable def cP(x v:V):List (V×V)→List (V×V)
 |[]=>[(x,v)]
 |p::l=>match V.beq p.1 x with|true=>(p.1,v)::l|false=>p::cP x v l
noncomputable def V.key(k:Nat)(v:V):Bool:=V.dat true true k v 0
noncomputable def bf(k:Nat)(x:V)(l:List (V×V)):Bool:=V.key k x&&l.all λp=>V.key k p.1
noncomputable def truthy(S:St):V→Option Bool
 |.nul=>some false
 |.bool b=>some b
 |.int i=>some (decide (i≠0))
 |.str s=>some (!s.isEmpty)
 |v=>(bu S v).map (!·.isEmpty)
noncomputable def iB(k:Nat)(l m:List V):Bool:=(V.datL false false k l 8&&V.datL false false k m 8)||(V.datL true false k l 8&&V.datL true false k m 8)
noncomputable def ar(S:St)(v:V):V:=match bT S v with|some l=>.ls l|none=>v
noncomputable def cq(S:St)(a b:V):Option Bool:=match iB (S.n-1) [ar S a] [ar S b]with
 |true=>some (V.beq (ar S a) (ar S b))
 |false=>none
noncomputable def bX(S:St)(x c:V):Option Bool:=match bu S c with
 |some l=>match iB (S.n-1) [x] l with
  |true=>some (l.any λy=>V.beq y x)
  |false=>none
 |none=>(dictAt S c).bind λd=>match bf (S.n-1) x d.2 with
  |true=>some (aC x d.2).isSome
  |false=>none
noncomputable def qq(a b:V):Option Bool:=b.asInt.bind λj=>match a.asInt with
 |some i=>some (decide (i<j))
 |none=>match a.asId.isSome&&decide (j≤16)with|true=>some false|false=>none
noncomputable def isNone:V→Option Bool
 |.nul=>some true
 |.bool _=>none
 |.rng _=>none
 |.str _=>none
 |.hd .ref _=>some false
 |.hd _ _=>none
 |_=>some false
noncomputable def v7(o:C2)(S:St)(a b:V):Option Bool:=match o with
 |.eq=>cq S a b
 |.ne=>(cq S a b).map (!·)
 |.lt=>qq a b
 |.gt=>qq b a
 |.le=>a.asInt.bind λi=>b.asInt.map λj=>decide (i≤j)
 |.ge=>a.asInt.bind λi=>b.asInt.map λj=>decide (j≤i)
 |.is_=>b.asNone.bind λz=>isNone a
 |.isnot=>b.asNone.bind λz=>(isNone a).map (!·)
 |.in_=>bX S a b
 |.notin=>(bX S a b).map (!·)
noncomputable def gd(b:Bool)(v:V):Option V:=match b with|true=>some v|false=>none
noncomputable def qb(a b:V)(f:Int→Int→Option V):Option V:=a.asInt.bind λi=>b.asInt.bind λj=>f i j
noncomputable def kq(i:Int):Bool:=decide (i.natAbs≤aD)
noncomputable def Kr(S:St)(a b:V):Option V:=match a.asInt with
 |some i=>b.asInt.map λj=>.int (i+j)
 |none=>match a.asStr with
  |some x=>b.asStr.bind λy=>gd (decide (x.length+y.length≤aD)) (.str (x++y))
  |none=>match a.asTup with
   |some x=>b.asTup.bind λy=>gd (!x.isEmpty && !y.isEmpty&&decide (x.length+y.length≤aD)) (.tp (x++y))
   |none=>(bT S a).bind λx=>(bT S b).bind λy=>gd (decide (x.length+y.length≤aD)) (.ls (x++y))
noncomputable def jg(o:B2)(S:St)(a b:V):Option V:=match o with
 |.add=>Kr S a b
 |.sb=>qb a b λi j=>some (.int (i-j))
 |.mul=>qb a b λi j=>gd (kq i&&kq j) (.int (i*j))
 |.mod=>qb a b λi j=>gd (decide (0<j)) (.int (i%j))
 |.fdiv=>qb a b λi j=>gd (decide (0<j)&&kq i&&kq j) (.int (i/j))
 |.band=>qb a b λi j=>gd (decide (0≤i)&&decide (0≤j)) (.int (Int.ofNat (i.toNat &&& j.toNat)))
noncomputable def du{α:Type}(l:List α)(i:Int):Option α:=match decide (0≤i)with|true=>l[i.toNat]? |false=>match decide (0≤i+l.length)with|true=>l[(i+l.length).toNat]? |false=>none
noncomputable def bM(n:Nat)(i:Int):Nat:=match decide (0≤i)with|true=>min i.toNat n|false=>(i+n).toNat
noncomputable def lN{α:Type}(l:List α)(lo hi:Option Int):List α:=(l.drop (lo.elim 0 (bM l.length))).take (hi.elim l.length (bM l.length)-lo.elim 0 (bM l.length))
noncomputable def yd(v:V):Option (Option Int):=match v.asNone with|some _=>some none|none=>v.asInt.map some
noncomputable def iY(S:St)(v lo hi:V):Option V:=(yd lo).bind λa=>(yd hi).bind λb=>match v.asTup with
 |some l=>match a with|some _=>none|none=>b.map λi=>.tp (l.take (bM l.length i))
 |none=>match v.asStr with
  |some l=>match b with|some _=>none|none=>a.bind λi=>(ko i).bind λn=>gd (decide (n≤l.length)) (.str (l.drop n))
  |none=>(bT S v).map λl=>.ls (lN l a b)
noncomputable def EP(S:St)(v:V):Option V:=(bT S v).map λl=>.ls l.reverse
noncomputable def bV(S:St)(o i:V):Option V:=match bu S o with
 |some l=>i.asInt.bind λn=>du l n
 |none=>match o.asStr with
  |some l=>i.asInt.bind λn=>(du l n).map λx=>.str [x]
  |none=>match dictAt S o with
   |some d=>match bf (S.n-1) i d.2 with|true=>aC i d.2|false=>none
   |none=>o.asHdl.bind λc=>match c with|(.rows,k)=>bU k i|_=>none
noncomputable def dp(o i v:V)(S:St):Option St:=match bI S o with
 |some d=>i.asInt.bind λn=>(ko n).bind λn=>match decide (n<d.2.length)with
  |true=>some (S.set d.1 (.list (d.2.set n v)))
  |false=>none
 |none=>(dictAt S o).bind λd=>match bf (S.n-1) i d.2&&decide (d.2.length<aD)with
  |true=>some (S.set d.1 (.dict (cP i v d.2)))
  |false=>none
noncomputable def iu{α:Type}(le:α→α→Bool)(x:α):List α→List α
 |[]=>[x]
 |y::ys=>match le x y with|true=>x::y::ys|false=>y::iu le x ys
noncomputable def fY{α:Type}(le:α→α→Bool):List α→List α
 |[]=>[]
 |x::xs=>iu le x (fY le xs)
noncomputable def aZ:List Nat→List Nat→Bool
 |[],_=>true
 |a::as,m=>match m with|[]=>false|b::bs=>match beq a b with|true=>aZ as bs|false=>ble a b
noncomputable def cK:List V→Option (List (List Nat))
 |[]=>some []
 |x::r=>x.asStr.bind λs=>(cK r).map (s :: ·)
noncomputable def cQ(k:Nat)(v:V):Bool:=match v.asInt with
 |some i=>decide (0≤i)&&decide (i<16)
 |none=>v.asId.any λx=>beq x.1 k
noncomputable def eG(l:List V)(S:St):cF:=match decide (l.length<64)with
 |false=>.bad
 |true=>match cK l with
  |some ss=>.ret (.ls ((fY aZ ss).map .str)) S
  |none=>match l.all (cQ (S.n-1))with|true=>.perm l S|false=>.bad
noncomputable def gK:List V→Option (List Bool)
 |[]=>some []
 |x::r=>x.asBool.bind λb=>(gK r).map (b :: ·)
noncomputable def a9(sep:Nat):List Nat→List (List Nat)
 |[]=>[[]]
 |c::cs=>match beq c sep with|true=>[]::a9 sep cs|false=>match a9 sep cs with
  |w::ws=>(c::w)::ws
  |[]=>[[c]]
noncomputable def bL(sep:List Nat):List (List Nat)→List Nat
 |[]=>[]
 |x::xs=>match xs with|[]=>x|_::_=>x++sep++bL sep xs
noncomputable def eD(p:P1)(v:V)(S:St):cF:=match p with
 |.len=>iH (match bu S v with|some l=>some (.int l.length)|none=>(dictAt S v).map λd=>.int d.2.length) S
 |.sorted=>match bT S v with
  |some l=>eG l S
  |none=>match dictAt S v with|some d=>eG (d.2.map (·.1)) S|none=>.bad
 |.tuple=>iH ((bu S v).map .tp) S
 |.isStr=>iH (match v.asStr with|some _=>some (.bool true)|none=>v.asInt.map λz=>.bool false) S
 |.all=>iH ((v.asLst.bind gK).map λl=>.bool (l.all (·))) S
 |.any=>iH ((v.asLst.bind gK).map λl=>.bool (l.any (·))) S
 |.range=>iH (v.asInt.bind λi=>(ko i).bind λn=>gd (decide (n≤aD)) (.rng n)) S
noncomputable def tZ:List (Int×Int):=[(3,6),(4,5),(5,4),(6,1),(7,2),(10,7)]
noncomputable def f9(i:Int):List (Int×Int)→Option V
 |[]=>none
 |p::l=>match decide (p.1=i)with|true=>some (.int p.2)|false=>f9 i l
noncomputable def iZ(l:List V):Option V:=match l with|[]=>none|x::r=>match r with|[]=>some x|_::_=>none
noncomputable def pair(l:List V):Option (V×V):=match l with|[]=>none|x::r=>(iZ r).map λy=>(x,y)
noncomputable def Oa(o:V)(l:List V)(S:St):cF:=ct o.asHdl λc=>match c.1 with
 |.tab=>ct (iZ l) λr=>lI c.2 r S
 |_=>.bad
noncomputable def pV(o:V)(l:List V)(S:St):cF:=ct (bI S o) λd=>ct (iZ l) λv=>eM (decide (d.2.length<aD)) (.ret .nul (S.set d.1 (.list (d.2++[v]))))
noncomputable def GS(v:V):Option (List V):=match v.asTup with|some x=>some x|none=>v.asLst
noncomputable def zD(o:V)(l:List V)(S:St):cF:=ct (bI S o) λd=>ct (iZ l) λv=>ct (GS v) λx=>eM (decide (d.2.length+x.length≤aD)) (.ret .nul (S.set d.1 (.list (d.2++x))))
noncomputable def KG(o:V)(l:List V)(S:St):cF:=ct (bI S o) λd=>eM l.isEmpty (ct d.2.getLast? λv=>.ret v (S.set d.1 (.list d.2.dropLast)))
noncomputable def EB(x d:V)(S:St):cF:=match x.asInt with
 |some i=>.ret ((f9 i tZ).getD d) S
 |none=>ct x.asId λz=>.ret d S
noncomputable def LB(o:V)(l:List V)(S:St):cF:=ct (pair l) λp=>match dictAt S o with
 |some e=>eM (bf (S.n-1) p.1 e.2) (.ret ((aC p.1 e.2).getD p.2) S)
 |none=>ct o.asHdl λc=>match c.1 with
  |.index=>w5 c.2 p.1 p.2 S
  |.fd=>EB p.1 p.2 S
  |_=>.bad
noncomputable def A0(o:V)(l:List V)(S:St):cF:=ct o.asStr λsep=>ct ((iZ l).bind V.asLst) λx=>ct (cK x) λss=>eM (decide ((ss.map List.length).sum+ss.length*sep.length≤aD)) (.ret (.str (bL sep ss)) S)
noncomputable def xJ(o:V)(l:List V)(S:St):cF:=ct o.asStr λs=>ct ((iZ l).bind V.asStr) λx=>match x with
 |[]=>.bad
 |c::r=>eM (r.isEmpty&&decide ((a9 c s).length≤aD)&&(a9 c s).all λx=>decide (x.length≤aD)) (.ret (.ls ((a9 c s).map .str)) S)
noncomputable def rR(m:M1)(o:V)(l:List V)(S:St):cF:=match m with
 |.put=>Oa o l S
 |.append=>pV o l S
 |.extend=>zD o l S
 |.pop=>KG o l S
 |.get=>LB o l S
 |.join=>A0 o l S
 |.split=>xJ o l S
noncomputable def vY(m:M1)(S:St)(o:V):Bool:=match m with
 |.put=>match o.asHdl with|some (.tab,_)=>true|_=>false
 |.append=>(bI S o).isSome
 |.extend=>(bI S o).isSome
 |.pop=>(bI S o).isSome
 |.get=>(dictAt S o).isSome||match o.asHdl with|some (.index,_)=>true|some (.fd,_)=>true|_=>false
 |.join=>o.asStr.isSome
 |.split=>o.asStr.isSome
noncomputable def BK(a:H)(o:V):Option V:=o.asHdl.bind λc=>match a,c with
 |.rows,(.tab,k)=>some (.hd .rows k)
 |.index,(.tab,k)=>some (.hd .index k)
 |.tab,(.host,k)=>some (.hd .tab k)
 |_,_=>none
noncomputable def Ck(o:V):Bool:=match o.asHdl with|some (.host,_)=>true|_=>false
noncomputable def dictOf:List (List Nat)→List V→Option (List (V×V))
 |[],vs=>match vs with|[]=>some []|_::_=>none
 |k::ks,vs=>match vs with
  |[]=>none
  |v::vs=>match ks.any (cj k)with|true=>none|false=>(dictOf ks vs).map ((.str k,v) :: ·)
noncomputable def dY(S:St)(v:V):Option (List V×Option Nat):=match bI S v with
 |some d=>some (d.2,some d.1)
 |none=>match v.asRng with
  |some n=>some ((List.range n).map λ(i:Nat)=>V.int (Int.ofNat i),none)
  |none=>(bu S v).map λl=>(l,none)
noncomputable def fX(S:St)(l:List V):Option Nat→Bool
 |none=>true
 |some i=>match S.h[i]? with|some (.list l')=>V.beqL l' l|_=>false
structure xV (R:Type) where
 bad:R
 two:R→R→R
 per:List V→List (List V×List V)→(List V→R)→R
noncomputable def cF.run{R:Type}(a:xV R)(o:cF)(k:V→St→R):R:=match o with
 |.bad=>a.bad
 |.ret v S=>k v S
 |.two v w S=>a.two (k v S) (k w S)
 |.perm l S=>a.per l S.o λl'=>k (.ls l') {S with o:=(l,l')::S.o}
noncomputable def aq{R α:Type}(a:xV R)(x:Option α)(k:α→R):R:=match x with|some v=>k v|none=>a.bad
noncomputable def iff{R:Type}(a:xV R)(b:Bool)(k:R):R:=match b with|true=>k|false=>a.bad
section
variable{R:Type}(a:xV R)(cl:Nat→List V→St→(V→St→R)→R)
noncomputable def dv(ok:St→Bool)(cond:au→St→(Bool→St→R)→R)(elt:au→St→(V→St→R)→R)(j:Nat):List V→au→St→(List V→St→R)→R
 |[],_,S,k=>iff a (ok S) (k [] S)
 |x::xs,vs,S,k=>iff a (ok S) (cond (vs.set j (some x)) S λb S=>match b with
  |true=>elt (vs.set j (some x)) S λy S=>dv ok cond elt j xs (vs.set j (some x)) S λr S=>k (y::r) S
  |false=>dv ok cond elt j xs (vs.set j (some x)) S k)
noncomputable def fc(vs:au)(caps:List (Option Nat)):au:=caps.map λc=>c.bind λn=>(vs[n]?).join
mutual
noncomputable def ev:E→au→St→(V→St→R)→R
 |.v j,vs,S,k=>aq a (vs[j]?).join λv=>k v S
 |.c v,_,S,k=>k v S
 |.tp l,vs,S,k=>kG l vs S λxs S=>k (.tp xs) S
 |.list m l,vs,S,k=>kG l vs S λxs S=>match m with
  |true=>k (.hd .ref S.h.length) (S.new (.list xs))
  |false=>k (.ls xs) S
 |.dict ks vals,vs,S,k=>kG vals vs S λxs S=>aq a (dictOf ks xs) λd=>k (.hd .ref S.h.length) (S.new (.dict d))
 |.and x y,vs,S,k=>ev x vs S λv S=>aq a (truthy S v) λb=>match b with|true=>ev y vs S k|false=>k v S
 |.or x y,vs,S,k=>ev x vs S λv S=>aq a (truthy S v) λb=>match b with|true=>k v S|false=>ev y vs S k
 |.not x,vs,S,k=>ev x vs S λv S=>aq a (truthy S v) λb=>k (.bool (!b)) S
 |.it c x y,vs,S,k=>ev c vs S λv S=>aq a (truthy S v) λb=>match b with|true=>ev x vs S k|false=>ev y vs S k
 |.bin o x y,vs,S,k=>ev x vs S λv S=>ev y vs S λw S=>aq a (jg o S v w) λr=>k r S
 |.k o x y,vs,S,k=>ev x vs S λv S=>ev y vs S λw S=>aq a (v7 o S v w) λb=>k (.bool b) S
 |.lt3 x y z,vs,S,k=>ev x vs S λv S=>ev y vs S λw S=>aq a (qq v w) λb=>match b with
  |true=>ev z vs S λu S=>aq a (qq w u) λb=>k (.bool b) S
  |false=>k (.bool false) S
 |.cl f l,vs,S,k=>kG l vs S λxs S=>cl f xs S k
 |.p p l,vs,S,k=>kG l vs S λxs S=>aq a (iZ xs) λx=>(eD p x S).run a k
 |.me m o l,vs,S,k=>ev o vs S λx S=>iff a (vY m S x) (kG l vs S λxs S=>(rR m x xs S).run a k)
 |.hostm f o l,vs,S,k=>ev o vs S λx S=>iff a (Ck x) (kG l vs S λxs S=>cl f (x::xs) S k)
 |.attr h o,vs,S,k=>ev o vs S λx S=>aq a (BK h x) λr=>k r S
 |.sb o i,vs,S,k=>ev o vs S λx S=>ev i vs S λy S=>aq a (bV S x y) λr=>k r S
 |.slice o lo hi,vs,S,k=>ev o vs S λx S=>ev lo vs S λy S=>ev hi vs S λz S=>aq a (iY S x y z) λr=>k r S
 |.rev o,vs,S,k=>ev o vs S λx S=>aq a (EP S x) λr=>k r S
 |.comp caps j it conds elt,vs,S,k=>ev it vs S λv S=>aq a (dY S v) λl=>dv a (λS=>fX S l.1 l.2) (gS conds) (ev elt) j l.1 (fc vs caps) S λr S=>k (.ls r) S
 |.thaw e,vs,S,k=>ev e vs S λv S=>aq a v.asLst λl=>k (.hd .ref S.h.length) (S.new (.list l))
 |.newTab,_,S,k=>match ble 16 S.c with
  |true=>k (.hd .tab S.n) {S with c:=S.c-16,n:=S.n+1,late:=false}
  |false=>a.bad
 |.newHost t,vs,S,k=>ev t vs S λv S=>aq a v.asHdl λc=>match c with|(.tab,n)=>k (.hd .host n) S|_=>a.bad
 |.bad,_,_,_=>a.bad
noncomputable def kG:List E→au→St→(List V→St→R)→R
 |[],_,S,k=>k [] S
 |e::es,vs,S,k=>ev e vs S λx S=>kG es vs S λr S=>k (x::r) S
noncomputable def gS:List E→au→St→(Bool→St→R)→R
 |[],_,S,k=>k true S
 |e::es,vs,S,k=>ev e vs S λx S=>aq a (truthy S x) λb=>match b with|true=>gS es vs S k|false=>k false S
end
noncomputable def g6:List Nat→List V→au→Option au
 |[],l,vs=>match l with|[]=>some vs|_::_=>none
 |j::js,l,vs=>match l with|[]=>none|x::xs=>g6 js xs (vs.set j (some x))
noncomputable def bW(ok:St→Bool)(body:au→St→(Fl→au→St→R)→R)(j:Nat):List V→au→St→(Fl→au→St→R)→R
 |[],vs,S,k=>iff a (ok S) (k .next vs S)
 |x::xs,vs,S,k=>iff a (ok S) (body (vs.set j (some x)) S λf vs S=>match f with
  |.ret v=>k (.ret v) vs S
  |.next=>bW ok body j xs vs S k
  |.cont=>bW ok body j xs vs S k)
noncomputable def jQ(cond:au→St→(Bool→St→R)→R)(body:au→St→(Fl→au→St→R)→R):Nat→au→St→(Fl→au→St→R)→R
 |0,_,_,_=>a.bad
 |n+1,vs,S,k=>cond vs S λb S=>match b with
  |true=>body vs S λf vs S=>match f with
   |.ret v=>k (.ret v) vs S
   |.next=>jQ cond body n vs S k
   |.cont=>jQ cond body n vs S k
  |false=>k .next vs S
mutual
noncomputable def ex:S→au→St→(Fl→au→St→R)→R
 |.a j e,vs,S,k=>ev a cl e vs S λv S=>k .next (vs.set j (some v)) S
 |.unpack js e,vs,S,k=>ev a cl e vs S λv S=>aq a (bu S v) λl=>aq a (g6 js l vs) λvs=>k .next vs S
 |.pair j1 j2 e1 e2,vs,S,k=>ev a cl e1 vs S λv S=>ev a cl e2 vs S λw S=>k .next ((vs.set j1 (some v)).set j2 (some w)) S
 |.setItem o i v,vs,S,k=>ev a cl v vs S λx S=>ev a cl o vs S λy S=>ev a cl i vs S λz S=>aq a (dp y z x S) λS=>k .next vs S
 |.expr e,vs,S,k=>ev a cl e vs S λY S=>k .next vs S
 |.it c x y,vs,S,k=>ev a cl c vs S λv S=>aq a (truthy S v) λb=>match b with|true=>ao x vs S k|false=>ao y vs S k
 |.for_ j it body,vs,S,k=>ev a cl it vs S λv S=>aq a (dY S v) λl=>bW a (λS=>fX S l.1 l.2) (ao body) j l.1 vs S k
 |.while_ c body,vs,S,k=>jQ a (λvs S k=>ev a cl c vs S λv S=>aq a (truthy S v) λb=>k b S) (ao body) 100 vs S k
 |.ret e,vs,S,k=>ev a cl e vs S λv S=>k (.ret v) vs S
 |.pass,vs,S,k=>k .next vs S
 |.cont,vs,S,k=>k .cont vs S
 |.bad,_,_,_=>a.bad
noncomputable def ao:List S→au→St→(Fl→au→St→R)→R
 |[],vs,S,k=>k .next vs S
 |s::ss,vs,S,k=>ex s vs S λf vs S=>match f with
  |.next=>ao ss vs S k
  |.cont=>k .cont vs S
  |.ret v=>k (.ret v) vs S
end
end
inductive O9 where|own (c:Nat) (s:Bool)|open_|late
structure Fn where
 params:Nat
 slots:Nat
 dflts:List V
 mode:O9
 body:List S
noncomputable def bindArgs(f:Fn)(args:List V):Option au:=
 match decide (args.length≤f.params)&&decide (f.params≤args.length+f.dflts.length)with
 |true=>some ((args++f.dflts.drop (args.length+f.dflts.length-f.params)).map some++List.replicate (f.slots-f.params) none)
 |false=>none
noncomputable def gE(S:St)(v:V):Option V:=match V.free (ar S v)with|true=>some (ar S v)|false=>none
noncomputable def f5(S:St):Bool:=S.h.any λo=>match o with
 |.dict l=>(dM (S.n-1)).all λr=>l.any λp=>V.beq p.1 (.id (S.n-1) r)
 |_=>false
noncomputable def iW(h:List O):List V→List O
 |[]=>h
 |v::l=>match v.asHdl with|some (.ref,i)=>iW (h.set i .gone) l|_=>iW h l
noncomputable def gk(S:St)(args:List V):Option (List V×List O):=match V.freeL args with
 |true=>some (args,S.h)
 |false=>match V.freeL (args.map (ar S))with
  |true=>some (args.map (ar S),iW S.h args)
  |false=>none
noncomputable def iG(s:Bool)(a b:List (List V×List V)):List (List V×List V):=match s with|true=>a|false=>b
noncomputable def fv{R:Type}(a:xV R)(P:List Fn):Nat→Nat→List V→St→(V→St→R)→R
 |0,_,_,_,_=>a.bad
 |n+1,f,args,S,k=>aq a P[f]? λfn=>match fn.mode with
  |.own c s=>iff a (ble c S.c) (aq a (gk S args) λx=>aq a (bindArgs fn x.1) λvs=>ao a (fv a P n) fn.body vs {S with c:=c,h:=[]} λfl _ S'=>iff a (beq S'.n S.n) (aq a (gE S' fl.val) λv=>k v {S with c:=S.c-c,h:=x.2,o:=iG s S'.o S.o}))
  |.open_=>aq a (bindArgs fn args) λvs=>ao a (fv a P n) fn.body vs S λfl _ S=>k fl.val S
  |.late=>aq a (bindArgs fn args) λvs=>ao a (fv a P n) fn.body vs {S with late:=S.late||f5 S} λfl _ S=>k fl.val S
noncomputable def pA:xV Prop:=⟨False,And,λl o k=>∀l':List V,l'.Perm l→(∀p∈o,p.1=l→p.2=l')→k l'⟩
noncomputable def yt(x:V):List V→List (List V)
 |[]=>[[x]]
 |y::l=>(x::y::l)::(yt x l).map (y :: ·)
noncomputable def vL:List V→List (List V)
 |[]=>[[]]
 |x::l=>(vL l).flatMap (yt x)
noncomputable def same:List (Option V)→Option V
 |[]=>none
 |a::r=>a.bind λv=>match r.all λb=>b.any (V.beq v)with|true=>some v|false=>none
noncomputable def oA:xV (Option V):=⟨none,λa b=>same [a,b],λl _ k=>same ((vL l).map k)⟩
end Kk
namespace Kk
open PySem (Str NameKind Scope Const Arguments FuncData FuncBody)
structure Cx where
 fns:List Str
 consts:List (Str×V)
noncomputable abbrev aI:=List (Str×NameKind)
noncomputable def bl(x:Str):aI→Nat→Option (Nat×NameKind)
 |[],_=>none
 |p::r,n=>match x==p.1 with|true=>some (n,p.2)|false=>bl x r (n+1)
noncomputable def cc:NameKind→Bool|.local=>true|.cell=>true|_=>false
noncomputable def dJ:NameKind→Bool|.cell=>true|.free=>true|_=>false
noncomputable def pY:NameKind→Bool|.local=>true|.cell=>true|.free=>true|_=>false
noncomputable def Gd:NameKind→Bool|.globalImplicit=>true|_=>false
noncomputable def bg(f:NameKind→Bool)(sc:aI)(x:Str):Option Nat:=(bl x sc 0).bind λp=>match f p.2 with|true=>some p.1|false=>none
noncomputable def c7(sc:aI)(x:Str):Bool:=(bg Gd sc x).isSome
noncomputable def g7(x:Str):List Str→Nat→Option Nat
 |[],_=>none
 |y::r,n=>match x==y with|true=>some n|false=>g7 x r (n+1)
noncomputable def dC(s:Str):Bool:=s.cps.all (λc=>decide (c<0x110000))&&decide (s.cps.toList.length≤aD)
noncomputable def N2(s:Str)(f:List Nat→E):E:=match dC s with|true=>f s.cps.toList|false=>.bad
noncomputable def nO{α:Type}(x:Option α)(f:α→E):E:=match x with|some y=>f y|none=>.bad
noncomputable def dS(b:Bool)(e:E):E:=match b with|true=>e|false=>.bad
noncomputable def Dl:Const→E
 |.none=>.c .nul
 |.bool b=>.c (.bool b)
 |.int i=>.c (.int i)
 |.str s=>N2 s λl=>.c (.str l)
 |_=>.bad
noncomputable def Gp:PySem.Operator→Option B2
 |.Add=>some .add
 |.Sub=>some .sb
 |.Mult=>some .mul
 |.Mod=>some .mod
 |.FloorDiv=>some .fdiv
 |.BitAnd=>some .band
 |_=>none
noncomputable def AA:PySem.CmpOp→C2
 |.Eq=>.eq|.NotEq=>.ne|.Lt=>.lt|.LtE=>.le|.Gt=>.gt|.GtE=>.ge|.Is=>.is_|.IsNot=>.isnot|.In=>.in_|.NotIn=>.notin
noncomputable def dQ{α:Type}(x:Str):List (String×α)→Option α
 |[]=>none
 |p::l=>match x==Str.ofString p.1 with|true=>some p.2|false=>dQ x l
noncomputable def nS:List (String×P1):=[("len",.len),("sorted",.sorted),("tuple",.tuple),("all",.all),("any",.any),("range",.range)]
noncomputable def vQ:List (String×M1):=[("put",.put),("append",.append),("extend",.extend),("get",.get),("pop",.pop),("join",.join),("split",.split)]
noncomputable def pX:List (String×String):=[("force","Thin.force"),("fits","RefHost.fits")]
noncomputable def BF:List (String×H):=[("rows",.rows),("index",.index),("tab",.tab)]
noncomputable def q6:List (String×Unit):=[("out",()),("left",()),("waiting",()),("d",()),("kinds",()),("told",())]
noncomputable def dX(x:Str):Bool:=!(x==("__classdict__" : Str)) && !(x==("__debug__" : Str)) && !x.cps.toList.contains 46
noncomputable def CZ(sc:aI):Expr→Bool
 |.Name x _=>x==Str.ofString "str" && c7 sc x
 |_=>false
noncomputable def FH:Option Expr→Option (List Nat)
 |some (.Constant (.str s) _ _)=>match dC s with|true=>some s.cps.toList|false=>none
 |_=>none
noncomputable def jr:List (Option Expr)→Option (List (List Nat))
 |[]=>some []
 |k::r=>(FH k).bind λs=>(jr r).map (s :: ·)
noncomputable def eI(sc:aI):aI→Option (List (Option Nat))
 |[]=>some []
 |p::r=>match p.2 with
  |.free=>(bg dJ sc p.1).bind λn=>(eI sc r).map (some n :: ·)
  |_=>(eI sc r).map (none :: ·)
noncomputable def di:Expr→Bool
 |.Starred ..=>true
 |_=>false
noncomputable def mO:Expr→Bool
 |.Set ..=>true
 |_=>false
noncomputable def G9:Expr→Bool
 |.List es _=>es.isEmpty
 |_=>false
noncomputable def gJ:Expr→Bool
 |.Call f args kw _=>(match f with|.Name _ _=>true|_=>false)&&args.isEmpty&&kw.isEmpty
 |_=>false
noncomputable def dt(n:Nat)(es:List Expr):Bool:=!es.any di&&ble es.length n
noncomputable def HZ(c:Scope):Bool:=decide (c.kind=.function)&&decide ((c.names.map (·.1)).Nodup)
noncomputable def qa(f:E→E→E):List E→E
 |[]=>.bad
 |a::r=>match r with|[]=>a|_::_=>f a (qa f r)
noncomputable def Ar(cx:Cx)(sc:aI)(x:Str):E:=dS (dX x) (match bg pY sc x with
 |some j=>.v j
 |none=>dS (c7 sc x) (nO (cx.consts.lookup x) .c))
section
variable(f:aI→Expr→E)(cx:Cx)(sc:aI)
noncomputable def AD:PySem.BoolOp→List E→E
 |.And,es=>qa .and es
 |.Or,es=>qa .or es
noncomputable def NL(op:PySem.UnaryOp)(a:Expr):E:=match op with
 |.Not=>.not (f sc a)
 |.USub=>match a with
  |.Constant c _ _=>match c with|.int i=>.c (.int (-i))|_=>.bad
  |_=>.bad
 |_=>.bad
noncomputable def Ex:PySem.CmpOp→Bool|.Lt=>true|_=>false
noncomputable def yw(a:Expr):List PySem.CmpOp→List Expr→E
 |[],_=>.bad
 |o::os,bs=>match bs with
  |[]=>.bad
  |b::bs=>dS (!mO b) (match os,bs with
   |[],[]=>.k (AA o) (f sc a) (f sc b)
   |o2::os,c::bs=>dS (!mO c) (dS (Ex o&&(Ex o2&&(os.isEmpty&&bs.isEmpty))) (.lt3 (f sc a) (f sc b) (f sc c)))
   |_,_=>.bad)
noncomputable def Hj(ks:List (Option Expr))(vs:List Expr):E:=nO (jr ks) λkk=>dS (ble vs.length 15&&beq ks.length vs.length)
 (.dict kk (vs.map λe=>match G9 e with|true=>.list true []|false=>f sc e))
noncomputable def K9(o:Expr)(x:Str):E:=dS (!gJ o) (nO (dQ x BF) λa=>.attr a (f sc o))
noncomputable def BO:Option Expr→E
 |none=>.c .nul
 |some e=>f sc e
noncomputable def Cv:Expr→Bool
 |.UnaryOp op a _=>match op with
  |.USub=>match a with
   |.Constant c _ _=>match c with|.int i=>decide (i=1)|_=>false
   |_=>false
  |_=>false
 |_=>false
noncomputable def L7(o i:Expr):E:=match i with
 |.Slice lo hi st _=>match st with
  |none=>.slice (f sc o) (BO f sc lo) (BO f sc hi)
  |some s=>dS (Cv s&&lo.isNone&&hi.isNone) (.rev (f sc o))
 |_=>.sb (f sc o) (f sc i)
noncomputable def AM(elt:Expr)(gs:List PySem.Comprehension)(csc:Scope):E:=match gs with
 |[]=>.bad
 |g::gs=>match g.target with
  |.Name x _=>dS (gs.isEmpty&&decide (g.is_async=0)&&HZ csc && !mO g.iter) (nO (eI sc csc.names) λcaps=>nO (bg cc csc.names x) λj=>.comp caps j (f sc g.iter) (g.ifs.map (f csc.names)) (f csc.names elt))
  |_=>.bad
noncomputable def Cb(x:Str)(args:List Expr):E:=dS (dX x&&c7 sc x&&dt 20 args) (match g7 x cx.fns 0 with
 |some k=>.cl k (args.map (f sc))
 |none=>match dQ x nS with
  |some p=>.p p (args.map (f sc))
  |none=>match x==Str.ofString "isinstance" with
   |true=>match args with
    |[]=>.bad
    |a::r=>match r with
     |[]=>.bad
     |b::r=>dS (CZ sc b&&r.isEmpty) (.p .isStr [f sc a])
   |false=>match x==Str.ofString "TypeTable" with
    |true=>dS args.isEmpty .newTab
    |false=>dS (x==Str.ofString "RefHost") (match args with
     |[]=>.bad
     |a::r=>dS r.isEmpty (.newHost (f sc a))))
noncomputable def Dr(o:Expr)(x:Str)(args:List Expr)(l1 l2:Nat):E:=dS (dt 20 args && !gJ o&&l1==l2) (match dQ x vQ with
 |some m=>.me m (f sc o) (args.map (f sc))
 |none=>nO (dQ x pX) λh=>nO (g7 (Str.ofString h) cx.fns 0) λk=>.hostm k (f sc o) (args.map (f sc)))
noncomputable def MD(g:Expr)(args:List Expr)(l:Nat):E:=match g with
 |.Name x _=>Cb f cx sc x args
 |.Attribute o x p=>Dr f cx sc o x args p.endLine l
 |_=>.bad
end
noncomputable def comp(cx:Cx):Nat→aI→Expr→E
 |0,_,_=>.bad
 |n+1,sc,e=>match e with
  |.Constant c _ _=>Dl c
  |.Name x _=>Ar cx sc x
  |.BoolOp op es _=>AD op (es.map (comp cx n sc))
  |.UnaryOp op a _=>NL (comp cx n) sc op a
  |.IfExp c a b _=>.it (comp cx n sc c) (comp cx n sc a) (comp cx n sc b)
  |.BinOp a op b _=>nO (Gp op) λo=>.bin o (comp cx n sc a) (comp cx n sc b)
  |.Compare a ops bs _=>yw (comp cx n) sc a ops bs
  |.Tuple es _ _=>dS (dt 100 es) (.tp (es.map (comp cx n sc)))
  |.List es _=>dS (dt 100 es) (.list false (es.map (comp cx n sc)))
  |.Dict ks vs _=>Hj (comp cx n) sc ks vs
  |.Attribute o a _=>K9 (comp cx n) sc o a
  |.Subscript o i _=>L7 (comp cx n) sc o i
  |.ListComp elt gs csc _=>AM (comp cx n) sc elt gs csc
  |.Call f args kw p=>dS kw.isEmpty (MD (comp cx n) cx sc f args p.line)
  |_=>.bad
noncomputable def rG(e1 e2:Expr):Bool:=!di e1 && !di e2&&(PySem.foldedForSure 8 e1&&PySem.foldedForSure 8 e2 || !(PySem.constantsAlone 8 e1&&PySem.constantsAlone 8 e2))
noncomputable def tj(sc:aI):Expr→Option Nat
 |.Name x _=>bg cc sc x
 |_=>none
noncomputable def fO(sc:aI):List Expr→Option (List Nat)
 |[]=>some []
 |t::r=>(tj sc t).bind λj=>(fO sc r).map (j :: ·)
noncomputable def AE{α:Type}(x:Option α)(f:α→S):S:=match x with|some y=>f y|none=>.bad
noncomputable def xC(b:Bool)(e:S):S:=match b with|true=>e|false=>.bad
section
variable(f:Expr→E)
noncomputable def nX(x:Str)(e:Expr):E:=match(dQ x q6).isSome with
 |false=>f e
 |true=>match e with
  |.ListComp ..=>.thaw (f e)
  |.List es _=>dS (dt 100 es) (.list true (es.map f))
  |_=>f e
noncomputable def two(js:List Nat)(es:List Expr):S:=match js,es with
 |[j1,j2],[e1,e2]=>xC (!beq j1 j2&&rG e1 e2) (.pair j1 j2 (f e1) (f e2))
 |_,_=>.bad
noncomputable def tY(sc:aI)(t e:Expr):S:=match t with
 |.Name x _=>AE (bg cc sc x) λj=>.a j (nX f x e)
 |.Tuple ts _ _=>AE (fO sc ts) λjs=>match e with
  |.Tuple es _ _=>two f js es
  |_=>.unpack js (f e)
 |.Subscript o i _=>match i with
  |.Slice ..=>.bad
  |_=>.setItem (f o) (f i) (f e)
 |_=>.bad
end
noncomputable def jo(cx:Cx):Nat→aI→PySem.Stmt→S
 |0,_,_=>.bad
 |n+1,sc,s=>match s with
  |.Assign ts e _=>match ts with
   |[]=>.bad
   |t::r=>xC r.isEmpty (tY (comp cx n sc) sc t e)
  |.Expr e _=>match e with
   |.ListComp ..=>.bad
   |_=>.expr (comp cx n sc e)
  |.If c a b _=>.it (comp cx n sc c) (a.map (jo cx n sc)) (b.map (jo cx n sc))
  |.For t it body o _=>xC (o.isEmpty && !mO it) (AE (tj sc t) λj=>.for_ j (comp cx n sc it) (body.map (jo cx n sc)))
  |.While c body o _=>xC o.isEmpty (.while_ (comp cx n sc c) (body.map (jo cx n sc)))
  |.Return e _=>match e with
   |some e=>.ret (comp cx n sc e)
   |none=>.ret (.c .nul)
  |.Pass _=>.pass
  |.Continue _=>.cont
  |_=>.bad
end Kk
namespace Kk
noncomputable def CF:Fn:=⟨2,2,[],.own 0 false,
 [.ret (.sb (.sb (.attr .rows (.v 0)) (.v 1)) (.i 0))]⟩
noncomputable def A2:Fn:=⟨3,4,[.int 0],.own 1 false,
 [.ret (.me .put (.v 0) [.tp [.i 3,.v 1,.v 2]])]⟩
noncomputable def BJ:Fn:=⟨3,4,[.int 0],.own 1 false,
 [.ret (.me .put (.v 0) [.tp [.i 4,.v 1,.v 2]])]⟩
noncomputable def tD:Fn:=⟨1,5,[],.own 0 false,
 [.a 1 (.dict [] []),.for_ 2 (.v 0) [.setItem (.v 1) (.sb (.v 2) (.i 0)) (.v 2)],.ret (.p .tuple [.comp [none,none,some 1] 1 (.p .sorted [.v 1]) [] (.sb (.v 2) (.v 1))])]⟩
noncomputable def rD:Fn:=⟨7,10,[.tp [],.tp [],.tp [],.tp [],.int 0],.own 1 false,
 [.ret (.me .put (.v 0) [.tp [.i 8,.cl 3 [.v 1],.p .tuple [.v 2],.p .tuple [.v 3],.v 4,.v 5,.v 6]])]⟩
noncomputable def Bl:Fn:=⟨2,5,[],.own 0 false,
 [.it (.k .eq (.v 1) (.i 2)) [.ret (.tp [])] [],.a 2 (.sb (.attr .rows (.v 0)) (.v 1)),.it (.k .eq (.sb (.v 2) (.i 0)) (.i 6)) [.ret (.sb (.v 2) (.i 1))] [],.ret (.tp [.v 1])]⟩
noncomputable def lV:Fn:=⟨1,10,[],.own 0 false,
 [.a 1 (.sb (.v 0) (.i 0)),.it (.or (.k .eq (.v 1) (.i 3)) (.k .eq (.v 1) (.i 18))) [.ret (.i 6)] [],.it (.k .eq (.v 1) (.i 4)) [.ret (.i 7)] [],.it (.k .eq (.v 1) (.i 5)) [.ret (.it (.p .isStr [.sb (.v 0) (.i 3)]) (.i 6) (.i 7))] [],.ret (.i (-1))]⟩
noncomputable def lJ:Fn:=⟨2,4,[],.own 0 false,
 [.a 2 (.sb (.attr .rows (.v 0)) (.v 1)),.it (.and (.k .in_ (.sb (.v 2) (.i 0)) (.c (.tp [.int 2,.int 3,.int 4,.int 5,.int 8]))) (.k .eq (.sb (.v 2) (.i (-1))) (.i 1))) [.ret (.me .get (.attr .index (.v 0)) [.bin .add (.slice (.v 2) (.c (.nul)) (.i (-1))) (.tp [.i 0]),.i (-1)])] [],.ret (.i (-1))]⟩
noncomputable def wG:Fn:=⟨1,5,[],.open_,
 [.it (.and (.or (.k .in_ (.i 8) (.v 0)) (.k .in_ (.i 14) (.v 0))) (.or (.k .in_ (.i 9) (.v 0)) (.k .in_ (.i 15) (.v 0)))) [.setItem (.v 0) (.i 8) (.i 1),.setItem (.v 0) (.i 9) (.i 1)] []]⟩
noncomputable def tM:Fn:=⟨3,5,[],.open_,
 [.it (.k .in_ (.cl 7 [.v 0,.v 2]) (.v 1)) [.ret (.c (.bool false))] [],.ret (.k .notin (.cl 6 [.sb (.attr .rows (.v 0)) (.v 2)]) (.v 1))]⟩
noncomputable def EO:Fn:=⟨1,5,[],.open_,
 [.for_ 1 (.tp [.i 0,.i 13,.i 1]) [.it (.k .in_ (.v 1) (.v 0)) [.ret (.v 1)] []],.ret (.i (-1))]⟩
noncomputable def HS:Fn:=⟨2,17,[],.own 1 true,
 [.a 2 (.dict [] []),.for_ 3 (.v 1) [.for_ 4 (.cl 5 [.v 0,.v 3]) [.setItem (.v 2) (.v 4) (.i 1)]],.a 5 (.cl 10 [.v 2]),.it (.k .ge (.v 5) (.i 0)) [.ret (.v 5)] [],.expr (.cl 8 [.v 2]),.a 6 (.comp [none,none,none,some 2,some 0] 1 (.p .sorted [.v 2]) [.cl 9 [.v 4,.v 3,.v 1]] (.v 1)),.it (.not (.v 6)) [.ret (.i 2)] [],.it (.k .eq (.p .len [.v 6]) (.i 1)) [.ret (.sb (.v 6) (.i 0))] [],.it (.k .gt (.p .len [.v 6]) (.i 400)) [.bad] [],.ret (.me .put (.v 0) [.tp [.i 6,.p .tuple [.v 6]]])]⟩
noncomputable def wj:Fn:=⟨2,3,[],.own 0 false,
 [.ret (.k .in_ (.sb (.sb (.attr .rows (.v 0)) (.v 1)) (.i 0)) (.c (.tp [.int 2,.int 3,.int 4,.int 5])))]⟩
noncomputable def Cj:Fn:=⟨2,5,[],.own 0 false,
 [.ret (.or (.k .eq (.v 1) (.i 4)) (.or (.k .eq (.v 1) (.i 5)) (.cl 12 [.v 0,.v 1])))]⟩
noncomputable def Bd:Fn:=⟨2,4,[],.own 0 false,
 [.a 2 (.sb (.attr .rows (.v 0)) (.v 1)),.ret (.and (.k .in_ (.sb (.v 2) (.i 0)) (.c (.tp [.int 2,.int 3,.int 4,.int 5,.int 8]))) (.k .eq (.sb (.v 2) (.i (-1))) (.i 1)))]⟩
noncomputable def vy:Fn:=⟨2,3,[],.own 0 false,
 [.it (.cl 14 [.v 0,.v 1]) [.ret (.me .put (.v 0) [.bin .add (.slice (.sb (.attr .rows (.v 0)) (.v 1)) (.c (.nul)) (.i (-1))) (.tp [.i 0])])] [],.ret (.v 1)]⟩
noncomputable def Cp:Fn:=⟨2,7,[],.own 50 false,
 [.it (.k .eq (.cl 0 [.v 0,.v 1]) (.i 6)) [.ret (.cl 11 [.v 0,.comp [none,none,none,some 0] 1 (.cl 5 [.v 0,.v 1]) [] (.cl 15 [.v 3,.v 1])])] [],.ret (.cl 15 [.v 0,.v 1])]⟩
noncomputable def Gg:Fn:=⟨2,20,[],.own 0 false,
 [.a 2 (.sb (.attr .rows (.v 0)) (.v 1)),.a 3 (.sb (.v 2) (.i 0)),.it (.k .eq (.v 3) (.i 1)) [.ret (.me .get (.c (.hd .fd 0)) [.v 1,.i 0])] [],.it (.k .eq (.v 3) (.i 2)) [.ret (.i 3)] [],.it (.k .in_ (.v 3) (.c (.tp [.int 8,.int 9,.int 11,.int 12,.int 13]))) [.ret (.i 7)] [],.it (.k .eq (.v 3) (.i 6)) [.ret (.bad)] [],.it (.k .eq (.v 3) (.i 7)) [.ret (.bad)] [],.a 4 (.cl 6 [.v 2]),.it (.k .lt (.v 4) (.i 0)) [.ret (.i 0)] [],.ret (.it (.k .eq (.v 4) (.i 6)) (.i 1) (.i 2))]⟩
noncomputable def oI:Fn:=⟨1,4,[],.own 0 false,
 [.ret (.or (.k .eq (.v 0) (.i 4)) (.or (.k .eq (.v 0) (.i 5)) (.k .eq (.v 0) (.i 6))))]⟩
noncomputable def yV:Fn:=⟨2,6,[],.own 0 false,
 [.a 2 (.cl 5 [.v 0,.v 1]),.ret (.and (.k .gt (.p .len [.v 2]) (.i 0)) (.p .all [.comp [none,none,none,some 0] 1 (.v 2) [] (.cl 13 [.v 3,.v 1])]))]⟩
noncomputable def rO:Fn:=⟨2,9,[],.own 0 false,
 [.a 2 (.sb (.attr .rows (.v 0)) (.v 1)),.it (.k .eq (.sb (.v 2) (.i 0)) (.i 5)) [.ret (.me .put (.v 0) [.tp [.it (.p .isStr [.sb (.v 2) (.i 3)]) (.i 3) (.i 4),.sb (.v 2) (.i 3),.i 0]])] [],.ret (.cl 15 [.v 0,.v 1])]⟩
noncomputable def vB:Fn:=⟨3,7,[],.own 0 false,
 [.it (.or (.k .eq (.sb (.sb (.attr .rows (.v 0)) (.v 1)) (.i 0)) (.i 7)) (.k .eq (.sb (.sb (.attr .rows (.v 0)) (.v 2)) (.i 0)) (.i 7))) [.ret (.c (.bool false))] [],.ret (.k .eq (.cl 28 [.v 0,.cl 20 [.v 0,.v 1],.cl 20 [.v 0,.v 2]]) (.i 0))]⟩
noncomputable def vv:Fn:=⟨3,12,[],.own 0 false,
 [.a 3 (.it (.bin .band (.sb (.v 1) (.i 2)) (.i 1)) (.bad) (.sb (.v 1) (.i 1))),.a 4 (.it (.bin .band (.sb (.v 2) (.i 2)) (.i 1)) (.bad) (.sb (.v 2) (.i 1))),.it (.and (.not (.cl 19 [.v 0,.v 3])) (.not (.cl 19 [.v 0,.v 4]))) [.ret (.c (.bool false))] [],.for_ 5 (.cl 5 [.v 0,.v 3]) [.it (.not (.p .all [.comp [none,none,none,some 5,some 0] 1 (.cl 5 [.v 0,.v 4]) [] (.cl 21 [.v 4,.v 3,.v 1])])) [.ret (.c (.bool false))] []],.ret (.and (.k .ne (.v 3) (.i 2)) (.k .ne (.v 4) (.i 2)))]⟩
noncomputable def yq:Fn:=⟨2,14,[],.open_,
 [.a 2 (.dict [] []),.a 3 (.dict [] []),.a 4 (.list true [.v 1]),.while_ (.v 4) [.a 5 (.me .pop (.v 4) []),.a 6 (.sb (.attr .rows (.v 0)) (.v 5)),.pair 7 8 (.tp []) (.tp []),.it (.k .eq (.sb (.v 6) (.i 0)) (.i 8)) [.a 7 (.sb (.v 6) (.i 1))] [.it (.and (.k .eq (.sb (.v 6) (.i 0)) (.i 9)) (.k .notin (.sb (.v 6) (.i 1)) (.v 3))) [.setItem (.v 3) (.sb (.v 6) (.i 1)) (.i 1),.unpack [7,8] (.bad)] []],.for_ 9 (.v 7) [.it (.k .notin (.sb (.v 9) (.i 0)) (.v 2)) [.setItem (.v 2) (.sb (.v 9) (.i 0)) (.v 9)] []],.for_ 10 (.v 8) [.expr (.bad)]],.ret (.v 2)]⟩
noncomputable def mf:Fn:=⟨3,8,[],.own 0 false,
 [.a 3 (.cl 23 [.v 0,.v 1]),.a 4 (.cl 23 [.v 0,.v 2]),.ret (.p .any [.comp [none,none,none,some 3,some 4,some 0] 1 (.p .sorted [.v 3]) [] (.and (.k .in_ (.v 1) (.v 4)) (.cl 22 [.v 5,.sb (.v 3) (.v 1),.sb (.v 4) (.v 1)]))])]⟩
noncomputable def mx:Fn:=⟨4,9,[],.own 0 false,
 [.it (.and (.k .eq (.v 2) (.i 5)) (.k .eq (.v 3) (.i 6))) [.ret (.i 1)] [],.it (.and (.k .eq (.v 2) (.i 6)) (.k .eq (.v 3) (.i 5))) [.ret (.i 2)] [],.ret (.i 0)]⟩
noncomputable def vn:Fn:=⟨5,12,[],.own 0 false,
 [.it (.k .ne (.v 3) (.v 4)) [.ret (.i 0)] [],.it (.and (.cl 13 [.v 0,.v 1]) (.cl 13 [.v 0,.v 2])) [.ret (.i 0)] [],.it (.or (.k .eq (.v 1) (.i 6)) (.k .eq (.v 1) (.i 7))) [.ret (.i 2)] [],.it (.or (.k .eq (.v 2) (.i 6)) (.k .eq (.v 2) (.i 7))) [.ret (.i 1)] [],.ret (.i 3)]⟩
noncomputable def tG:Fn:=⟨5,12,[],.own 0 false,
 [.it (.k .eq (.v 1) (.i 11)) [.ret (.i 2)] [],.it (.k .eq (.v 2) (.i 11)) [.ret (.i 1)] [],.it (.k .ne (.v 3) (.v 4)) [.ret (.it (.or (.k .eq (.v 1) (.i 10)) (.k .eq (.v 2) (.i 10))) (.i 0) (.i 3))] [],.ret (.it (.cl 24 [.v 0,.v 1,.v 2]) (.i 0) (.i 3))]⟩
noncomputable def yX:Fn:=⟨3,16,[],.own 0 false,
 [.it (.or (.k .eq (.v 1) (.v 2)) (.k .eq (.cl 7 [.v 0,.v 2]) (.v 1))) [.ret (.i 1)] [],.it (.k .eq (.cl 7 [.v 0,.v 1]) (.v 2)) [.ret (.i 2)] [],.a 3 (.cl 17 [.v 0,.v 1]),.a 4 (.cl 17 [.v 0,.v 2]),.it (.or (.k .eq (.v 3) (.i 0)) (.k .eq (.v 4) (.i 0))) [.ret (.i 3)] [],.it (.or (.cl 18 [.v 3]) (.cl 18 [.v 4])) [.ret (.cl 25 [.v 1,.v 2,.v 3,.v 4])] [],.it (.or (.k .eq (.v 3) (.i 7)) (.k .eq (.v 4) (.i 7))) [.ret (.cl 27 [.v 0,.v 1,.v 2,.v 3,.v 4])] [],.ret (.cl 26 [.v 0,.v 1,.v 2,.v 3,.v 4])]⟩
noncomputable def Ep:Fn:=⟨3,11,[],.own 0 false,
 [.a 3 (.list true []),.a 4 (.c (.bool false)),.for_ 5 (.v 1) [.a 6 (.cl 28 [.v 0,.v 5,.v 2]),.it (.k .eq (.v 6) (.i 0)) [.ret (.c (.nul))] [],.it (.k .eq (.v 6) (.i 1)) [.a 4 (.c (.bool true))] [],.it (.k .ne (.v 6) (.i 2)) [.expr (.me .append (.v 3) [.v 5])] []],.it (.not (.v 4)) [.expr (.me .append (.v 3) [.v 2])] [],.ret (.v 3)]⟩
noncomputable def qp:Fn:=⟨2,11,[],.own 0 false,
 [.a 2 (.sb (.attr .rows (.v 0)) (.v 1)),.it (.k .eq (.sb (.v 2) (.i 0)) (.i 9)) [.a 3 (.bad),.it (.and (.k .isnot (.v 3) (.c (.nul))) (.and (.k .eq (.bad) (.i 3)) (.k .eq (.bad) (.i 11)))) [.ret (.tp [.i 11])] []] [],.it (.k .eq (.sb (.v 2) (.i 0)) (.i 7)) [.ret (.sb (.v 2) (.i 1))] [],.it (.k .eq (.sb (.v 2) (.i 0)) (.i 8)) [.ret (.tp [.cl 15 [.v 0,.v 1]])] [],.ret (.tp [.v 1])]⟩
noncomputable def wM:Fn:=⟨3,11,[],.own 1 false,
 [.a 4 (.comp [none,none] 1 (.cl 30 [.v 0,.v 1]) [] (.v 1)),.for_ 3 (.cl 30 [.v 0,.v 2]) [.a 4 (.cl 29 [.v 0,.v 4,.v 3]),.it (.k .is_ (.v 4) (.c (.nul))) [.ret (.i 2)] []],.it (.k .eq (.p .len [.v 4]) (.i 1)) [.ret (.sb (.v 4) (.i 0))] [],.ret (.me .put (.v 0) [.tp [.i 7,.p .tuple [.comp [none,none,none,some 0] 1 (.v 4) [] (.cl 15 [.v 3,.v 1])]]])]⟩
noncomputable def BA:Fn:=⟨3,19,[],.own 61 false,
 [.it (.or (.k .eq (.v 1) (.v 2)) (.k .eq (.v 2) (.i 1))) [.ret (.v 1)] [],.it (.k .eq (.v 1) (.i 1)) [.ret (.v 2)] [],.a 3 (.dict [] []),.pair 4 5 (.cl 5 [.v 0,.v 1]) (.cl 5 [.v 0,.v 2]),.a 6 (.and (.k .gt (.p .len [.v 4]) (.i 1)) (.k .gt (.p .len [.v 5]) (.i 1))),.for_ 7 (.v 4) [.for_ 8 (.v 5) [.a 9 (.cl 31 [.v 0,.v 7,.v 8]),.it (.k .ne (.v 9) (.i 2)) [.setItem (.v 3) (.v 9) (.i 1)] [],.it (.and (.v 6) (.k .gt (.p .len [.v 3]) (.i 200))) [.bad] []]],.ret (.cl 11 [.v 0,.p .sorted [.v 3]])]⟩
noncomputable def IC:Fn:=⟨2,12,[],.own 200 false,
 [.for_ 2 (.tp [.i 2,.i 0,.i 13]) [.it (.k .in_ (.v 2) (.v 1)) [.ret (.v 2)] []],.a 3 (.i 1),.for_ 4 (.p .range [.p .len [.v 1]]) [.it (.k .notin (.sb (.v 1) (.v 4)) (.slice (.v 1) (.c (.nul)) (.v 4))) [.a 3 (.cl 32 [.v 0,.v 3,.sb (.v 1) (.v 4)])] []],.ret (.v 3)]⟩
noncomputable def vx:Fn:=⟨3,9,[],.own 0 false,
 [.it (.k .ne (.sb (.v 1) (.i 0)) (.i 5)) [.ret (.c (.bool false))] [],.a 3 (.it (.p .isStr [.sb (.v 1) (.i 3)]) (.i 3) (.i 4)),.ret (.k .in_ (.me .get (.attr .index (.v 0)) [.tp [.v 3,.sb (.v 1) (.i 3),.i 0],.i (-1)]) (.v 2))]⟩
noncomputable def yU:Fn:=⟨3,16,[],.own 100 false,
 [.it (.or (.k .eq (.v 2) (.i 0)) (.or (.k .eq (.v 2) (.i 1)) (.k .eq (.v 2) (.i 13)))) [.ret (.c (.bool true))] [],.a 3 (.cl 5 [.v 0,.cl 16 [.v 0,.v 2]]),.for_ 4 (.cl 5 [.v 0,.cl 16 [.v 0,.v 1]]) [.a 5 (.sb (.attr .rows (.v 0)) (.v 4)),.a 6 (.or (.k .in_ (.v 4) (.v 3)) (.or (.k .in_ (.cl 6 [.v 5]) (.v 3)) (.cl 34 [.v 0,.v 5,.v 3]))),.it (.and (.not (.v 6)) (.not (.and (.k .eq (.v 4) (.i 4)) (.k .in_ (.i 3) (.v 3))))) [.ret (.c (.bool false))] []],.ret (.c (.bool true))]⟩
noncomputable def qZ:Fn:=⟨3,20,[.int 0],.own 0 false,
 [.for_ 3 (.cl 5 [.v 0,.v 1]) [.a 4 (.sb (.attr .rows (.v 0)) (.v 3)),.it (.or (.k .eq (.v 3) (.i 1)) (.or (.k .eq (.v 3) (.i 0)) (.cl 18 [.cl 17 [.v 0,.v 3]]))) [.ret (.c (.bool true))] [],.it (.k .eq (.sb (.v 4) (.i 0)) (.i 10)) [.a 5 (.sb (.bad) (.sb (.v 4) (.i 1))),.it (.or (.k .lt (.v 5) (.i 0)) (.or (.k .gt (.v 2) (.i 20)) (.cl 36 [.v 0,.v 5,.bin .add (.v 2) (.i 1)]))) [.ret (.c (.bool true))] []] [.it (.or (.k .eq (.sb (.v 4) (.i 0)) (.i 15)) (.or (.k .eq (.sb (.v 4) (.i 0)) (.i 16)) (.k .eq (.sb (.v 4) (.i 0)) (.i 19)))) [.ret (.c (.bool true))] [.it (.and (.k .eq (.sb (.v 4) (.i 0)) (.i 7)) (.bad)) [.ret (.c (.bool true))] [.it (.and (.k .eq (.sb (.v 4) (.i 0)) (.i 17)) (.bad)) [.ret (.c (.bool true))] []]]]],.ret (.c (.bool false))]⟩
noncomputable def vk:Fn:=⟨2,9,[],.own 200 false,
 [.it (.k .eq (.v 1) (.i 1)) [.ret (.i 11)] [],.it (.cl 18 [.cl 17 [.v 0,.v 1]]) [.ret (.i 2)] [],.it (.cl 36 [.v 0,.v 1]) [.ret (.cl 33 [.v 0,.tp [.v 1,.i 11]])] [],.ret (.v 1)]⟩
noncomputable def ru:Fn:=⟨2,4,[],.own 2100 false,
 [.ret (.cl 11 [.v 0,.comp [none,none,none,some 0] 1 (.cl 5 [.v 0,.v 1]) [] (.cl 37 [.v 3,.v 1])])]⟩
noncomputable def sv:Fn:=⟨1,2,[],.own 0 false,
 [.it (.k .eq (.sb (.v 0) (.i 0)) (.i 5)) [.ret (.and (.k .ne (.sb (.v 0) (.i 3)) (.i 0)) (.k .ne (.sb (.v 0) (.i 3)) (.c (.str []))))] [],.ret (.and (.k .ne (.sb (.v 0) (.i 1)) (.i 0)) (.k .ne (.sb (.v 0) (.i 1)) (.c (.str []))))]⟩
noncomputable def yK:Fn:=⟨2,6,[],.own 200 false,
 [.a 1 (.cl 37 [.v 0,.v 1]),.it (.cl 12 [.v 0,.v 1]) [.ret (.it (.cl 39 [.sb (.attr .rows (.v 0)) (.v 1)]) (.v 1) (.i 2))] [],.ret (.v 1)]⟩
noncomputable def vw:Fn:=⟨2,4,[],.own 2100 false,
 [.ret (.cl 11 [.v 0,.comp [none,none,none,some 0] 1 (.cl 5 [.v 0,.v 1]) [] (.cl 40 [.v 3,.v 1])])]⟩
noncomputable def vl:Fn:=⟨2,13,[],.own 0 false,
 [.a 2 (.list true []),.a 3 (.dict [] []),.a 4 (.list true [.v 1]),.while_ (.v 4) [.a 5 (.me .pop (.v 4) []),.it (.or (.k .in_ (.v 5) (.v 3)) (.or (.k .lt (.v 5) (.i 0)) (.k .eq (.cl 17 [.v 0,.v 5]) (.i 0)))) [.cont] [],.setItem (.v 3) (.v 5) (.i 1),.a 6 (.sb (.attr .rows (.v 0)) (.v 5)),.it (.k .eq (.sb (.v 6) (.i 0)) (.i 7)) [.expr (.me .extend (.v 4) [.sb (.v 6) (.i 1)])] [.it (.and (.k .eq (.sb (.v 6) (.i 0)) (.i 9)) (.k .is_ (.bad) (.c (.nul)))) [.ret (.c (.nul))] [.it (.k .eq (.sb (.v 6) (.i 0)) (.i 9)) [.expr (.me .append (.v 4) [.bad]),.expr (.me .extend (.v 4) [.bad])] [.it (.or (.k .ne (.sb (.v 6) (.i 0)) (.i 8)) (.or (.sb (.v 6) (.i 2)) (.or (.sb (.v 6) (.i 3)) (.or (.sb (.v 6) (.i 4)) (.k .eq (.sb (.v 6) (.i 6)) (.i 1)))))) [.ret (.c (.nul))] [.expr (.me .extend (.v 2) [.sb (.v 6) (.i 1)])]]]]],.ret (.v 2)]⟩
noncomputable def rB:Fn:=⟨2,8,[],.own 0 false,
 [.a 2 (.cl 42 [.v 0,.v 1]),.it (.k .is_ (.v 2) (.c (.nul))) [.ret (.c (.bool false))] [],.for_ 3 (.v 2) [.it (.and (.k .eq (.bin .band (.sb (.v 3) (.i 2)) (.i 1)) (.i 0)) (.k .notin (.sb (.v 3) (.i 0)) (.c (.tp [.str [99,104,97,114,65,116],.str [99,111,110,99,97,116],.str [105,110,99,108,117,100,101,115],.str [105,110,100,101,120,79,102],.str [108,101,110,103,116,104],.str [115,108,105,99,101],.str [116,111,76,111,119,101,114,67,97,115,101],.str [116,111,83,116,114,105,110,103],.str [116,111,85,112,112,101,114,67,97,115,101]])))) [.ret (.c (.bool false))] []],.ret (.or (.not (.v 2)) (.p .any [.comp [none,none,none] 1 (.v 2) [] (.k .in_ (.sb (.v 1) (.i 0)) (.c (.tp [.str [99,104,97,114,65,116],.str [99,111,110,99,97,116],.str [105,110,99,108,117,100,101,115],.str [105,110,100,101,120,79,102],.str [108,101,110,103,116,104],.str [115,108,105,99,101],.str [116,111,76,111,119,101,114,67,97,115,101],.str [116,111,83,116,114,105,110,103],.str [116,111,85,112,112,101,114,67,97,115,101]])))]))]⟩
noncomputable def AH:Fn:=⟨2,12,[],.own 1 false,
 [.a 2 (.sb (.attr .rows (.v 0)) (.v 1)),.it (.cl 12 [.v 0,.v 1]) [.ret (.it (.cl 39 [.v 2]) (.i 2) (.v 1))] [],.it (.k .eq (.v 1) (.i 6)) [.ret (.cl 1 [.v 0,.c (.str [])])] [],.it (.k .eq (.sb (.v 2) (.i 0)) (.i 18)) [.ret (.it (.k .eq (.me .join (.c (.str [])) [.sb (.v 2) (.i 1)]) (.c (.str []))) (.cl 1 [.v 0,.c (.str [])]) (.i 2))] [],.it (.k .eq (.cl 17 [.v 0,.v 1]) (.i 7)) [.ret (.it (.cl 43 [.v 0,.v 1]) (.v 1) (.i 2))] [],.ret (.v 1)]⟩
noncomputable def xj:Fn:=⟨2,4,[],.own 20 false,
 [.ret (.cl 11 [.v 0,.comp [none,none,none,some 0] 1 (.cl 5 [.v 0,.v 1]) [] (.cl 44 [.v 3,.v 1])])]⟩
noncomputable def vt:Fn:=⟨2,12,[],.own 0 false,
 [.a 2 (.sb (.attr .rows (.v 0)) (.v 1)),.it (.k .eq (.v 1) (.i 4)) [.ret (.tp [.i 5,.i 0])] [],.it (.k .eq (.v 1) (.i 5)) [.ret (.tp [.i 4,.i 0])] [],.it (.k .eq (.sb (.v 2) (.i 0)) (.i 5)) [.ret (.tp [.cl 17 [.v 0,.v 1],.sb (.v 2) (.i 3)])] [],.it (.k .in_ (.sb (.v 2) (.i 0)) (.tp [.i 2,.i 3,.i 4])) [.ret (.tp [.cl 17 [.v 0,.v 1],.sb (.v 2) (.i 1)])] [],.ret (.tp [])]⟩
noncomputable def vq:Fn:=⟨4,14,[],.own 0 false,
 [.a 4 (.cl 17 [.v 0,.v 1]),.a 5 (.cl 17 [.v 0,.v 2]),.it (.or (.k .eq (.v 4) (.i 0)) (.k .eq (.v 5) (.i 0))) [.ret (.c (.bool true))] [],.it (.k .eq (.v 4) (.v 5)) [.a 6 (.cl 46 [.v 0,.v 1]),.a 7 (.cl 46 [.v 0,.v 2]),.ret (.or (.k .eq (.v 6) (.tp [])) (.or (.k .eq (.v 7) (.tp [])) (.k .eq (.v 6) (.v 7))))] [],.it (.and (.k .in_ (.v 4) (.c (.tp [.int 4,.int 5,.int 6]))) (.k .in_ (.v 5) (.c (.tp [.int 4,.int 5,.int 6])))) [.ret (.or (.not (.v 3)) (.k .notin (.i 4) (.tp [.v 4,.v 5])))] [],.ret (.and (.not (.v 3)) (.and (.k .in_ (.v 4) (.c (.tp [.int 1,.int 2,.int 3]))) (.k .in_ (.v 5) (.c (.tp [.int 1,.int 2,.int 3])))))]⟩
noncomputable def ql:Fn:=⟨2,6,[],.own 0 false,
 [.a 2 (.cl 5 [.v 0,.v 1]),.ret (.and (.k .gt (.p .len [.v 2]) (.i 0)) (.p .all [.comp [none,none,none,none,some 0] 1 (.v 2) [] (.k .in_ (.cl 17 [.v 4,.v 1]) (.c (.tp [.int 4,.int 5,.int 6])))]))]⟩
noncomputable def uG:Fn:=⟨3,13,[],.own 210 false,
 [.a 3 (.cl 17 [.v 0,.v 1]),.it (.or (.k .in_ (.v 1) (.tp [.i 6,.i 7])) (.k .eq (.cl 0 [.v 0,.v 1]) (.i 18))) [.it (.p .all [.comp [none,none,none,none,some 3,some 0] 1 (.v 2) [] (.and (.k .eq (.cl 17 [.v 5,.v 1]) (.v 4)) (.k .ne (.cl 46 [.v 5,.v 1]) (.tp [])))]) [.ret (.cl 11 [.v 0,.v 2])] []] [],.it (.and (.k .eq (.v 3) (.i 0)) (.p .all [.comp [none,none,none,none,some 0] 1 (.v 2) [] (.k .in_ (.cl 17 [.v 4,.v 1]) (.c (.tp [.int 4,.int 5,.int 6])))])) [.ret (.cl 33 [.v 0,.tp [.v 1,.cl 11 [.v 0,.v 2]]])] [],.ret (.v 1)]⟩
noncomputable def mI:Fn:=⟨3,6,[],.own 5000 false,
 [.it (.not (.v 2)) [.ret (.cl 45 [.v 0,.v 1])] [],.ret (.cl 38 [.v 0,.cl 41 [.v 0,.v 1]])]⟩
noncomputable def uk:Fn:=⟨4,18,[],.own 3000 false,
 [.it (.not (.v 3)) [.a 2 (.cl 11 [.v 0,.tp [.i 4,.i 5]])] [],.it (.k .eq (.v 1) (.i 1)) [.ret (.v 2)] [],.a 4 (.list true []),.for_ 5 (.cl 5 [.v 0,.v 1]) [.it (.k .in_ (.cl 17 [.v 0,.v 5]) (.c (.tp [.int 4,.int 5,.int 6]))) [.it (.p .any [.comp [none,none,none,some 5,some 3,some 0] 1 (.cl 5 [.v 0,.v 2]) [] (.cl 47 [.v 5,.v 3,.v 1,.v 4])]) [.expr (.me .append (.v 4) [.v 5])] []] [.it (.k .in_ (.v 5) (.tp [.i 0,.i 13])) [.expr (.me .append (.v 4) [.v 5])] [.it (.cl 36 [.v 0,.v 5]) [.expr (.me .append (.v 4) [.cl 33 [.v 0,.tp [.v 5,.v 2]]])] []]]],.ret (.cl 11 [.v 0,.v 4])]⟩
noncomputable def s9:Fn:=⟨3,17,[],.own 1 false,
 [.it (.and (.not (.v 2)) (.cl 48 [.v 0,.v 1])) [.ret (.cl 11 [.v 0,.tp [.i 4,.i 5]])] [],.a 3 (.comp [none,none,none,some 0] 1 (.cl 5 [.v 0,.v 1]) [] (.cl 17 [.v 3,.v 1])),.it (.or (.not (.v 2)) (.or (.k .in_ (.i 0) (.v 3)) (.k .in_ (.i 6) (.v 3)))) [.ret (.i 1)] [],.it (.k .in_ (.i 7) (.v 3)) [.a 4 (.p .all [.comp [none,none,none] 1 (.v 3) [] (.k .eq (.v 1) (.i 7))]),.it (.and (.v 4) (.not (.p .any [.comp [none,none,none,some 0] 1 (.cl 5 [.v 0,.v 1]) [] (.cl 43 [.v 3,.v 1])]))) [.ret (.i 10)] [],.ret (.i 1)] [],.ret (.v 1)]⟩
noncomputable def qo:Fn:=⟨4,14,[],.own 5000 false,
 [.it (.k .eq (.v 1) (.i 1)) [.ret (.cl 52 [.v 0,.v 2,.v 3])] [],.it (.cl 48 [.v 0,.v 2]) [.ret (.cl 51 [.v 0,.v 1,.v 2,.v 3])] [],.a 4 (.list true []),.for_ 5 (.cl 5 [.v 0,.v 1]) [.a 6 (.comp [none,none,none,some 5,some 3,some 0] 1 (.cl 5 [.v 0,.v 2]) [.cl 47 [.v 5,.v 3,.v 1,.v 4]] (.v 1)),.it (.v 6) [.expr (.me .append (.v 4) [.cl 49 [.v 0,.v 5,.v 6]])] []],.ret (.cl 11 [.v 0,.v 4])]⟩
noncomputable def qQ:Fn:=⟨3,19,[],.own 1 false,
 [.a 3 (.cl 46 [.v 0,.v 2]),.it (.k .eq (.v 3) (.tp [])) [.ret (.v 1)] [],.it (.and (.k .eq (.v 1) (.i 1)) (.k .in_ (.sb (.v 3) (.i 0)) (.c (.tp [.int 4,.int 5,.int 6])))) [.ret (.cl 11 [.v 0,.tp [.i 11,.it (.k .eq (.v 2) (.i 4)) (.i 5) (.i 4)]])] [],.a 4 (.list true []),.for_ 5 (.cl 5 [.v 0,.v 1]) [.a 6 (.and (.k .in_ (.sb (.v 3) (.i 0)) (.tp [.i 4,.i 5])) (.k .eq (.cl 17 [.v 0,.v 5]) (.sb (.v 3) (.i 0)))),.it (.and (.k .ne (.cl 46 [.v 0,.v 5]) (.v 3)) (.and (.not (.v 6)) (.not (.and (.k .eq (.v 5) (.i 3)) (.k .eq (.v 2) (.i 4)))))) [.expr (.me .append (.v 4) [.v 5])] []],.ret (.cl 11 [.v 0,.v 4])]⟩
noncomputable def nB:Fn:=⟨5,12,[],.own 10000 false,
 [.it (.or (.k .in_ (.v 1) (.tp [.i 0,.i 13])) (.k .in_ (.v 2) (.tp [.i 0,.i 13,.i 1]))) [.ret (.v 1)] [],.it (.v 3) [.ret (.cl 53 [.v 0,.v 1,.v 2,.v 4])] [],.it (.and (.not (.v 4)) (.cl 48 [.v 0,.v 2])) [.ret (.cl 38 [.v 0,.v 1])] [],.ret (.cl 54 [.v 0,.v 1,.v 2])]⟩
noncomputable def lW:Fn:=⟨2,4,[],.own 0 false,
 [.ret (.k .in_ (.cl 17 [.v 0,.v 1]) (.c (.tp [.int 1,.int 2,.int 3,.int 4,.int 5,.int 6])))]⟩
noncomputable def su:Fn:=⟨2,4,[],.own 0 false,
 [.ret (.p .all [.comp [none,none,none,some 0] 1 (.cl 5 [.v 0,.v 1]) [] (.cl 56 [.v 3,.v 1])])]⟩
noncomputable def AI:Fn:=⟨2,6,[],.own 0 false,
 [.a 2 (.sb (.attr .rows (.v 0)) (.v 1)),.it (.k .eq (.sb (.v 2) (.i 0)) (.i 7)) [.ret (.p .all [.comp [none,none,none,none,none,some 0] 1 (.sb (.v 2) (.i 1)) [] (.or (.k .eq (.cl 17 [.v 5,.v 1]) (.i 0)) (.cl 43 [.v 5,.v 1]))])] [],.ret (.cl 43 [.v 0,.v 1])]⟩
noncomputable def yn:Fn:=⟨4,17,[],.own 900 false,
 [.a 4 (.attr .tab (.v 0)),.a 5 (.cl 17 [.v 4,.v 1]),.a 6 (.cl 17 [.v 4,.v 2]),.it (.and (.k .eq (.v 5) (.i 7)) (.k .eq (.v 6) (.i 7))) [.ret (.or (.k .ne (.cl 33 [.v 4,.tp [.v 1,.v 2]]) (.i 2)) (.or (.hostm 86 (.v 0) [.v 1,.v 2]) (.hostm 86 (.v 0) [.v 2,.v 1])))] [],.it (.and (.k .eq (.v 5) (.i 7)) (.k .ne (.v 6) (.i 0))) [.ret (.and (.cl 58 [.v 4,.v 1]) (.k .in_ (.v 6) (.tp [.i 1,.i 2,.i 3])))] [],.it (.and (.k .eq (.v 6) (.i 7)) (.k .ne (.v 5) (.i 0))) [.ret (.and (.cl 58 [.v 4,.v 2]) (.k .in_ (.v 5) (.tp [.i 1,.i 2,.i 3])))] [],.ret (.cl 47 [.v 4,.v 1,.v 2,.v 3])]⟩
noncomputable def kJ:Fn:=⟨3,4,[],.own 6000 false,
 [.ret (.cl 50 [.attr .tab (.v 0),.hostm 85 (.v 0) [.v 1],.v 2])]⟩
noncomputable def ya:Fn:=⟨4,13,[],.own 9000 false,
 [.a 4 (.attr .tab (.v 0)),.a 5 (.comp [none,none,none,some 0,some 1,some 3] 1 (.cl 5 [.v 4,.v 2]) [.cl 59 [.v 3,.v 4,.v 1,.v 5]] (.v 1)),.it (.not (.v 5)) [.ret (.i 2)] [],.it (.and (.k .eq (.cl 17 [.v 4,.v 1]) (.i 7)) (.p .all [.comp [none,none,none,some 4] 1 (.v 5) [] (.cl 56 [.v 3,.v 1])])) [.ret (.it (.v 3) (.cl 11 [.v 4,.comp [none,none,none,some 1,some 4] 1 (.v 5) [] (.cl 33 [.v 4,.tp [.v 3,.v 1]])]) (.v 1))] [],.ret (.cl 49 [.v 4,.v 1,.v 5])]⟩
noncomputable def qN:Fn:=⟨3,15,[],.own 20000 false,
 [.a 3 (.attr .tab (.v 0)),.a 4 (.cl 55 [.v 3,.v 1,.v 2,.c (.bool false),.c (.bool true)]),.a 5 (.list true []),.for_ 6 (.cl 5 [.v 3,.v 4]) [.it (.and (.k .in_ (.cl 0 [.v 3,.v 6]) (.c (.tp [.int 10,.int 15,.int 16]))) (.cl 36 [.v 3,.v 6])) [.a 6 (.cl 33 [.v 3,.tp [.v 6,.bad]])] [],.expr (.me .append (.v 5) [.v 6])],.ret (.cl 11 [.v 3,.v 5])]⟩
noncomputable def iq:Fn:=⟨5,18,[],.own 50000 false,
 [.a 5 (.attr .tab (.v 0)),.a 1 (.hostm 85 (.v 0) [.v 1]),.a 2 (.hostm 85 (.v 0) [.v 2]),.a 6 (.and (.cl 57 [.v 5,.v 1]) (.cl 57 [.v 5,.v 2])),.it (.and (.not (.v 3)) (.and (.v 4) (.k .in_ (.v 2) (.tp [.i 4,.i 5])))) [.ret (.cl 62 [.v 0,.v 1,.v 2])] [],.it (.or (.v 6) (.or (.not (.v 3)) (.or (.k .eq (.v 1) (.i 1)) (.cl 48 [.v 5,.v 2])))) [.ret (.cl 55 [.v 5,.v 1,.v 2,.v 3,.v 4])] [],.it (.or (.k .in_ (.v 1) (.tp [.i 0,.i 13])) (.k .in_ (.v 2) (.tp [.i 0,.i 13,.i 1]))) [.ret (.v 1)] [],.ret (.cl 11 [.v 5,.comp [none,none,none,some 0,some 2,some 4] 1 (.cl 5 [.v 5,.v 1]) [] (.cl 61 [.v 3,.v 1,.v 4,.v 5])])]⟩
noncomputable def yO:Fn:=⟨2,5,[],.open_,
 [.a 2 (.sb (.v 0) (.i 0)),.setItem (.v 0) (.i 0) (.bin .add (.v 2) (.i 1)),.a 3 (.p .len [.sb (.v 0) (.i 1)]),.ret (.bin .mod (.bin .add (.sb (.sb (.v 0) (.i 1)) (.bin .mod (.v 2) (.v 3))) (.bin .mul (.bin .fdiv (.v 2) (.v 3)) (.bin .add (.v 2) (.i 5)))) (.v 1))]⟩
noncomputable def o5:Fn:=⟨1,1,[],.own 0 false,
 [.ret (.it (.k .eq (.sb (.v 0) (.i 0)) (.c (.str [126]))) (.slice (.v 0) (.i 1) (.c (.nul))) (.v 0))]⟩
noncomputable def vu:Fn:=⟨1,5,[],.own 0 false,
 [.a 1 (.bin .add (.list false [.c (.str [101]),.c (.str [97]),.c (.str [98]),.c pR,.c (.str [115]),.c (.str [48]),.c oG,.c om,.c (.str [110]),.c n9,.c qA]) (.comp [none,none] 1 (.c (.tp [.str [120],.str [118],.str [121],.str [120,122],.str [118,122],.str [121,122],.str [122]])) [] (.v 1))),.a 2 (.dict [[115,116,114,105,110,103],[110,117,109,98,101,114],[118,111,105,100],[88],[89],[86],[87],[90],[111,98,106,101,99,116],[123,125],[117,110,107,110,111,119,110]] [.slice (.v 1) (.c (.nul)) (.i 5),.slice (.v 1) (.i 5) (.i 9),.list false [.c oJ],.list false [.c (.str [120]),.c (.str [118]),.c (.str [120,122]),.c (.str [118,122])],.list false [.c (.str [121]),.c (.str [121,122])],.list false [.c (.str [118]),.c (.str [118,122])],.list false [.c (.str [120]),.c (.str [118]),.c (.str [121]),.c (.str [120,122]),.c (.str [118,122]),.c (.str [121,122])],.list false [.c (.str [120,122]),.c (.str [118,122]),.c (.str [121,122]),.c (.str [122])],.slice (.v 1) (.i 11) (.c (.nul)),.v 1,.bin .add (.v 1) (.list false [.c oJ,.c qF])]),.a 3 (.comp [none,none,none,some 2] 1 (.me .split (.v 0) [.c (.str [38])]) [] (.me .get (.v 3) [.cl 65 [.v 1],.list false [.cl 65 [.v 1]]])),.ret (.comp [none,none,none,some 3] 1 (.sb (.v 3) (.i 0)) [.k .eq (.p .len [.comp [none,none,some 1] 1 (.v 3) [.k .notin (.v 2) (.v 1)] (.v 1)]) (.i 0)] (.v 1))]⟩
noncomputable def yB:Fn:=⟨1,5,[],.own 0 false,
 [.a 1 (.list true []),.for_ 2 (.v 0) [.expr (.me .extend (.v 1) [.comp [none,none,some 1] 1 (.cl 66 [.v 2]) [.k .notin (.v 1) (.v 2)] (.v 1)])],.ret (.p .sorted [.v 1])]⟩
noncomputable def yR:Fn:=⟨2,2,[],.own 0 false,
 [.ret (.comp [none,none,some 1] 1 (.v 0) [.k .in_ (.v 1) (.v 2)] (.v 1))]⟩
noncomputable def yG:Fn:=⟨1,10,[],.own 0 false,
 [.it (.k .in_ (.c qz) (.v 0)) [.ret (.list false [.c qz])] [],.a 2 (.comp [none,none,none] 1 (.v 0) [] (.cl 65 [.v 1])),.a 3 (.bin .add (.v 0) (.it (.and (.k .in_ (.c n9) (.v 2)) (.k .in_ (.c qA) (.v 2))) (.list false [.c n9,.c qA]) (.list false []))),.a 4 (.list true []),.for_ 1 (.p .sorted [.v 3]) [.a 5 (.it (.k .in_ (.cl 65 [.v 1]) (.tp [.c (.str [101]),.c (.str [97]),.c (.str [98]),.c pR])) (.c jm) (.c kF)),.a 6 (.or (.k .eq (.v 5) (.c jm)) (.k .in_ (.cl 65 [.v 1]) (.tp [.c (.str [48]),.c oG,.c om]))),.a 7 (.and (.k .eq (.sb (.v 1) (.i 0)) (.c (.str [126]))) (.k .in_ (.slice (.v 1) (.i 1) (.c (.nul))) (.v 3))),.it (.and (.not (.v 7)) (.and (.not (.and (.v 6) (.k .in_ (.v 5) (.v 0)))) (.k .notin (.v 1) (.v 4)))) [.expr (.me .append (.v 4) [.v 1])] []],.ret (.v 4)]⟩
noncomputable def wR:Fn:=⟨3,10,[],.own 0 false,
 [.a 4 (.thaw (.comp [none,none] 1 (.v 2) [.k .in_ (.v 1) (.tp [.c jm,.c kF])] (.v 1))),.for_ 3 (.bin .add (.v 0) (.v 1)) [.a 5 (.cl 65 [.v 3]),.it (.and (.k .in_ (.v 5) (.c iD)) (.and (.k .in_ (.v 5) (.cl 67 [.v 0])) (.k .in_ (.v 5) (.cl 67 [.v 1])))) [.expr (.me .append (.v 4) [.it (.k .in_ (.v 5) (.bin .add (.v 0) (.v 1))) (.v 5) (.bin .add (.c (.str [126])) (.v 5))])] []],.ret (.comp [none,none] 1 (.cl 69 [.v 4]) [.k .notin (.v 1) (.tp [.c jm,.c kF])] (.v 1))]⟩
noncomputable def oH:Fn:=⟨1,2,[],.own 0 false,
 [.ret (.comp [none,none] 1 (.cl 66 [.v 0]) [] (.me .get (.dict [[69,46,65],[70,46,65],[69,46,66]] [.c (.str [48]),.c (.str [48]),.c (.str [97])]) [.v 1,.v 1]))]⟩
noncomputable def xX:Fn:=⟨2,10,[],.own 0 false,
 [.it (.k .eq (.v 0) (.list false [.c qz])) [.a 2 (.comp [none,none,none] 1 (.v 1) [.k .in_ (.cl 65 [.v 1]) (.tp [.c (.str [88]),.c (.str [89]),.c (.str [90]),.c (.str [86]),.c (.str [87]),.c rj])] (.v 1)),.it (.or (.k .in_ (.c (.str [118,111,105,100])) (.v 1)) (.or (.k .in_ (.c (.str [123,125])) (.v 1)) (.lt3 (.i 0) (.p .len [.v 2]) (.p .len [.v 1])))) [.ret (.v 0)] [],.ret (.it (.k .gt (.p .len [.v 2]) (.i 0)) (.list false [.c rj]) (.v 1))] [],.a 3 (.list true []),.for_ 4 (.v 0) [.a 5 (.comp [none,none,none,none,none,some 4] 1 (.v 1) [.k .gt (.p .len [.cl 68 [.cl 71 [.v 5],.cl 71 [.v 1]]]) (.i 0)] (.v 1)),.a 6 (.comp [none,none,none,none] 1 (.v 5) [.k .in_ (.cl 65 [.v 1]) (.c iD)] (.v 1)),.a 7 (.comp [none,none,none,none] 1 (.v 5) [.or (.k .in_ (.cl 65 [.v 1]) (.c iD)) (.k .in_ (.v 1) (.tp [.c jm,.c kF]))] (.v 1)),.it (.or (.and (.k .in_ (.v 4) (.tp [.c jm,.c kF])) (.k .eq (.p .len [.v 6]) (.p .len [.v 5]))) (.and (.k .eq (.v 4) (.c (.str [123,125]))) (.k .eq (.p .len [.v 7]) (.p .len [.v 5])))) [.expr (.me .extend (.v 3) [.v 5])] [.it (.k .gt (.p .len [.v 5]) (.i 0)) [.expr (.me .append (.v 3) [.v 4])] []]],.ret (.cl 69 [.v 3])]⟩
noncomputable def oh:Fn:=⟨2,5,[],.own 0 false,
 [.it (.or (.k .ne (.p .len [.v 1]) (.i 1)) (.k .notin (.cl 65 [.sb (.v 1) (.i 0)]) (.c iD))) [.ret (.v 0)] [],.it (.k .eq (.v 0) (.list false [.c qz])) [.ret (.me .get (.dict [[117,110,100,101,102,105,110,101,100],[110,117,108,108]] [.list false [.c qF,.c (.str [123,125])],.list false [.c oJ,.c (.str [123,125])]]) [.sb (.v 1) (.i 0),.v 0])] [],.ret (.comp [none,none,none,some 1] 1 (.v 0) [.k .ne (.cl 71 [.v 1]) (.cl 71 [.sb (.v 3) (.i 0)])] (.v 1))]⟩
noncomputable def yW:Fn:=⟨1,1,[],.own 0 false,
 [.it (.k .eq (.v 0) (.list false [.c qz])) [.ret (.list false [.c (.str [123,125])])] [],.ret (.comp [none,none,none] 1 (.v 0) [.k .notin (.cl 65 [.v 1]) (.tp [.c (.str [101]),.c (.str [48]),.c oG,.c om,.c n9,.c oJ,.c qF,.c (.str [118,111,105,100])])] (.v 1))]⟩
noncomputable def yb:Fn:=⟨1,5,[],.own 0 false,
 [.a 1 (.list true []),.for_ 2 (.v 0) [.it (.k .eq (.v 2) (.c jm)) [.expr (.me .append (.v 1) [.c (.str [101])])] [.it (.k .in_ (.cl 65 [.v 2]) (.tp [.c (.str [101]),.c (.str [48]),.c oG,.c om,.c n9,.c oJ,.c qF,.c (.str [118,111,105,100]),.c kF,.c (.str [123,125]),.c qz])) [.expr (.me .append (.v 1) [.v 2])] []]],.ret (.cl 69 [.v 1])]⟩
noncomputable def AR:Fn:=⟨3,5,[],.open_,
 [.ret (.cl 4 [.sb (.v 0) (.c (.str [116,97,98])),.list false [.tp [.v 2,.cl 11 [.sb (.v 0) (.c (.str [116,97,98])),.comp [none,none,none,some 0] 1 (.v 1) [] (.cl 78 [.v 3,.v 1])],.i 0,.i 0]]])]⟩
noncomputable def qG:Fn:=⟨2,15,[],.open_,
 [.a 2 (.sb (.v 0) (.c (.str [116,97,98]))),.a 3 (.cl 65 [.v 1]),.a 4 (.it (.k .eq (.sb (.v 1) (.i 0)) (.c (.str [126]))) (.i 1) (.i 0)),.it (.k .in_ (.v 3) (.tp [.c (.str [101]),.c (.str [97]),.c (.str [98])])) [.ret (.me .put (.v 2) [.tp [.i 3,.it (.k .eq (.v 3) (.c (.str [101]))) (.c (.str [])) (.v 3),.v 4]])] [],.it (.k .eq (.v 3) (.c (.str [48]))) [.ret (.me .put (.v 2) [.tp [.i 4,.i 0,.v 4]])] [],.it (.k .in_ (.v 3) (.tp [.c oG,.c om])) [.ret (.me .put (.v 2) [.tp [.i 5,.sb (.sb (.v 0) (.c (.str [100,105,100,115]))) (.sb (.v 3) (.i 0)),.c (.str [65]),.i 0,.v 4]])] [],.it (.k .eq (.v 3) (.c pR)) [.ret (.me .put (.v 2) [.tp [.i 5,.sb (.sb (.v 0) (.c (.str [100,105,100,115]))) (.c (.str [69])),.c (.str [66]),.c (.str [97]),.v 4]])] [],.it (.k .in_ (.v 3) (.tp [.c n9,.c qA])) [.ret (.me .put (.v 2) [.tp [.i 2,.it (.k .eq (.v 3) (.c qA)) (.i 1) (.i 0),.v 4]])] [],.it (.k .eq (.v 1) (.c (.str [126,88]))) [.ret (.cl 4 [.v 2,.list false [.tp [.c (.str [107]),.cl 78 [.v 0,.c (.str [97])],.i 0,.i 0]],.tp [],.tp [],.tp [],.tp [],.i 1])] [],.it (.k .eq (.v 1) (.c (.str [90]))) [.ret (.cl 4 [.v 2,.list false [.tp [.c (.str [112]),.cl 2 [.v 2,.i 7],.i 0,.i 0]]])] [],.it (.k .in_ (.v 1) (.tp [.c (.str [88]),.c (.str [89]),.c (.str [86]),.c (.str [87])])) [.ret (.cl 76 [.v 0,.sb (.dict [[88],[89],[86],[87]] [.list false [.c (.str [97])],.list false [.c (.str [98])],.list false [.c pR],.list false [.c (.str [97]),.c (.str [98])]]) (.v 1),.c (.str [107])])] [],.ret (.it (.k .eq (.v 1) (.c (.str [123,125]))) (.cl 4 [.v 2,.list false []]) (.me .put (.v 2) [.tp [.i 1,.v 1]]))]⟩
noncomputable def DY:Fn:=⟨2,4,[],.open_,
 [.it (.k .notin (.v 1) (.sb (.v 0) (.c (.str [109,97,100,101])))) [.a 2 (.cl 77 [.v 0,.v 1]),.setItem (.sb (.v 0) (.c (.str [109,97,100,101]))) (.v 1) (.v 2),.setItem (.sb (.v 0) (.c (.str [110,97,109,101,115]))) (.v 2) (.v 1)] [],.ret (.sb (.sb (.v 0) (.c (.str [109,97,100,101]))) (.v 1))]⟩
noncomputable def gL:Fn:=⟨3,11,[],.open_,
 [.a 3 (.dict [[116,97,98],[109,97,100,101],[110,97,109,101,115],[100,105,100,115],[107,105,110,100,115]] [.newTab,.dict [] [],.dict [] [],.it (.v 2) (.dict [[69],[70]] [.i 5,.i 2]) (.dict [[69],[70]] [.i 1,.i 4]),.list true []]),.for_ 4 (.v 1) [.it (.k .lt (.v 4) (.i 26)) [.expr (.cl 78 [.v 3,.sb (.c (.tp [.str [101],.str [97],.str [98],.str [48],oG,om,pR,.str [126,97],.str [126,48],.str [126,69,46,65],n9,qA,.str [126,116,114,117,101],oJ,qF,.str [118,111,105,100],jm,kF,.str [88],.str [89],.str [90],.str [86],.str [87],.str [126,88],.str [123,125],rj])) (.v 4)])] [.it (.k .eq (.v 4) (.i 26)) [.expr (.cl 11 [.sb (.v 3) (.c (.str [116,97,98])),.comp [none,none,none,some 3] 1 (.it (.v 2) (.rev (.sb (.v 0) (.i 1))) (.sb (.v 0) (.i 1))) [] (.cl 78 [.v 3,.v 1])])] [.expr (.cl 2 [.sb (.v 3) (.c (.str [116,97,98])),.v 4])]]],.expr (.cl 78 [.v 3,.c qz]),.for_ 5 (.v 0) [.expr (.me .append (.sb (.v 3) (.c (.str [107,105,110,100,115]))) [.cl 11 [.sb (.v 3) (.c (.str [116,97,98])),.comp [none,none,none,some 3] 1 (.v 5) [] (.cl 78 [.v 3,.v 1])]])],.ret (.v 3)]⟩
noncomputable def yF:Fn:=⟨2,7,[],.open_,
 [.a 2 (.sb (.attr .rows (.sb (.v 0) (.c (.str [116,97,98])))) (.v 1)),.it (.k .eq (.v 1) (.i 2)) [.ret (.list false [])] [],.ret (.it (.k .eq (.sb (.v 2) (.i 0)) (.i 6)) (.p .sorted [.comp [none,none,none,some 0] 1 (.sb (.v 2) (.i 1)) [] (.cl 81 [.v 3,.v 1])]) (.list false [.cl 81 [.v 0,.v 1]]))]⟩
noncomputable def yy:Fn:=⟨2,4,[],.open_,
 [.a 2 (.sb (.attr .rows (.sb (.v 0) (.c (.str [116,97,98])))) (.v 1)),.it (.k .eq (.sb (.v 2) (.i 0)) (.i 7)) [.ret (.me .join (.c (.str [38])) [.comp [none,none,some 0] 1 (.sb (.v 2) (.i 1)) [] (.me .get (.sb (.v 2) (.c (.str [110,97,109,101,115]))) [.v 1,.c (.str [63])])])] [],.ret (.me .get (.sb (.v 0) (.c (.str [110,97,109,101,115]))) [.v 1,.c (.str [63])])]⟩
noncomputable def wu:Fn:=⟨3,16,[],.late,
 [.a 3 (.sb (.v 0) (.c (.str [116,97,98]))),.unpack [4,5,6] (.sb (.v 0) (.c (.str [107,105,110,100,115]))),.a 7 (.cl 68 [.cl 67 [.sb (.v 1) (.i 0)],.cl 67 [.sb (.v 1) (.i 1)]]),.a 8 (.cl 68 [.v 7,.cl 67 [.sb (.v 1) (.i 2)]]),.a 9 (.cl 80 [.v 0,.cl 33 [.v 3,.tp [.v 4,.v 5]]]),.a 10 (.comp [none,none,none,none] 1 (.v 9) [.k .in_ (.cl 65 [.v 1]) (.c iD)] (.v 1)),.it (.or (.k .ne (.cl 67 [.v 9]) (.v 7)) (.k .ne (.v 10) (.cl 70 [.sb (.v 1) (.i 0),.sb (.v 1) (.i 1),.v 9]))) [.ret (.list false [])] [],.it (.v 2) [.it (.k .ne (.cl 67 [.cl 80 [.v 0,.cl 33 [.v 3,.tp [.v 5,.v 4]]]]) (.v 7)) [.ret (.list false [])] [],.ret (.it (.k .eq (.cl 67 [.cl 80 [.v 0,.cl 33 [.v 3,.tp [.v 4,.cl 33 [.v 3,.tp [.v 5,.v 6]]]]]]) (.v 8)) (.bin .add (.v 9) (.list false [.c (.str [46])])) (.list false []))] [],.ret (.it (.k .eq (.cl 67 [.cl 80 [.v 0,.cl 33 [.v 3,.tp [.v 4,.v 5,.v 6]]]]) (.v 8)) (.bin .add (.v 9) (.list false [.c (.str [46])])) (.list false []))]⟩
noncomputable def vX:Fn:=⟨3,15,[],.open_,
 [.a 3 (.newHost (.sb (.v 0) (.c (.str [116,97,98])))),.a 4 (.sb (.sb (.v 0) (.c (.str [107,105,110,100,115]))) (.i 0)),.a 5 (.sb (.sb (.v 0) (.c (.str [107,105,110,100,115]))) (.i 1)),.it (.k .gt (.v 2) (.i 1)) [.ret (.k .eq (.cl 80 [.v 0,.cl 60 [.v 3,.v 4,.k .eq (.v 2) (.i 2)]]) (.it (.k .eq (.v 2) (.i 2)) (.cl 74 [.sb (.v 1) (.i 0)]) (.cl 75 [.sb (.v 1) (.i 0)])))] [],.a 6 (.it (.k .eq (.v 2) (.i 0)) (.cl 72 [.sb (.v 1) (.i 0),.sb (.v 1) (.i 1)]) (.cl 73 [.sb (.v 1) (.i 0),.sb (.v 1) (.i 1)])),.ret (.k .eq (.cl 80 [.v 0,.cl 63 [.v 3,.v 4,.v 5,.k .eq (.v 2) (.i 0),.c (.bool true)]]) (.v 6))]⟩
noncomputable def G5:Fn:=⟨1,20,[],.open_,
 [.a 1 (.comp [none,none] 1 (.slice (.v 0) (.c (.nul)) (.i 40)) [] (.bin .mod (.v 1) (.i 999983))),.it (.k .eq (.p .len [.v 1]) (.i 0)) [.a 1 (.list false [.i 0,.i 0,.i 2,.i 18,.i 1,.i 1,.i 2,.i 0,.i 24,.i 0,.i 0,.i 0])] [],.a 2 (.list true [.i 0,.v 1]),.a 3 (.list true []),.for_ 4 (.tp [.tp [.i 2,.i 1,.i 3,.i 0],.tp [.i 1,.i 2,.i 3],.tp [.i 1,.i 2]]) [.it (.and (.k .eq (.p .len [.v 3]) (.i 0)) (.k .eq (.cl 64 [.v 2,.i 12]) (.i 11))) [.expr (.me .append (.v 3) [.list false [.c qz]])] [.a 5 (.sb (.v 4) (.cl 64 [.v 2,.p .len [.v 4]])),.expr (.me .append (.v 3) [.cl 69 [.comp [none,none,none,none,some 2] 1 (.p .range [.v 5]) [] (.sb (.c (.tp [.str [101],.str [97],.str [98],.str [48],oG,om,pR,.str [126,97],.str [126,48],.str [126,69,46,65],n9,qA,.str [126,116,114,117,101],oJ,qF,.str [118,111,105,100],jm,kF,.str [88],.str [89],.str [90],.str [86],.str [87],.str [126,88],.str [123,125],rj])) (.cl 64 [.v 4,.i 26]))]])]],.a 6 (.cl 64 [.v 2,.i 6]),.a 7 (.cl 64 [.v 2,.i 29]),.a 8 (.bin .add (.i 1) (.cl 64 [.v 2,.i 28])),.a 9 (.comp [none,none,some 7,some 8] 1 (.p .range [.i 29]) [] (.bin .mod (.bin .add (.v 2) (.bin .mul (.v 3) (.v 1))) (.i 29))),.a 10 (.list true []),.for_ 11 (.p .range [.i 2]) [.a 12 (.cl 79 [.v 3,.it (.k .eq (.v 11) (.i 0)) (.v 9) (.comp [none,none,some 9] 1 (.p .range [.i 29]) [] (.sb (.v 2) (.bin .sb (.i 28) (.v 1)))),.k .eq (.v 11) (.i 1)]),.expr (.me .append (.v 10) [.cl 82 [.v 12,.v 3,.k .eq (.v 11) (.i 1)]]),.it (.or (.k .eq (.sb (.v 10) (.v 11)) (.list false [])) (.not (.cl 83 [.v 12,.v 3,.sb (.tp [.i 0,.i 1,.i 2,.i 3,.i 0,.i 1]) (.v 6)]))) [.ret (.c (.bool false))] []],.ret (.k .eq (.sb (.v 10) (.i 0)) (.sb (.v 10) (.i 1)))]⟩
noncomputable def xZ:Fn:=⟨2,2,[],.own 0 false,
 [.ret (.v 1)]⟩
noncomputable def lY:Fn:=⟨3,4,[],.own 100 false,
 [.ret (.cl 35 [.attr .tab (.v 0),.v 1,.v 2])]⟩
noncomputable def prog:List Fn:=[CF,A2,BJ,tD,rD,Bl,lV,lJ,wG,tM,EO,HS,wj,Cj,Bd,vy,Cp,Gg,oI,yV,rO,vB,vv,yq,mf,mx,vn,tG,yX,Ep,qp,wM,BA,IC,vx,yU,qZ,vk,ru,sv,yK,vw,vl,rB,AH,xj,vt,vq,ql,uG,mI,uk,s9,qo,qQ,nB,lW,su,AI,yn,kJ,ya,qN,iq,yO,o5,vu,yB,yR,yG,wR,oH,xX,oh,yW,yb,AR,qG,DY,gL,yF,yy,wu,vX,G5,xZ,lY]
theorem oe{α:Type}(le:α→α→Bool)(x:α)(l:List α):(iu le x l).Perm (x::l):=by
 induction l with
 |nil=>exact .refl _
 |cons y ys ih=>
  unfold iu;cases le x y with
  |true=>exact .refl _
  |false=>exact(ih.cons y).trans (.swap x y ys)
theorem iE{α:Type}(le:α→α→Bool)(l:List α):(fY le l).Perm l:=by
 induction l with
 |nil=>exact .refl _
 |cons x xs ih=>exact(oe le x _).trans (ih.cons x)
theorem rT{α:Type}{le:α→α→Bool}(tot:∀a b,le a b=true∨le b a=true)(tr:∀a b c,le a b=true→le b c=true→le a c=true)(x:α)(l:List α):l.Pairwise (λa b=>le a b=true)→(iu le x l).Pairwise (λa b=>le a b=true):=by
 induction l with
 |nil=>exact λY=>Qu _ _
 |cons y ys ih=>
  intro h;have hy:=R7.mp h;unfold iu;cases q:le x y with
  |true=>exact R7.mpr ⟨λz hz=>(P4.mp hz).elim (λe=>e▸q) λhz=>tr _ _ _ q (hy.1 z hz),h⟩
  |false=>refine R7.mpr ⟨λz hz=>?_,ih hy.2⟩;exact(P4.mp ((oe le x ys).mem_iff.mp hz)).elim (λe=>e▸(tot _ _).resolve_left λh=>by rw[q]at h;exact ak h) λhz=>hy.1 z hz
theorem gi{α:Type}{le:α→α→Bool}(tot:∀a b,le a b=true∨le b a=true)(tr:∀a b c,le a b=true→le b c=true→le a c=true)(l:List α):(fY le l).Pairwise (λa b=>le a b=true):=by
 induction l with
 |nil=>exact .nil
 |cons x xs ih=>exact rT tot tr x _ ih
theorem b5{a b:Nat}{as bs:List Nat}:aZ (a::as) (b::bs)=true↔a<b∨a=b∧aZ as bs=true:=by
 show(match beq a b with|true=>aZ as bs|false=>ble a b)=true↔_;cases h:beq a b with
 |true=>have:=PJ h;subst this;exact⟨λh=>.inr ⟨rfl,h⟩,λh=>h.elim (λh=>absurd h (Nat.lt_irrefl _)) (·.2)⟩
 |false=>have:=Nat.ne_of_beq_eq_false h;exact⟨λh=>.inl (lt_of_le_of_ne (P6 h) this),λh=>h.elim (λh=>RS (Rm h)) λh=>absurd h.1 this⟩
theorem i9:∀a b:List Nat,aZ a b=true∨aZ b a=true
 |[],_=>.inl rfl
 |_::_,[]=>.inr rfl
 |a::as,b::bs=>(Nat.lt_trichotomy a b).elim (λh=>.inl (b5.mpr (.inl h))) λh=>h.elim (λh=>(i9 as bs).imp (λq=>b5.mpr (.inr ⟨h,q⟩)) λq=>b5.mpr (.inr ⟨h.symm,q⟩)) λh=>.inr (b5.mpr (.inl h))
theorem fg:∀a b c:List Nat,aZ a b=true→aZ b c=true→aZ a c=true
 |[],_,_,_,_=>rfl
 |_::_,[],_,h,_=>ak h
 |_::_,_::_,[],_,h=>ak h
 |_::as,_::bs,_::cs,h1,h2=>b5.mpr ((b5.mp h1).elim (λh=>.inl ((b5.mp h2).elim (Q8 h) λk=>k.1▸h)) λh=>h.1▸(b5.mp h2).imp_right λk=>⟨k.1,fg as bs cs h.2 k.2⟩)
theorem dW:∀a b:List Nat,aZ a b=true→aZ b a=true→a=b
 |[],[],_,_=>rfl
 |[],_::_,_,h=>ak h
 |_::_,[],h,_=>ak h
 |a::as,b::bs,h1,h2=>by
  rcases b5.mp h1 with h|⟨rfl,h⟩
  ·rcases b5.mp h2 with k|k
   ·exact absurd k (Nat.lt_asymm h)
   ·exact absurd k.1.symm (Q9 h)
  ·rcases b5.mp h2 with k|k
   ·exact absurd k (Nat.lt_irrefl _)
   ·rw[dW as bs h k.2]
theorem iT{α β:Type}{f:α→β}{l:List α}{m:List β}(h:m.Perm (l.map f)):∃l':List α,l'.map f=m∧l'.Perm l:=by
 have gen:∀{a b:List β},a.Perm b→∀l:List α,l.map f=b→∃l':List α,l'.map f=a∧l'.Perm l:=by
  intro a b p;induction p with
  |nil=>exact λl h=>⟨l,h,.refl _⟩
  |cons c _ ih=>
   intro l h;cases l with
   |nil=>cases h
   |cons y l=>injection h with h1 h2;refine X2 (ih l h2) λl' e p=>?_;exact aB (y::l') (by rw[Q4,e,h1]) (p.cons y)
  |swap c d m=>
   intro l h;match l,h with
   |y::z::l,h=>injection h with h1 h2;injection h2 with h2 h3;exact aB (z::y::l) (by rw[Q4,Q4,h1,h2,h3]) (.swap _ _ _)
  |trans _ _ ih ih'=>intro l h;refine X2 (ih' l h) λl2 e2 p2=>?_;refine X2 (ih l2 e2) λl1 e1 p1=>?_;exact aB l1 e1 (p1.trans p2)
 exact gen h l rfl
end Kk
namespace Kk
open PySem
noncomputable def cx:Cx where
 fns:=[Str.ofString "kind_of","str_type","num_type","sorted_props","obj_type",Str.ofString "parts_of","whole_of_row","regular_twin","join_bools","stays_beside",Str.ofString "top_of","union","is_literal","is_unit","is_fresh",Str.ofString "regular_one","regular","family","is_nullish_family","all_units","value_literal",Str.ofString "kinds_apart","units_clash","flat_props","shapes_clash","meet_nullish",Str.ofString "meet_values","meet_objects","meet_case","lay_on","members_of_meet","meet_parts",Str.ofString "meet_two","inter","value_holds","units_fit","may_be_nullish",Str.ofString "not_nullish","remove_nullish","literal_truth","truthy_of","truthy_part","loose_props",Str.ofString "lets_primitive","falsy_of","falsy_part","plain_value","plain_meets",Str.ofString "is_nullish_kind","sharpen","narrow_plain_truthy","nullish_side","unknown_equal","plain_equal_yes",Str.ofString "plain_equal_no","narrow_plain_equal","narrow_is_primitive","all_primitive","is_loose",Str.ofString "part_meets","narrow_truthy","equal_part","unlike_nullish","narrow_equal","_law_take",Str.ofString "_law_plain","_law_points","_law_held","_law_both","_law_less",Str.ofString "_law_units","_law_values","_law_equal","_law_unlike","_law_true","_law_false",Str.ofString "_law_tag","_law_made","_law_at","_law_table","_law_said",Str.ofString "_law_name","_law_meets","_law_tests","law","Thin.force","RefHost.fits"]
 consts:=[("Y_KEY",.int 1),
  (Str.ofString "Y_BOOL",.int 2),
  (Str.ofString "Y_STR",.int 3),
  (Str.ofString "Y_NUM",.int 4),
  (Str.ofString "Y_ENUM",.int 5),
  (Str.ofString "Y_UNION",.int 6),
  (Str.ofString "Y_INTER",.int 7),
  (Str.ofString "Y_OBJ",.int 8),
  (Str.ofString "Y_REF",.int 9),
  (Str.ofString "Y_PARAM",.int 10),
  (Str.ofString "Y_INDEX",.int 15),
  (Str.ofString "Y_COND",.int 16),
  (Str.ofString "Y_MAPPED",.int 17),
  (Str.ofString "Y_TPL",.int 18),
  (Str.ofString "Y_ALIAS",.int 19),
  (Str.ofString "ANY",.int 0),
  (Str.ofString "UNKNOWN",.int 1),
  (Str.ofString "NEVER",.int 2),
  (Str.ofString "VOID",.int 3),
  (Str.ofString "UNDEF",.int 4),
  (Str.ofString "NULLT",.int 5),
  (Str.ofString "STRING",.int 6),
  (Str.ofString "NUMBER",.int 7),
  (Str.ofString "FALSE_T",.int 8),
  (Str.ofString "TRUE_T",.int 9),
  (Str.ofString "OBJECTT",.int 10),
  (Str.ofString "EMPTY",.int 11),
  (Str.ofString "ERR",.int 13),
  (Str.ofString "FRESH_F",.int 14),
  (Str.ofString "FRESH_T",.int 15),
  (Str.ofString "P_OPT",.int 1),
  (Str.ofString "D_OBJALIAS",.int 3),
  (Str.ofString "FAM_OTHER",.int 0),
  (Str.ofString "FAM_STR",.int 1),
  (Str.ofString "FAM_NUM",.int 2),
  (Str.ofString "FAM_BOOL",.int 3),
  (Str.ofString "FAM_NULL",.int 4),
  (Str.ofString "FAM_UNDEF",.int 5),
  (Str.ofString "FAM_VOID",.int 6),
  (Str.ofString "FAM_OBJ",.int 7),
  (Str.ofString "MAX_UNION",.int 400),
  (Str.ofString "LITERAL_ROWS",.tp [.int 2,.int 3,.int 4,.int 5]),
  (Str.ofString "MARKED_ROWS",.tp [.int 2,.int 3,.int 4,.int 5,.int 8]),
  (Str.ofString "OBJECT_ROWS",.tp [.int 8,.int 9,.int 11,.int 12,.int 13]),
  (Str.ofString "KEY_FAMILIES",.hd .fd 0),
  (Str.ofString "MAX_DRAWN",.int 200),
  (Str.ofString "MEET_NEVER",.int 0),
  (Str.ofString "MEET_LEFT",.int 1),
  (Str.ofString "MEET_RIGHT",.int 2),
  (Str.ofString "MEET_BOTH",.int 3),
  (Str.ofString "PRIMITIVE_NAMES",.tp [.str [99,104,97,114,65,116],.str [99,111,110,99,97,116],.str [105,110,99,108,117,100,101,115],.str [105,110,100,101,120,79,102],.str [108,101,110,103,116,104],.str [115,108,105,99,101],.str [116,111,76,111,119,101,114,67,97,115,101],.str [116,111,83,116,114,105,110,103],.str [116,111,85,112,112,101,114,67,97,115,101]]),
  (Str.ofString "MOST_ROUNDS",.int 200),
  (Str.ofString "MOST_SHAPES",.int 40),
  (Str.ofString "COERCED",.tp [.int 1,.int 2,.int 3]),
  (Str.ofString "NULLISH",.tp [.int 4,.int 5,.int 6]),
  (Str.ofString "FREE_ROWS",.tp [.int 10,.int 15,.int 16]),
  (Str.ofString "PRIMITIVES",.tp [.int 1,.int 2,.int 3,.int 4,.int 5,.int 6]),
  (Str.ofString "_law_NAMES",.tp [.str [101],.str [97],.str [98],.str [48],oG,om,pR,.str [126,97],.str [126,48],.str [126,69,46,65],n9,qA,.str [126,116,114,117,101],oJ,qF,.str [118,111,105,100],jm,kF,.str [88],.str [89],.str [90],.str [86],.str [87],.str [126,88],.str [123,125],rj]),
  (Str.ofString "_law_UNITS",.tp [.str [101],.str [97],.str [98],.str [48],oG,om,pR,n9,qA,oJ,qF]),
  (Str.ofString "_law_THINGS",.tp [.str [120],.str [118],.str [121],.str [120,122],.str [118,122],.str [121,122],.str [122]])]
noncomputable def c9:List Addr:=[151,159,167,172,184,198,205,212,219,226,233,238,252,259,266,273,278,297,304,310,317,324,329,350,355,362,369,376,383,390,397,402,409,416,423,430,438,457,462,469,476,481,488,493,500,505,702,709,714,719,726,731,736,741,748,755,764,769,774,781,788,800,807,824,834,841,846,851,856,861,866,871,876,881,886,893,898,905,912,917,922,927,932,939,944,534,681]
end Kk
namespace Kk
open PySem PySem.W PySem.Calls PyProof.Rows
theorem aY{α:Type}{x:Option α}{K:α→Prop}{C:Prop}(h:aq pA x K)(f:∀v,x=some v→K v→C):C:=by
 cases x with
 |none=>exact h.elim
 |some v=>exact f v rfl h
theorem aG{α β:Type}{x:Option α}{g:α→Option β}{K:β→Prop}{C:Prop}(h:aq pA (x.bind g) K)(f:∀v,x=some v→aq pA (g v) K→C):C:=by
 cases x with
 |none=>exact h.elim
 |some v=>exact f v rfl h
theorem cR{α β:Type}{x:Option α}{g:α→β}{K:β→Prop}{C:Prop}(h:aq pA (x.map g) K)(f:∀v,x=some v→K (g v)→C):C:=by
 cases x with
 |none=>exact h.elim
 |some v=>exact f v rfl h
theorem cN{K C:Prop}(h:Kk.iff pA b K)(f:b=true→K→C):C:=by
 cases b with
 |false=>exact h.elim
 |true=>exact f rfl h
theorem gB{K:V→Prop}{C:Prop}(h:aq pA (gd b v) K)(f:b=true→K v→C):C:=by
 cases b with
 |false=>exact h.elim
 |true=>exact f rfl h
theorem LX{α β:Type}{P:α→β→Prop}{C:Prop}(h:∃a b,P a b)(f:∀a b,P a b→C):C:=h.elim λa h=>h.elim λb h=>f a b h
theorem aa{a b:Bool}(h:(a&&b)=true):a=true∧b=true:=QL.mp h
theorem b9{v:V}(h:v.asInt=some i):v=.int i:=by induction v using V.casesOn<;>first|exact ah h|(cases h;rfl)
theorem eE{v:V}(h:v.asStr=some i):v=.str i:=by induction v using V.casesOn<;>first|exact ah h|(cases h;rfl)
theorem jV{v:V}(h:v.asTup=some i):v=.tp i:=by induction v using V.casesOn<;>first|exact ah h|(cases h;rfl)
theorem nV{v:V}(h:v.asLst=some i):v=.ls i:=by induction v using V.casesOn<;>first|exact ah h|(cases h;rfl)
theorem yr{v:V}(h:v.asRng=some i):v=.rng i:=by induction v using V.casesOn<;>first|exact ah h|(cases h;rfl)
theorem vc{v:V}(h:v.asBool=some i):v=.bool i:=by induction v using V.casesOn<;>first|exact ah h|(cases h;rfl)
theorem uZ{v:V}(h:v.asNone=some i):v=.nul:=by induction v using V.casesOn<;>first|exact ah h|(cases h;rfl)
theorem tF{v:V}(h:v.asId=some i):v=.id i.1 i.2:=by induction v using V.casesOn<;>first|exact ah h|(cases h;rfl)
theorem gq{v:V}(h:v.asHdl=some i):v=.hd i.1 i.2:=by induction v using V.casesOn<;>first|exact ah h|(cases h;rfl)
theorem FO{a b:H}(h:beq a.code b.code=true):a=b:=by induction a using H.casesOn<;>induction b using H.casesOn<;>first|rfl|exact ak h
theorem bk:∀{a b:List Nat},cj a b=true↔a=b
 |[],[]=>⟨λz=>rfl,λz=>rfl⟩
 |[],_::_=>⟨λh=>(ak h),λh=>(nomatch h)⟩
 |_::_,[]=>⟨λh=>(ak h),λh=>(nomatch h)⟩
 |a::x,b::y=>by show(beq a b&&cj x y)=true↔_;rw[Rq,bk,Sa,List.cons.injEq]
theorem bA{α:Type}{x:Option α}{p:α→Bool}:x.any p=true→∃y,x=some y∧p y=true:=by
 cases x with
 |none=>exact λh=>(ak h)
 |some y=>exact λh=>⟨y,rfl,h⟩
theorem V.ind{P:V→Prop}{Q:List V→Prop}(nul:P .nul)(bool:∀b,P (.bool b))(int:∀i,P (.int i))(str:∀s,P (.str s))(tup:∀l,Q l→P (.tp l))(lst:∀l,Q l→P (.ls l))(rng:∀n,P (.rng n))(id:∀k r,P r→P (.id k r))(hdl:∀c i,P (.hd c i))
 (nil:Q []) (cons:∀v l,P v→Q l→Q (v::l)):(∀v,P v)∧∀l,Q l:=
 ⟨@V.rec P Q nul bool int str tup lst rng id hdl nil cons,@V.rec_1 P Q nul bool int str tup lst rng id hdl nil cons⟩
theorem wg:(∀a b:V,V.beq a b=true→a=b)∧∀a b:List V,V.beqL a b=true→a=b:=by
 refine V.ind ?_ ?_ ?_ ?_ ?_ ?_ ?_ ?_ ?_ ?_ ?_
 ·intro b h;cases b<;>first|rfl|exact ak h
 ·intro x b h;refine X2 (bA h) λy h1 h2=>?_;rw[vc h1,beq_iff_eq.mp h2]
 ·intro x b h;refine X2 (bA h) λy h1 h2=>?_;rw[b9 h1,PI h2]
 ·intro x b h;refine X2 (bA h) λy h1 h2=>?_;rw[eE h1,bk.mp h2]
 ·intro x ih b h;refine X2 (bA h) λy h1 h2=>?_;rw[jV h1,ih _ h2]
 ·intro x ih b h;refine X2 (bA h) λy h1 h2=>?_;rw[nV h1,ih _ h2]
 ·intro x b h;refine X2 (bA h) λy h1 h2=>?_;rw[yr h1,PJ h2]
 ·intro k r ih b h;refine X2 (bA h) λy h1 h2=>?_;rw[tF h1,ih _ (aa h2).2,PJ (aa h2).1]
 ·intro c i b h;refine X2 (bA h) λy h1 h2=>?_;rw[gq h1,FO (aa h2).1,PJ (aa h2).2]
 ·intro b h;cases b<;>first|rfl|exact ak h
 ·intro v l ih ihl b h;cases b with
  |nil=>exact ak h
  |cons w m=>rw[ih _ (aa h).1,ihl _ (aa h).2]
theorem iJ:V.beq a b=true→a=b:=wg.1 a b
theorem Aa:V.beqL a b=true→a=b:=wg.2 a b
theorem fE:(∀a:V,V.beq a a=true)∧∀a:List V,V.beqL a a=true:=by
 refine V.ind rfl (λb=>by cases b<;>rfl) (λi=>PL rfl) (λs=>bk.mpr rfl) (λl h=>h) (λl h=>h) (λn=>RA n) (λk r h=>?_) (λc i=>?_) rfl (λv l h1 h2=>?_)
 ·show(beq k k&&V.beq r r)=true;rw[h,RA];rfl
 ·show(beq c.code c.code&&beq i i)=true;rw[RA,RA];rfl
 ·show(V.beq v v&&V.beqL l l)=true;rw[h1,h2];rfl
theorem zh:V.beq a b=true↔a=b:=⟨iJ,λh=>h▸fE.1 a⟩
theorem iQ:V.beq a b=false↔a≠b:=⟨λh e=>(by rw[zh.mpr e]at h;exact eg h),λh=>Qj.mpr λe=>h (iJ e)⟩
inductive aw {α β:Type} (R:α→β→Prop):List α→List β→Prop
 |nil:aw R [] []
 |cons {a:α} {b:β} {l:List α} {m:List β} (h:R a b) (t:aw R l m):aw R (a::l) (b::m)
namespace aw
variable{α β:Type}{R R':α→β→Prop}
theorem imp(f:∀a b,R a b→R' a b)(h:aw R l m):aw R' l m:=by
 induction h with
 |nil=>exact .nil
 |cons h _ ih=>exact .cons (f _ _ h) ih
theorem len(h:aw R l m):l.length=m.length:=by
 induction h with
 |nil=>rfl
 |cons _ _ ih=>rw[Qf,Qf,ih]
theorem get(h:aw R l m):∀{n:Nat}{v:α},l[n]?=some v→∃w,m[n]?=some w∧R v w:=by
 induction h with
 |nil=>intro n v e;exact ah e
 |cons h _ ih=>
  intro n v e;cases n with
  |zero=>replace e:=PG e;subst e;exact aB _ rfl h
  |succ n=>exact ih e
theorem app(h:aw R l m)(h':aw R l' m'):aw R (l++l') (m++m'):=by
 induction h with
 |nil=>exact h'
 |cons h _ ih=>exact .cons h ih
theorem drop(h:aw R l m):∀n,aw R (l.drop n) (m.drop n):=by
 induction h with
 |nil=>intro n;cases n<;>exact .nil
 |cons h t ih=>intro n;cases n with
  |zero=>exact .cons h t
  |succ n=>exact ih n
theorem take(h:aw R l m):∀n,aw R (l.take n) (m.take n):=by
 induction h with
 |nil=>intro n;cases n<;>exact .nil
 |cons h t ih=>intro n;cases n with
  |zero=>exact .nil
  |succ n=>exact .cons h (ih n)
theorem set(h:aw R l m)(r:R v w):∀n,aw R (l.set n v) (m.set n w):=by
 induction h with
 |nil=>intro n;exact .nil
 |cons h t ih=>intro n;cases n with
  |zero=>exact .cons r t
  |succ n=>exact .cons h (ih n)
theorem rev(h:aw R l m):aw R l.reverse m.reverse:=by
 induction h with
 |nil=>exact .nil
 |cons h _ ih=>rw[List.reverse_cons,List.reverse_cons];exact ih.app (.cons h .nil)
theorem map{γ δ:Type}{f:α→γ}{g:β→δ}{Q:γ→δ→Prop}(q:∀a b,R a b→Q (f a) (g b))(h:aw R l m):aw Q (l.map f) (m.map g):=by
 induction h with
 |nil=>exact .nil
 |cons h _ ih=>exact .cons (q _ _ h) ih
end aw
inductive D where
 |none
 |int (i:Int)
 |str (x:Str)
 |tp (l:List D)
 |ls (l:List D)
theorem D.ind{P:D→Prop}{Q:List D→Prop}(none:P .none)(int:∀i,P (.int i))(str:∀s,P (.str s))(tup:∀l,Q l→P (.tp l))(lst:∀l,Q l→P (.ls l))(nil:Q [])(cons:∀v l,P v→Q l→Q (v::l)):(∀v,P v)∧∀l,Q l:=⟨@D.rec P Q none int str tup lst nil cons,@D.rec_1 P Q none int str tup lst nil cons⟩
noncomputable def D.P:D→PyData:=@D.rec (λz=>PyData) (λz=>List PyData) .none .int .str (λz=>.tuple) (λz=>.list) [] (λz z=>.cons)
noncomputable def D.Ps:List D→List PyData:=@D.rec_1 (λz=>PyData) (λz=>List PyData) .none .int .str (λz=>.tuple) (λz=>.list) [] (λz z=>.cons)
def aK(h:Heap)(a:Addr)(xs:List Value):Prop:=h.get? a=some {cls:=.type "tuple",data:=.seq xs.toArray}
def aN(h:Heap)(a:Addr)(xs:List Value):Prop:=∃n,h.get? a=some {cls:=.type "list",data:=.seq xs.toArray n}
def DV(h:Heap):D→Value→Prop:=@D.rec (λz=>Value→Prop) (λz=>List Value→Prop) (λw=>w=.none) (λi w=>∃t,w=.int i t) (λx w=>∃t,w=.str x t∧PyData.strOk x=true)
 (λz ih w=>∃a xs,w=.ref a∧aK h a xs∧ih xs) (λz ih w=>∃a xs,w=.ref a∧aN h a xs∧ih xs) (λxs=>xs=[]) (λz z p q xs=>∃y ys,xs=y::ys∧p y∧q ys)
def r8(h:Heap):List D→List Value→Prop:=@D.rec_1 (λz=>Value→Prop) (λz=>List Value→Prop) (λw=>w=.none) (λi w=>∃t,w=.int i t) (λx w=>∃t,w=.str x t∧PyData.strOk x=true)
 (λz ih w=>∃a xs,w=.ref a∧aK h a xs∧ih xs) (λz ih w=>∃a xs,w=.ref a∧aN h a xs∧ih xs) (λxs=>xs=[]) (λz z p q xs=>∃y ys,xs=y::ys∧p y∧q ys)
theorem DV.reads_both:(∀d x,DV h d x→∃as,Reads h x d.P as)∧∀ds xs,r8 h ds xs→∃as,ReadsAll h xs (D.Ps ds) as:=by
 refine D.ind (λx h=>?_) (λi x h=>?_) (λy x h=>?_) (λl ih x h=>?_) (λl ih x h=>?_) (λx h=>?_) (λd ds ih ihs x h=>?_)
 ·subst h;exact⟨_,Reads.none⟩
 ·obtain⟨t,rfl⟩:=h;exact⟨_,Reads.int i t⟩
 ·obtain⟨t,rfl,_⟩:=h;exact⟨_,Reads.str y t⟩
 ·obtain⟨a,xs,rfl,ha,r⟩:=h;refine X1 (ih xs r) λas q=>?_;exact⟨_,Reads.tuple ha rfl rfl (by simp;exact q)⟩
 ·obtain⟨a,xs,rfl,⟨n,ha⟩,r⟩:=h;refine X1 (ih xs r) λas q=>?_;exact⟨_,Reads.list ha rfl rfl (by simp;exact q)⟩
 ·subst h;exact⟨_,ReadsAll.nil⟩
 ·obtain⟨y,ys,rfl,a,b⟩:=h;refine X1 (ih _ a) λas q=>?_;refine X1 (ihs _ b) λbs p=>?_;exact⟨_,ReadsAll.cons q p⟩
theorem DV.lay_both:(∀d x,DV h d x→d.P.canLay0=true)∧∀ds xs,r8 h ds xs→PyData.canLayAll0 (D.Ps ds)=true:=by
 refine D.ind (λx h=>rfl) (λi x h=>rfl) (λy x h=>?_) (λl ih x h=>?_) (λl ih x h=>?_) (λx h=>rfl) (λd ds ih ihs x h=>?_)
 ·refine X2 h λt _ ok=>?_;exact ok
 ·refine Y3 h λa xs _ _ r=>?_;exact ih xs r
 ·refine Y3 h λa xs _ _ r=>?_;exact ih xs r
 ·refine Y3 h λy ys _ a b=>?_;exact QL.mpr ⟨ih _ a,ihs _ b⟩
theorem sO{x y:Str}(h:x.cps.toList=y.cps.toList):x=y:=by cases x;cases y;simp only[Str.mk.injEq];exact Array.toList_inj.mp h
theorem E2:(∀d e:D,PyData.eqv d.P e.P=true↔d=e)∧∀d e:List D,PyData.eqvAll (D.Ps d) (D.Ps e)=true↔d=e:=by
 refine D.ind (λe=>?_) (λi e=>?_) (λy e=>?_) (λl ih e=>?_) (λl ih e=>?_) (λe=>?_) (λd ds ih ihs e=>?_)
 ·cases e<;>simp[D.P,PyData.eqv]
 ·cases e with
  |int j=>exact beq_iff_eq.trans ⟨λh=>h▸rfl,λh=>by cases h;rfl⟩
  |_=>simp[D.P,PyData.eqv]
 ·cases e with
  |str j=>exact beq_iff_eq.trans ⟨λh=>h▸rfl,λh=>by cases h;rfl⟩
  |_=>simp[D.P,PyData.eqv]
 ·cases e with
  |tp m=>exact(ih m).trans ⟨λh=>h▸rfl,λh=>by cases h;rfl⟩
  |_=>simp[D.P,PyData.eqv]
 ·cases e with
  |ls m=>exact(ih m).trans ⟨λh=>h▸rfl,λh=>by cases h;rfl⟩
  |_=>simp[D.P,PyData.eqv]
 ·cases e with
  |nil=>exact⟨λz=>rfl,λz=>rfl⟩
  |cons _ _=>exact⟨λh=>(by exact ak h),λh=>(nomatch h)⟩
 ·cases e with
  |nil=>exact⟨λh=>(by exact ak h),λh=>(nomatch h)⟩
  |cons e es=>show(PyData.eqv d.P e.P&&PyData.eqvAll (D.Ps ds) (D.Ps es))=true↔_;rw[Rq,ih,ihs,List.cons.injEq]
open Classical in
theorem tE(d e:D):PyData.eqv d.P e.P=decide (d=e):=by rw[P7,E2.1,Qp]
noncomputable def D.hs:D→Nat→Bool:=@D.rec (λz=>Nat→Bool) (λz=>Nat→Bool) (λz=>false) (λz z=>true) (λz z=>true) (λz ih n=>match n with|0=>false|n+1=>ih n) (λz z z=>false) (λz=>true) (λz z p q n=>p n&&q n)
noncomputable def D.hsL:List D→Nat→Bool:=@D.rec_1 (λz=>Nat→Bool) (λz=>Nat→Bool) (λz=>false) (λz z=>true) (λz z=>true) (λz ih n=>match n with|0=>false|n+1=>ih n) (λz z z=>false) (λz=>true) (λz z p q n=>p n&&q n)
noncomputable def D.hash(P:Params):D→Int:=@D.rec (λz=>Int) (λz=>List Int) 0 hashInt (λx=>if x.cps.isEmpty then 0 else reduceHash (P.strHash x.cps)) (λz ih=>reduceHash (Builtin.Tuple.tupleHashOf ih)) (λz z=>0) [] (λz z p q=>p::q)
noncomputable def D.hashes(P:Params):List D→List Int:=@D.rec_1 (λz=>Int) (λz=>List Int) 0 hashInt (λx=>if x.cps.isEmpty then 0 else reduceHash (P.strHash x.cps)) (λz ih=>reduceHash (Builtin.Tuple.tupleHashOf ih)) (λz z=>0) [] (λz z p q=>p::q)
noncomputable def D.draws:D→Nat:=@D.rec (λz=>Nat) (λz=>Nat) 1 (λz=>1) (λz=>1) (λz ih=>ih+1) (λz z=>1) 0 (λz z p q=>p+q)
noncomputable def D.drawsL:List D→Nat:=@D.rec_1 (λz=>Nat) (λz=>Nat) 1 (λz=>1) (λz=>1) (λz ih=>ih+1) (λz z=>1) 0 (λz z p q=>p+q)
section
variable{prog:Program}{E:VS}
def KH(prog:Program)(w:World)(E:VS)(d:D):Prop:=∀(n:Nat)(v:Value)(A:Around)(s:Shared)(Q:Int→Shared→Prop),d.hs n=true→DV s.heap d v→A.units+n<cLine→
 Q (d.hash w.params) {s with toks:=s.toks+d.draws}→wpAny (model prog w) A (pyHash v) Q E s
def Em(prog:Program)(w:World)(E:VS)(ds:List D):Prop:=∀(n:Nat)(vs:List Value)(A:Around)(s:Shared)(b:Array Int)(Q:Array Int→Shared→Prop),D.hsL ds n=true→r8 s.heap ds vs→A.units+n<cLine→
 (∀b',b'.toList=b.toList++D.hashes w.params ds→Q b' {s with toks:=s.toks+D.drawsL ds})→
 wpAny (model prog w) A (forIn vs b λx r=>do let h ← pyHash x;pure PUnit.unit;pure (ForInStep.yield (r.push h))) Q E s
theorem Ci:(∀d,KH prog w E d)∧∀ds,Em prog w E ds:=by
 refine D.ind (λn v A s Q h=>ak h) (λi n v A s Q _ x _ h=>?_) (λy n v A s Q _ x _ h=>?_) (λl ih n v A s Q hk x hu h=>?_) (λl _ n v A s Q h=>ak h) (λn vs A s b Q _ x _ h=>?_) (λd ds ih ihs n vs A s b Q hk x hu h=>?_)
 ·obtain⟨t,rfl⟩:=x;exact wpAny_pyHash_int h
 ·obtain⟨t,rfl,_⟩:=x;exact wpAny_pyHash_str h
 ·obtain⟨a,vs,rfl,ha,r⟩:=x;cases n with
  |zero=>exact ak hk
  |succ n=>refine pyHash_slot (T:="tuple") ⟨_,ha,rfl⟩ F.slot_tuple_hash F.entry_tuple_hash (F.args_tuple_hash_1 _) (beq_builtin_none _) (.inr (lg hu)) ?_;show wpAny _ _ (Builtin.Tuple.tupleItemsOf (.ref a) >>= _) _ _ s;refine PK (wpAny_tupleItemsOf ha rfl ?_);refine PK ?_;rw[← Array.forIn_toList];refine ih n vs A.in1 s #[] _ hk r (by simp only[Around.in1_units];exact tK hu) λb hb=>?_;show wpAny _ _ (retInt (Builtin.Tuple.tupleHashOf b.toList)) _ _ _;rw[hb];exact PK (wpAny_mkInt (PU ⟨_,_,rfl,h⟩))
 ·subst x;exact PU (h b (Qy _).symm)
 ·obtain⟨y,ys,rfl,x1,x2⟩:=x;rw[forIn_cons];refine PK (PK (ih n _ A s _ (aa hk).1 x1 hu ?_));refine PK (PU (PU ?_));refine ihs n _ A _ _ Q (aa hk).2 x2 hu λb' hb=>?_;show Q b' {s with toks:=s.toks+d.draws+D.drawsL ds};rw[Rc];exact h b' (by rw[hb,Array.toList_push,QK];rfl)
def Iz(prog:Program)(w:World)(E:VS)(d:D):Prop:=∀(n:Nat)(v:Value)(A:Around)(s:Shared)(Q:BS),d.hs n=true→DV s.heap d v→Q true s→wpAny (model prog w) A (eqIsQuiet n v) Q E s
def Fs(prog:Program)(w:World)(E:VS)(ds:List D):Prop:=∀(n:Nat)(vs:List Value)(A:Around)(s:Shared),D.hsL ds n=true→r8 s.heap ds vs→
 wpAny (model prog w) A (forIn vs ((none,PUnit.unit):Option Bool×PUnit) λy r=>do
  let q ← eqIsQuiet n y
  if(!q)=true then pure (ForInStep.done (some false,PUnit.unit))else do
   pure PUnit.unit
   pure (ForInStep.yield (none,PUnit.unit))) (λr s'=>r=(none,PUnit.unit)∧s'=s) E s
theorem AF:(∀d,Iz prog w E d)∧∀ds,Fs prog w E ds:=by
 refine D.ind (λn v A s Q h=>ak h) (λi n v A s Q z x h=>?_) (λy n v A s Q z x h=>?_) (λl ih n v A s Q hk x h=>?_) (λl z n v A s Q h=>ak h) (λn vs A s z x=>?_) (λd ds ih ihs n vs A s hk x=>?_)
 ·obtain⟨t,rfl⟩:=x;rw[eqIsQuiet_byValue _ rfl];exact PU h
 ·obtain⟨t,rfl,_⟩:=x;rw[eqIsQuiet_byValue _ rfl];exact PU h
 ·obtain⟨a,vs,rfl,ha,r⟩:=x;cases n with
  |zero=>exact ak hk
  |succ n=>
   have hT:s.TypeIs (.ref a) "tuple":=⟨_,ha,rfl⟩
   unfold eqIsQuiet;refine PK (wpAny_specialOf hT F.slot_tuple_eq.lookup ?_);show wpAny _ _ (isInstance (.ref a) (.type "tuple") >>= _) _ _ s;refine PK (wpAny_isInstance hT isSubtype_tuple_tuple ?_);simp only[Bool.not_true,false_eq_true,if_false];refine PK (wpAny_seqItems ha rfl ?_);refine PK ?_;show wpAny _ _ (forIn vs.toArray _ _) _ _ s;rw[← Array.forIn_toList];refine wpAny_mono (ih n vs A s hk r) (λr s' e=>?_) λz z e=>e;obtain⟨rfl,rfl⟩:=e;exact PU h
 ·subst x;exact PU ⟨rfl,rfl⟩
 ·obtain⟨y,ys,rfl,x1,x2⟩:=x;rw[forIn_cons];refine PK (PK (ih n _ A s _ (aa hk).1 x1 ?_));simp only[Bool.not_true,false_eq_true,if_false];refine PK (PU (PU ?_));exact ihs n _ A s (aa hk).2 x2
end
theorem sQ{h:Heap}{C D:Value}{xs ys:List Value}(p:h.get? a=some {cls:=C,data:=.seq xs.toArray n})(q:h.get? a=some {cls:=D,data:=.seq ys.toArray m}):C=D∧xs=ys:=by have e:=PG (p.symm.trans q);have e1:=Qb Obj.cls e;have e2:=Qb Obj.data e;injection e2 with e3 _;exact⟨e1,List.toArray_inj e3⟩
theorem lh:(Value.type "tuple")≠.type "list":=λh=>by injection h with h;exact absurd h (by decide)
theorem DV.inj_both:(∀d e x,DV h d x→DV h e x→d=e)∧∀ds es xs,r8 h ds xs→r8 h es xs→ds=es:=by
 refine D.ind (λe x a b=>?_) (λi e x a b=>?_) (λy e x a b=>?_) (λl ih e x a b=>?_) (λl ih e x a b=>?_) (λe x a b=>?_) (λd ds ih ihs e x a b=>?_)
 ·subst a;cases (e)with
  |none=>rfl
  |int j=>obtain⟨_,q⟩:=b;cases q
  |str j=>obtain⟨_,q,_⟩:=b;cases q
  |tp j=>obtain⟨_,_,q,_⟩:=b;cases q
  |ls j=>obtain⟨_,_,q,_⟩:=b;cases q
 ·obtain⟨t,rfl⟩:=a;cases (e)with
  |none=>cases b
  |int j=>obtain⟨_,q⟩:=b;cases q;rfl
  |str j=>obtain⟨_,q,_⟩:=b;cases q
  |tp j=>obtain⟨_,_,q,_⟩:=b;cases q
  |ls j=>obtain⟨_,_,q,_⟩:=b;cases q
 ·obtain⟨t,rfl,_⟩:=a;cases (e)with
  |none=>cases b
  |int j=>obtain⟨_,q⟩:=b;cases q
  |str j=>obtain⟨_,q,_⟩:=b;cases q;rfl
  |tp j=>obtain⟨_,_,q,_⟩:=b;cases q
  |ls j=>obtain⟨_,_,q,_⟩:=b;cases q
 ·obtain⟨c,xs,rfl,ha,r⟩:=a;cases (e)with
  |none=>cases b
  |int j=>obtain⟨_,q⟩:=b;cases q
  |str j=>obtain⟨_,q,_⟩:=b;cases q
  |tp j=>obtain⟨_,ys,q,hb,r'⟩:=b;cases q;rw[← (sQ ha hb).2]at r'; rw[ih _ _ r r']
  |ls j=>obtain⟨_,ys,q,⟨n,hb⟩,r'⟩:=b;cases q;exact absurd (sQ ha hb).1 lh
 ·obtain⟨c,xs,rfl,⟨n,ha⟩,r⟩:=a;cases (e)with
  |none=>cases b
  |int j=>obtain⟨_,q⟩:=b;cases q
  |str j=>obtain⟨_,q,_⟩:=b;cases q
  |tp j=>obtain⟨_,ys,q,hb,r'⟩:=b;cases q;exact absurd (sQ hb ha).1 lh
  |ls j=>obtain⟨_,ys,q,⟨n,hb⟩,r'⟩:=b;cases q;rw[← (sQ ha hb).2]at r'; rw[ih _ _ r r']
 ·subst a;cases e with
  |nil=>rfl
  |cons _ _=>obtain⟨_,_,q,_⟩:=b;cases q
 ·obtain⟨y,ys,rfl,a1,a2⟩:=a;cases e with
  |nil=>cases b
  |cons e es=>obtain⟨_,_,q,b1,b2⟩:=b;cases q;rw[ih _ _ a1 b1,ihs _ _ a2 b2]
theorem DV.keepH(kt:∀a xs,aK h a xs→aK h' a xs):(∀d x n,d.hs n=true→DV h d x→DV h' d x)∧∀ds xs n,D.hsL ds n=true→r8 h ds xs→r8 h' ds xs:=by
 refine D.ind (λx n k=>ak k) (λi x n _ a=>a) (λy x n _ a=>a) (λl ih x n k a=>?_) (λl ih x n k=>ak k) (λx n _ a=>a) (λd ds ih ihs x n k a=>?_)
 ·refine Y3 a λc xs e ha r=>?_;cases n with
  |zero=>exact ak k
  |succ n=>exact lb c xs e (kt _ _ ha) (ih _ _ k r)
 ·refine Y3 a λy ys e a1 a2=>?_;exact lb y ys e (ih _ _ (aa k).1 a1) (ihs _ _ (aa k).2 a2)
theorem AY:(∀(d:D)(n:Nat),d.hs n=true→d.P.depth≤n)∧∀(d:List D)(n:Nat),D.hsL d n=true→PyData.depthAll (D.Ps d)≤n:=by
 refine D.ind (λn k=>ak k) (λi n z=>Qc _) (λy n z=>Qc _) (λl ih n k=>?_) (λl ih n k=>ak k) (λn z=>Qc _) (λd ds ih ihs n k=>?_)
 ·cases n with
  |zero=>exact ak k
  |succ n=>exact Rn (ih n k)
 ·exact Nat.max_le.mpr ⟨ih n (aa k).1,ihs n (aa k).2⟩
theorem II:(∀(d:D)(n m:Nat),n≤m→d.hs n=true→d.hs m=true)∧∀(d:List D)(n m:Nat),n≤m→D.hsL d n=true→D.hsL d m=true:=by
 refine D.ind (λn m y k=>ak k) (λi n m y y=>rfl) (λy n m y y=>rfl) (λl ih n m z k=>?_) (λl ih n m y k=>ak k) (λn m y y=>rfl) (λd ds ih ihs n m z k=>?_)
 ·cases n with
  |zero=>exact ak k
  |succ n=>cases m with
   |zero=>exact absurd z (Nat.not_succ_le_zero _)
   |succ m=>exact ih n m (Nat.le_of_succ_le_succ z) k
 ·exact QL.mpr ⟨ih n m z (aa k).1,ihs n m z (aa k).2⟩
section
open Classical
noncomputable def dB(prog:Program)(w:World):HeapKind prog w D where
 is:=λh d a=>d.hs 6=true∧DV h d (.ref a)
 hash:=D.hash w.params
 draws:=D.draws
 room:=λA=>A.units+64<cLine
 inj:=λhx hy=>DV.inj_both.1 _ _ _ hx.2 hy.2
 keeps:=λ{h d h' o a es ep x} ha ho hd hs=>⟨ha.1,(DV.keepH λb xs e=>(hs.2 b λz=>by subst z;unfold aK at e;rw[ho]at e;replace e:=PG e;subst e;cases hd).trans e).1 _ _ 6 ha.1 ha.2⟩
 pyHash:=λhu hk h=>Ci.1 _ 6 _ _ _ _ hk.1 hk.2 (by omega) h
 eqBool:=λ{A E s x y a b Q} hu hx hy h=>by
  have⟨as,ra⟩:=DV.reads_both.1 _ _ hx.2;have⟨bs,rb⟩:=DV.reads_both.1 _ _ hy.2;refine PySem.SeqAt.eqBoolOverData prog w A E s _ _ _ _ _ _ Q ra rb (DV.lay_both.1 _ _ hx.2) (DV.lay_both.1 _ _ hy.2) ?_ ?_
  ·have:=AY.1 _ _ hx.1;exact Eu hu this rfl
  ·rw[tE];exact h
 quiet:=λhk h=>AF.1 _ 8 _ _ _ _ (II.1 _ 6 8 (by omega) hk.1) hk.2 h
def BU:D→Value→Prop
 |.int i,w=>∃t,w=.int i t
 |.str x,w=>∃t,w=.str x t
 |_,_=>False
theorem dZ(h:BU d v):(∃i t,v=.int i t∧d=.int i)∨∃x t,v=.str x t∧d=.str x:=by
 cases d with
 |int i=>exact .inl ⟨i,h.choose,h.choose_spec,rfl⟩
 |str x=>exact .inr ⟨x,h.choose,h.choose_spec,rfl⟩
 |_=>exact h.elim
variable{prog:Program}{A:Around}{E:VS}{s:Shared}
theorem ui{Q:BS}(h:Q false s):wpAny (model prog w) A (eqBool (.int i t) (.str x u)) Q E s:=by
 delta eqBool
 refine Qn ?_;show wpAny _ _ (if(Value.int i t==Value.str x u)=true then _ else _) Q E s;rw[Qv (by simp)];exact PK (EqMixed.eq_int_str (QN h))
theorem uq{Q:BS}(h:Q false s):wpAny (model prog w) A (eqBool (.str x u) (.int i t)) Q E s:=by
 delta eqBool
 refine Qn ?_;show wpAny _ _ (if(Value.str x u==Value.int i t)=true then _ else _) Q E s;rw[Qv (by simp)];exact PK (EqMixed.eq_str_int (QN h))
theorem Jo{p q:Prop}{_:Decidable p}{_:Decidable q}(h:p↔q):decide p=decide q:=decide_eq_decide.mpr h
theorem xp{v:Value}(h:v.isStr x=true):∃t,v=.str x t:=by
 induction v using Value.casesOn with
 |str s t=>
  have:(s==x)=true:=h;have:s=x:=by simpa using this
  subst this;exact⟨t,rfl⟩
 |_=>exact ak h
noncomputable def cD(prog:Program)(w:World):KeyKind prog w D where
 is:=λd v=>decide (BU d v)
 hash:=D.hash w.params
 inj:=λv a b ha hb=>by rcases dZ (PI ha)with⟨i,t,rfl,rfl⟩|⟨x,t,rfl,rfl⟩<;>rcases dZ (PI hb)with⟨j,u,e,rfl⟩|⟨y,u,e,rfl⟩<;>cases e<;>rfl
 byValue:=λk v h=>by rcases dZ (PI h)with⟨i,t,rfl,rfl⟩|⟨x,t,rfl,rfl⟩<;>rfl
 pyHash:=λ{A E s k v Q} hv h=>by
  rcases dZ (PI hv)with⟨i,t,rfl,rfl⟩|⟨x,t,rfl,rfl⟩
  ·exact wpAny_pyHash_int h
  ·exact wpAny_pyHash_str h
 eqBool:=λ{A E s a b u v Q} ha hb h=>by
  rcases dZ (PI ha)with⟨i,t,rfl,rfl⟩|⟨x,t,rfl,rfl⟩<;>rcases dZ (PI hb)with⟨j,t',rfl,rfl⟩|⟨y,t',rfl,rfl⟩
  ·refine wpAny_eqBool_int ?_;rwa [show(i==j)=decide (D.int i=D.int j)by rw[P7,beq_iff_eq,Qp];exact⟨λh=>h▸rfl,λh=>by cases h;rfl⟩]
  ·refine ui ?_;rwa [show false=decide (D.int i=D.str y)from(PQ λh=>nomatch h).symm]
  ·refine uq ?_;rwa [show false=decide (D.str x=D.int j)from(PQ λh=>nomatch h).symm]
  ·refine wpAny_eqBool_str ((Jo ?_:decide (D.str x=D.str y)=_)▸h);exact⟨λh=>(by cases h;rfl),λh=>h▸rfl⟩
 «strs»:=λk x t v h=>by
  rcases dZ (PI h)with⟨i,t,e,_⟩|⟨y,u,e,rfl⟩
  ·cases e
  ·cases e;rw[P7,Qp];exact⟨λh=>X1 h λu e=>by rw[e];exact beq_iff_eq.mpr rfl,xp⟩
end
end Kk
namespace Kk
open PySem PySem.W PySem.Calls PyProof.Rows
open Classical
variable{Q:VS}
variable{K:KP}
structure GE where
 prog:Program
 w:World
 K:Frag
 base:Heap
 CT:Addr
 CH:Addr
 KF:Addr
noncomputable abbrev WG(G:GE)(A:Around){α:Type}:=@wpAny α (model G.prog G.w) A
structure TA where
 inst:Addr
 rws:Addr
 idx:Addr
inductive fL where|obj (i:Nat)|rws (k:Nat)|idx (k:Nat)|pr|hid
structure Cf where
 S:St
 T:List (List V)
 ρ:List Addr
 τ:List TA
 w:Addr→Option fL
 s:Shared
noncomputable abbrev Cf.h(x:Cf):Heap:=x.s.heap
def At(T:List (List V))(k i:Nat)(r:V):Prop:=16≤i∧∃R,T[k]?=some R∧R[i]?=some r
def RD(T:List (List V)):V→D→Prop:=@V.rec (λz=>D→Prop) (λz=>List D→Prop) (λd=>d=.none) (λz z=>False) (λi d=>d=.int i) (λs d=>∃x,d=.str x∧x.cps.toList=s) (λz ih d=>∃ds,d=.tp ds∧ih ds) (λz ih d=>∃ds,d=.ls ds∧ih ds)
 (λz z=>False) (λk r z d=>∃i:Nat,d=.int i∧At T k i r) (λz z z=>False) (λds=>ds=[]) (λz z p q ds=>∃e es,ds=e::es∧p e∧q es)
def i7(T:List (List V)):List V→List D→Prop:=@V.rec_1 (λz=>D→Prop) (λz=>List D→Prop) (λd=>d=.none) (λz z=>False) (λi d=>d=.int i) (λs d=>∃x,d=.str x∧x.cps.toList=s) (λz ih d=>∃ds,d=.tp ds∧ih ds) (λz ih d=>∃ds,d=.ls ds∧ih ds)
 (λz z=>False) (λk r z d=>∃i:Nat,d=.int i∧At T k i r) (λz z z=>False) (λds=>ds=[]) (λz z p q ds=>∃e es,ds=e::es∧p e∧q es)
def O5(G:GE)(x:Cf)(k:Nat)(a:Addr):Prop:=∃t d es n,x.τ[k]?=some t∧x.h.get? a=some ⟨.ref G.CH,some d,.plain,#[]⟩∧x.h.get? d=some (PySem.W.dictOf es n)∧(x.w a=some .pr∧x.w d=some .pr)∧getL "tab" es=some (some (.ref t.inst))∧getL "force" es=some none∧getL "fits" es=some none
def Hd(G:GE)(x:Cf)(c:H)(i:Nat)(a:Addr):Prop:=match c with
 |.ref=>x.ρ[i]?=some a
 |.tab=>∃t,x.τ[i]?=some t∧a=t.inst
 |.rows=>∃t,x.τ[i]?=some t∧a=t.rws
 |.index=>∃t,x.τ[i]?=some t∧a=t.idx
 |.fd=>a=G.KF
 |.host=>O5 G x i a
section
variable(G:GE)(x:Cf)
def GW(ih:List Value→Prop)(l:List V)(w:Value):Prop:=∃a xs,w=.ref a∧aK x.h a xs∧x.w a=none∧l.length≤aD∧ih xs
def AP(ih:List Value→Prop)(l:List V)(w:Value):Prop:=∃a xs,w=.ref a∧aN x.h a xs∧x.w a=none∧l.length≤aD∧ih xs
def GP(s:List Nat)(w:Value):Prop:=∃y t,w=.str y t∧y.cps.toList=s∧s.length≤aD∧PyData.strOk y=true
def GV(n:Nat)(w:Value):Prop:=∃a t u v,w=.ref a∧IsRange x.h a 0 n 1 t u v∧x.w a=none∧n≤aD
def K7(k:Nat)(r:V)(w:Value):Prop:=∃(i:Nat) (t:Tok),w=.int i t∧At x.T k i r
def GX(i:Int)(w:Value):Prop:=∃t,w=.int i t
def AU(c:H)(i:Nat)(w:Value):Prop:=∃a,w=.ref a∧Hd G x c i a
def RV:V→Value→Prop:=@V.rec (λz=>Value→Prop) (λz=>List Value→Prop) (λw=>w=.none) (λb w=>w=.bool b) GX GP (λl ih w=>GW x ih l w) (λl ih w=>AP x ih l w) (GV x) (λk r z w=>K7 x k r w) (AU G x) (λxs=>xs=[]) (λz z p q xs=>∃y ys,xs=y::ys∧p y∧q ys)
def bP:List V→List Value→Prop:=@V.rec_1 (λz=>Value→Prop) (λz=>List Value→Prop) (λw=>w=.none) (λb w=>w=.bool b) GX GP (λl ih w=>GW x ih l w) (λl ih w=>AP x ih l w) (GV x) (λk r z w=>K7 x k r w) (AU G x) (λxs=>xs=[]) (λz z p q xs=>∃y ys,xs=y::ys∧p y∧q ys)
end
theorem bP.all:∀{l:List V}{xs:List Value},bP G x l xs→aw (RV G x) l xs
 |[],_,h=>(show _=[]from h)▸.nil
 |_::l,_,h=>LX (show ∃y ys,_=y::ys∧_ from h) λy ys h=>h.1▸.cons h.2.1 (bP.all (l:=l) h.2.2)
theorem bP.of(h:aw (RV G x) l xs):bP G x l xs:=by
 induction h with
 |nil=>rfl
 |cons a _ ih=>exact lb _ _ rfl a ih
theorem i7.all:∀{l:List V}{xs:List D},i7 T l xs→aw (RD T) l xs
 |[],_,h=>(show _=[]from h)▸.nil
 |_::l,_,h=>LX (show ∃y ys,_=y::ys∧_ from h) λy ys h=>h.1▸.cons h.2.1 (i7.all (l:=l) h.2.2)
noncomputable def cA(T:List (List V)):Nat:=(T.map List.length).sum
structure Lf (W:List Addr) (x y:Cf):Prop where
 T:∀(k:Nat)(R:List V),x.T[k]?=some R→∃X:List V,y.T[k]?=some (R++X)
 τ:∀(i:Nat)(t:TA),x.τ[i]?=some t→y.τ[i]?=some t
 keep:∀b o,x.h.get? b=some o→x.w b=none→b∉W→y.h.get? b=some o∧y.w b=none
 pr:∀b o,x.h.get? b=some o→x.w b=some .pr→y.h.get? b=some o∧y.w b=some .pr
structure Lm (W:List Addr) (x y:Cf):Prop extends Lf W x y where
 ρ:∀(i:Nat)(a:Addr),x.ρ[i]?=some a→y.ρ[i]?=some a
structure Le (W:List Addr) (x y:Cf):Prop extends Lm W x y where
 hid:∀b o,x.h.get? b=some o→x.w b=some .hid→y.h.get? b=some o∧y.w b=some .hid
 cost:cA y.T+y.S.c≤cA x.T+x.S.c
 gens:y.s.gens=x.s.gens
 os:y.s.os=x.s.os
def rS(o:Obj):Prop:=(∃es n,o.data=.dict es n)∨(∃v,o.data=.cell v)∨(o.cls≠.type "list"∧o.cls≠.type "tuple"∧o.cls≠.type "range")
structure eV (G:GE) (W:List Addr) (x:Cf):Prop where
 no:∀a∈W,x.w a=none∧G.base.get? a=none
 ns:∀a∈W,∃o,x.h.get? a=some o∧rS o
theorem eV.nil:eV G [] x:=⟨λz q=>(az q),λz q=>(az q)⟩
theorem Lm.refl:Lm W x x:=⟨⟨λz R e=>⟨[],by rw[Qy];exact e⟩,λz z e=>e,λz z e n z=>⟨e,n⟩,λz z e n=>⟨e,n⟩⟩,λz z e=>e⟩
theorem Le.refl:Le W x x:=⟨.refl,λz z e n=>⟨e,n⟩,Qi _,rfl,rfl⟩
theorem Lm.trans(p:Lm W x y)(q:Lm W y z):Lm W x z where
 T k R e:=(p.T k R e).elim λX e=>(q.T k _ e).elim λY e=>⟨X++Y,by rw[e,QK]⟩
 ρ i a e:=q.ρ i a (p.ρ i a e)
 τ i a e:=q.τ i a (p.τ i a e)
 keep b o e n w:=q.keep b o (p.keep b o e n w).1 (p.keep b o e n w).2 w
 pr b o e n:=q.pr b o (p.pr b o e n).1 (p.pr b o e n).2
theorem Le.trans(p:Le W x y)(q:Le W y z):Le W x z where
 toLm:=p.toLm.trans q.toLm
 hid b o e n:=q.hid b o (p.hid b o e n).1 (p.hid b o e n).2
 cost:=PM q.cost p.cost
 gens:=q.gens.trans p.gens
 os:=q.os.trans p.os
theorem Lm.up(p:Lm [] x y):Lm W x y:={p with keep:=λb o e n z=>p.keep b o e n λq=>az q}
theorem Le.more{W':List Addr}(p:Le W x y)(s:∀a∈W,a∈W'):Le W' x y:={p with keep:=λb o e n w=>p.keep b o e n λq=>w (s b q)}
theorem Le.up(p:Le [] x y):Le W x y:=p.more λz q=>(az q)
theorem eV.ne(w:eV G W x)(h:x.h.get? a=some ⟨C,od,d,sl⟩) (hc:C=.type "list"∨C=.type "tuple"∨C=.type "range") (hd:(∃xs n,d=.seq xs n)∨∃l,d=.fields l):a∉W:=λq=>by
 refine X2 (w.ns a q) λo e n=>?_;rw[h]at e;replace e:=PG e;subst e;rcases n with⟨es,m,n⟩|⟨v,n⟩|⟨n1,n2,n3⟩
 ·rcases hd with⟨_,_,rfl⟩|⟨_,rfl⟩<;>cases n
 ·rcases hd with⟨_,_,rfl⟩|⟨_,rfl⟩<;>cases n
 ·rcases hc with rfl|rfl|rfl
  ·exact n1 rfl
  ·exact n2 rfl
  ·exact n3 rfl
theorem Lf.tp(p:Lf W x y)(w:eV G W x)(h:aK x.h a xs)(n:x.w a=none):aK y.h a xs∧y.w a=none:=p.keep a _ h n (w.ne h (.inr (.inl rfl)) (.inl ⟨_,_,rfl⟩))
theorem Lf.ls(p:Lf W x y)(w:eV G W x)(h:aN x.h a xs)(n:x.w a=none):aN y.h a xs∧y.w a=none:=h.elim λk h=>⟨⟨k,(p.keep a _ h n (w.ne h (.inl rfl) (.inl ⟨_,_,rfl⟩))).1⟩,(p.keep a _ h n (w.ne h (.inl rfl) (.inl ⟨_,_,rfl⟩))).2⟩
abbrev Tm(x y:Cf):Prop:=∀(k:Nat)(R:List V),x.T[k]?=some R→∃X:List V,y.T[k]?=some (R++X)
theorem At.mono(p:Tm x y)(h:At x.T k i r):At y.T k i r:=by obtain⟨lo,R,h1,h2⟩:=h;refine X1 (p k R h1) λX e=>?_;exact⟨lo,_,e,by rw[Qq (PO.mp h2).1];exact h2⟩
theorem RV.mono_gen(P:Bool)(p:Lf W x y)(w:eV G W x)(hρ:P=false→∀(i:Nat)(a:Addr),x.ρ[i]?=some a→y.ρ[i]?=some a):(∀v u,RV G x v u→(P=true→V.free v=true)→RV G y v u)∧∀l xs,bP G x l xs→(P=true→V.freeL l=true)→bP G y l xs:=by
 refine V.ind (λu h z=>h) (λb u h z=>h) (λi u h z=>h) (λs u h z=>h) (λl ih u h f=>?_) (λl ih u h f=>?_) (λn u h f=>?_) (λk r z u h f=>?_) (λc i u h f=>?_) (λxs h z=>h) (λv l ih ihs xs h f=>?_)
 ·refine Y5 h λa xs e ha hn hl r=>?_;exact qL a xs e ((p.tp w ha hn).1) ((p.tp w ha hn).2) hl (ih _ r f)
 ·refine Y5 h λa xs e ha hn hl r=>?_;exact qL a xs e ((p.ls w ha hn).1) ((p.ls w ha hn).2) hl (ih _ r f)
 ·refine e44 h λa t u' v e ha hn hl=>?_;have q:=p.keep a _ ha hn (w.ne ha (.inr (.inr rfl)) (.inr ⟨_,rfl⟩));exact Fd a t u' v e q.1 q.2 hl
 ·refine Y2 h λi t e h=>?_;exact A4 i t e (h.mono p.T)
 ·refine X2 h λa e h=>?_;refine aB a e ?_;induction c using H.casesOn with
  |ref=>exact hρ (by cases P with|false=>rfl|true=>exact nomatch f rfl) _ _ h
  |tab=>exact h.imp λt h=>⟨p.τ _ _ h.1,h.2⟩
  |rows=>exact h.imp λt h=>⟨p.τ _ _ h.1,h.2⟩
  |index=>exact h.imp λt h=>⟨p.τ _ _ h.1,h.2⟩
  |fd=>exact h
  |host=>refine e45 h λt d es n h1 h2 h3 h4 h5=>?_;exact OX t d es n (p.τ _ _ h1) ((p.pr _ _ h2 h4.1).1) ((p.pr _ _ h3 h4.2).1) ⟨(p.pr _ _ h2 h4.1).2,(p.pr _ _ h3 h4.2).2⟩ h5
 ·refine Y3 h λy ys e h1 h2=>?_;exact lb y ys e (ih _ h1 λq=>(aa (f q)).1) (ihs _ h2 λq=>(aa (f q)).2)
theorem RV.mono(p:Lm W x y)(w:eV G W x)(h:RV G x v u):RV G y v u:=(RV.mono_gen false p.toLf w λz=>p.ρ).1 v u h λq=>ak q
theorem RV.freed(p:Lf W x y)(w:eV G W x)(h:RV G x v u)(f:V.free v=true):RV G y v u:=(RV.mono_gen true p w λq=>eg q).1 v u h λz=>f
theorem ye:(∀v n,V.dat c h k v n=true→V.free v=true)∧∀l n,V.datL c h k l n=true→V.freeL l=true:=by
 refine V.ind (λz z=>rfl) (λz z z=>rfl) (λz z z=>rfl) (λz z z=>rfl) (λl ih n p=>?_) (λl ih n p=>?_) (λz z z=>rfl) (λz z z z z=>rfl) (λc i n p=>ak p) (λz z=>rfl) (λv l ih ihs n p=>QL.mpr ⟨ih n (aa p).1,ihs n (aa p).2⟩)
 ·cases n with
  |zero=>exact ak p
  |succ n=>exact ih n p
 ·cases n with
  |zero=>cases (aa p).2
  |succ n=>exact ih n (aa p).2
theorem RD.mono_both(p:Tm x y):(∀v d,RD x.T v d→RD y.T v d)∧∀l ds,i7 x.T l ds→i7 y.T l ds:=by
 refine V.ind (λu h=>h) (λb u h=>h) (λi u h=>h) (λs u h=>h) (λl ih u h=>?_) (λl ih u h=>?_) (λn u h=>h) (λk r _ u h=>?_) (λc i u h=>h) (λxs h=>h) (λv l ih ihs xs h=>?_)
 ·exact h.imp λds h=>⟨h.1,ih _ h.2⟩
 ·exact h.imp λds h=>⟨h.1,ih _ h.2⟩
 ·exact h.imp λds h=>⟨h.1,h.2.mono p⟩
 ·exact LX h λe es h=>⟨e,es,h.1,ih _ h.2.1,ihs _ h.2.2⟩
theorem RD.mono(p:Tm x y)(h:RD x.T v d):RD y.T v d:=(RD.mono_both p).1 _ _ h
theorem RV.data_both:(∀v u n,RV G x v u→V.dat c h k v n=true→∃d,RD x.T v d∧DV x.h d u∧d.P.depth≤n∧(h=true→d.hs n=true))∧
 ∀l us n,bP G x l us→V.datL c h k l n=true→∃ds,i7 x.T l ds∧r8 x.h ds us∧PyData.depthAll (D.Ps ds)≤n∧(h=true→D.hsL ds n=true):=by
 refine V.ind (λu n r p=>?_) (λb u n z p=>ak p) (λi u n r p=>?_) (λs u n r p=>?_) (λl ih u n r p=>?_) (λl ih u n r p=>?_) (λm u n z p=>ak p) (λk r z u n r p=>?_) (λc i u n z p=>ak p) (λus n r p=>?_) (λv l ih ihs us n r p=>?_)
 ·refine jh .none rfl r (Qc _) (λe=>?_);rw[e]at p;exact ak p
 ·exact jh (.int i) rfl r (Qc _) (λz=>rfl)
 ·refine Y4 r λy t e es z ok=>?_;exact jh (.str y) ⟨y,rfl,es⟩ ⟨t,e,ok⟩ (Qc _) (λz=>rfl)
 ·refine Y5 r λa xs e ha z z r=>?_;cases n with
  |zero=>exact ak p
  |succ n=>refine X4 (ih xs n r p) λds h1 h2 h3 h4=>?_;exact jh (.tp ds) ⟨ds,rfl,h1⟩ ⟨a,xs,e,ha,h2⟩ (Rn h3) h4
 ·refine Y5 r λa xs e ha z z r=>?_;have p':=aa p;cases n with
  |zero=>cases p'.2
  |succ n=>refine X4 (ih xs n r p'.2) λds h1 h2 h3 h4=>?_;refine jh (.ls ds) ⟨ds,rfl,h1⟩ ⟨a,xs,e,ha,h2⟩ (Rn h3) (λe=>?_);rw[e]at p'; cases p'.1
 ·refine Y2 r λi t e h=>?_;exact jh (.int i) ⟨i,rfl,h⟩ ⟨t,e⟩ (Qc _) (λz=>rfl)
 ·exact jh [] rfl r (Qc _) (λz=>rfl)
 ·refine Y3 r λy ys e r1 r2=>?_;refine X4 (ih y n r1 (aa p).1) λd h1 h2 h3 h4=>?_;refine X4 (ihs ys n r2 (aa p).2) λds k1 k2 k3 k4=>?_;exact jh (d::ds) ⟨d,ds,rfl,h1,k1⟩ ⟨y,ys,e,h2,k2⟩ (Nat.max_le.mpr ⟨h3,k3⟩) (λe=>QL.mpr ⟨h4 e,k4 e⟩)
def dI(T:List (List V)):Prop:=∀(k:Nat)(R:List V),T[k]?=some R→∀(i j:Nat)(r:V),R[i]?=some r→R[j]?=some r→i=j
theorem RD.inj_both(ok:dI T):(∀v u d n m,V.dat c h k v n=true→V.dat c h k u m=true→RD T v d→RD T u d→v=u)∧
 ∀l us ds n m,V.datL c h k l n=true→V.datL c h k us m=true→i7 T l ds→i7 T us ds→l=us:=by
 have off:∀{i:Int}{k' j:Nat}{r:V}{n m:Nat},V.dat c h k (.int i) n=true→V.dat c h k (.id k' r) m=true→i=(j:Int)→At T k' j r→False:=λ{i k' j r n m} p q e a=>by have c1:=(aa q).1;subst c1;have:i<16:=PI p;have:=a.1;omega
 refine V.ind (λu d n m p q r r'=>?_) (λb u d n m p=>ak p) (λi u d n m p q r r'=>?_) (λs u d n m p q r r'=>?_) (λl ih u d n m p q r r'=>?_) (λl ih u d n m p q r r'=>?_) (λY u d n m p=>ak p) (λk' t Y u d n m p q r r'=>?_) (λc i u d n m p=>ak p) (λus ds n m p q r r'=>?_) (λv l ih ihs us ds n m p q r r'=>?_)
 ·subst r;induction u using V.casesOn<;>first|rfl|(obtain⟨_,r',_⟩:=r'; cases r'; done)|(cases r'; done)
 ·subst r;induction u using V.casesOn with
  |int j=>cases r'; rfl
  |id k' t=>obtain⟨j,e,a⟩:=r'; exact(off p q (by injection e) a).elim
  |_=>first|(obtain⟨_,r',_⟩:=r'; cases r'; done)|(cases r'; done)
 ·obtain⟨y,rfl,e⟩:=r;cases u with
  |str t=>obtain⟨z,e',e2⟩:=r'; cases e'; rw[← e,← e2]
  |_=>first|(obtain⟨_,r',_⟩:=r'; cases r'; done)|(cases r'; done)
 ·obtain⟨ds,rfl,e⟩:=r;induction u using V.casesOn with
  |tp t=>
   obtain⟨z,e',e2⟩:=r'; cases e';cases n with
   |zero=>exact ak p
   |succ n=>cases m with
    |zero=>exact ak q
    |succ m=>rw[ih _ _ _ _ p q e e2]
  |_=>first|(obtain⟨_,r',_⟩:=r'; cases r'; done)|(cases r'; done)
 ·obtain⟨ds,rfl,e⟩:=r;induction u using V.casesOn with
  |ls t=>
   obtain⟨z,e',e2⟩:=r'; cases e';cases n with
   |zero=>cases (aa p).2
   |succ n=>cases m with
    |zero=>cases (aa q).2
    |succ m=>rw[ih _ _ _ _ (aa p).2 (aa q).2 e e2]
  |_=>first|(obtain⟨_,r',_⟩:=r'; cases r'; done)|(cases r'; done)
 ·obtain⟨i,rfl,a⟩:=r;induction u using V.casesOn with
  |int j=>cases r'; exact(off q p rfl a).elim
  |id k2 t2=>
   obtain⟨j,e,a2⟩:=r';have e:i=j:=by injection e with e;exact Int.ofNat.inj e
   subst e;have h1:k'=k:=PJ (aa p).2;have h2:k2=k:=PJ (aa q).2;subst h1 h2;obtain⟨_,R,x1,x2⟩:=a;obtain⟨_,R',y1,y2⟩:=a2;rw[x1]at y1;replace y1:=PG y1;subst y1;rw[x2]at y2;replace y2:=PG y2;subst y2;rfl
  |_=>first|(obtain⟨_,r',_⟩:=r'; cases r'; done)|(cases r'; done)
 ·subst r;cases us with
  |nil=>rfl
  |cons _ _=>obtain⟨_,_,e,_⟩:=r'; cases e
 ·obtain⟨d,ds,rfl,r1,r2⟩:=r;cases us with
  |nil=>cases r'
  |cons u us=>obtain⟨_,_,e,r3,r4⟩:=r';cases e;rw[ih _ _ _ _ (aa p).1 (aa q).1 r1 r3,ihs _ _ _ _ (aa p).2 (aa q).2 r2 r4]
theorem RD.fun_both(ok:dI T):(∀v d e,RD T v d→RD T v e→d=e)∧∀l ds es,i7 T l ds→i7 T l es→ds=es:=by
 refine V.ind (λd e r r'=>?_) (λb d e r=>r.elim) (λi d e r r'=>?_) (λs d e r r'=>?_) (λl ih d e r r'=>?_) (λl ih d e r r'=>?_) (λY d e r=>r.elim) (λk t Y d e r r'=>?_) (λc i d e r=>r.elim) (λd e r r'=>?_) (λv l ih ihs d e r r'=>?_)
 ·exact Eq.trans r (Eq.symm r')
 ·exact Eq.trans r (Eq.symm r')
 ·obtain⟨y,rfl,e1⟩:=r;obtain⟨z,rfl,e2⟩:=r';rw[sO (e1.trans e2.symm)]
 ·obtain⟨y,rfl,e1⟩:=r;obtain⟨z,rfl,e2⟩:=r';rw[ih _ _ e1 e2]
 ·obtain⟨y,rfl,e1⟩:=r;obtain⟨z,rfl,e2⟩:=r';rw[ih _ _ e1 e2]
 ·obtain⟨i,rfl,_,R,x1,x2⟩:=r;obtain⟨j,rfl,_,R',y1,y2⟩:=r';rw[x1]at y1;replace y1:=PG y1;subst y1;rw[ok _ _ x1 _ _ _ x2 y2]
 ·exact Eq.trans r (Eq.symm r')
 ·obtain⟨a,as,rfl,p,q⟩:=r;obtain⟨b,bs,rfl,p',q'⟩:=r';rw[ih _ _ p p',ihs _ _ q q']
theorem nc(ok:dI T)(p:V.dat c h k v n=true)(q:V.dat c h k u m=true)(r:RD T v d)(r':RD T u e):decide (d=e)=V.beq v u:=by rw[P7,Qp,zh];exact⟨λz=>(RD.inj_both ok).1 _ _ _ _ _ p q r (z▸r'),λz=>(RD.fun_both ok).1 _ _ _ r (z▸r')⟩
noncomputable def dU(w:Addr→Option fL)(a:Addr)(r:Option fL):Addr→Option fL:=λb=>if b=a then r else w b
theorem ed{w:Addr→Option fL}:dU w a r a=r:=Qx rfl
theorem jJ{w:Addr→Option fL}{a b:Addr}(h:b≠a):dU w a r b=w b:=Qv h
noncomputable abbrev Cf.to(x:Cf)(s:Shared):Cf:={x with s:=s}
noncomputable abbrev Cf.pay(x:Cf)(c:Nat)(s:Shared):Cf:={x with S:={x.S with c:=c},s:=s}
noncomputable abbrev Cf.put(x:Cf)(i:Nat)(o:O)(s:Shared):Cf:={x with S:=x.S.set i o,s:=s}
noncomputable abbrev Cf.add(x:Cf)(o:O)(a:Addr)(s:Shared):Cf:={x with S:=x.S.new o,ρ:=x.ρ++[a],w:=dU x.w a (some (.obj x.S.h.length)),s:=s}
def nA(G:GE)(x:Cf)(p:V×V)(q:D×Value):Prop:=RD x.T p.1 q.1∧RV G x p.2 q.2∧∀y,q.1=.str y→PyData.strOk y=true∧y.cps.toList.length≤aD
def OR(G:GE)(x:Cf)(o:O)(a:Addr):Prop:=match o with
 |.list l=>∃xs,aN x.h a xs∧l.length≤aD∧aw (RV G x) l xs
 |.dict l=>∃m,x.h.DictOf (cD G.prog G.w) a m∧l.length≤aD∧aw (nA G x) l m
 |.gone=>True
def sS(T:List (List V))(R:List V)(m:List (D×Addr×Value)):Prop:=m.length=R.length∧∀(n:Nat)(r:V),R[n]?=some r→∃d a t,m[n]?=some (d,a,.int n t)∧RD T r d
structure TR (G:GE) (x:Cf) (k:Nat) (R:List V) (t:TA):Prop where
 inst:∃d es n,x.h.get? t.inst=some ⟨.ref G.CT,some d,.plain,#[]⟩∧x.h.get? d=some (PySem.W.dictOf es n)∧(x.w t.inst=some .pr∧x.w d=some .pr)∧getL "rows" es=some (some (.ref t.rws))∧getL "index" es=some (some (.ref t.idx))∧getL "put" es=some none
 rows:∃xs,aN x.h t.rws xs∧aw (RV G x) R xs
 index:∃m,x.h.DictOfH (dB G.prog G.w) t.idx m∧sS x.T R m
 roles:x.w t.rws=some (.rws k)∧x.w t.idx=some (.idx k)
 first:R.take 16=ax
 rowok:∀r∈R,fS k r=true
def pW(T:List (List V))(p:List V×List V):Prop:=∃is js:List Int,i7 T p.1 (is.map D.int)∧i7 T p.2 (js.map D.int)∧p.2.Perm p.1∧js.Perm is∧js.Pairwise (·≤·)
structure av (G:GE) (x:Cf):Prop where
 base:∀b o,G.base.get? b=some o→x.h.get? b=some o
 free:∀b o,G.base.get? b=some o→x.w b=none
 sys:∃o,G.base.get? sysModules=some o
 live:∀a r,x.w a=some r→∃o,x.h.get? a=some o∧o.cls≠.type "tuple"
 ρlen:x.ρ.length=x.S.h.length
 obj:∀(i:Nat) o a,x.S.h[i]?=some o→x.ρ[i]?=some a→OR G x o a∧(o≠.gone→x.w a=some (.obj i))
 τlen:x.τ.length=x.T.length
 tab:∀(k:Nat) R t,x.T[k]?=some R→x.τ[k]?=some t→TR G x k R t
 ok:dI x.T
 n:x.S.n=x.T.length
 room:cA x.T+x.S.c≤aD
 late:x.S.late=true→∀r∈dM (x.S.n-1),∃i,At x.T (x.S.n-1) i r
 ord:∀p∈x.S.o,pW x.T p
structure Nx (G:GE) (W:List Addr) (x y:Cf):Prop where
 le:Le W x y
 inv:av G y
section
variable{x:Cf}
theorem av.refl(I:av G x):Nx G W x x:=⟨.refl,I⟩
theorem Nx.trans(p:Nx G W x y)(q:Nx G W y z):Nx G W x z:=⟨p.le.trans q.le,q.inv⟩
theorem Nx.up(p:Nx G [] x y):Nx G W x y:=⟨p.le.up,p.inv⟩
theorem av.fresh(I:av G x)(h:x.h.get? a=none):x.w a=none:=by
 cases e:x.w a with
 |none=>rfl
 |some r=>refine X2 (I.live a r e) λo q z=>?_;rw[h]at q;exact ah q
theorem av.tp(I:av G x)(h:aK x.h a xs):x.w a=none:=by
 cases e:x.w a with
 |none=>rfl
 |some r=>refine X2 (I.live a r e) λo q n=>?_;unfold aK at h;rw[h]at q;replace q:=PG q;subst q;exact absurd rfl n
theorem av.sysne(I:av G x)(h:x.w a=some r):(a==sysModules)=false:=by refine R5.mpr λz=>?_;refine X1 I.sys λo e=>?_;rw[z,I.free _ _ e]at h;exact ah h
theorem RV.nx(n:Nx G [] x y)(I:av G x)(h:RV G x v u):RV G y v u:=h.mono n.le.toLm .nil
theorem bP.nx(n:Nx G [] x y)(I:av G x)(h:aw (RV G x) v u):aw (RV G y) v u:=h.imp λz z=>RV.nx n I
theorem pq(p:Lf W x y)(w:eV G W x)(h:aw (RV G x) l us):(∀v∈l,V.free v=true)→aw (RV G y) l us:=by
 induction h with
 |nil=>exact λz=>.nil
 |cons a _ ih=>exact λf=>.cons (a.freed p w (f _ mh)) (ih λv hv=>f v (mt hv))
theorem Ao(h:fS k r=true):V.free r=true:=by
 induction r using V.casesOn with
 |tp l=>
  induction l using List.casesOn with
  |nil=>exact ak h
  |cons c l=>
   induction c using V.casesOn with
   |int c=>
    replace h:(match decide (c=3)||decide (c=4)with|true=>V.datL false true k l 5|false=>decide (c<16)&&V.datL true true k l 5)=true:=h;show V.freeL l=true;cases q:decide (c=3)||decide (c=4)with
    |true=>rw[q]at h;exact ye.2 _ _ h
    |false=>rw[q]at h;exact ye.2 _ _ (aa h).2
   |_=>exact ak h
 |_=>exact ak h
theorem OR.mono(p:Lm W x y)(w:eV G W x){o:O}(e:o≠.gone→y.h.get? a=x.h.get? a)(r:OR G x o a):OR G y o a:=by
 cases o with
 |list l=>obtain⟨xs,⟨n,h1⟩,h2,h3⟩:=r;exact eJ xs ⟨n,(e λh=>nomatch h).trans h1⟩ h2 (h3.imp (λz z=>RV.mono p w))
 |dict l=>obtain⟨m,⟨o,es,ep,h0,h1⟩,h2,h3⟩:=r;exact eJ m ⟨o,es,ep,(e λh=>nomatch h).trans h0,h1⟩ h2 (h3.imp λp' q h=>⟨h.1.mono p.T,RV.mono p w h.2.1,h.2.2⟩)
 |gone=>trivial
theorem sS.mono(p:Tm x y)(h:sS x.T R m):sS y.T R m:=⟨h.1,λn r e=>(h.2 n r e).imp λd h=>h.imp λa h=>h.imp λt h=>⟨h.1,h.2.mono p⟩⟩
theorem TR.mono(I:av G x)(p:Lf W x y)(w:eV G W x){t:TA}(e1:y.h.get? t.rws=x.h.get? t.rws)(e2:y.h.get? t.idx=x.h.get? t.idx)(e3:y.w t.rws=x.w t.rws)(e4:y.w t.idx=x.w t.idx)(r:TR G x k R t):TR G y k R t where
 inst:=by refine J4 r.inst λd es n h1 h2 h3 h4=>?_;exact BC d es n ((p.pr _ _ h1 h3.1).1) ((p.pr _ _ h2 h3.2).1) ⟨(p.pr _ _ h1 h3.1).2,(p.pr _ _ h2 h3.2).2⟩ h4
 rows:=by obtain⟨xs,⟨n,h1⟩,h2⟩:=r.rows;exact aB xs ⟨n,e1.trans h1⟩ (pq p w h2 λv hv=>Ao (r.rowok v hv))
 index:=by obtain⟨m,⟨o,es,ep,h0,h1,h2,h3,h4,h5⟩,h6⟩:=r.index;refine aB m ⟨o,es,ep,e2.trans h0,h1,h2,h3,λq hq=>⟨(h4 q hq).1,?_⟩,h5⟩ (h6.mono p.T);exact(DV.keepH λb xs e=>(p.tp w e (I.tp e)).1).1 _ _ 6 (h4 q hq).1 (h4 q hq).2
 roles:=⟨e3.trans r.roles.1,e4.trans r.roles.2⟩
 first:=r.first
 rowok:=r.rowok
theorem av.go(I:av G x)(p:Lm W x y)(w:eV G W x)(room:cA y.T+y.S.c≤aD) (alive:∀a r,y.w a=some r→∃o,y.h.get? a=some o∧o.cls≠.type "tuple")
 (ρlen:y.ρ.length=y.S.h.length) (obj:∀(i:Nat) o a,y.S.h[i]?=some o→y.ρ[i]?=some a→(x.S.h[i]?=some o∧x.ρ[i]?=some a∧(o≠.gone→y.h.get? a=x.h.get? a∧y.w a=x.w a))∨(OR G y o a∧(o≠.gone→y.w a=some (.obj i))))
 (τlen:y.τ.length=y.T.length) (tab:∀(k:Nat) R t,y.T[k]?=some R→y.τ[k]?=some t→(x.T[k]?=some R∧x.τ[k]?=some t∧∀b,b=t.rws∨b=t.idx→y.h.get? b=x.h.get? b∧y.w b=x.w b)∨TR G y k R t)
 (ok:dI y.T) (n:y.S.n=y.T.length) (late:y.S.late=true→x.S.late=true∧y.S.n=x.S.n∨∀r∈dM (y.S.n-1),∃i,At y.T (y.S.n-1) i r) (ord:∀p∈y.S.o,p∈x.S.o∨pW y.T p):av G y:=by
 have kb:∀b o,G.base.get? b=some o→y.h.get? b=some o∧y.w b=none:=λb o e=>p.keep b o (I.base b o e) (I.free b o e) λz=>by have:=(w.no b z).2;rw[e]at this;exact qE this
 refine⟨λb o e=>(kb b o e).1,λb o e=>(kb b o e).2,I.sys,alive,ρlen,λi o a h1 h2=>?_,τlen,λk R t h1 h2=>?_,ok,n,room,λh=>?_,λq hq=>(ord q hq).elim (λh=>(I.ord q h).imp λis h=>h.imp λjs h=>⟨(RD.mono_both p.T).2 _ _ h.1,(RD.mono_both p.T).2 _ _ h.2.1,h.2.2⟩) id⟩
 ·rcases obj i o a h1 h2 with⟨q1,q2,q3⟩|q
  ·exact⟨(I.obj i o a q1 q2).1.mono p w λz=>(q3 z).1,λz=>(q3 z).2.trans ((I.obj i o a q1 q2).2 z)⟩
  ·exact q
 ·rcases tab k R t h1 h2 with⟨q1,q2,q3⟩|q
  ·exact(I.tab k R t q1 q2).mono I p.toLf w (q3 _ (.inl rfl)).1 (q3 _ (.inr rfl)).1 (q3 _ (.inl rfl)).2 (q3 _ (.inr rfl)).2
  ·exact q
 ·rcases late h with⟨q1,q2⟩|q
  ·rw[q2];exact λr hr=>(I.late q1 r hr).imp λi h=>h.mono p.T
  ·exact q
theorem av.quiet(I:av G x)(w:eV G W x){s':Shared}{c:Nat}(hc:c≤x.S.c)(k:∀b o,x.h.get? b=some o→b∉W→s'.heap.get? b=some o)(g:s'.gens=x.s.gens)(o:s'.os=x.s.os):Nx G W x (x.pay c s'):=by
 have own:∀a r,x.w a=some r→∃o,x.h.get? a=some o∧o.cls≠.type "tuple"∧s'.heap.get? a=some o:=λa r h=>(I.live a r h).imp λo q=>⟨q.1,q.2,k a o q.1 λz=>(by rw[(w.no a z).1]at h;exact ah h)⟩
 have L:Le W x (x.pay c s'):=⟨⟨⟨λk R e=>⟨[],by rw[Qy];exact e⟩,λy y e=>e,λb o e n q=>⟨k b o e q,n⟩,λb o e n=>⟨k b o e λz=>(by rw[(w.no b z).1]at n;exact ah n),n⟩⟩,λy y e=>e⟩,λb o e n=>⟨k b o e λz=>(by rw[(w.no b z).1]at n;exact ah n),n⟩,QB hc _,g,o⟩
 refine⟨L,I.go L.toLm w (PM L.cost I.room) (λa r h=>(own a r h).imp λo q=>⟨q.2.2,q.2.1⟩) I.ρlen (λi o a h1 h2=>.inl ⟨h1,h2,λz=>⟨?_,rfl⟩⟩) I.τlen (λk' R t h1 h2=>.inl ⟨h1,h2,λb hb=>⟨?_,rfl⟩⟩) I.ok I.n (λh=>.inl ⟨h,rfl⟩) λy h=>.inl h⟩
 ·refine X3 (own a _ ((I.obj i o a h1 h2).2 z)) λo q1 q2 q3=>?_;rw[q1];exact q3
 ·have r:=(I.tab k' R t h1 h2).roles;have:∃r,x.w b=some r:=hb.elim (λe=>e▸⟨_,r.1⟩) λe=>e▸⟨_,r.2⟩;refine X1 this λr hr=>?_;refine X3 (own b r hr) λo q1 q2 q3=>?_;rw[q1];exact q3
theorem av.kept(I:av G x){s':Shared}(k:∀b o,x.h.get? b=some o→s'.heap.get? b=some o)(g:s'.gens=x.s.gens)(o:s'.os=x.s.os):Nx G W x (x.to s'):=(I.quiet (W:=[]) .nil (Qi _) (λb o e z=>k b o e) g o).up
theorem av.toks(I:av G x)(tk:Tok):Nx G W x (x.to {x.s with toks:=tk}):=I.kept (λz z e=>e) rfl rfl
theorem av.upd(I:av G x){s':Shared}(hi:x.S.h[i]?=some o)(hg:o≠.gone)(ha:x.ρ[i]?=some a)(hs:Heap.SameBut a x.h s'.heap)(g:s'.gens=x.s.gens)(os:s'.os=x.s.os)
 (live:∃ob,s'.heap.get? a=some ob∧ob.cls≠.type "tuple") (h:Le [] x (x.put i o' s')→OR G (x.put i o' s') o' a):Nx G W x (x.put i o' s'):=by
 have wa:=(I.obj i o a hi ha).2 hg;have ne:∀b,x.w b≠some (.obj i)→b≠a:=λb h z=>h (z▸wa);have L:Le [] x (x.put i o' s'):=⟨⟨⟨λk R e=>⟨[],by rw[Qy];exact e⟩,λY Y e=>e,λb o e n Y=>⟨(hs.2 b (ne b λz=>(by rw[n]at z;exact ah z))).trans e,n⟩,λb o e n=>⟨(hs.2 b (ne b λz=>(by rw[n]at z;cases z))).trans e,n⟩⟩,λY Y e=>e⟩,λb o e n=>⟨(hs.2 b (ne b λz=>(by rw[n]at z;cases z))).trans e,n⟩,Qi _,g,os⟩
 refine Nx.up ⟨L,I.go (y:=(x.put i o' s')) L.toLm .nil I.room (λb r h=>?_) (I.ρlen.trans (RY ..).symm) (λj oj b h1 h2=>?_) I.τlen (λk' R t h1 h2=>.inl ⟨h1,h2,λb hb=>⟨hs.2 b (ne b λz=>?_),rfl⟩⟩) I.ok I.n (λh=>.inl ⟨h,rfl⟩) λY h=>.inl h⟩
 ·by_cases q:b=a
  ·rw[q];exact live
  ·exact(I.live b r h).imp λo e=>⟨(hs.2 b q).trans e.1,e.2⟩
 ·have h1:(x.S.h.set i o')[j]?=some oj:=h1;by_cases q:i=j
  ·subst q;rw[QO (PO.mp hi).1]at h1;replace h1:=PG h1;subst h1;have:b=a:=PG (h2.symm.trans ha);subst this;exact .inr ⟨h L,λY=>wa⟩
  ·rw[Ry q]at h1;refine .inl ⟨h1,h2,λz=>⟨hs.2 b (ne b λz'=>q ?_),rfl⟩⟩;have:=(I.obj j oj b h1 h2).2 z;rw[z']at this;cases this;rfl
 ·have r:=(I.tab k' R t h1 h2).roles;rcases hb with rfl|rfl
  ·rw[r.1]at z;cases z
  ·rw[r.2]at z;cases z
noncomputable abbrev Cf.own(x:Cf)(a:Addr)(r:Option fL)(h:List O)(ρ:List Addr)(s:Shared):Cf:={x with S:={x.S with h:=h},ρ:=ρ,w:=dU x.w a r,s:=s}
theorem Nx.own{r:Option fL}{h:List O}{ρ:List Addr}{s':Shared}(hf:x.h.get? a=none)(n:Nx G W x z)(hz:z.w a=some .hid∨z.h.get? a=none)(k:∀b o,b≠a→z.h.get? b=some o→s'.heap.get? b=some o)(g:s'.gens=z.s.gens)(os:s'.os=z.s.os)
 (live:r≠none→∃ob,s'.heap.get? a=some ob∧ob.cls≠.type "tuple") (hρ:∀(i:Nat) b,z.ρ[i]?=some b→ρ[i]?=some b) (len:ρ.length=h.length)
 (obj:Lm [] z (z.own a r h ρ s')→∀(i:Nat) o b,h[i]?=some o→ρ[i]?=some b→(z.S.h[i]?=some o∧z.ρ[i]?=some b)∨OR G (z.own a r h ρ s') o b∧dU z.w a r b=some (.obj i)):Nx G W x (z.own a r h ρ s')∧Lm [] z (z.own a r h ρ s'):=by
 have I:=n.inv;have old:∀b q,z.w b=q→q≠some .hid→(∃o,z.h.get? b=some o)→b≠a:=λb q e nq ex z'=>hz.elim (λh=>nq (e▸z'▸h)) λh=>(by rw[z',h]at ex;exact ex.elim λo e=>ah e)
 have keep:∀b o q,z.h.get? b=some o→z.w b=q→q≠some .hid→s'.heap.get? b=some o∧dU z.w a r b=q:=λb o q e w' nq=>⟨k b o (old b q w' nq ⟨o,e⟩) e,(jJ (old b q w' nq ⟨o,e⟩)).trans w'⟩
 have L:Lm [] z (z.own a r h ρ s'):=⟨⟨λk R e=>⟨[],by rw[Qy];exact e⟩,λY Y e=>e,λb o e w' Y=>keep b o _ e w' λz=>(ah z),λb o e w'=>keep b o _ e w' λz=>(nomatch z)⟩,hρ⟩
 have same:∀b q,z.w b=some q→q≠.hid→s'.heap.get? b=z.h.get? b∧dU z.w a r b=z.w b:=λb q e nq=>by refine X2 (I.live b q e) λo eo Y=>?_;have:=keep b o _ eo e λz=>nq (PG z);exact⟨by rw[eo];exact this.1,by rw[e];exact this.2⟩
 refine⟨⟨⟨n.le.toLm.trans L.up,λb o e w'=>?_,n.le.cost,g.trans n.le.gens,os.trans n.le.os⟩,I.go (y:=z.own a r h ρ s') L .nil I.room (λb q e=>?_) len (λi o b h1 h2=>?_) I.τlen (λk' R t h1 h2=>.inl ⟨h1,h2,λb hb=>?_⟩) I.ok I.n (λh=>.inl ⟨h,rfl⟩) λY h=>.inl h⟩,L⟩
 ·have q:=n.le.hid b o e w';have ne:b≠a:=λz=>by rw[z,hf]at e;exact ah e
  exact⟨k b o ne q.1,(jJ ne).trans q.2⟩
 ·by_cases q':b=a
  ·rw[q'];have e:r=some q:=(ed (w:=z.w) (a:=a)).symm.trans (q'▸e);exact live λz=>by rw[z]at e;exact ah e
  ·have e:z.w b=some q:=(jJ q').symm.trans e;refine X2 (I.live b q e) λo eo c=>?_;exact aB o (k b o q' eo) c
 ·rcases obj L i o b h1 h2 with⟨q1,q2⟩|q
  ·exact .inl ⟨q1,q2,λnz=>same b _ ((I.obj i o b q1 q2).2 nz) λz=>(nomatch z)⟩
  ·exact .inr ⟨q.1,λY=>q.2⟩
 ·have r:=(I.tab k' R t h1 h2).roles;rcases hb with rfl|rfl
  ·exact same _ _ r.1 λz=>(nomatch z)
  ·exact same _ _ r.2 λz=>(nomatch z)
theorem Nx.adopt{s':Shared}(hf:x.h.get? a=none)(n:Nx G W x z)(hz:z.w a=some .hid∨z.h.get? a=none)(k:∀b o,b≠a→z.h.get? b=some o→s'.heap.get? b=some o)(g:s'.gens=z.s.gens)(os:s'.os=z.s.os)
 (live:∃ob,s'.heap.get? a=some ob∧ob.cls≠.type "tuple") (h:Lm [] z (z.add o a s')→OR G (z.add o a s') o a):Nx G W x (z.add o a s')∧Lm [] z (z.add o a s'):=
 Nx.own hf n hz k g os (λy=>live) (λi b e=>(Qq (PO.mp e).1).trans e) (by rw[PX,PX,n.inv.ρlen];rfl) λL j oj b h1 h2=>by
  by_cases q:j<z.S.h.length
  ·rw[Qq q]at h1;rw[Qq (n.inv.ρlen▸q)]at h2;exact .inl ⟨h1,h2⟩
  ·have e:j=z.S.h.length:=by
    have:=(PO.mp h1).1;rw[PX]at this;exact le_antisymm (Nat.le_of_lt_succ this) (Ro q)
   subst e;rw[QI]at h1;rw[← n.inv.ρlen,QI]at h2;replace h1:=PG h1;subst h1;replace h2:=PG h2;subst h2;exact .inr ⟨h L,ed⟩
theorem Nx.role(r:Option fL){s':Shared}(hf:x.h.get? a=none)(n:Nx G W x z)(hz:z.w a=some .hid∨z.h.get? a=none)(k:∀b o,b≠a→z.h.get? b=some o→s'.heap.get? b=some o)(g:s'.gens=z.s.gens)(os:s'.os=z.s.os)
 (live:r≠none→∃ob,s'.heap.get? a=some ob∧ob.cls≠.type "tuple"):Nx G W x {z with w:=dU z.w a r,s:=s'}∧Lm [] z {z with w:=dU z.w a r,s:=s'}:=
 Nx.own hf n hz k g os live (λy y e=>e) n.inv.ρlen λy y y y h1 h2=>.inl ⟨h1,h2⟩
theorem av.new(I:av G x){s':Shared}(hf:x.h.get? a=none)(k:∀b o,x.h.get? b=some o→s'.heap.get? b=some o)(g:s'.gens=x.s.gens)(os:s'.os=x.s.os)
 (live:∃ob,s'.heap.get? a=some ob∧ob.cls≠.type "tuple") (h:Lm [] x (x.add o a s')→OR G (x.add o a s') o a):Nx G [] x (x.add o a s'):=
 (Nx.adopt hf I.refl (.inr hf) (λb o z=>k b o) g os live h).1
end
theorem aN.isList(x:aN h a xs):h.IsList a xs.toArray:=x.elim λn e=>⟨_,e,rfl,n,rfl⟩
theorem aK.isTup(x:aK h a xs):IsTup h a xs.toArray:=⟨_,x,rfl,0,rfl⟩
theorem aK.isTuple(x:aK h a xs):h.IsTuple a xs.toArray:=⟨_,x,rfl,0,rfl⟩
theorem iR{n:Nat}(h:n≤aD):(n:Int)<2 ^ 63:=Int.lt_of_le_of_lt (Int.ofNat_le.mpr h) (by decide)
theorem bB{n:Nat}(h:n≤aD):n≤sizeLine:=PM h (ag rfl)
theorem jP{α β:Type}{l:List α}{m:List β}(h:l.length=m.length):l.isEmpty=m.isEmpty:=by cases l<;>cases m<;>first|rfl|cases h
section
variable{x:Cf}{A:Around}{E:VS}{w:Value}{l:List V}
theorem E9{i:Nat}(h:bI x.S v=some (i,l)):v=.hd .ref i∧x.S.h[i]?=some (.list l):=by
 unfold bI at h;induction v using V.casesOn with
 |hd c j=>
  induction c using H.casesOn with
  |ref=>
   show _∧_;have h:(match x.S.h[j]? with|some (.list l)=>some (j,l)|_=>none)=some (i,l):=h;split at h
   ·rename_i q;cases h;exact⟨rfl,q⟩
   ·exact ah h
  |_=>exact ah h
 |_=>exact ah h
theorem Eh{i:Nat}{l:List (V×V)}(h:dictAt x.S v=some (i,l)):v=.hd .ref i∧x.S.h[i]?=some (.dict l):=by
 unfold dictAt at h;induction v using V.casesOn with
 |hd c j=>
  induction c using H.casesOn with
  |ref=>
   have h:(match x.S.h[j]? with|some (.dict l)=>some (j,l)|_=>none)=some (i,l):=h;split at h
   ·rename_i q;cases h;exact⟨rfl,q⟩
   ·exact ah h
  |_=>exact ah h
 |_=>exact ah h
theorem Fo(h:bT x.S v=some l):v=.ls l∨∃i,v=.hd .ref i∧x.S.h[i]?=some (.list l):=by
 induction v using V.casesOn with
 |ls m=>replace h:=PG h;subst h;exact .inl rfl
 |hd c j=>
  induction c using H.casesOn with
  |ref=>
   have h:(match x.S.h[j]? with|some (.list l)=>some l|_=>none)=some l:=h;split at h
   ·rename_i q;replace h:=PG h;subst h;exact .inr ⟨_,rfl,q⟩
   ·exact ah h
  |_=>exact ah h
 |_=>exact ah h
theorem Dd(h:bu x.S v=some l):v=.tp l∨bT x.S v=some l:=by
 unfold bu at h;cases e:v.asTup with
 |some m=>rw[e]at h;replace h:=PG h;subst h;exact .inl (jV e)
 |none=>rw[e]at h;exact .inr h
theorem av.ref(I:av G x)(r:RV G x (.hd .ref i) u)(e:x.S.h[i]?=some o)(hg:o≠.gone):∃a,u=.ref a∧x.ρ[i]?=some a∧OR G x o a∧x.w a=some (.obj i):=by refine X2 r λa h1 h2=>?_;have q:=I.obj i o a e h2;exact jh a h1 h2 q.1 (q.2 hg)
theorem av.ls{C:Prop}(I:av G x)(r:RV G x v u)(h:bT x.S v=some l)(k:∀a xs,u=.ref a→aN x.h a xs→l.length≤aD→aw (RV G x) l xs→C):C:=by
 rcases Fo h with rfl|⟨i,rfl,e⟩
 ·refine Y5 r λa xs h1 h2 _ h4 h5=>?_;exact k a xs h1 h2 h4 (bP.all h5)
 ·obtain⟨a,h1,_,⟨xs,h2,h3,h4⟩,_⟩:=I.ref r e λh=>nomatch h;exact k a xs h1 h2 h3 h4
theorem RV.tp{C:Prop}(r:RV G x (.tp l) u)(k:∀a xs,u=.ref a→aK x.h a xs→x.w a=none→l.length≤aD→aw (RV G x) l xs→C):C:=by refine Y5 r λa xs h1 h2 h3 h4 h5=>?_;exact k a xs h1 h2 h3 h4 (bP.all h5)
theorem av.list{C:Prop}(I:av G x)(r:RV G x v u)(h:bu x.S v=some l)(kt:∀a xs,v=.tp l→u=.ref a→aK x.h a xs→l.length≤aD→aw (RV G x) l xs→C)(kl:∀a xs,u=.ref a→aN x.h a xs→l.length≤aD→aw (RV G x) l xs→C):C:=by
 rcases Dd h with rfl|h
 ·exact r.tp λa xs h1 h2 z=>kt a xs rfl h1 h2
 ·exact I.ls r h kl
theorem av.dict{C:Prop}(I:av G x){i:Nat}{l:List (V×V)}(r:RV G x v u)(h:dictAt x.S v=some (i,l))(k:∀a m,v=.hd .ref i→u=.ref a→x.S.h[i]?=some (.dict l)→x.ρ[i]?=some a→x.h.DictOf (cD G.prog G.w) a m→l.length≤aD→aw (nA G x) l m→(a==sysModules)=false→C):C:=by refine U2 (Eh h) λe1 e2=>?_;subst e1;obtain⟨a,h1,h2,⟨m,h3,h4,h5⟩,h6⟩:=I.ref r e2 λh=>nomatch h;exact k a m rfl h1 e2 h2 h3 h4 h5 (I.sysne h6)
theorem av.own{C:Prop}(I:av G x){i:Nat}(r:RV G x v u)(h:bI x.S v=some (i,l))(k:∀a xs,v=.hd .ref i→u=.ref a→x.S.h[i]?=some (.list l)→x.ρ[i]?=some a→aN x.h a xs→l.length≤aD→aw (RV G x) l xs→C):C:=by refine U2 (E9 h) λe1 e2=>?_;subst e1;obtain⟨a,h1,h2,⟨xs,h3,h4,h5⟩,h6⟩:=I.ref r e2 λh=>nomatch h;exact k a xs rfl h1 e2 h2 h3 h4 h5
theorem kQ(I:av G x){K:Bool→Prop}{Q:BS}(r:RV G x v u)(h:aq pA (truthy x.S v) K)(q:∀b tk,K b→Q b {x.s with toks:=tk}):WG G A (PySem.truthy u) Q E x.s:=by
 have seq:∀{l},bu x.S v=some l→K (!l.isEmpty)→WG G A (PySem.truthy u) Q E x.s:=λ{l} hl h=>I.list r hl
  (λa xs _ e ha z r=>e▸truthy_tuple ha.isTup (by rw[P9,← r.len];exact iR z) (by rw[List.isEmpty_toArray,← jP r.len];exact q _ _ h))
  (λa xs e ha z r=>e▸wpAny_truthy_list ha.isList (by rw[P9,← r.len];exact iR z) (by rw[List.isEmpty_toArray,← jP r.len];exact q _ _ h))
 have gen:aq pA ((bu x.S v).map (!·.isEmpty)) K→WG G A (PySem.truthy u) Q E x.s:=λh=>cR h λl hl h=>seq hl h;induction v using V.casesOn with
 |nul=>subst r;exact truthy_none (q _ x.s.toks h)
 |bool b=>subst r;exact QN (q _ x.s.toks h)
 |int i=>obtain⟨t,rfl⟩:=r;refine PyProof.Rows.truthy_int ?_;rw[show(i != 0)=decide (i≠0)from(by rw[P7];simp)];exact q _ x.s.toks h
 |str s=>
  obtain⟨y,t,rfl,ec,z,ok⟩:=r;have hl:y.length=s.length:=by show y.cps.size=_;rw[← length_toList,ec]
  refine PySem.P.truthy_str (by rw[hl];exact Int.not_le.mpr (iR z)) ?_;rw[hl,show((s.length:Int) != 0)=!s.isEmpty by cases s with|nil=>rfl|cons=>exact bne_iff_ne.mpr λh=>nomatch h];exact q _ _ h
 |_=>exact gen h
theorem qB(I:av G x)(r:RV G x v u)(p:V.dat c h k (ar x.S v) n=true):∃d,RD x.T (ar x.S v) d∧DV x.h d u∧d.P.depth≤n:=by
 unfold ar at p ⊢;cases e:bT x.S v with
 |none=>rw[e]at p;refine X4 (RV.data_both.1 _ _ _ r p) λd h1 h2 h3 y=>?_;exact eJ d h1 h2 h3
 |some l=>
  rw[e]at p;exact I.ls r e λa xs e' ha z r=>by
   replace p:=aa p;cases n with
   |zero=>cases p.2
   |succ n=>refine X4 (RV.data_both.2 _ _ _ (bP.of r) p.2) λds h1 h2 h3 y=>?_;exact eJ (.ls ds) ⟨ds,rfl,h1⟩ ⟨a,xs,e',ha,h2⟩ (Rn h3)
theorem yc{l:List V}(h:iB k l m=true):∃c,V.datL c false k l 8=true∧V.datL c false k m 8=true:=by
 rcases QW.mp h with h|h
 ·exact⟨_,aa h⟩
 ·exact⟨_,aa h⟩
theorem jN(p:V.datL c h k [v] n=true):V.dat c h k v n=true:=(aa p).1
theorem Gz(I:av G x)(hu:A.units+64<cLine){f:Bool}{K:Bool→Prop}(ra:RV G x a ua)(rb:RV G x b ub)(h:aq pA (cq x.S a b) K)(q:∀b,K b→Q (.bool (f ^^ b)) x.s):WG G A (compareOp (match f with|false=>.Eq|true=>.NotEq) ua ub) Q E x.s:=by
 unfold cq at h;cases hd:iB (x.S.n-1) [ar x.S a] [ar x.S b]with
 |false=>rw[hd]at h;exact h.elim
 |true=>
  rw[hd]at h;refine X2 (yc hd) λc p1 p2=>?_;refine X3 (qB I ra (jN p1)) λd r1 v1 d1=>?_;refine X3 (qB I rb (jN p2)) λe r2 v2 d2=>?_;refine X1 (DV.reads_both.1 _ _ v1) λas ra'=>?_;refine X1 (DV.reads_both.1 _ _ v2) λbs rb'=>?_;have ev:PyData.eqv d.P e.P=V.beq (ar x.S a) (ar x.S b):=(tE d e).trans (nc I.ok (jN p1) (jN p2) r1 r2);cases f with
  |false=>exact SeqAt.compareEq_reads ra' rb' (DV.lay_both.1 _ _ v1) (DV.lay_both.1 _ _ v2) (Eu hu d1 rfl) (by rw[ev];have:=q _ h;rwa [false_xor]at this)
  |true=>exact SeqAt.compareNe_reads ra' rb' (DV.lay_both.1 _ _ v1) (DV.lay_both.1 _ _ v2) (Eu hu d1 rfl) (by rw[ev];have:=q _ h;rwa [true_xor]at this)
theorem EX(ok:dI x.T)(p:V.dat c false k v n=true)(r:RD x.T v d):∀{l:List V}{ds:List D},V.datL c false k l m=true→aw (RD x.T) l ds→((D.Ps ds).any λy=>PyData.eqv y d.P)=l.any λy=>V.beq y v:=by
 intro l;induction l with
 |nil=>exact @λz z h=>by cases h;rfl
 |cons y l ih_=>
  exact @λz q h=>by
   cases h with
   |@cons _ b _ m h t=>show(PyData.eqv b.P d.P||(D.Ps m).any λy=>PyData.eqv y d.P)=(V.beq y v||l.any λy=>V.beq y v);rw[tE,nc ok (aa q).1 p h r,ih_ (aa q).2 t]
theorem pE(p:D×Value)(m:List (D×Value))(d:D):valueAt (p::m) d=if p.1=d then some p.2 else valueAt m d:=by
 delta valueAt
 rw[List.find?_cons];by_cases h:p.1=d
 ·simp[h]
 ·simp[h]
theorem rX(p:V.key k v=true)(r:RV G x v u):∃d,RD x.T v d∧(cD G.prog G.w).is d u=true∧∀y,d=.str y→PyData.strOk y=true∧y.cps.toList.length≤aD:=by
 induction v using V.casesOn with
 |int i=>exact eJ (.int i) rfl (PL r) (λY e=>nomatch e)
 |str s=>refine Y4 r λy t e ec z ok=>?_;exact eJ (.str y) ⟨y,rfl,ec⟩ (PL ⟨t,e⟩) (λY e'=>by cases e'; exact⟨ok,ec▸z⟩)
 |id k' r'=>refine Y2 r λi t e h=>?_;exact eJ (.int i) ⟨i,rfl,h⟩ (PL ⟨t,e⟩) (λY e=>nomatch e)
 |nul=>exact ak p
 |bool _=>exact ak p
 |tp _=>exact ak p
 |ls _=>exact ak p
 |rng _=>exact ak p
 |hd _ _=>exact ak p
theorem tB(ok:dI x.T)(p:V.key k v=true)(r:RD x.T v d){l:List (V×V)}(h:aw (nA G x) l m):l.all (λp=>V.key k p.1)=true→
 (aC v l).isSome=(valueAt m d).isSome∧∀w,aC v l=some w→∃y,valueAt m d=some y∧RV G x w y:=by
 induction h with
 |nil=>exact λz=>⟨rfl,λz h=>ah h⟩
 |@cons a b l m h t ih=>
  intro q;refine U2 (aa q) λq1 q2=>?_;have e:decide (b.1=d)=V.beq a.1 v:=nc ok q1 p h.1 r;rw[pE];unfold aC;cases hb:V.beq a.1 v with
  |true=>rw[hb]at e;rw[Qx (PI e)];exact⟨rfl,λw hw=>by replace hw:=PG hw;subst hw;exact aB _ rfl h.2.1⟩
  |false=>rw[hb]at e;rw[Qv (QC e)];exact ih q2
theorem GQ(I:av G x)(hu:A.units+64<cLine){f:Bool}{K:Bool→Prop}(ra:RV G x a ua)(rb:RV G x b ub)(h:aq pA (bX x.S a b) K)(q:∀b tk,K b→Q (.bool (f ^^ b)) {x.s with toks:=tk}):WG G A (compareOp (match f with|false=>.In|true=>.NotIn) ua ub) Q E x.s:=by
 unfold bX at h;cases hl:bu x.S b with
 |some l=>
  replace h:aq pA (match iB (x.S.n-1) [a] l with|true=>some (l.any λy=>V.beq y a)|false=>none) K:=by rw[hl]at h;exact h
  cases hd:iB (x.S.n-1) [a] l with
  |false=>rw[hd]at h;exact h.elim
  |true=>
   rw[hd]at h;refine X2 (yc hd) λc p1 p2=>?_;refine X4 (RV.data_both.1 _ _ _ ra (jN p1)) λd r1 v1 d1 Y=>?_;refine X1 (DV.reads_both.1 _ _ v1) λas ra'=>?_;have q':=q _ x.s.toks h;refine I.list rb hl (λad xs Y e ha z r=>?_) (λad xs e ha z r=>?_);all_goals
    subst e;refine X4 (RV.data_both.2 _ _ _ (bP.of r) p2) λds r2 v2 d2 Y=>?_;have hc:=EX I.ok (jN p1) r1 p2 (i7.all r2);have hs:=DV.lay_both.2 _ _ v2
   ·obtain⟨bs,rb'⟩:∃bs,Reads x.h (.ref ad) (.tuple (D.Ps ds)) bs:=DV.reads_both.1 (.tp ds) _ ⟨ad,xs,rfl,ha,v2⟩;cases f with
    |false=>exact SeqAt.in_tuple_reads rb' ra' hs (DV.lay_both.1 _ _ v1) (Av hu d2 rfl) (by rw[hc];rwa [false_xor]at q')
    |true=>exact SeqAt.notIn_tuple_reads rb' ra' hs (DV.lay_both.1 _ _ v1) (Av hu d2 rfl) (by rw[hc];rwa [true_xor]at q')
   ·obtain⟨bs,rb'⟩:∃bs,Reads x.h (.ref ad) (.list (D.Ps ds)) bs:=DV.reads_both.1 (.ls ds) _ ⟨ad,xs,rfl,ha,v2⟩;cases f with
    |false=>exact SeqAt.in_list_reads rb' ra' hs (DV.lay_both.1 _ _ v1) (Av hu d2 rfl) (by rw[hc];rwa [false_xor]at q')
    |true=>exact SeqAt.notIn_list_reads rb' ra' hs (DV.lay_both.1 _ _ v1) (Av hu d2 rfl) (by rw[hc];rwa [true_xor]at q')
 |none=>
  replace h:aq pA ((dictAt x.S b).bind λd=>match bf (x.S.n-1) a d.2 with|true=>some (aC a d.2).isSome|false=>none) K:=by rw[hl]at h;exact h
  refine aG h λe he h=>I.dict rb he λad m Y e' Y Y ha z r hs=>?_;subst e';cases hk:bf (x.S.n-1) a e.2 with
  |false=>rw[hk]at h;exact h.elim
  |true=>
   rw[hk]at h;refine U2 (aa hk) λk1 k2=>?_;refine X3 (rX k1 ra) λd rd hd Y=>?_;have ev:=(tB I.ok k1 rd r k2).1;cases f with
   |false=>exact wpAny_in_of hd hs ha.mapOf (by have:=q _ (x.s.toks+1) h;rw[ev,false_xor]at this;exact this)
   |true=>exact wpAny_notIn_of hd hs ha.mapOf (by have:=q _ (x.s.toks+1) h;rw[ev,true_xor]at this;exact this)
theorem qd{K:Bool→Prop}(ra:RV G x a ua)(rb:RV G x b ub)(h:aq pA (qq a b) K):∃c,K c∧(∀Q:Value→Shared→Prop,Q (.bool c) x.s→WG G A (compareOp .Lt ua ub) Q E x.s)∧∀Q:Value→Shared→Prop,Q (.bool c) x.s→WG G A (compareOp .Gt ub ua) Q E x.s:=by
 refine aG h λj hj h=>?_;cases b9 hj;obtain⟨t,rfl⟩:=rb;induction a using V.casesOn with
 |int i=>obtain⟨t',rfl⟩:=ra;exact eJ _ h (λQ q=>PyProof.Rows.lt_int q) (λQ q=>PyProof.Rows.gt_int q)
 |id k r=>
  obtain⟨i,t',rfl,lo,_⟩:=ra;have h:aq pA (match decide (j≤16)with|true=>some false|false=>none) K:=h;cases hd:decide (j≤16)with
  |false=>rw[hd]at h;exact h.elim
  |true=>rw[hd]at h;replace hd:=PI hd;have e:decide ((i:Int)<j)=false:=PQ (by omega);exact eJ _ h (λQ q=>PyProof.Rows.lt_int (by rw[e];exact q)) (λQ q=>PyProof.Rows.gt_int (by rw[e];exact q))
 |nul=>exact h.elim
 |bool _=>exact h.elim
 |str _=>exact h.elim
 |tp _=>exact h.elim
 |ls _=>exact h.elim
 |rng _=>exact h.elim
 |hd _ _=>exact h.elim
theorem uL(ra:RV G x a ua)(h:isNone a=some c):(ua==Value.none)=c:=by
 induction a using V.casesOn with
 |nul=>replace h:=PG h;subst h;subst ra;rfl
 |int i=>replace h:=PG h;subst h;obtain⟨t,rfl⟩:=ra;rfl
 |tp l=>replace h:=PG h;subst h;obtain⟨t,_,rfl,_⟩:=ra;rfl
 |ls l=>replace h:=PG h;subst h;obtain⟨t,_,rfl,_⟩:=ra;rfl
 |id k r=>replace h:=PG h;subst h;obtain⟨t,_,rfl,_⟩:=ra;rfl
 |hd c i=>cases c<;>first|((replace h:=PG h;subst h);obtain⟨t,rfl,_⟩:=ra;rfl)|exact ah h
 |_=>exact ah h
theorem CO(I:av G x)(hu:A.units+64<cLine){K:Bool→Prop}(ra:RV G x a ua)(rb:RV G x b ub)(h:aq pA (v7 (AA op) x.S a b) K)(q:∀b tk,K b→Q (.bool b) {x.s with toks:=tk}):WG G A (compareOp op ua ub) Q E x.s:=by
 induction op using PySem.CmpOp.casesOn with
 |Eq=>exact Gz (f:=false) I hu ra rb h λb k=>(false_xor b).symm▸q b x.s.toks k
 |NotEq=>exact cR h λb hb h=>Gz (f:=true) (K:=λb=>K (!b)) I hu ra rb (by rw[hb];exact h) λb k=>(true_xor b).symm▸q _ x.s.toks k
 |Lt=>refine X3 (qd (A:=A) (E:=E) ra rb h) λc hc h1 z=>?_;exact h1 Q (q c x.s.toks hc)
 |Gt=>refine X3 (qd (A:=A) (E:=E) rb ra h) λc hc z h1=>?_;exact h1 Q (q c x.s.toks hc)
 |LtE=>refine aG h λi hi h=>cR h λj hj h=>?_;cases b9 hi;cases b9 hj;obtain⟨t,rfl⟩:=ra;obtain⟨t',rfl⟩:=rb;exact PySem.P.le_int (q _ x.s.toks h)
 |GtE=>refine aG h λi hi h=>cR h λj hj h=>?_;cases b9 hi;cases b9 hj;obtain⟨t,rfl⟩:=ra;obtain⟨t',rfl⟩:=rb;exact PySem.P.ge_int (q _ x.s.toks h)
 |Is=>refine aG h λz hi h=>aY h λc hc k=>?_;cases uZ hi;subst rb;exact is_none (by rw[uL ra hc];exact q _ x.s.toks k)
 |IsNot=>refine aG h λz hi h=>cR h λc hc k=>?_;cases uZ hi;subst rb;exact isNot_none (by rw[uL ra hc];exact q _ x.s.toks k)
 |In=>exact GQ (f:=false) I hu ra rb h λb tk k=>(false_xor b).symm▸q b tk k
 |NotIn=>exact cR h λb hb h=>GQ (f:=true) (K:=λb=>K (!b)) I hu ra rb (by rw[hb];exact h) λb tk k=>(true_xor b).symm▸q _ tk k
end
abbrev bE(h h':Heap):Prop:=∀b o,h.get? b=some o→h'.get? b=some o
theorem bE.push(h:Heap)(o:Obj):bE h (h.push o):=λz z e=>PY o e
theorem bE.two(h:Heap)(o o':Obj):bE h ((h.push o).push o'):=λz z e=>PY o' (PY o e)
theorem bh(h:Heap):h.get? h.objs.size=none:=by
 delta Heap.get?
 simp
theorem m4{h:Heap}:h.get? (h.push o).objs.size=none:=by
 rw[Rt];delta Heap.get?
 simp
section
variable{G:GE}{x:Cf}{A:Around}{E:VS}{u:Value}{v:V}
abbrev Pu(G:GE)(x:Cf)(K:V→Prop)(Q:VS):Prop:=∀v u s',K v→Nx G [] x (x.to s')→RV G (x.to s') v u→Q u s'
theorem Pu.same{K:V→Prop}(q:Pu G x K Q)(I:av G x)(k:K v)(tk:Tok)(r:RV G x v u):Q u {x.s with toks:=tk}:=q v u _ k (I.toks tk) (r.nx (I.toks tk) I)
theorem Pu.olds{K:V→Prop}(q:Pu G x K Q)(I:av G x)(k:K v)(tk:Tok)(o:bE x.h h')(r:Nx G [] x (x.to {x.s with heap:=h',toks:=tk})→RV G (x.to {x.s with heap:=h',toks:=tk}) v u):Q u {x.s with heap:=h',toks:=tk}:=have n:=I.kept (W:=[]) (s':={x.s with heap:=h',toks:=tk}) o rfl rfl;q v u _ k n (r n)
theorem Pu.old{K:V→Prop}(q:Pu G x K Q)(I:av G x)(k:K v)(o:bE x.h h')(r:Nx G [] x (x.to {x.s with heap:=h'})→RV G (x.to {x.s with heap:=h'}) v u):Q u {x.s with heap:=h'}:=q.olds I k x.s.toks o r
theorem m8{x y:Str}:(x++y).cps.toList=x.cps.toList++y.cps.toList:=by show(x.cps++y.cps).toList=_;rw[Array.toList_append]
theorem xd{x:Str}(hx:PyData.strOk x=true)(hy:PyData.strOk y=true):PyData.strOk (x++y)=true:=by unfold PyData.strOk at *;show((x.cps++y.cps).all _)=true;rw[Array.all_append,hx,hy];rfl
theorem jG(x:Str):x.length=x.cps.toList.length:=by show x.cps.size=_;rw[← length_toList]
theorem iI{f:Int→Int→Option V}{K:V→Prop}{C:Prop}(ra:RV G x a ua)(rb:RV G x b ub)(h:aq pA (qb a b f) K)(k:∀i t j t',ua=.int i t→ub=.int j t'→aq pA (f i j) K→C):C:=by refine aG h λi hi h=>aG h λj hj h=>?_;cases b9 hi;cases b9 hj;obtain⟨t,rfl⟩:=ra;obtain⟨t',rfl⟩:=rb;exact k i t j t' rfl rfl h
theorem xQ{l:List V}(p:(!l.isEmpty)=true)(r:aw (RV G x) l xs):(!xs.toArray.isEmpty)=true:=by rw[List.isEmpty_toArray,← jP r.len];exact p
theorem Jm(I:av G x){K:V→Prop}(ra:RV G x a ua)(rb:RV G x b ub)(h:aq pA (Kr x.S a b) K)(q:Pu G x K Q):WG G A (binaryOp .Add ua ub) Q E x.s:=by
 have lists:aq pA ((bT x.S a).bind λl=>(bT x.S b).bind λm=>gd (decide (l.length+m.length≤aD)) (.ls (l++m))) K→WG G A (binaryOp .Add ua ub) Q E x.s:=λh=>
  aG h λl hl h=>aG h λm hm h=>gB h λp k=>I.ls ra hl λa1 xs e1 ⟨n1,ha1⟩ _ r1=>I.ls rb hm λa2 ys e2 ⟨n2,ha2⟩ _ r2=>by
   subst e1 e2;have hp:=PI p;refine PySem.P.add_list ha1 ha2 (q.old I k (bE.push _ _) λn=>⟨_,xs++ys,rfl,⟨0,?_⟩,I.fresh (bh _),by rw[PX];exact hp,bP.of ((r1.app r2).imp λY Y=>RV.nx n I)⟩) ?_
   ·rw[P2 _ rfl];simp
   ·rw[P9,P9,← r1.len,← r2.len];exact bB hp
 induction a using V.casesOn with
 |int i=>refine cR h λj hj k=>?_;cases b9 hj;obtain⟨t,rfl⟩:=ra;obtain⟨t',rfl⟩:=rb;exact PySem.P.add_int (q.same I k _ ⟨_,rfl⟩)
 |str s=>refine aG h λs' hs h=>gB h λp k=>?_;cases eE hs;have hp:=PI p;obtain⟨y,t,rfl,ec,z,ok⟩:=ra;obtain⟨y',t',rfl,ec',z',ok'⟩:=rb;exact PyProof.Rows.add_str (λt' tk=>q.same I k _ ⟨_,_,rfl,by rw[m8,ec,ec'],by rw[PX];exact hp,xd ok ok'⟩) (by rw[jG,jG,ec,ec'];exact bB hp)
 |tp l=>
  refine aG h λm hm h=>gB h λp k=>?_;cases jV hm;refine U2 (aa p) λp p3=>?_;refine U2 (aa p) λp1 p2=>?_;have hp:=PI p3;refine ra.tp λa1 xs e1 ha Y Y r1=>rb.tp λa2 ys e2 hb Y Y r2=>?_;subst e1 e2;refine PySem.P.add_tuple ha hb (by simpa using xQ p1 r1) (by simpa using xQ p2 r2) (q.old I k (bE.push _ _) λn=>⟨_,xs++ys,rfl,?_,I.fresh (bh _),by rw[PX];exact hp,bP.of ((r1.app r2).imp λY Y=>RV.nx n I)⟩) ?_
  ·delta aK
   rw[P2 _ rfl];simp
  ·rw[P9,P9,← r1.len,← r2.len];exact bB hp
 |_=>exact lists h
theorem JX(I:av G x){K:V→Prop}(ho:Gp op=some o)(ra:RV G x a ua)(rb:RV G x b ub)(h:aq pA (jg o x.S a b) K)(q:Pu G x K Q):WG G A (binaryOp op ua ub) Q E x.s:=by
 induction op using PySem.Operator.casesOn with
 |Add=>replace ho:=PG ho;subst ho;exact Jm I ra rb h q
 |Sub=>replace ho:=PG ho;subst ho;exact iI ra rb h λi t j t' e1 e2 k=>e1▸e2▸PySem.P.sub_int (q.same I k _ ⟨_,rfl⟩)
 |Mult=>replace ho:=PG ho;subst ho;exact iI ra rb h λi t j t' e1 e2 k=>gB k λp k=>e1▸e2▸PySem.P.mul_int (q.same I k _ ⟨_,rfl⟩) (.of_left (by have:=PI (aa p).1;unfold aD at this;exact intBits_le_64 (by omega) (by omega)))
 |Mod=>replace ho:=PG ho;subst ho;exact iI ra rb h λi t j t' e1 e2 k=>gB k λp k=>e1▸e2▸PyProof.Rows.mod_int (Int.ne_of_gt (PI p)) (by rw[Int.fmod_eq_emod_of_nonneg _ (Int.le_of_lt (PI p))];exact q.same I k _ ⟨_,rfl⟩)
 |FloorDiv=>replace ho:=PG ho;subst ho;refine iI ra rb h λi t j t' e1 e2 k=>gB k λp k=>?_;refine U2 (aa p) λp p3=>?_;refine U2 (aa p) λp1 p2=>?_;replace p1:=PI p1;replace p2:=PI p2;replace p3:=PI p3;unfold aD at p2 p3;subst e1 e2;exact PyProof.Rows.floordiv_int (Int.ne_of_gt p1) (by rw[Int.fdiv_eq_ediv_of_nonneg _ (Int.le_of_lt p1)];exact q.same I k _ ⟨_,rfl⟩) (.inl (PyProof.noPylong_small (by omega)))
 |BitAnd=>replace ho:=PG ho;subst ho;exact iI ra rb h λi t j t' e1 e2 k=>gB k λp k=>e1▸e2▸PyProof.Rows.and_int (by rw[PyProof.Rows.bitAnd_pp (PI (aa p).1) (PI (aa p).2)];exact q.same I k _ ⟨_,rfl⟩)
 |_=>exact ah ho
theorem k9{α:Type}{l:List α}{v:α}(e:du l i=some v)(z:l.length≤aD):∃k,seqIndex? i l.length=some k∧l[k]?=some v∧-(2 ^ 63)≤i∧i<2 ^ 63:=by
 unfold du at e;delta seqIndex?
 unfold aD at z;by_cases h0:0≤i
 ·rw[PL h0]at e;have hl:=(PO.mp e).1;refine jh i.toNat ?_ e (by omega) (by omega);rw[Qv (show ¬i<0 by omega)];simp only[Rq,Ri];rw (config:={}) [Qx ⟨h0,by omega⟩]
 ·rw[PQ h0]at e;by_cases h1:0≤i+l.length
  ·replace e:l[(i+l.length).toNat]?=some v:=by rw[PL h1]at e;exact e
   have hl:=(PO.mp e).1;refine jh ((i+l.length).toNat) ?_ e (by omega) (by omega);rw[Qx (show i<0 by omega)];simp only[Rq,Ri];rw (config:={}) [Qx ⟨h1,by omega⟩]
  ·rw[PQ h1]at e;exact ah e
theorem yT{s:Shared}(ha:aN s.heap a xs)(hk:seqIndex? i xs.length=some k)(hx:xs[k]?=some y)(h1 : -(2 ^ 63)≤i)(h2:i<2 ^ 63)(h:Q y s) :
 WG G A (getItem (.ref a) (.int i t)) Q E s:=by
 unfold seqIndex? at hk;by_cases h0:i<0
 ·rw[Qx h0]at hk;simp only[Rq,Ri]at hk;split at hk
  ·replace hk:=PG hk;subst hk;exact wpAny_getItem_list_neg ha.isList h0 (by simp;omega) h1 (by simpa using hx) h
  ·exact ah hk
 ·rw[Qv h0]at hk;simp only[Rq,Ri]at hk;split at hk
  ·replace hk:=PG hk;subst hk;exact wpAny_getItem_list ha.isList (by omega) h2 (by simpa using hx) h
  ·exact ah hk
theorem Ll{T:List (List V)}{k:Nat}{R:List V}(h:T[k]?=some R):R.length≤cA T:=by
 induction T generalizing k with
 |nil=>exact ah h
 |cons r T ih=>
  show _≤r.length+cA T;cases k with
  |zero=>replace h:=PG h;subst h;exact QH _ _
  |succ k=>exact PM (ih h) (QV _ _)
theorem av.len(I:av G x){k:Nat}{R:List V}(h:x.T[k]?=some R):R.length≤aD:=PM (Ll h) (PM (QH _ _) I.room)
theorem av.tabAt(I:av G x)(h:x.τ[k]?=some t):∃R,x.T[k]?=some R∧TR G x k R t:=by have hl:k<x.T.length:=I.τlen▸(PO.mp h).1;exact aB _ (Qg hl) (I.tab _ _ _ (Qg hl) h)
theorem TR.get{k n:Nat}{R:List V}{t:TA}(h:TR G x k R t){r:V}(e:ax[n]?=some r):R[n]?=some r:=by
 rw[← h.first,List.getElem?_take]at e;by_cases q:n<16
 ·rw[Qx q]at e;exact e
 ·rw[Qv q]at e;exact ah e
theorem Dk(hs:∀o i,subscripted slice false o i=operate [o,i] (getItem o i))(ha:aN x.h a xs)(r:aw (RV G x) ll xs)(z:ll.length≤aD)(e:du ll n=some v)(q:∀u,RV G x v u→Q u x.s):WG G A (subscriptTail value slice (.ref a) (.int n tk)) Q E x.s:=by refine X4 (k9 e z) λk h1 h2 h3 h4=>?_;refine X2 (r.get h2) λy hy ry=>?_;exact tail_any ha.isList.typeIs slot_list_getitem.lookup (yT (G:=G) ha (k:=k) (by rw[← r.len];exact h1) hy h3 h4 (q y ry)) (hs _ _)
theorem JF(I:av G x)(ht:Hd G x .rows k a)(ri:RV G x i wi)(e:bU k i=some r)(hs:∀o i,subscripted slice false o i=operate [o,i] (getItem o i))(q:∀w,RV G x r w→Q w x.s) :
 WG G A (subscriptTail value slice (.ref a) wi) Q E x.s:=by
 obtain⟨t,ht,rfl⟩:=ht;refine X2 (I.tabAt ht) λR hR TT=>?_;refine X2 TT.rows λxs ha rs=>?_;have key:∀(n:Nat)(tk:Tok),R[n]?=some r→wi=.int n tk→WG G A (subscriptTail value slice (.ref t.rws) wi) Q E x.s:=λn tk hn hw=>by
  subst hw;refine Dk (v:=r) hs ha rs (I.len hR) ?_ q;delta du
  rw[PL (Rg n)];exact hn
 unfold bU at e;cases hi:i.asId with
 |some y=>
  rw[hi]at e;have:=tF hi;subst this;obtain⟨n,tk,hw,lo,R',h1,h2⟩:=ri;have e:(match beq k y.1 with|true=>some y.2|false=>none)=some r:=e;cases hb:beq k y.1 with
  |false=>rw[hb]at e;exact ah e
  |true=>rw[hb]at e;replace e:=PG e;subst e;rw[PJ hb,h1]at hR;replace hR:=PG hR;subst hR;exact key n tk h2 hw
 |none=>
  replace e:(i.asInt.bind λi=>(ko i).bind λn=>ax[n]?)=some r:=by rw[hi]at e;exact e
  have e':aq pA (i.asInt.bind λi=>(ko i).bind λn=>ax[n]?) (·=r):=by rw[e];rfl
  refine aG e' λj hj e''=>aG e'' λn hn e''=>aY e'' λz hz e''=>?_;have:=b9 hj;subst this e'';obtain⟨tk,hw⟩:=ri;have hn:j=(n:Int):=by cases j<;>cases hn;rfl
  subst hn;exact key n tk (TT.get hz) hw
theorem Jp{K:V→Prop}(I:av G x)(ro:RV G x o wo)(ri:RV G x i wi)(h:aq pA (bV x.S o i) K)(hs:∀o i,subscripted slice false o i=operate [o,i] (getItem o i))(q:Pu G x K Q) :
 WG G A (subscriptTail value slice wo wi) Q E x.s:=by
 have q':∀{v},K v→∀u tk,RV G x v u→Q u {x.s with toks:=tk}:=λk u tk r=>q.same I k tk r;unfold bV at h;cases hl:bu x.S o with
 |some l=>rw[hl]at h;refine aG h λn hn h=>aY h λv hv k=>?_;cases b9 hn;obtain⟨tk,rfl⟩:=ri;refine I.list ro hl (λa xs Y e ha z r=>?_) λa xs e ha z r=>e▸Dk hs ha r z hv λu r=>q' k u _ r;subst e;refine X4 (k9 hv z) λj h1 h2 h3 h4=>?_;refine X2 (r.get h2) λy hy ry=>?_;exact tail_any ha.isTup.typeIs slot_tuple_getitem.lookup (getItem_tuple ha.isTup h3 h4 (by simpa[← r.len]using h1) (by simpa using hy) (q' k y _ ry)) (hs _ _)
 |none=>
  rw[hl]at h;cases hst:o.asStr with
  |some l=>
   replace h:aq pA (i.asInt.bind λn=>(du l n).map λx=>.str [x]) K:=by rw[hst]at h;exact h
   refine aG h λn hn h=>cR h λc hv k=>?_;cases b9 hn;cases eE hst;obtain⟨tk,rfl⟩:=ri;obtain⟨y,t,rfl,ec,z,ok⟩:=ro;subst ec;refine X4 (k9 hv z) λj h1 h2 h3 h4=>?_;have hc:y.cps[j]?=some c:=by rw[← Array.getElem?_toList];exact h2
   refine tail_any (typeIs_str x.s y t) slot_str_getitem.lookup (PyProof.Rows.getItem_str (Rz.mpr ⟨PQ (Int.not_lt.mpr h3),PQ (Int.not_le.mpr h4)⟩) (c:=c) (by rw[jG,h1];exact hc) (q' k _ _ ⟨_,_,rfl,rfl,by show 1≤aD;exact ag rfl,?_⟩)) (hs _ _);unfold PyData.strOk at ok ⊢;rw[Array.all_eq_true']at ok;have:=ok c (Array.mem_of_getElem? hc);simpa using this
  |none=>
   have h:aq pA (match dictAt x.S o with
   |some d=>match bf (x.S.n-1) i d.2 with|true=>aC i d.2|false=>none
   |none=>o.asHdl.bind λc=>match c with|(.rows,k)=>bU k i|_=>none) K:=by rw[hst]at h;exact h
   cases hd:dictAt x.S o with
   |some e=>
    replace h:aq pA (match bf (x.S.n-1) i e.2 with|true=>aC i e.2|false=>none) K:=by rw[hd]at h;exact h
    cases hk:bf (x.S.n-1) i e.2 with
    |false=>rw[hk]at h;exact h.elim
    |true=>rw[hk]at h;refine aY h λv hv k=>I.dict ro hd λad m Y e' Y Y ha z r hs'=>?_;subst e';refine U2 (aa hk) λk1 k2=>?_;refine X3 (rX k1 ri) λd rd hd Y=>?_;refine X2 ((tB I.ok k1 rd r k2).2 v hv) λy hy ry=>?_;exact tail_any ha.mapOf.typeIs slot_dict_getitem.lookup (wpAny_getItem_of hd ha.mapOf hy (q' k y _ ry)) (hs _ _)
   |none=>
    replace h:aq pA (o.asHdl.bind λc=>match c with|(.rows,k)=>bU k i|_=>none) K:=by rw[hd]at h;exact h
    refine aG h λc hc h=>?_;obtain⟨c,k⟩:=c;have:=gq hc;subst this;obtain⟨a,rfl,ha⟩:=ro;induction c using H.casesOn with
    |rows=>exact aY (x:=bU k i) h λv hv k=>JF I ha ri hv hs λw r=>q' k w _ r
    |_=>exact h.elim
end
theorem wB(n:Nat)(i:Int):bM n i=if 0≤i then min i.toNat n else(i+n).toNat:=by
 delta bM
 by_cases h:0≤i
 ·rw[PL h,Qx h]
 ·rw[PQ h,Qv h]
theorem G6{i:Int}(h:0≤i):∃k:Nat,i=k:=Int.eq_ofNat_of_zero_le h
theorem Ki(k n:Nat):min (k:Int) (n:Int)=((min k n:Nat):Int):=by
 rcases Nat.le_total k n with h|h
 ·rw[Nat.min_eq_left h,Int.min_eq_left (Int.ofNat_le.mpr h)]
 ·rw[Nat.min_eq_right h,Int.min_eq_right (Int.ofNat_le.mpr h)]
theorem JC(k n:Nat):max (0:Int) (min (k:Int) (n:Int))=((min k n:Nat):Int):=by rw[Ki,Int.max_eq_right (Rg _)]
theorem JG{i:Int}{n:Nat}(h:i<0):max (i+n) 0=max (0:Int) (min (i+n) n):=by rw[Int.max_comm,Int.min_eq_left (Int.add_le_of_le_sub_right (by rw[Int.sub_self];exact Int.le_of_lt h))]
theorem K4{i:Int}{n:Nat}(h:i<0):max (0:Int) (min (i+n) n)=((i+n).toNat:Int):=by rw[Int.ofNat_toNat,JG h]
theorem AO:(λn i=>clipAt n i)=bM:=by
 funext n i;have h:=clipAt_cast n i;rw[wB];split;case isTrue g=>rw[Qv (Int.not_lt.mpr g)]at h;obtain⟨k,rfl⟩:=G6 g;exact Int.ofNat.inj (h.trans (JC k n))
 case isFalse g=>rw[Qx (Int.not_le.mp g)]at h;exact Int.ofNat.inj (h.trans (K4 (Int.not_le.mp g)))
theorem yJ(i:Int)(n:Nat):Builtin.Slice.sliceAdjust none (some i) 1 (n:Int)=(0,(bM n i:Int)):=by
 delta Builtin.Slice.sliceAdjust
 rw[wB];have h1:¬((1:Int)<0):=by decide
 simp only[h1,if_false];congr 1;by_cases h:i<0
 ·rw[Qx h,Qv (Int.not_le.mpr h),← K4 h,JG h]
 ·rw[Qv h,Qx (Int.not_lt.mp h)];obtain⟨k,rfl⟩:=G6 (Int.not_lt.mp h);exact Ki k n
theorem yA(c:Nat):Builtin.Slice.slicePlaces 0 (c:Int) 1=c:=by
 delta Builtin.Slice.slicePlaces
 have h1:(1:Int)>0:=by decide
 simp only[h1,if_true,Int.ediv_one];split
 ·rw[Int.sub_zero,Int.sub_add_cancel];rfl
 ·rename_i h;exact(Nat.eq_zero_of_not_pos λp=>h (Int.natCast_pos.mpr p)).symm
section
variable{prog:Program}{A:Around}{E:VS}{s:Shared}
theorem qm{Q:Int×Int×Nat→Shared→Prop}(hs:s.heap.IsSliceOf sl .none (.int i u) .none)(h:Q (0,1,bM n i) s) :
 wpAny (model prog w) A (Builtin.Slice.sliceApplied (.ref sl) (pure (n:Int))) Q E s:=by
 refine X3 (id hs) λos hos hcs hds=>?_;delta Builtin.Slice.sliceApplied Builtin.Slice.sliceFields
 refine PK (PK (wpAny_field hos hds (x:=.none) rfl (PK (wpAny_field hos hds (x:=.int i u) rfl (PK (wpAny_field hos hds (x:=.none) rfl (PU ?_)))))));refine PK (slicePart_none ?_);show wpAny _ _ (if((1:Int)==0)=true then _ else _) _ _ s;rw[Qv (by decide)];refine PK (slicePart_none (PK (slicePart_int (PK (PU ?_)))));show wpAny _ _ (match Builtin.Slice.sliceAdjust none (some i) 1 (n:Int)with|(lo,hi)=>pure (lo,(1:Int),Builtin.Slice.slicePlaces lo hi 1)) _ _ s;rw[yJ i n];show wpAny _ _ (pure ((0:Int),(1:Int),Builtin.Slice.slicePlaces 0 (bM n i:Int) 1)) _ _ s;rw[yA];exact PU h
theorem DP(xs:Array Value)(c:Nat):((List.range c).filterMap λ(k:Nat)=>xs[((0:Int)+(k:Int)*1).toNat]?).toArray=(xs.toList.take c).toArray:=by
 have e:(λ(k:Nat)=>xs[((0:Int)+(k:Int)*1).toNat]?)=λk=>xs[0+k]?:=by
  funext k;have:((0:Int)+(k:Int)*1).toNat=0+k:=by rw[Int.zero_add,Int.mul_one,Nat.zero_add];rfl
  rw[this]
 rw[e];have:=pick_run xs 0 c;rw[List.filterMap_map]at this;rw[show(λk=>xs[0+k]?)=(λx=>xs[x]?)∘λx=>0+x from rfl,this,List.drop_zero]
theorem pG(ht:IsTup s.heap t items)(hs:s.heap.IsSliceOf sl .none (.int i u) .none)
 (h0:bM items.size i=items.size→Q (.ref t) s)
 (h:Q (.ref s.heap.objs.size) {s with heap:=s.heap.push {cls:=.type "tuple",data:=.seq (items.toList.take (bM items.size i)).toArray}})
 (hsz:items.size≤sizeLine):wpAny (model prog w) A (getItem (.ref t) (.ref sl)) Q E s:=by
 have hdrop:sizeOk (.seq (items.toList.take (bM items.size i)).toArray):=by show(items.toList.take (bM items.size i)).toArray.size≤sizeLine;rw[P9,RZ,length_toList];exact PM (Nat.min_le_right _ _) hsz
 refine X3 (id hs) λos hos hcs hds=>?_;have hTs:s.TypeIs (.ref sl) "slice":=⟨os,hos,hcs⟩
 delta getItem
 refine Qn ?_;refine PK (wpAny_sequenceKey ht.typeIs (by decide) ?_);refine PK (wpAny_callSpecial?_slot (name:="__getitem__") ht.typeIs RH
  (wpAny_call_entry RH ht.typeIs PyProof.Rows.entry_tuple_getitem ?_ (args_tuple_getitem _ _)))
 show wpAny _ _ (Builtin.Tuple.tupleItemsOf (.ref t) >>= _) _ _ s;refine PK (tupleItemsOf_ ht ?_);refine PK (wpAny_typeOf hTs ?_);rw[Qx (by decide)];refine PK (qm hs ?_);show wpAny _ _ (if((0:Int)==0&&(1:Int)==1&&(bM items.size i)==items.size)=true then _ else _) _ _ s;by_cases hc:bM items.size i=items.size
 ·rw[Qx (by rw[hc];simp)];delta Builtin.Tuple.tupleIsExact
  refine PK (PK (wpAny_typeOf ht.typeIs (PU ?_)));rw[Qx (by decide)];exact PK (wpAny_rule (PU ⟨_,rfl,PU (h0 hc)⟩))
 ·rw[Qv (by simp[hc]),DP];first
   |exact PK (m:=Builtin.Tuple.tupleExact _) (wpAny_newObj_type (PU ⟨_,rfl,PU h⟩) hdrop)
   |exact PK (m:=Builtin.Tuple.tupleExact _) (wpAny_newObj_type (PK (PU (PU ⟨_,rfl,PU h⟩))) hdrop)
   |exact PK (PK (m:=Builtin.Tuple.tupleExact _) (wpAny_newObj_type (PU (PU ⟨_,rfl,PU h⟩)) hdrop))
   |exact PK (PK (m:=Builtin.Tuple.tupleExact _) (wpAny_newObj_type (PU ⟨_,rfl,PU h⟩) hdrop))
end
section
variable{G:GE}{x:Cf}{A:Around}{E:VS}{l:List V}
theorem xY(x:Str)(t u:Tok)(a:Nat)(ha:a≤x.length):∃tk,(sliceMade x t (some ((a:Int),u)) none none=.val (.str x tk)∧a=0)∨sliceMade x t (some ((a:Int),u)) none none=.str ⟨(x.cps.toList.drop a).toArray⟩:=by
 have e:slicePicked x (some ((a:Int),u)) none none=(List.range (x.length-a)).map (λk=>a+k):=by
  delta slicePicked
  show PySem.Builtin.Str.strSliceIndices (some (a:Int)) none 1 x.length=_;rw[← PySem.StrLaws.strSliceIndices_plain ha (Qi _)];delta PySem.Builtin.Str.strSliceIndices
  simp only[show(1:Int)>0 by decide,if_true];rw[Qv (Int.not_lt.mpr (Rg x.length))];congr 1;rw[JC,Nat.min_self]
 have l:(slicePicked x (some ((a:Int),u)) none none).length=x.length-a:=by rw[e];simp
 have f:(slicePicked x (some ((a:Int),u)) none none).filterMap (x.cps[·]?)=x.cps.toList.drop a:=by rw[e];have h:=pick_run x.cps a (x.length-a);rw[h,List.take_of_length_le];rw[length_drop,length_toList];exact Qi _
 refine⟨t,?_⟩;delta sliceMade
 rw[l,f];by_cases h0:x.length-a=x.length
 ·rw[Qx (by simp[h0])];exact .inl ⟨rfl,by omega⟩
 ·rw[Qv (by simp[h0])];exact .inr rfl
theorem sL(r:RV G x b wb)(e:yd b=some a):IsPart wb a:=by
 induction b using V.casesOn with
 |nul=>replace e:=PG e;subst e;subst r;exact .none
 |int i=>replace e:=PG e;subst e;obtain⟨t,rfl⟩:=r;exact .int i t
 |_=>exact ah e
theorem Bu{α:Type}(l:List α)(lo hi:Option Int):(lN l lo hi).length≤l.length:=by
 delta lN
 rw[RZ,length_drop];exact PM (Nat.min_le_right _ _) (sub_le _ _)
noncomputable abbrev mz(x:Cf)(a b c:Value):Shared:={x.s with heap:=x.h.push {cls:=.type "slice",data:=.fields #[a,b,c]}}
theorem Er{v lo hi:V}{wv wl wh:Value}{value:Expr}{l u:Option Expr}{p:Pos}{K:V→Prop}(I:av G x)(rv:RV G x v wv)(rl:RV G x lo wl)(rh:RV G x hi wh)(h:aq pA (iY x.S v lo hi) K)(q:Pu G x K Q) :
 WG G A (subscriptTail value (.Slice l u none p) wv (.ref x.h.objs.size)) Q E (mz x wl wh .none):=by
 have hs:∀o i,subscripted (.Slice l u none p) false o i=operate [i,o] (getItem o i):=λY Y=>rfl;refine aG h λa ea h=>aG h λb eb h=>?_;have pl:=sL rl ea;have pu:=sL rh eb;cases ht:v.asTup with
 |some t=>
  replace h:aq pA (match a with|some _=>none|none=>b.map λi=>V.tp (t.take (bM t.length i))) K:=by rw[ht]at h;exact h
  cases a with
  |some _=>exact h.elim
  |none=>
   cases b with
   |none=>exact h.elim
   |some i=>
    have hK:K (.tp (t.take (bM t.length i))):=h;cases pl;cases pu with
    |int _ tk=>
    cases jV ht;refine rv.tp λa xs e ha hn z r=>?_;subst e;have ha':aK (mz x .none (.int i tk) .none).heap a xs:=PY _ ha;have hl:=r.len;refine tail_any ha'.isTup.typeIs RH.lookup (pG ha'.isTup (Heap.IsSliceOf.new ..) (λe=>?_) ?_ (by rw[P9,← hl];exact bB z)) (hs _ _)
    ·rw[P9,← hl]at e;rw[e,List.take_length]at hK;exact q.old I hK (bE.push _ _) λn=>⟨a,xs,rfl,ha',hn,z,bP.of (bP.nx n I r)⟩
    ·refine q.old I hK (bE.two _ _ _) λn=>⟨_,xs.take (bM t.length i),rfl,?_,I.fresh m4,PM (by rw[RZ];exact Nat.min_le_right _ _) z,bP.of ((bP.nx n I r).take _)⟩
     delta aK
     rw[P2 _ rfl];simp[← hl]
 |none=>
  cases hst:v.asStr with
  |some t=>
   replace h:aq pA (match b with|some _=>none|none=>a.bind λi=>(ko i).bind λn=>gd (decide (n≤t.length)) (.str (t.drop n))) K:=by rw[ht,hst]at h;exact h
   cases b with
   |some _=>exact h.elim
   |none=>
    refine aG h λi hi h=>aG h λk hk h=>gB h λp k'=>?_;have hn:i=(k:Int):=by cases i<;>cases hk;rfl
    subst hi hn;cases pu;cases pl with
    |int _ tk=>
    cases eE hst;obtain⟨y,t',rfl,ec,z,ok⟩:=rv;subst ec;replace p:=PI p;refine tail_any (typeIs_str _ y t') slot_str_getitem.lookup (wpAny_getItem_str_slice (l:=some ((k:Int),tk)) (u:=none) (st:=none) ⟨_,P2 _ rfl,rfl,rfl⟩ rfl ?_) (hs _ _);refine X1 (xY y t' tk k (by rw[jG];exact p)) λt2 hm=>?_;rcases hm with⟨hm,h0⟩|hm
    ·rw[hm];subst h0;exact q.old I k' (bE.push _ _) λY=>⟨y,t2,rfl,rfl,z,ok⟩
    ·rw[hm];refine⟨?_,q.olds I k' _ (bE.push _ _) λY=>⟨_,_,rfl,rfl,PM (by rw[length_drop];exact sub_le (List.length (Array.toList (Str.cps y))) k) z,?_⟩⟩
     ·show(y.cps.toList.drop k).toArray.size≤sizeLine;rw[P9,length_drop];exact PM (sub_le _ _) (bB z)
     ·unfold PyData.strOk at ok ⊢;rw[Array.all_eq_true']at ok ⊢;intro c hc;refine ok c ?_;simp only[List.mem_toArray]at hc;have:=List.mem_of_mem_drop hc;simpa using this
  |none=>
   replace h:aq pA ((bT x.S v).map λl=>V.ls (lN l a b)) K:=by rw[ht,hst]at h;exact h
   refine cR h λt ht k=>I.ls rv ht λad xs e ⟨n,ha⟩ z r=>?_;subst e;have ha':aN (mz x wl wh .none).heap ad xs:=⟨n,PY _ ha⟩
   have hl:=r.len;refine tail_any ha'.isList.typeIs slot_list_getitem.lookup (wpAny_getItem_list_slice ha'.isList (Heap.IsSliceOf.new ..) pl pu .none (by simp) ?_ (by rw[P9,← hl];exact bB z)) (hs _ _);refine q.old I k (bE.two _ _ _) λn=>⟨_,lN xs a b,rfl,⟨0,?_⟩,I.fresh m4,PM (Bu _ _ _) z,bP.of ?_⟩
   ·rw[P2 _ rfl,slicePick_plain];have:clipAt xs.length=bM xs.length:=QX AO _;simp only[P9,this];rfl
   ·delta lN
    rw[← hl];exact((bP.nx n I r).drop _).take _
theorem Jl{v:V}{K:V→Prop}(I:av G x)(rv:RV G x v wv)(h:aq pA (EP x.S v) K)(q:Pu G x K Q) :
 WG G A (subscriptTail value (.Slice none none (some c) p) wv (.ref x.h.objs.size)) Q E (mz x .none .none (.int (-1) tk)):=by
 refine cR h λt ht k=>I.ls rv ht λad xs e ⟨n,ha⟩ z r=>?_;subst e;have ha':aN (mz x .none .none (.int (-1) tk)).heap ad xs:=⟨n,PY _ ha⟩
 refine tail_any (ops:=[.ref ad,.ref x.h.objs.size]) ha'.isList.typeIs slot_list_getitem.lookup (wpAny_getItem_list_slice ha'.isList (Heap.IsSliceOf.new ..) .none .none (.int (-1) tk) (by simp) ?_ (by rw[P9,← r.len];exact bB z)) rfl;refine q.old I k (bE.two _ _ _) λn=>⟨_,xs.reverse,rfl,⟨0,?_⟩,I.fresh m4,by rw[List.length_reverse];exact z,bP.of (bP.nx n I r).rev⟩
 rw[P2 _ rfl,krv_pick]
theorem xk(f:Array Value→Array Value)(its:Array Value)(n:Nat):∃m,Obj.mapSeq f {cls:=.type "list",data:=.seq its n}={cls:=.type "list",data:=.seq (f its) m}:=⟨_,rfl⟩
theorem aN.upd{ys:List Value}(ha:aN h a xs)(f:Array Value→Array Value)(e:f xs.toArray=ys.toArray):aN (h.update a (Obj.mapSeq f)) a ys:=by refine X1 ha λn ha=>?_;refine X1 (xk f xs.toArray n) λm hm=>?_;exact⟨m,by rw[Heap.get?_update_self _ ha (by rw[hm];rfl),hm,e]⟩
theorem aN.live(ha:aN h a xs):∃o,h.get? a=some o∧o.cls≠.type "tuple":=ha.elim λn e=>⟨_,e,λh=>lh h.symm⟩
theorem uC{h:Heap}(ha:h.DictOf (cD G.prog G.w) a m):∃o,h.get? a=some o∧o.cls≠.type "tuple":=by refine J3 ha λo z z e c z=>?_;refine aB o e (λh=>?_);rw[c.1]at h;injection h with h;exact absurd h (by decide)
theorem yx{s:Shared}{k:Int}{v:Value}{Q:Unit→Shared→Prop}(ha:aN s.heap a xs)
 (h0:0≤k) (hfit:k<2 ^ 63) (hn:k<xs.length)
 (hQ:∀h',aN h' a (xs.set k.toNat v)→Heap.SameBut a s.heap h'→Q () {s with heap:=h'}) :
 WG G A (setItem (.ref a) (.int k t) v) Q E s:=by
 have hl:=ha.isList;obtain⟨o,ho,hc,ne,hd⟩:=id hl;delta setItem
 try with_reducible refine Qn ?_
 refine PK (wpAny_sequenceKey hl.typeIs (by decide) ?_);refine PK (wpAny_callSpecial?_slot (name:="__setitem__") hl.typeIs slot_list_setitem
  (wpAny_call_entry slot_list_setitem hl.typeIs entry_list_setitem ?_ (args_list_setitem _ _ _)))
 show wpAny _ _ (Builtin.List.listSubscript? (.int k t) >>= _) _ _ s;refine PK (wpAny_listSubscript_int (fitsIndex_of h0 hfit) ?_);clear hfit;obtain⟨j,rfl⟩:=Int.eq_ofNat_of_zero_le h0;have hj:j<xs.length:=Int.ofNat_lt.mp hn;have hx':xs.toArray[j]?=some xs[j]:=by simp[hj]
 show wpAny _ _ ((seqItemAt a j >>= λr=>pure (r.map (j,·))) >>= _) _ _ s;refine PK (PK (wpAny_seqItemAt ho hd (PU ?_)));rw[hx'];show wpAny _ _ (setSeqItemAt a j v >>= _) _ _ s;have hfin:aN (s.heap.update a (Obj.mapSeq (·.setIfInBounds j v))) a (xs.set j v):=ha.upd _ (by simp);refine PK (wpAny_setSeqItemAt ho hd ?_);first
  |exact PK (PU (PU ⟨.none,rfl,PU (hQ _ hfin (Heap.SameBut.update ..))⟩))
  |exact PU ⟨.none,rfl,PU (hQ _ hfin (Heap.SameBut.update ..))⟩
noncomputable def xi(d:D)(w:Value):List (D×Value)→List (D×Value)
 |[]=>[(d,w)]
 |p::m=>if p.1=d then(p.1,w)::m else p::xi d w m
theorem BR:∀{m:List (D×Value)},(m.map (·.1)).Nodup→stored m d w=xi d w m:=by
 intro m;induction m with
 |nil=>exact @λz=>rfl
 |cons p m ih_=>
  exact @λnd=>by
   rw[Q4,RN]at nd;unfold xi;by_cases h:p.1=d
   ·rw[Qx h];delta stored
    rw[Qx (by rw[any_cons,PL h];rfl),Q4,Qx h];congr 1;refine(map_congr_left λq hq=>?_).trans (List.map_id _);exact Qv λe=>nd.1 (Qd.mpr ⟨q,hq,e.trans h.symm⟩)
   ·rw[Qv h,← ih_ nd.2];delta stored
    rw[any_cons,PQ h,QF];split
    ·rw[Q4,Qv h]
    ·rfl
theorem LJ{v:V}{y:Value}(ok:dI x.T)(p:V.key k v=true)(r:RD x.T v d)(kd:∀y,d=.str y→PyData.strOk y=true∧y.cps.toList.length≤aD)(rw':RV G x w y){l:List (V×V)}(h:aw (nA G x) l m):l.all (λp=>V.key k p.1)=true→aw (nA G x) (cP v w l) (xi d y m):=by
 induction h with
 |nil=>exact λz=>.cons ⟨r,rw',kd⟩ .nil
 |@cons a b l m h t ih=>
  intro q;refine U2 (aa q) λq1 q2=>?_;have e:decide (b.1=d)=V.beq a.1 v:=nc ok q1 p h.1 r;unfold cP xi;cases hb:V.beq a.1 v with
  |true=>rw[hb]at e;rw[Qx (PI e)];exact .cons ⟨h.1,rw',h.2.2⟩ t
  |false=>rw[hb]at e;rw[Qv (QC e)];exact .cons h (ih q2)
theorem qD(v w:V):∀l:List (V×V),(cP v w l).length≤l.length+1
 |[]=>Qi _
 |p::l=>by
  unfold cP;cases V.beq p.1 v with
  |true=>exact le_succ _
  |false=>exact Rn (qD v w l)
theorem A7{v:V}{K:St→Prop}{Q:Unit→Shared→Prop}(I:av G x)(ro:RV G x o wo)(ri:RV G x i wi)(rv:RV G x v wv)(h:aq pA (dp o i v x.S) K)(q:∀y,K y.S→Nx G [] x y→Q () y.s):WG G A (setItem wo wi wv) Q E x.s:=by
 unfold dp at h;cases ho:bI x.S o with
 |some d=>
  have h:aq pA (i.asInt.bind λn=>(ko n).bind λn=>match decide (n<d.2.length)with
   |true=>some (x.S.set d.1 (.list (d.2.set n v)))
   |false=>none) K:=by rw[ho]at h;exact h
  refine aG h λj hj h=>aG h λn hn hh=>I.own ro ho λa xs Y e hi hρ ha z r=>?_;have hj':j=(n:Int):=by cases j<;>cases hn;rfl
  have:=b9 hj;subst hj' this e;obtain⟨tk,rfl⟩:=ri;cases hd:decide (n<d.2.length)with
  |false=>rw[hd]at hh;exact hh.elim
  |true=>rw[hd]at hh;have hn:=PI hd;refine yx ha (Rg n) (iR (PM (Rm hn) z)) (Int.ofNat_lt.mpr (r.len▸hn)) λh' ha' hs=>?_;exact q (x.put d.1 (.list (d.2.set n v)) {x.s with heap:=h'}) hh (I.upd hi (λh=>nomatch h) hρ hs rfl rfl ha'.live λL=>⟨_,ha',by rw[RY];exact z,(r.imp (λY Y=>RV.mono L.toLm .nil)).set (RV.mono L.toLm .nil rv) n⟩)
 |none=>
  have h:aq pA ((dictAt x.S o).bind λd=>match bf (x.S.n-1) i d.2&&decide (d.2.length<aD)with
   |true=>some (x.S.set d.1 (.dict (cP i v d.2)))
   |false=>none) K:=by rw[ho]at h;exact h
  refine aG h λd hd h=>I.dict ro hd λa m Y e hi hρ ha z r hsys=>?_;subst e;cases hk:bf (x.S.n-1) i d.2&&decide (d.2.length<aD)with
  |false=>rw[hk]at h;exact h.elim
  |true=>
   rw[hk]at h;refine U2 (aa hk) λhk hb=>?_;refine U2 (aa hk) λk1 k2=>?_;refine X3 (rX k1 ri) λdd rd hdd kd=>?_;have nd:(m.map (·.1)).Nodup:=by obtain⟨_,_,_,_,_,_,_,_,nd⟩:=ha;exact nd
   refine wpAny_setItem_pairs hdd ha (λh' ha' hs=>?_) (by rw[← r.len];exact bB z);rw[BR nd]at ha';exact q (x.put d.1 (.dict (cP i v d.2)) _) h (I.upd hi (λh=>nomatch h) hρ hs rfl rfl (uC ha') λL=>⟨_,ha',PM (qD _ _ _) (PI hb),
    LJ (x:=x.put d.1 (.dict (cP i v d.2)) _) I.ok k1 (rd.mono L.T) kd (RV.mono L.toLm .nil rv) (r.imp λp q h=>⟨h.1.mono L.T,RV.mono L.toLm .nil h.2.1,h.2.2⟩) k2⟩)
end
theorem wJ:∀a b:List Nat,aZ a b=true↔Spec.ltCps b a=false
 |[],[]=>⟨λz=>rfl,λz=>rfl⟩
 |[],_::_=>⟨λz=>rfl,λz=>rfl⟩
 |_::_,[]=>⟨λh=>(ak h),λh=>(eg h)⟩
 |a::as,b::bs=>by
  rw[b5,wJ as bs];show _↔(decide (b<a)||b==a&&Spec.ltCps bs as)=false;rw[Rz,Bool.and_eq_false_iff,decide_eq_false_iff_not,R5];constructor
  ·exact λh=>h.elim (λh=>⟨Nat.lt_asymm h,.inl (Nat.ne_of_gt h)⟩) λh=>⟨h.1▸Nat.lt_irrefl _,.inr h.2⟩
  ·exact λh=>(Nat.lt_or_eq_of_le (Ro h.1)).imp_right λe=>⟨e,h.2.resolve_left λq=>q e.symm⟩
theorem sd:∀(l:List Str)(p:Str),risingS p l=true→(∀x∈l,aZ p.cps.toList x.cps.toList=true)∧l.Pairwise (λa b=>aZ a.cps.toList b.cps.toList=true):=by
 intro l;induction l with
 |nil=>exact λz z=>⟨λz q=>(az q),.nil⟩
 |cons x r ih_=>
  exact λp h=>by have h:(!Spec.ltCps x.cps.toList p.cps.toList&&risingS x r)=true:=h;refine U2 (aa h) λh0 h=>?_;refine U2 (ih_ x h) λh1 h2=>?_;replace h0:=(wJ _ _).mpr (Qo _▸h0);exact⟨λy hy=>(P4.mp hy).elim (λe=>e▸h0) λhy=>fg _ _ _ h0 (h1 y hy),R7.mpr ⟨h1,h2⟩⟩
theorem r6(h:sortedS l=true):l.Pairwise (λa b=>aZ a.cps.toList b.cps.toList=true):=by
 cases l with
 |nil=>exact .nil
 |cons x r=>exact R7.mpr (sd r x h)
section
variable{x:Cf}{A:Around}{E:VS}{u:Value}{v:V}
abbrev Qk(G:GE)(x:Cf)(K:KP)(Q:VS):Prop:=∀v y u,K v y.S→Nx G [] x y→RV G y v u→Q u y.s
theorem Qk.pu(q:Qk G x K Q):Pu G x (K · x.S) Q:=λv u s' k n r=>q v (x.to s') u k n r
theorem uK:∀{l:List V}{vs:List Value}{ss:List (List Nat)},aw (RV G x) l vs→cK l=some ss→∃xs:List Str,StrsAre vs xs∧xs.map (·.cps.toList)=ss∧∀x∈xs,x.cps.toList.length≤aD∧PyData.strOk x=true:=by
 intro l;induction l with
 |nil=>exact @λY Y h e=>by cases h;replace e:=PG e;subst e;exact eJ [] .nil rfl (λY q=>az q)
 |cons v l ih_=>
  exact @λY ss h e=>by
   cases (h)with
   |cons a b=>refine aG (K:=(·=ss)) (x:=v.asStr) (g:=λs=>(cK l).map (s :: ·)) (by rw[show v.asStr.bind _=some ss from e];rfl) λs hs e'=>cR e' λss' hq e'=>?_;have:=eE hs;subst this e';obtain⟨y,t,rfl,ec,z,ok⟩:=a;refine X3 (ih_ b hq) λxs h1 h2 h3=>?_;exact eJ (y::xs) (.cons y t h1) (by rw[Q4,h2,ec]) (λw hw=>(P4.mp hw).elim (λe=>e▸⟨ec▸z,ok⟩) (h3 w))
theorem q7:∀{vs:List Value}{xs:List Str},StrsAre vs xs→(∀x∈xs,x.cps.toList.length≤aD∧PyData.strOk x=true)→aw (RV G x) ((xs.map (·.cps.toList)).map .str) vs
 |_,_,.nil,_=>.nil
 |_,_,.cons y t r,q=>.cons ⟨y,t,rfl,rfl,(q y mh).1,(q y mh).2⟩ (q7 r λy hy=>q y (mt hy))
theorem Hz(h:cQ k v=true)(r:RV G x v u):∃i t,u=.int i t∧(∀t,RV G x v (.int i t))∧RD x.T v (.int i):=by
 unfold cQ at h;induction v using V.casesOn with
 |int i=>obtain⟨t,rfl⟩:=r;exact lb i t rfl (λt=>⟨t,rfl⟩) rfl
 |id k' r'=>obtain⟨i,t,rfl,h⟩:=r;exact⟨i,t,rfl,λt=>⟨i,t,rfl,h⟩,i,rfl,h⟩
 |_=>exact ak h
theorem F6:∀{l:List V}{vs:List Value},l.all (cQ k)=true→aw (RV G x) l vs→∃rs:List (Int×V),rs.map (·.2)=l∧IntsAre vs (rs.map (·.1))∧∀p∈rs,(∀t,RV G x p.2 (.int p.1 t))∧RD x.T p.2 (.int p.1):=by
 intro l;induction l with
 |nil=>exact @λz z h=>by cases h;exact eJ [] rfl .nil (λz q=>az q)
 |cons v l ih_=>
  exact @λz p h=>by
   cases (h)with
   |cons a b=>refine U2 (aa p) λp1 p2=>?_;obtain⟨i,t,rfl,hv⟩:=Hz p1 a;refine X3 (ih_ p2 b) λrs h1 h2 h3=>?_;exact eJ ((i,v)::rs) (by rw[Q4,h1]) (.cons i t h2) (λq hq=>(P4.mp hq).elim (λe=>e▸hv) (h3 q))
theorem wW:∀{vs:List Value}{rs:List (Int×V)},IntsAre vs (rs.map (·.1))→(∀p∈rs,∀t,RV G x p.2 (.int p.1 t))→aw (RV G x) (rs.map (·.2)) vs
 |_,[],i,_=>by cases i;exact .nil
 |_,p::rs,i,q=>by
  cases (i)with
  |cons n t r=>exact .cons (q p mh t) (wW r λy hy=>q y (mt hy))
theorem I8{l:List V}(q:∀v∈l,V.dat c h k v n=true):V.datL c h k l n=true:=by
 induction l with
 |nil=>rfl
 |cons v l ih=>exact QL.mpr ⟨q v mh,ih λw hw=>q w (mt hw)⟩
theorem EM(h:cQ k v=true):V.dat true true k v 0=true:=by
 induction v using V.casesOn with
 |int i=>exact(aa h).2
 |id k' r=>exact h
 |_=>exact ak h
theorem qM:∀{rs:List (Int×V)},(∀p∈rs,RD T p.2 (.int p.1))→i7 T (rs.map (·.2)) ((rs.map (·.1)).map D.int)
 |[],_=>rfl
 |_::_,h=>⟨_,_,rfl,h _ mh,qM λp hp=>h p (mt hp)⟩
theorem E6(ok:dI T){l:List V}{ns js':List Int}(o:pW T p)(e:p.1=l)(hr:l.all (cQ k)=true)(r1:i7 T l (ns.map D.int))(r2:i7 T l' (js'.map D.int))(pl:l'.Perm l)(pj:js'.Perm ns)(sj:js'.Pairwise (·≤·)):p.2=l':=by subst e;refine Y5 o λis js h1 h2 h3 h4 h5=>?_;have e:is=ns:=(List.map_inj_right λz z h=>by injection h).mp ((RD.fun_both ok).2 _ _ _ h1 r1);subst e;have e:js=js':=Rd (le:=λa b=>a≤b) (λa b z z=>Int.le_antisymm) h5 sj (h4.trans pj.symm);subst e;have d:∀{m:List V},m.Perm p.1→V.datL true true k m 0=true:=λh=>I8 λv hv=>EM (P5.mp hr v (h.mem_iff.mp hv));exact(RD.inj_both ok).2 _ _ _ _ _ (d h3) (d pl) h2 r2
theorem Ca{S:St}(ok:dI x.T)(od:∀p∈S.o,pW x.T p)(h:(eG l S).run pA K):l.length<64∧∀(s:Shared)(A:Around)(E:VS)(a:Addr)(vs:List Value)(P:Fin→Shared→Prop),aw (RV G x) l vs→s.heap.get? a=some (seqObj "list" vs.toArray 0)→
 (∀(out:List V)(ys:List Value)(o:List (List V×List V)),K (.ls out) {S with o:=o}→(∀p∈o,pW x.T p)→out.length=l.length→aw (RV G x) out ys→P (.done (.ret .none)) {s with heap:=sortedHeap s.heap a vs ys.toArray})→WG G A (Builtin.«list.sort» ⟨[.ref a],[]⟩) P E s:=by
 unfold eG at h;cases hl:decide (l.length<64)with
 |false=>rw[hl]at h;exact h.elim
 |true=>
  have p:=PI hl;refine⟨p,λs A E a vs P r ho hP=>?_⟩;have h:cF.run pA (match cK l with
   |some ss=>.ret (.ls ((fY aZ ss).map .str)) S
   |none=>match l.all (cQ (S.n-1))with|true=>.perm l S|false=>.bad) K:=by rw[hl]at h;exact h
  cases hq:cK l with
  |some ss=>
   rw[hq]at h;refine X3 (uK r hq) λxs s1 s2 s3=>?_;refine list_sort_treeK strKind_oneLt ho s1.keysOf (λv₁ v₂ rest e=>keyKind_strs (by rw (config:={}) [← e];exact s1)) (by rw[← r.len];exact p) λst' hp hs=>?_;refine X3 (sorted_out_str s1 hp hs) λss' h1 h2 h3=>?_;have e1:fY aZ ss=ss'.map (·.cps.toList):=Rd (le:=λa b=>aZ a b=true) (λa b _ _ x y=>dW a b x y) (gi i9 fg _) (Rp.mpr (r6 h3)) ((iE _ _).trans (by rw[← s2];exact(h2.map _).symm))
   have h:K (.ls ((fY aZ ss).map .str)) S:=h;rw[e1]at h;have hq:=hP _ ((arrOf st').map (·.2)).toList S.o h od (by rw[PS,PS,h2.length_eq,r.len,← (q7 (G:=G) (x:=x) s1 s3).len,PS,PS]) (q7 h1 λx hx=>s3 x (h2.mem_iff.mp hx));rw[Array.toArray_toList]at hq;exact hq
  |none=>
   replace h:cF.run pA (match l.all (cQ (S.n-1))with|true=>.perm l S|false=>.bad) K:=by rw[hq]at h;exact h
   cases hr:l.all (cQ (S.n-1))with
   |false=>rw[hr]at h;exact h.elim
   |true=>rw[hr]at h;refine X3 (F6 hr r) λrs e1 i1 i2=>?_;refine list_sort_tree ho i1 (by rw[← r.len];exact p) λout ns' h1 h2 h3=>?_;refine X2 (iT h2) λrs' e2 p2=>?_;rw[← e2]at h1 h2 h3;have d1:i7 x.T l ((rs.map (·.1)).map D.int):=e1▸qM λp hp=>(i2 p hp).2;have d2:=qM λp hp=>(i2 p (p2.mem_iff.mp hp)).2;have pl:(rs'.map (·.2)).Perm l:=e1▸p2.map _;have hq:=hP (rs'.map (·.2)) out.toList _ (h _ pl λp hp e=>E6 ok (od p hp) e hr d1 d2 pl h2 h3) (λp hp=>(P4.mp hp).elim (λe=>e▸⟨_,_,d1,d2,pl,h2,h3⟩) (od p)) pl.length_eq (wW h1 λx hx=>(i2 x (p2.mem_iff.mp hx)).1);rw[Array.toArray_toList]at hq;exact hq
theorem av.sorts(I:av G x){o:List (List V×List V)}(ho:∀p∈o,pW x.T p):Nx G [] x {x with S:={x.S with o:=o}}:=by
 have L:Lm [] x {x with S:={x.S with o:=o}}:=⟨⟨λk R e=>⟨[],by rw[Qy];exact e⟩,λz z e=>e,λz z e n z=>⟨e,n⟩,λz z e n=>⟨e,n⟩⟩,λz z e=>e⟩
 exact⟨⟨L,λz z e n=>⟨e,n⟩,Qi _,rfl,rfl⟩,I.go (y:={x with S:={x.S with o:=o}}) L .nil I.room I.live I.ρlen (λi o a h1 h2=>.inl ⟨h1,h2,λz=>⟨rfl,rfl⟩⟩) I.τlen (λk R t h1 h2=>.inl ⟨h1,h2,λb z=>⟨rfl,rfl⟩⟩) I.ok I.n (λh=>.inl ⟨h,rfl⟩) λp h=>.inr (ho p h)⟩
theorem vg(I:av G x)(h:(eG l x.S).run pA K)(q:Qk G x K Q)
 (hc:∀(Q':List Value→Shared→Prop),(∀h1 tk vs,bE x.h h1→aw (RV G (x.to {x.s with heap:=h1,toks:=tk})) l vs→Q' vs {x.s with heap:=h1,toks:=tk})→wpAny (model G.prog G.w) A.in1 (collect u) Q' E x.s) :
 WG G A (call (.builtin "sorted") [u]) Q E x.s:=by
 refine Calls.call_function_entry kind_sorted plain_sorted entry_sorted (args_sorted1 _) ?_;delta Builtin.«sorted»
 refine PK (m:=checkCount "sorted" 1 1 _) (PU ?_);refine PK (hc _ λh1 tk vs hk r=>?_);have n1:=I.kept (W:=[]) (s':={x.s with heap:=h1,toks:=tk}) hk rfl rfl;refine U2 (Ca (G:=G) (x:=x.to {x.s with heap:=h1,toks:=tk}) I.ok I.ord h) λp f=>?_;have hz:vs.length≤sizeLine:=bB (PM (Rm (r.len▸p)) (ag rfl));refine PK (wpAny_newList ?_ hz);have hoL:(h1.push (seqObj "list" vs.toArray 0)).get? h1.objs.size=some (seqObj "list" vs.toArray 0):=P2 _ rfl;have kp1:∀(ys:List Value),bE h1 (sortedHeap (h1.push (seqObj "list" vs.toArray 0)) h1.objs.size vs ys.toArray):=λys b o q1=>by have lt:=Q3 q1;rw[sortedHeap_old (Q9 lt) (by rw[size_push'];exact Nat.lt_succ_of_lt lt)];exact PY _ q1
 refine PK (Qn (wpAny_call_entry slot_list_sort ⟨_,hoL,rfl⟩ entry_list_sort ?_ (args_list_sort _)));refine f {x.s with heap:=h1.push (seqObj "list" vs.toArray 0),toks:=tk} _ _ h1.objs.size vs _ r hoL λout ys o k ho lo ry=>⟨_,rfl,?_⟩
 refine X1 (sortedHeap_at (out:=ys.toArray) hoL) λm he=>?_;have n2:=n1.inv.kept (W:=[]) (s':={x.s with heap:=sortedHeap (h1.push (seqObj "list" vs.toArray 0)) h1.objs.size vs ys.toArray,toks:=tk}) (kp1 ys) rfl rfl;have n3:=n2.inv.sorts ho;exact PU ⟨_,rfl,q (.ls out) _ _ k ((n1.trans n2).trans n3) ⟨_,ys,rfl,⟨m,he⟩,n1.inv.fresh (bh _),PM (Rm (lo▸p)) (ag rfl),bP.of (bP.nx n3 n2.inv (bP.nx n2 n1.inv ry))⟩⟩
theorem JB{k:V}{d:D}{y:Value}(r:nA G x (k,v) (d,y))(hw:(cD G.prog G.w).is d w=true):RV G x k w:=by
 rcases dZ (PI hw)with⟨i,t,rfl,rfl⟩|⟨z,t,rfl,rfl⟩
 ·have r1:RD x.T k (.int i):=r.1;induction k using V.casesOn with
  |int j=>cases r1;exact⟨t,rfl⟩
  |id k' r'=>refine X2 r1 λj e a=>?_;cases e;exact A4 j t rfl a
  |_=>first|(refine X2 r1 λY r1 Y=>?_;cases r1;done)|(cases r1;done)
 ·have r1:RD x.T k (.str z):=r.1;cases k with
  |str s=>refine X2 r1 λy e e2=>?_;cases e;exact ke z t rfl e2 (e2▸(r.2.2 z rfl).2) ((r.2.2 z rfl).1)
  |_=>first|(refine X2 r1 λY r1 Y=>?_;cases r1;done)|(cases r1;done)
theorem xo:∀{l:List (V×V)}{m:List (D×Value)}{ws:List Value},aw (nA G x) l m→ws.length=m.length→(∀(j:Nat)(v:Value),ws[j]?=some v→∃k x,m[j]?=some (k,x)∧(cD G.prog G.w).is k v=true)→aw (RV G x) (l.map (·.1)) ws
 |[],_,[],h,_,_=>by cases h;exact .nil
 |[],_,_::_,h,e,_=>by cases h;cases e
 |_::_,_,[],h,e,_=>by cases h;cases e
 |_::_,_,w::ws,h,e,q=>by
  cases (h)with
  |cons h t=>refine .cons ?_ (xo t (Nat.succ.inj e) λj v hv=>q (j+1) v hv);refine Y2 (q 0 w rfl) λk y h1 h2=>?_;replace h1:=PG h1;subst h1;exact JB h h2
end
noncomputable def lR:P1→Value
 |.len=>.builtin "len"
 |.sorted=>.builtin "sorted"
 |.tuple=>.type "tuple"
 |.isStr=>.builtin "isinstance"
 |.all=>.builtin "all"
 |.any=>.builtin "any"
 |.range=>.type "range"
noncomputable def EN:P1→Value→List Value
 |.isStr,u=>[u,.type "str"]
 |_,u=>[u]
section
variable{x:Cf}{A:Around}{E:VS}{v:V}
theorem bE.pushed(h:Heap)(o:Obj)(f:Obj→Obj):bE h ((h.push o).update h.objs.size f):=λb o' q=>by rw[Heap.get?_update_ne _ _ _ _ (Q9 (Q3 q))];exact PY _ q
theorem fR{S:St}{C:Prop}(h:(iH o S).run pA K)(f:∀v,o=some v→K v S→C):C:=by
 cases o with
 |none=>exact h.elim
 |some v=>exact f v rfl h
theorem uD:∀{l:List V}{vs:List Value}{bs:List Bool},aw (RV G x) l vs→gK l=some bs→vs=bs.map Value.bool:=by
 intro l;induction l with
 |nil=>exact @λz z h e=>by cases h;replace e:=PG e;subst e;rfl
 |cons v l ih_=>
  exact @λz bs h e=>by
   cases (h)with
   |cons a b=>refine aG (K:=(·=bs)) (x:=v.asBool) (g:=λs=>(gK l).map (s :: ·)) (by rw[show v.asBool.bind _=some bs from e];rfl) λs hs e'=>cR e' λss' hq e'=>?_;have:=vc hs;subst this e';subst a;rw[ih_ b hq];rfl
theorem wA(bs:List Bool):(List.range bs.length).map (λi=>(bs[i]?).getD false)=bs:=by
 apply List.ext_getElem
 ·simp
 ·intro i h1 h2;simp[h2]
theorem DZ(bs:List Bool):(List.range bs.length).all (λi=>(bs[i]?).getD false)=bs.all (·):=by have:=Qb (·.all (·)) (wA bs);rw[← this,all_map];rfl
theorem Dp(bs:List Bool):(List.range bs.length).any (λi=>(bs[i]?).getD false)=bs.any (·):=by have:=Qb (·.any (·)) (wA bs);rw[← this,any_map];rfl
theorem vh(h:v.asLst=some l):bT x.S v=some l:=by rw[nV h];rfl
theorem zg(hh:A.handled=none)(I:av G x)(r:RV G x v u)(h:(eD p v x.S).run pA K)(q0:Qk G x K Q):WG G A (call (lR p) (EN p u)) Q E x.s:=by
 have q:=q0.pu;induction p using P1.casesOn with
 |len=>
  refine fR h λw hw k=>?_;cases hl:bu x.S v with
  |some l=>
   rw[hl]at hw;replace hw:=PG hw;subst hw;refine I.list r hl (λa xs Y e ha z r=>e▸?_) (λa xs e ha z r=>e▸?_)
   ·refine PyProof.Rows.len_tuple ha.isTup (by rw[P9,← r.len];exact iR z) ?_;rw[P9,← r.len];exact q.same I k _ ⟨_,rfl⟩
   ·refine call_len_list ha.isList (by rw[P9,← r.len];exact iR z) ?_;rw[P9,← r.len];exact q.same I k _ ⟨_,rfl⟩
  |none=>
   replace hw:((dictAt x.S v).map λd=>V.int d.2.length)=some w:=by rw[hl]at hw;exact hw
   obtain⟨d,hd,rfl⟩:=Qr.mp hw;refine I.dict r hd λa m Y e Y Y ha z r hs=>e▸call_len_dict hs ha (by rw[← r.len];exact iR z) ?_;rw[← r.len];exact q.same I k _ ⟨_,rfl⟩
 |sorted=>
  cases hl:bT x.S v with
  |some l=>
   replace h:(eG l x.S).run pA K:=by unfold eD at h;rw[hl]at h;exact h
   exact I.ls r hl λa xs e ha z r=>e▸vg I h q0 λQ' hq=>collect_list ha.isList (hq _ x.s.toks xs (bE.pushed _ _ _) (bP.nx (I.kept (W:=[]) (s':={x.s with heap:=_,toks:=x.s.toks}) (bE.pushed _ _ _) rfl rfl) I r)) (by rw[← r.len];exact bB z)
  |none=>
   cases hd:dictAt x.S v with
   |none=>unfold eD at h;rw[hl,hd]at h;exact h.elim
   |some d=>
    replace h:(eG (d.2.map (·.1)) x.S).run pA K:=by unfold eD at h;rw[hl,hd]at h;exact h
    refine I.dict r hd λa m Y e Y Y ha z r hs=>e▸vg I h q0 λQ' hq=>?_;refine X1 ha.dictAt λep hat=>?_;exact kdu_collect (kdl_dict (knd:=cD G.prog G.w) (kvs:=m) (ep:=ep) hs) hh hat (by rw[← r.len];exact bB z) λh' tk acc hk hacc=>hq h' tk acc.toList hk
     (xo (r.imp λp q h=>⟨h.1,h.2.1.nx (I.kept (W:=[]) (s':={x.s with heap:=h',toks:=tk}) hk rfl rfl) I,h.2.2⟩) (by rw[length_toList];exact hacc.1) λj v hv=>hacc.2 j v (by rw[← Array.getElem?_toList];exact hv))
 |tuple=>
  refine fR h λw hw k=>?_;obtain⟨l,hl,rfl⟩:=Qr.mp hw;refine I.list r hl (λa xs hv e ha z Y=>?_) (λa xs e ha z r=>e▸call_tuple_list ha.isList (λh' hk=>?_) (by rw[P9,← r.len];exact bB z))
  ·rw[hv]at r;exact e▸call_tuple_same ha.isTuple (q.same I k x.s.toks (e▸r))
  ·have hk:bE x.h h':=hk;exact q.old I k (λb o e=>PY _ (hk b o e)) λn=>⟨_,xs,rfl,P2 _ rfl,I.fresh (by
    cases q:x.h.get? h'.objs.size with
    |none=>rfl
    |some o=>have:=hk _ _ q;rw[bh]at this;exact ah this),z,bP.of (bP.nx n I r)⟩
 |isStr=>
  refine fR h λw hw k=>?_;cases v with
  |str s=>replace hw:=PG hw;subst hw;obtain⟨y,t,rfl,_⟩:=r;exact PySem.IsiPair.str_str (q.same I k x.s.toks rfl)
  |int i=>replace hw:=PG hw;subst hw;obtain⟨t,rfl⟩:=r;exact PySem.IsiPair.int_str (q.same I k _ rfl)
  |_=>exact ah hw
 |all=>
  refine fR h λw hw k=>?_;obtain⟨bs,hb,rfl⟩:=Qr.mp hw;refine X2 (Qm.mp hb) λl hl ht=>?_;refine I.ls r (vh hl) λa xs e ha z r=>?_;have hx:=uD r ht;subst hx e;refine call_all_walk (RT ha.isList ⟨x.h.objs.size,_,_,_,_,_,λi=>(bs[i]?).getD false,rfl,Walks.list (A:=A.in1) hh x.h.objs.size a (Q9 (Q3 ha.isList.choose_spec.1)) (bs.map Value.bool).toArray,⟨⟨_,P2 _ rfl,rfl,rfl⟩,ha.elim λn ha=>⟨_,PY _ ha,rfl,n,rfl⟩⟩,λi v s Q E hi hq=>?_,λh' tk hk=>?_⟩)
  ·simp only[List.getElem?_toArray,QQ,Qr]at hi;obtain⟨b,hb,rfl⟩:=hi;simp only[hb,Option.getD_some]at hq;exact QN hq
  ·rw[P9,PS,DZ];exact q.olds I k tk (λb o e=>hk b o (λz=>Q9 (Q3 e) (PH.mp z)) (PY _ e)) λY=>rfl
 |any=>
  refine fR h λw hw k=>?_;obtain⟨bs,hb,rfl⟩:=Qr.mp hw;refine X2 (Qm.mp hb) λl hl ht=>?_;refine I.ls r (vh hl) λa xs e ha z r=>?_;have hx:=uD r ht;subst hx e;refine call_any_walk (RT ha.isList ⟨x.h.objs.size,_,_,_,_,_,λi=>(bs[i]?).getD false,rfl,Walks.list (A:=A.in1) hh x.h.objs.size a (Q9 (Q3 ha.isList.choose_spec.1)) (bs.map Value.bool).toArray,⟨⟨_,P2 _ rfl,rfl,rfl⟩,ha.elim λn ha=>⟨_,PY _ ha,rfl,n,rfl⟩⟩,λi v s Q E hi hq=>?_,λh' tk hk=>?_⟩)
  ·simp only[List.getElem?_toArray,QQ,Qr]at hi;obtain⟨b,hb,rfl⟩:=hi;simp only[hb,Option.getD_some]at hq;exact QN hq
  ·rw[P9,PS,Dp];exact q.olds I k tk (λb o e=>hk b o (λz=>Q9 (Q3 e) (PH.mp z)) (PY _ e)) λY=>rfl
 |range=>
  refine fR h λw hw k=>?_;refine X2 (Qm.mp hw) λi hi hw=>?_;refine X2 (Qm.mp hw) λn hn hw3=>?_;have hi':i=(n:Int):=by cases i<;>cases hn;rfl
  have:=b9 hi;subst hi' this;obtain⟨t,rfl⟩:=r;cases hb:decide (n≤aD)with
  |false=>rw[hb]at hw3;exact ah hw3
  |true=>rw[hb]at hw3;replace hw3:=PG hw3;subst hw3;exact call_range_1 (q.olds I k _ (bE.push _ _) λY=>⟨_,_,_,_,rfl,P2 _ rfl,I.fresh (bh _),PI hb⟩)
end
theorem LG(h:iZ l=some v):l=[v]:=by
 match l,h with
 |[_],h=>replace h:=PG h;subst h;rfl
theorem jw:∀{l:List V}{n i:Nat},dc x l n=some i→n≤i∧l[i-n]?=some x:=by
 intro l;induction l with
 |nil=>exact @λz z e=>by exact ah e
 |cons y ys ih_=>
  exact @λn i e=>by
   unfold dc at e;cases q:V.beq y x with
   |true=>rw[q]at e;replace e:=PG e;subst e;rw[sub_self,iJ q];exact⟨Qi _,rfl⟩
   |false=>rw[q]at e;refine U2 (ih_ e) λh1 h2=>?_;refine⟨Nat.le_of_succ_le h1,?_⟩;rw[show i-n=(i-(n+1))+1 from Fh h1];exact h2
theorem mP:∀{l:List V}{n:Nat},dc x l n=none→x∉l:=by
 intro l;induction l with
 |nil=>exact @λz z=>λh=>az h
 |cons y ys ih_=>
  exact @λn e=>by
   unfold dc at e;cases q:V.beq y x with
   |true=>rw[q]at e;exact qE e
   |false=>rw[q]at e;exact λh=>(P4.mp h).elim (λh=>iQ.mp q h.symm) (ih_ e)
section
variable{G:GE}{x:Cf}{A:Around}{E:VS}
theorem q9(h:fS k r=true):∃c l b,r=.tp (.int c::l)∧V.datL b true k l 5=true∧(decide (c=3)||decide (c=4))=!b∧(b=true→c<16):=by
 induction r using V.casesOn with
 |tp l=>
  induction l using List.casesOn with
  |nil=>exact ak h
  |cons c l=>
   induction c using V.casesOn with
   |int c=>
    replace h:(match decide (c=3)||decide (c=4)with|true=>V.datL false true k l 5|false=>decide (c<16)&&V.datL true true k l 5)=true:=h;cases q:decide (c=3)||decide (c=4)with
    |true=>rw[q]at h;exact BC c l false rfl h q (λe=>ak e)
    |false=>rw[q]at h;exact BC c l true rfl ((aa h).2) q (λz=>PI (aa h).1)
   |_=>exact ak h
 |_=>exact ak h
theorem zL(ok:dI T)(h:fS k r=true)(h':fS k r'=true)(p:RD T r d)(p':RD T r' d):r=r':=by
 obtain⟨c,l,b,rfl,h1,h2,_⟩:=q9 h;obtain⟨c',l',b',rfl,h1',h2',_⟩:=q9 h';obtain⟨ds,rfl,e,es,rfl,q1,q2⟩:=p;obtain⟨ds',e',f,fs,e2,q1',q2'⟩:=p';cases e';cases e2;have e3:e=.int c:=q1;have e4:e=.int c':=q1';rw[e3]at e4;injection e4 with e4;subst e4;have:b=b':=by rw[h2]at h2'; cases b<;>cases b'<;>first|rfl|cases h2'
 subst this;rw[(RD.inj_both ok).2 _ _ _ _ _ h1 h1' q2 q2']
theorem yk(h:fS k r=true)(p:RV G x r u):∃a d,u=.ref a∧RD x.T r d∧(dB G.prog G.w).is x.h d a:=by
 obtain⟨c,l,b,rfl,h1,_,h3⟩:=q9 h;have q:V.dat b true k (.tp (.int c::l)) 6=true:=by
  show(V.dat b true k (.int c) 5&&V.datL b true k l 5)=true;rw[h1,Bool.and_true];cases b with
  |false=>rfl
  |true=>exact PL (h3 rfl)
 refine X4 (RV.data_both.1 _ _ _ p q) λd d1 d2 _ d4=>?_;obtain⟨a,_,e,_⟩:=p;exact ke a d e d1 (d4 rfl) (e▸d2)
theorem Eo{d:D}{w:Value}:∀{m:List (D×Addr×Value)}{n:Nat},(m.map (·.1)).Nodup→m[n]?=some (d,a,w)→atKey m d=some (a,w):=by
 intro m;induction m with
 |nil=>exact @λz z h=>by exact ah h
 |cons p m ih_=>
  exact @λn nd h=>by
   rw[Q4,RN]at nd;delta atKey
   cases n with
   |zero=>replace h:=PG h;subst h;rw[List.find?_cons,PL (show((d,a,w):D×Addr×Value).1=d from rfl)];rfl
   |succ n=>have hm:(d,a,w)∈m:=PZ.mpr ⟨n,h⟩;rw[List.find?_cons,PQ (show ¬p.1=d from λe=>nd.1 (Qd.mpr ⟨_,hm,e.symm⟩))];exact ih_ nd.2 h
theorem Dy(I:av G x)(hR:x.T[k]?=some R)(TT:TR G x k R t)(ok:fS k r=true)(rd:RD x.T r d)(hm:x.h.DictOfH (dB G.prog G.w) t.idx m)(hi:sS x.T R m) :
 (∃n a tk,atKey m d=some (a,.int (n:Nat) tk)∧R[n]?=some r)∨(atKey m d=none∧r∉R):=by
 have nd:(m.map (·.1)).Nodup:=by refine J6 hm λz z z z z z z z nd=>?_;exact nd
 by_cases h:r∈R
 ·refine X1 (PZ.mp h) λn hn=>?_;refine J2 (hi.2 n r hn) λd' a tk h1 h2=>?_;have:=(RD.fun_both I.ok).1 _ _ _ rd h2;subst this;exact .inl ⟨n,a,tk,Eo nd h1,hn⟩
 ·refine .inr ⟨?_,h⟩;delta atKey
  rw[Option.map_eq_none_iff,List.find?_eq_none];intro p hp e;refine X1 (PZ.mp hp) λn hn=>?_;have hl:n<R.length:=hi.1▸(PO.mp hn).1;refine J2 (hi.2 n _ (Qg hl)) λd' a tk h1 h2=>?_;rw[hn]at h1;replace h1:=PG h1;subst h1;have:=PI e;subst this;exact h (zL I.ok (TT.rowok _ (getElem_mem hl)) ok h2 rd▸getElem_mem hl)
theorem Bq{k n:Nat}{R:List V}{t:TA}{r:V}{tk:Tok}(I:av G x)(hR:x.T[k]?=some R)(TT:TR G x k R t)(hn:R[n]?=some r):(∀i,dc r ax 0=some i→RV G x (.int i) (.int n tk))∧(dc r ax 0=none→RV G x (.id k r) (.int n tk)):=by
 refine⟨λi hi=>?_,λhi=>⟨n,tk,rfl,Ro λh=>mP hi ?_,R,hR,hn⟩⟩
 ·have e:=I.ok _ _ hR _ _ _ (TT.get (jw hi).2) hn;rw[Nat.sub_zero]at e;exact⟨tk,by rw[e]⟩
 ·rw[← TT.first];exact PZ.mpr ⟨n,by rw[List.getElem?_take,Qx h];exact hn⟩
theorem wq(I:av G x)(hR:x.T[k]?=some R)(h:dG x.S k r=true):r∈R:=by
 refine U2 (aa h) λh h2=>?_;refine U2 (aa h) λh0 h1=>?_;have e:x.S.n-1=k:=by rw[← PJ h1];rfl
 refine X1 (Q0.mp h2) λi hi=>?_;obtain⟨j,_,R',a,b⟩:=I.late h0 r (e▸PZ.mpr ⟨_,(jw hi).2⟩);rw[e,hR]at a;replace a:=PG a;subst a;exact PZ.mpr ⟨j,b⟩
noncomputable def p6:M1→String
 |.put=>"put"
 |.append=>"append"
 |.extend=>"extend"
 |.get=>"get"
 |.pop=>"pop"
 |.join=>"join"
 |.split=>"split"
noncomputable def CJ:M1→String
 |.put=>""
 |.append=>"list.append"
 |.extend=>"list.extend"
 |.get=>"dict.get"
 |.pop=>"list.pop"
 |.join=>"str.join"
 |.split=>"str.split"
inductive C5:List (Int×Int)→List (D×Value)→Prop
 |nil:C5 [] []
 |cons {i j:Int} {t:Tok} {l:List (Int×Int)} {m:List (D×Value)} (r:C5 l m):C5 ((i,j)::l) ((.int i,.int j t)::m)
structure pC (G:GE):Prop where
 at_:∃m,G.base.DictOf (cD G.prog G.w) G.KF m∧C5 tZ m
 sys:(G.KF==sysModules)=false
theorem jA(y:aN h a xs):∀b,Value.ref a=.ref b→∃o,h.get? b=some o∧o.dict=none:=λb e=>by cases e;refine X1 y λn e=>?_;exact aB _ e rfl
theorem Az{m:M1}{pl:Sem Bool}{Q:Value×List Value→Shared→Prop}(kf:pC G)(hp:m≠.put)(I:av G x)(r:RV G x v u)(h:vY m x.S v=true)(q:Q (.builtin (CJ m),[u]) x.s):WG G A (getMethod u (Str.ofString (p6 m)) pl) Q E x.s:=by
 have dict:∀(a:Addr)(ob:Obj),u=.ref a→x.h.get? a=some ob→ob.ExactDict→m=.get→WG G A (getMethod u (Str.ofString (p6 m)) pl) Q E x.s:=λa ob e ha hx hm=>by subst e hm;exact Rj (T:="dict") ⟨ob,ha,hx.1⟩ F.plainAttrs_dict F.slot_dict_get F.type_dict_get (λb e=>by cases e;exact aB ob ha hx.2.1) q
 have own:(bI x.S v).isSome=true→∃a xs,u=.ref a∧aN x.h a xs:=λh=>by refine X1 (Q0.mp h) λd hd=>?_;exact I.own r hd λa xs _ e _ _ ha _ _=>⟨a,xs,e,ha⟩
 have str:v.asStr.isSome=true→∃y t,u=.str y t:=λh=>by refine X1 (Q0.mp h) λd hd=>?_;cases eE hd;obtain⟨y,t,e,_⟩:=r;exact N3 y t e
 induction m using M1.casesOn with
 |put=>exact absurd rfl hp
 |append=>obtain⟨a,xs,rfl,ha⟩:=own h;exact Rj ha.isList.typeIs F.plainAttrs_list F.slot_list_append F.type_list_append (jA ha) q
 |extend=>obtain⟨a,xs,rfl,ha⟩:=own h;exact Rj ha.isList.typeIs F.plainAttrs_list F.slot_list_extend F.type_list_extend (jA ha) q
 |pop=>obtain⟨a,xs,rfl,ha⟩:=own h;exact Rj ha.isList.typeIs F.plainAttrs_list F.slot_list_pop F.type_list_pop (jA ha) q
 |join=>obtain⟨y,t,rfl⟩:=str h;exact Rj (typeIs_str x.s y t) F.plainAttrs_str F.slot_str_join F.type_str_join (λa e=>nomatch e) q
 |split=>obtain⟨y,t,rfl⟩:=str h;exact Rj (typeIs_str x.s y t) F.plainAttrs_str F.slot_str_split F.type_str_split (λa e=>nomatch e) q
 |get=>
  cases hd:dictAt x.S v with
  |some d=>exact I.dict r hd λa m _ e _ _ ha _ _ _=>by obtain⟨ob,es,ep,ho,hx,_⟩:=ha;exact dict a ob e ho hx rfl
  |none=>
   replace h:(match v.asHdl with|some (.index,_)=>true|some (.fd,_)=>true|_=>false)=true:=by unfold vY at h;rw[hd]at h;exact h
   split at h
   ·rename_i k hk;cases gq hk;obtain⟨a,e,t,ht,rfl⟩:=r;refine X2 (I.tabAt ht) λR _ TT=>?_;obtain⟨m,⟨ob,es,ep,ho,hx,_⟩,_⟩:=TT.index;exact dict _ ob e ho hx rfl
   ·rename_i k hk;cases gq hk;obtain⟨a,e,rfl⟩:=r;obtain⟨m,⟨ob,es,ep,ho,hx,_⟩,_⟩:=kf.at_;exact dict _ ob e (I.base _ _ ho) hx rfl
   ·exact ak h
theorem Bv(sep:Str):∀(xs:List Str)(acc:Array Nat),(xs.foldl (λacc p=>acc++sep.cps++p.cps) acc).toList=acc.toList++xs.flatMap (λp=>sep.cps.toList++p.cps.toList):=by
 intro xs;induction xs with
 |nil=>exact λacc=>by simp
 |cons x xs ih_=>
  exact λacc=>by rw[List.foldl_cons,ih_,QJ];simp
theorem eZ(sep:List Nat):∀(x:List Nat)(xs:List (List Nat)),bL sep (x::xs)=x++xs.flatMap (λp=>sep++p)
 |x,[]=>(Qy x).symm
 |x,y::ys=>by show x++sep++bL sep (y::ys)=_;rw[eZ sep y ys,QJ];simp
theorem xh(sep:Str)(xs:List Str):(Txt.join sep xs).cps.toList=bL sep.cps.toList (xs.map (·.cps.toList)):=by
 cases xs with
 |nil=>rfl
 |cons x xs=>show((xs.foldl (λacc p=>acc++sep.cps++p.cps) x.cps)).toList=_;rw[Bv,Q4,eZ,List.flatMap_map]
theorem kW{x:Str}:PyData.strOk x=true↔∀c∈x.cps.toList,c<0x110000:=by
 delta PyData.strOk
 rw[Array.all_eq_true'];exact⟨λh c hc=>PI (h c (Array.mem_toList_iff.mp hc)),λh c hc=>PL (h c (Array.mem_toList_iff.mpr hc))⟩
theorem E4{c:Nat}(h:c∈bL sep xs):c∈sep∨∃x∈xs,c∈x:=by
 cases xs with
 |nil=>exact az h
 |cons x xs=>
  rw[eZ,Qe,Qz]at h;rcases h with h|⟨y,hy,h⟩
  ·exact .inr ⟨x,.head _,h⟩
  ·exact(Qe.mp h).imp_right λh=>⟨y,mt hy,h⟩
theorem Ez(sep:List Nat)(xs:List (List Nat)):(bL sep xs).length≤(xs.map List.length).sum+xs.length*sep.length:=by
 have gen:∀xs:List (List Nat),(xs.flatMap λp=>sep++p).length=(xs.map List.length).sum+xs.length*sep.length:=by
  intro xs;induction xs with
  |nil=>simp
  |cons y ys ih=>simp only[QJ,PX,Q4,List.sum_cons,Qf,R6,ih];omega
 cases xs with
 |nil=>simp[bL]
 |cons x xs=>rw[eZ,PX,gen,Q4,List.sum_cons,Qf,R6];omega
theorem Ce{a b:Nat}(h:a≠b):beq a b=false:=by
 cases e:beq a b with
 |false=>rfl
 |true=>exact absurd (PJ e) h
theorem xa{c:Nat}:∀{p:List Nat},c∉p→a9 c p=[p]:=by
 intro p;induction p with
 |nil=>exact @λz=>rfl
 |cons y xs ih_=>
  exact @λh=>by show(match beq y c with|true=>_|false=>_)=_;rw[Ce (a:=y) (b:=c) λe=>h (e▸.head _),ih_ (λq=>h (mt q))]
theorem xw{c:Nat}{r:List Nat}:∀{p:List Nat},c∉p→a9 c (p++c::r)=p::a9 c r:=by
 intro p;induction p with
 |nil=>
  exact @λz=>by show(match beq c c with|true=>_|false=>_)=_;rw[RA]
 |cons y xs ih_=>
  exact @λh=>by show(match beq y c with|true=>_|false=>_)=_;rw[Ce (a:=y) (b:=c) λe=>h (e▸.head _),show a9 c (xs.append (c::r))=xs::a9 c r from ih_ (λq=>h (mt q))]
theorem pP{c:Nat}:∀{xs:List (List Nat)},xs≠[]→(∀p∈xs,c∉p)→a9 c (bL [c] xs)=xs
 |[],h,_=>absurd rfl h
 |[x],_,h=>xa (h x mh)
 |x::y::ys,_,h=>by have:bL [c] (x::y::ys)=x++c::bL [c] (y::ys):=QK x [c] _;rw[this,xw (h x mh),pP (cons_ne_nil _ _) λp hp=>h p (mt hp)]
theorem pw(sep:Str):∀(xs:List Str),(Str.join sep xs).cps.toList=bL sep.cps.toList (xs.map (·.cps.toList))
 |[]=>rfl
 |[x]=>rfl
 |x::y::ys=>by show((x++sep)++Str.join sep (y::ys)).cps.toList=_;rw[m8,m8,pw sep (y::ys)];rfl
theorem F5(x y:Str):Txt.split x y≠[]:=by
 delta Txt.split
 split
 ·exact cons_ne_nil _ _
 ·split
  ·exact cons_ne_nil _ _
  ·delta Builtin.Str.partsBetween
   simp
theorem EJ(x:Str)(c:Nat):a9 c x.cps.toList=(Txt.split x ⟨#[c]⟩).map (·.cps.toList):=by
 have h3:x.cps.toList=bL [c] ((Txt.split x ⟨#[c]⟩).map (·.cps.toList)):=by rw[← pw ⟨#[c]⟩,StrLaws.join_split x ⟨#[c]⟩]
 rw[h3];refine pP (by simpa using F5 _ _) λp hp=>?_;obtain⟨q,hq,rfl⟩:=Qd.mp hp;exact StrLaws.split_free x c q hq
theorem vV{y:List Nat}{c:Nat}{xs:List (List Nat)}(h:y∈xs)(hc:c∈y):c∈bL sep xs:=by
 cases xs with
 |nil=>exact az h
 |cons z ys=>
  rw[eZ,Qe,Qz];rcases P4.mp h with rfl|h
  ·exact .inl hc
  ·exact .inr ⟨y,h,List.mem_append_right _ hc⟩
variable{w:Value}{v:V}
theorem m7:∀{l:List (Int×Int)}{m:List (D×Value)},C5 l m→(f9 i l=none→valueAt m (.int i)=none)∧∀v,f9 i l=some v→∃j t,v=.int j∧valueAt m (.int i)=some (.int j t)
 |[],_,h=>by cases h;exact⟨λz=>rfl,λz h=>ah h⟩
 |(a,b)::l,_,h=>by
  cases h with
  |@cons _ _ t _ m r=>
   rw[pE];unfold f9;by_cases q:a=i
   ·rw[PL q,Qx (Qb D.int q)];exact⟨λh=>(qE h),λv h=>⟨b,t,(PG h).symm,rfl⟩⟩
   ·rw[PQ q,Qv λe=>q (by injection e)];exact m7 r
theorem DU{i:Int}:∀{l:List (Int×Int)},(∀p∈l,p.1≠i)→f9 i l=none:=by
 intro l;induction l with
 |nil=>exact @λz=>rfl
 |cons p l ih_=>
  exact @λh=>by unfold f9;rw[PQ (h p mh)];exact ih_ λq hq=>h q (mt hq)
theorem bj{α:Type}{o:Option α}{f:α→cF}{C:Prop}(h:(ct o f).run pA K)(k:∀v,o=some v→(f v).run pA K→C):C:=by
 cases o with
 |none=>exact h.elim
 |some v=>exact k v rfl h
theorem ee{C:Prop}(h:(eM b o).run pA K)(k:b=true→o.run pA K→C):C:=by
 cases b with
 |false=>exact h.elim
 |true=>exact k rfl h
theorem gu(h:iZ l=some e)(r:aw (RV G x) l ws):∃w,ws=[w]∧RV G x e w:=by
 rw[LG h]at r;cases (r)with
 |cons a b=>cases b;exact aB _ rfl a
theorem Jd{wd:Value}{i:Nat}{e:List (V×V)}(I:av G x)(ro:RV G x v u)(rk:RV G x k wk)(rd:RV G x d wd)(hd:dictAt x.S v=some (i,e))(hk:bf (x.S.n-1) k e=true)(h:K ((aC k e).getD d) x.S)(q:Qk G x K Q):WG G A (call (.builtin "dict.get") [u,wk,wd]) Q E x.s:=by
 refine I.dict ro hd λa m Y e' Y Y ha z r hs=>?_;subst e';refine U2 (aa hk) λk1 k2=>?_;refine X3 (rX k1 rk) λdd rdd hdd Y=>?_;have key:∃y,(valueAt m dd).getD wd=y∧RV G x ((aC k e).getD d) y:=by
  refine U2 (tB I.ok k1 rdd r k2) λf1 f2=>?_;cases hf:aC k e with
  |some w=>refine X2 (f2 w hf) λy hy ry=>?_;exact aB y (by rw[hy];rfl) ry
  |none=>
   rw[hf]at f1;cases hv:valueAt m dd with
   |some y=>rw[hv]at f1;exact ak f1
   |none=>exact aB wd rfl rd
 refine X2 key λy hy ry=>?_;exact call_meetsIn F.slot_dict_get ha.mapOf.typeIs F.entry_dict_get (F.args_dict_get_3 _ _ _) (meets_dict_get_default (cD G.prog G.w) _ hdd hs _) ⟨_,ha.mapOf,by rw[hy];exact q.pu.same I h _ ry⟩
theorem I3{wd:Value}(hu:A.in1.units+64<cLine)(I:av G x)(ro:Hd G x .index kk a)(rk:RV G x k wk)(rd:RV G x d wd)(h:(w5 kk k d x.S).run pA K)(q:Qk G x K Q):WG G A (call (.builtin "dict.get") [.ref a,wk,wd]) Q E x.s:=by
 obtain⟨t,ht,rfl⟩:=ro;refine X2 (I.tabAt ht) λR hR TT=>?_;refine X2 TT.index λm hm hi=>?_;refine ee h λok h=>?_;obtain⟨a,dd,rfl,rdd,hkk⟩:=yk ok rk;have tail:∀w y,K w x.S→((atKey m dd).map (·.2)).getD wd=y→RV G x w y→WG G A (call (.builtin "dict.get") [.ref t.idx,.ref a,wd]) Q E x.s:=λw y k hv ry=>call_meetsIn F.slot_dict_get hm.typeIs F.entry_dict_get (F.args_dict_get_3 _ _ _) (meetsH_dict_get_default (dB G.prog G.w) _ _ (I.sysne TT.roles.2) _) ⟨hu,dd,m,hkk,hm,by rw[hv];exact q.pu.same I k _ ry⟩
 have ra:=Dy I hR TT ok rdd hm hi;cases hf:dc k ax 0 with
 |some i=>
  rw[hf]at h;rcases ra with⟨n,b,tk,h1,h2⟩|⟨_,h2⟩
  ·exact tail _ _ h (by rw[h1];rfl) ((Bq (tk:=tk) I hR TT h2).1 i hf)
  ·exact absurd (PZ.mpr ⟨_,TT.get (jw hf).2⟩) h2
 |none=>
  replace h:cF.run pA (match dG x.S kk k with|true=>.ret (.id kk k) x.S|false=>.two (.id kk k) d x.S) K:=by rw[hf]at h;exact h
  have h':K (.id kk k) x.S∧(dG x.S kk k=false→K d x.S):=by
   cases hn:dG x.S kk k with
   |true=>rw[hn]at h;exact⟨h,λe=>eg e⟩
   |false=>rw[hn]at h;exact⟨h.1,λz=>h.2⟩
  rcases ra with⟨n,b,tk,h1,h2⟩|⟨h1,h2⟩
  ·exact tail _ _ h'.1 (by rw[h1];rfl) ((Bq (tk:=tk) I hR TT h2).2 hf)
  ·refine tail _ _ (h'.2 ?_) (by rw[h1];rfl) rd;cases hn:dG x.S kk k with
   |false=>rfl
   |true=>exact absurd (wq I hR hn) h2
theorem Iy{wd:Value}(kf:pC G)(I:av G x)(rk:RV G x k wk)(rd:RV G x d wd)(h:(EB k d x.S).run pA K)(q:Qk G x K Q):WG G A (call (.builtin "dict.get") [.ref G.KF,wk,wd]) Q E x.s:=by
 refine X2 kf.at_ λm hm hf=>?_;have hm':x.h.DictOf (cD G.prog G.w) G.KF m:=by refine J2 hm λo es ep ho y=>?_;exact tX o es ep (I.base _ _ ho) y
 have tail:∀(i:Int) w y,(cD G.prog G.w).is (.int i) wk=true→K w x.S→(valueAt m (.int i)).getD wd=y→RV G x w y→WG G A (call (.builtin "dict.get") [.ref G.KF,wk,wd]) Q E x.s:=λi w y hi k hv ry=>call_meetsIn F.slot_dict_get hm'.mapOf.typeIs F.entry_dict_get (F.args_dict_get_3 _ _ _) (meets_dict_get_default (cD G.prog G.w) (k:=D.int i) _ hi kf.sys _) ⟨_,hm'.mapOf,by rw[hv];exact q.pu.same I k _ ry⟩
 unfold EB at h;cases hk1:k.asInt with
 |some i=>
  have hK:K ((f9 i tZ).getD d) x.S:=by rw[hk1]at h;exact h
  have:=b9 hk1;subst this;cases hg:f9 i tZ with
  |none=>rw[hg]at hK;exact tail i _ _ (PL rk) hK (by rw[(m7 hf).1 hg];rfl) rd
  |some w=>rw[hg]at hK;refine Y2 ((m7 hf).2 w hg) λj t e hj=>?_;subst e;exact tail i _ (.int j t) (PL rk) hK (by rw[hj];rfl) ⟨t,rfl⟩
 |none=>
  rw[hk1]at h;refine bj h λy hk2 hK=>?_;have:=tF hk2;subst this;refine Y3 rk λi t e lo z=>?_;have hn:f9 (i:Int) tZ=none:=DU λp hp e=>by have:p.1<16:=(by decide:∀p∈tZ,p.1<16) p hp;omega
  exact tail (i:Int) _ _ (PL ⟨t,e⟩) hK (by rw[(m7 hf).1 hn];rfl) rd
theorem JV(kf:pC G)(hu:A.in1.units+64<cLine)(I:av G x)(ro:RV G x v u)(r:aw (RV G x) l ws)(h:(LB v l x.S).run pA K)(q:Qk G x K Q):WG G A (call (.builtin "dict.get") (u::ws)) Q E x.s:=by
 refine bj h λp hp h=>?_;have args:∃wk wd,ws=[wk,wd]∧RV G x p.1 wk∧RV G x p.2 wd:=by
  cases (r)with
  |nil=>exact ah hp
  |cons rk r=>obtain⟨y,hy,rfl⟩:=Qr.mp hp;obtain⟨wd,rfl,rd⟩:=gu hy r;exact lb _ _ rfl rk rd
 obtain⟨wk,wd,rfl,rk,rd⟩:=args;cases hd:dictAt x.S v with
 |some e=>rw[hd]at h;exact ee h λhk h=>Jd I ro rk rd hd hk h q
 |none=>
  rw[hd]at h;refine bj h λc hc h=>?_;obtain⟨c,i⟩:=c;have:=gq hc;subst this;obtain⟨a,rfl,ha⟩:=ro;cases c with
  |index=>exact I3 hu I ha rk rd h q
  |fd=>subst ha;exact Iy kf I rk rd h q
  |_=>exact h.elim
theorem uo{l':List V}(I:av G x)(hi:x.S.h[i]?=some (.list l))(hρ:x.ρ[i]?=some a)(hs:Heap.SameBut a x.h h')(ha:aN h' a ys)(z:l'.length≤aD)(r:aw (RV G x) l' ys):Nx G [] x (x.put i (.list l') {x.s with heap:=h'}):=I.upd hi (λh=>nomatch h) hρ hs rfl rfl ha.live λL=>⟨ys,ha,z,r.imp (λy y=>RV.mono L.toLm .nil)⟩
theorem Dg(I:av G x)(ro:RV G x v u)(r:aw (RV G x) l ws)(h:(pV v l x.S).run pA K)(q:Qk G x K Q):WG G A (call (.builtin "list.append") (u::ws)) Q E x.s:=by
 refine bj h λd hd h=>bj h λe he h=>ee h λhb h=>?_;obtain⟨w,rfl,re⟩:=gu he r;refine I.own ro hd λa xs _ eu hi hρ ha z r=>?_;subst eu;refine wpAny_list_append_plain ha (λh' ha' hs=>?_) (by rw[P9,← r.len];exact bB z);have ha':aN h' a (xs++[w]):=ha'.elim λn e=>⟨n,by rw[e];simp⟩
 exact q .nul (x.put d.1 (.list (d.2++[e])) _) _ h (uo I hi hρ hs ha' (by rw[PX];exact PI hb) (r.app (.cons re .nil))) rfl
theorem CE(I:av G x)(ro:RV G x v u)(r:aw (RV G x) l ws)(h:(zD v l x.S).run pA K)(q:Qk G x K Q):WG G A (call (.builtin "list.extend") (u::ws)) Q E x.s:=by
 refine bj h λd hd h=>bj h λe he h=>bj h λy hy h=>ee h λhb h=>?_;obtain⟨w,rfl,re⟩:=gu he r;replace hb:=PI hb;refine I.own ro hd λa xs _ eu hi hρ ha z r=>?_;subst eu;refine X1 (id ha) λn1 ha1=>?_;have fin:∀(ys:List Value),aw (RV G x) y ys→Q .none {x.s with heap:=x.h.update a (Obj.mapSeq λz=>z++ys.toArray)}:=λys ry=>q .nul (x.put d.1 (.list (d.2++y)) _) _ h (uo I hi hρ (Heap.SameBut.update ..) (ha.upd (ys:=xs++ys) (λz=>z++ys.toArray) (by simp)) (by rw[PX];exact hb) (r.app ry)) rfl
 have sz:∀{ys:List Value},aw (RV G x) y ys→xs.toArray.size+ys.toArray.size≤sizeLine:=λry=>by rw[P9,P9,← r.len,← ry.len];exact bB hb
 have no:∀{b:Bool}{n:Nat},n≤sizeLine→(b&&Builtin.List.listTooLong n)=false:=λ{b n} h=>by
  delta Builtin.List.listTooLong
  rw[PQ (Nat.not_lt.mpr h),Bool.and_false]
 unfold GS at hy;cases ht:e.asTup with
 |none=>rw[ht]at hy;have:=nV hy;subst this;obtain⟨b,ys,rfl,⟨n2,hb1⟩,_,_,ry⟩:=re;replace ry:=bP.all ry;exact call_meets F.slot_list_extend ha.isList.typeIs F.entry_list_extend (F.args_list_extend_2 _ _) (AutoSeq1.list_extend_list_list_0 _ _ n1 _ _ n2 (RI (no (sz ry))) (PM (QH _ _) (sz ry)) (le_succ_of_le (sz ry))) ⟨ha1,hb1,fin ys ry⟩
 |some m=>rw[ht]at hy;cases hy;have:=jV ht;subst this;obtain⟨b,ys,rfl,hb1,_,_,ry⟩:=re;replace ry:=bP.all ry;exact call_meets F.slot_list_extend ha.isList.typeIs F.entry_list_extend (F.args_list_extend_2 _ _) (AutoSeq1.list_extend_list_tuple_0 _ _ n1 _ _ 0 (RI (no (sz ry))) (PM (QH _ _) (sz ry)) (le_succ_of_le (sz ry))) ⟨ha1,hb1,fin ys ry⟩
theorem K5(I:av G x)(ro:RV G x v u)(r:aw (RV G x) l ws)(h:(KG v l x.S).run pA K)(q:Qk G x K Q):WG G A (call (.builtin "list.pop") (u::ws)) Q E x.s:=by
 refine bj h λd hd h=>ee h λhl h=>bj h λy hg hK=>?_;cases (r)with
 |cons _ _=>exact ak hl
 |nil=>
 refine I.own ro hd λa xs Y eu hi hρ ha z r=>?_;subst eu;refine X1 (id ha) λn1 ha1=>?_;rw[List.getLast?_eq_getElem?]at hg;refine X2 (r.get hg) λwy hx ry=>?_;have ex:(λ(x:Array Value)=>x.eraseIdxIfInBounds (xs.toArray.size-1)) xs.toArray=xs.dropLast.toArray:=by
  have hlt:xs.toArray.size-1<xs.toArray.size:=by have:=(PO.mp hx).1;simp;omega
  show xs.toArray.eraseIdxIfInBounds (xs.toArray.size-1)=_;delta Array.eraseIdxIfInBounds
  rw[dif_pos hlt];simp[List.eraseIdx_length_sub_one]
 have n:=uo (l':=d.2.dropLast) I hi hρ (Heap.SameBut.update ..) (ha.upd (ys:=xs.dropLast) (λ(x:Array Value)=>x.eraseIdxIfInBounds (xs.toArray.size-1)) ex) (by rw[List.length_dropLast];exact PM (sub_le _ _) z) (by
  rw[List.dropLast_eq_take,List.dropLast_eq_take,← r.len];exact r.take _)
 exact call_meets F.slot_list_pop ha.isList.typeIs F.entry_list_pop (F.args_list_pop_1 _) (MeetsSeq.list_pop_last _ _ n1 wy (by simp only[P9,List.getElem?_toArray,← r.len];exact hx) (by rw[P9,← r.len];exact bB z)) ⟨ha1,q y (x.put d.1 (.list d.2.dropLast) _) _ hK n (ry.nx n I)⟩
theorem FW(I:av G x)(ro:RV G x v u)(r:aw (RV G x) l ws)(h:(A0 v l x.S).run pA K)(q:Qk G x K Q):WG G A (call (.builtin "str.join") (u::ws)) Q E x.s:=by
 refine bj h λsep hs h=>bj h λy hy h=>bj h λss hss h=>ee h λhb hK=>?_;refine X2 (Qm.mp hy) λe he hy=>?_;obtain⟨w,rfl,re⟩:=gu he r;have:=eE hs;have:=nV hy;subst_vars
 obtain⟨z,t,rfl,rfl,zl,ok⟩:=ro;obtain⟨b,ys,rfl,hb1,_,_,ry⟩:=re;replace hb:=PI hb;refine X3 (uK (bP.all ry) hss) λxs i1 i2 i3=>?_;have l1:(xs.map (·.length)).sum=(ss.map List.length).sum:=by rw[← i2,QR];congr 1
 have l2:xs.length=ss.length:=by rw[← i2,PS]
 refine PyProof.Rows.join_list hb1.isList (ys:=xs) (by simpa using i1) (by rw[l1,l2,jG];exact bB hb) λt' k=>q.pu.same (v:=.str (bL z.cps.toList ss)) I hK _ ⟨_,_,rfl,?_,?_,?_⟩
 ·rw[xh,i2]
 ·exact PM (Ez _ _) hb
 ·rw[kW,xh,i2];intro c hc;rcases E4 hc with hc|⟨y,hy,hc⟩
  ·exact kW.mp ok c hc
  ·rw[← i2]at hy;obtain⟨z,hz,rfl⟩:=Qd.mp hy;exact kW.mp (i3 z hz).2 c hc
theorem D6(I:av G x)(ro:RV G x v u)(r:aw (RV G x) l ws)(h:(xJ v l x.S).run pA K)(q:Qk G x K Q):WG G A (call (.builtin "str.split") (u::ws)) Q E x.s:=by
 refine bj h λs hs h=>bj h λy hy h=>?_;refine X2 (Qm.mp hy) λe he hy=>?_;obtain⟨w,rfl,re⟩:=gu he r;have:=eE hs;have:=eE hy;subst_vars
 cases y with
 |nil=>exact h.elim
 |cons c cs=>
 refine ee h λhb hK=>?_;refine U2 (aa hb) λhb p2=>?_;refine U2 (aa hb) λp0 p1=>?_;have:=isEmpty_iff.mp p0;subst this;obtain⟨y,t,rfl,rfl,z,ok⟩:=ro;obtain⟨y',t2,rfl,ec,_,_⟩:=re;have hy:y'=⟨#[c]⟩:=sO (by rw[ec]);subst hy;replace p1:=PI p1;replace p2:=P5.mp p2;have fin:∀(tk:Tok)(l:List (Str×Tok)),l.map (·.1)=Txt.split y ⟨#[c]⟩→Q (.ref x.h.objs.size) {x.s with toks:=tk,heap:=x.h.push {cls:=.type "list",data:=.seq (strValues l).toArray}}:=by
  intro tk l hl;have hm:a9 c y.cps.toList=l.map (λp=>p.1.cps.toList):=by rw[EJ,← hl,QR];rfl
  refine q.pu.olds I hK tk (bE.push _ _) λY=>⟨_,strValues l,rfl,⟨0,P2 _ rfl⟩,I.fresh (bh _),by rw[PS];exact p1,bP.of ?_⟩
  rw[hm,QR];have gen:∀(k:List (Str×Tok)),(∀q∈k,q∈l)→aw (RV G (x.to {x.s with toks:=tk,heap:=x.h.push {cls:=.type "list",data:=.seq (strValues l).toArray}})) (k.map (V.str∘λp=>p.1.cps.toList)) (strValues k):=by
   intro k;induction k with
   |nil=>intro _;exact .nil
   |cons q k ih=>intro hk;refine .cons ⟨q.1,q.2,rfl,rfl,PI (p2 q.1.cps.toList (by rw[hm];exact Qd.mpr ⟨q,hk q mh,rfl⟩)),?_⟩ (ih λa ha=>hk a (mt ha));rw[kW]at ok ⊢;intro a ha;refine ok a ?_;rw[← StrLaws.join_split y ⟨#[c]⟩,pw,← hl,QR];exact vV (Qd.mpr ⟨q,hk q mh,rfl⟩) ha
  exact gen l λY q=>q
 have zx:y.length+2≤sizeLine:=by rw[jG];exact PM (Qw z 2) (ag rfl)
 have hn:(Builtin.Str.partsBetween y (Builtin.Str.occurrences y ⟨#[c]⟩ 0 y.length (y.length+1)) (⟨#[c]⟩:Str).length).length≤sizeLine:=by have e1:=StrLaws.occ_length_le y ⟨#[c]⟩ 0 y.length (y.length+1);rw[length_partsBetween];omega
 have hy:((⟨#[c]⟩:Str).length==0)=false:=rfl;cases h1:(decide (y.length<(⟨#[c]⟩:Str).length)||decide (Builtin.Str.strKind y<Builtin.Str.strKind ⟨#[c]⟩))
 ·cases hf:(Builtin.Str.occurrences y ⟨#[c]⟩ 0 y.length (y.length+1)).isEmpty
  ·refine call_meets F.slot_str_split (typeIs_str _ _ _) F.entry_str_split (F.args_str_split_2 _ _) (meets_str_split_sep y ⟨#[c]⟩ t t2 h1 hy hf (uu zx) hn) ?_;show wants Q E _ {x.s with toks:=_,heap:=x.h.push {cls:=.type "list",data:=.seq (strsFrom x.s.toks (Builtin.Str.partsBetween y (Builtin.Str.occurrences y ⟨#[c]⟩ 0 y.length (y.length+1)) (⟨#[c]⟩:Str).length)).toArray}};rw[strsFrom_eq];exact fin _ (numbered x.s.toks _) ((numbered_texts _ _).trans ((Qv (RI h1)).trans (Qv (RI hf))).symm)
  ·exact call_meets F.slot_str_split (typeIs_str _ _ _) F.entry_str_split (F.args_str_split_2 _ _) (meets_str_split_not_found y ⟨#[c]⟩ t t2 h1 hy hf)
    (fin x.s.toks [(y,t)] ((Qv (RI h1)).trans (Qx hf)).symm)
 ·exact call_meets F.slot_str_split (typeIs_str _ _ _) F.entry_str_split (F.args_str_split_2 _ _) (meets_str_split_cannot_occur y ⟨#[c]⟩ t t2 h1) (fin x.s.toks [(y,t)] (Qx h1).symm)
theorem HT{m:M1}(kf:pC G)(hp:m≠.put)(hu:A.in1.units+64<cLine)(I:av G x)(ro:RV G x v u)(r:aw (RV G x) l ws)(h:(rR m v l x.S).run pA K)(q:Qk G x K Q):WG G A (call (.builtin (CJ m)) (u::ws)) Q E x.s:=by
 induction m using M1.casesOn with
 |put=>exact absurd rfl hp
 |get=>exact JV kf hu I ro r h q
 |append=>exact Dg I ro r h q
 |extend=>exact CE I ro r h q
 |pop=>exact K5 I ro r h q
 |join=>exact FW I ro r h q
 |split=>exact D6 I ro r h q
end
theorem yI:∀{sc:aI}{n j:Nat}{k:NameKind},bl x sc n=some (j,k)→n≤j∧sc[j-n]?=some (x,k):=by
 intro sc;induction sc with
 |nil=>exact @λn j k h=>by exact ah h
 |cons p r ih_=>
  exact @λn j k h=>by
   unfold bl at h;cases q:x==p.1 with
   |true=>rw[q]at h;cases h;rw[sub_self,eq_of_beq q];exact⟨Qi _,rfl⟩
   |false=>rw[q]at h;refine U2 (ih_ h) λh1 h2=>?_;refine⟨Nat.le_of_succ_le h1,?_⟩;rw[show j-n=(j-(n+1))+1 from Fh h1];exact h2
theorem cY{j:Nat}{k:NameKind}(h:bl x sc 0=some (j,k)):sc[j]?=some (x,k):=(yI h).2
theorem jq{j:Nat}{k k':NameKind}(h:bl x sc 0=some (j,k))(h':bl y sc 0=some (j,k')):x=y∧k=k':=by have a:=cY h;rw[cY h']at a;cases a;exact⟨rfl,rfl⟩
theorem kT{f:NameKind→Bool}(h:bg f sc x=some j):∃k,bl x sc 0=some (j,k)∧f k=true:=by
 unfold bg at h;cases e:bl x sc 0 with
 |none=>rw[e]at h;exact ah h
 |some p=>
  rw[e]at h;cases q:f p.2 with
  |false=>exact nomatch (show none=some j from by rw[← h];show _=match f p.2 with|true=>some p.1|false=>none;rw[q])
  |true=>
   have:some p.1=some j:=by rw[← h];show _=match f p.2 with|true=>some p.1|false=>none;rw[q]
   replace this:=PG this;subst this;exact aB p.2 rfl q
theorem C4(h:c7 sc x=true):∃j,bl x sc 0=some (j,.globalImplicit):=by unfold c7 at h;refine X1 (Q0.mp h) λj e=>?_;refine X2 (kT e) λk h1 h2=>?_;cases k<;>first|exact⟨j,h1⟩|exact ak h2
def VO(G:GE)(x:Cf)(ov:Option V)(o:Option Value):Prop:=∀v,ov=some v→∃w,o=some w∧RV G x v w
structure Sc (sc:aI) (env:Env):Prop where
 kind:env.scope.kind=.function
 glob:env.globals=mainGlobals
 blt:env.builtins=builtinsNs
 kd:∀(j:Nat) y k,bl y sc 0=some (j,k)→env.kindOf y=some k∨k=.free∧env.kindOf y=some .cell
 apart:∀y z c,env.cells.lookup y=some c→env.cells.lookup z=some c→y=z
structure FR (G:GE) (sc:aI) (env:Env) (W:List Addr) (vs:au) (x:Cf):Prop where
 st:Sc sc env
 len:vs.length=sc.length
 wok:eV G W x
 loc:env.locals∈W
 ns:∃m,x.h.Ns env.locals m∧∀(j:Nat) y,bl y sc 0=some (j,.local)→VO G x (vs[j]?).join (m y)
 cell:∀(j:Nat) y k,bl y sc 0=some (j,k)→dJ k=true→∃c ov,env.cells.lookup y=some c∧x.h.IsCell c ov∧VO G x (vs[j]?).join ov∧(k=.cell→c∈W)∧x.w c=none
section
variable{A:Around}{E:VS}{w:Value}{vs:au}
theorem VO.mono(p:Lm W x y)(w:eV G W x){ov:Option V}(r:VO G x ov o):VO G y ov o:=λv e=>(r v e).imp λu h=>⟨h.1,RV.mono p w h.2⟩
theorem eV.lmV{V:List Addr}(w:eV G W x)(p:Lm V x y)(hV:∀a∈V,a∉W):eV G W y where
 no a q:=(w.ns a q).elim λo e=>⟨(p.keep a o e.1 (w.no a q).1 λz=>hV a z q).2,(w.no a q).2⟩
 ns a q:=(w.ns a q).imp λo e=>⟨(p.keep a o e.1 (w.no a q).1 λz=>hV a z q).1,e.2⟩
theorem FR.lmV{V:List Addr}(F:FR G sc env W vs x)(p:Lm V x y)(wV:eV G V x)(hV:∀a∈V,a∉W∧∀ov,¬x.h.IsCell a ov):FR G sc env W vs y where
 st:=F.st
 len:=F.len
 wok:=F.wok.lmV p λa h=>(hV a h).1
 loc:=F.loc
 ns:=by obtain⟨m,⟨o,es,ep,ho,r⟩,q⟩:=F.ns;exact aB m ⟨o,es,ep,(p.keep _ _ ho (F.wok.no _ F.loc).1 λz=>(hV _ z).1 F.loc).1,r⟩ (λj y e=>(q j y e).mono p wV)
 cell j y k e z:=by refine Y5 (F.cell j y k e z) λc ov h1 h2 h3 h4 h5=>?_;refine X2 (id h2) λo ho hd=>?_;have q:=p.keep _ _ ho h5 λz=>(hV _ z).2 _ h2;exact qL c ov h1 ⟨o,q.1,hd⟩ (h3.mono p wV) h4 q.2
theorem FR.lm(F:FR G sc env W vs x)(p:Lm [] x y):FR G sc env W vs y:=F.lmV p .nil λz h=>az h
theorem FR.nx(F:FR G sc env W vs x)(n:Nx G [] x y):FR G sc env W vs y:=F.lm n.le.toLm
theorem FR.load{y:Str}(F:FR G sc env W vs x)(hj:bg pY sc y=some j)(hv:(vs[j]?).join=some v) (hx:(y==("__classdict__" : Str))=false)
 (h:∀w,RV G x v w→Q w x.s):WG G A (loadName env y) Q E x.s:=by
 refine X2 (kT hj) λk hs hk=>?_;have cf:dJ k=true→WG G A (loadName env y) Q E x.s:=λhk=>by
  refine Y5 (F.cell j y k hs hk) λc ov h1 h2 h3 z z=>?_;obtain⟨w,rfl,r⟩:=h3 v hv;rcases F.st.kd j y k hs with q|⟨_,q⟩
  ·induction k using PySem.NameKind.casesOn with
   |cell=>exact wpAny_loadName_cell F.st.kind q h1 h2 (h w r)
   |free=>exact wpAny_loadName_free F.st.kind q h1 h2 (h w r) hx
   |_=>exact ak hk
  ·exact wpAny_loadName_cell F.st.kind q h1 h2 (h w r)
 induction k using NameKind.casesOn with
 | «local»=>refine X2 F.ns λm hm q=>?_;refine X2 (q j y hs v hv) λw hw r=>?_;exact Rh F.st.kind ((F.st.kd j y _ hs).resolve_right λq=>nomatch q.1) hm hw (h w r)
 |cell=>exact cf rfl
 |free=>exact cf rfl
 |_=>exact ak hk
theorem vT{i:Nat}(hi:i<vs.length):((vs.set i (some v))[j]?).join=if j=i then some v else(vs[j]?).join:=by
 by_cases h:j=i
 ·subst h;rw[Qx rfl,QO hi];rfl
 ·rw[Qv h,Ry (Ne.symm h)]
theorem FR.store{y:Str}{w:Value}{Q:Unit→Shared→Prop}(I:av G x)(F:FR G sc env W vs x)(hj:bg cc sc y=some j)(r:RV G x v w)
 (h:∀s',Nx G W x (x.to s')→FR G sc env W (vs.set j (some v)) (x.to s')→Q () s'):WG G A (storeName env y w) Q E x.s:=by
 refine X2 (kT hj) λk hs hk=>?_;have hjl:j<vs.length:=by rw[F.len];exact(PO.mp (cY hs)).1
 -- iZ object of the frame is changed
 have fin:∀(c:Addr)(s':Shared),c∈W→Heap.SameBut c x.h s'.heap→s'.gens=x.s.gens→s'.os=x.s.os→(∃o,s'.heap.get? c=some o∧rS o)→
  (∃m,s'.heap.Ns env.locals m∧∀(i:Nat) z,bl z sc 0=some (i,.local)→VO G x (if i=j then some v else(vs[i]?).join) (m z))→
  (∀(i:Nat) z k,bl z sc 0=some (i,k)→dJ k=true→∃c ov,env.cells.lookup z=some c∧s'.heap.IsCell c ov∧VO G x (if i=j then some v else(vs[i]?).join) ov∧(k=.cell→c∈W)∧x.w c=none)→Q () s':=by
  intro c s' hc hsb g o hal h1 h2;have n:Nx G W x (x.to s'):=I.quiet F.wok (Qi _) (λb o e z=>(hsb.2 b λq=>z (q▸hc)).trans e) g o;refine h s' n ⟨F.st,by rw[RY];exact F.len,⟨F.wok.no,λa ha=>?_⟩,F.loc,?_,λi z k hz hk=>?_⟩
  ·by_cases q:a=c
   ·rw[q];exact hal
   ·exact(F.wok.ns a ha).imp λo e=>⟨(hsb.2 a q).trans e.1,e.2⟩
  ·refine X2 h1 λm hm q=>?_;exact aB m hm (λi z hz=>by rw[vT hjl];exact(q i z hz).mono n.le.toLm F.wok)
  ·refine Y4 (h2 i z k hz hk) λc ov q1 q2 q3 q4=>?_;exact ke c ov q1 q2 (by rw[vT hjl];exact q3.mono n.le.toLm F.wok) q4
 have vr:VO G x (some v) (some w):=λv' e=>by replace e:=PG e;subst e;exact aB w rfl r
 refine X2 F.ns λm hm q=>?_;have nl:∀c,(∃ov,x.h.IsCell c ov)→c≠env.locals:=λc ⟨ov,o,ho,hd⟩ z=>by refine J3 hm λo' es ep e d Y=>?_;rw[z,e]at ho;replace ho:=PG ho;subst ho;rw[d]at hd;cases hd
 induction k using NameKind.casesOn with
 | «local»=>
  refine wpAny_storeName_local ((F.st.kd j y _ hs).resolve_right λq=>nomatch q.1) hm (λh' hn hsb=>?_) (by rw[F.st.kind];rfl);refine fin env.locals _ F.loc hsb rfl rfl (by refine J3 hn λo es ep e d Y=>?_;exact aB o e (.inl ⟨es,ep,d⟩)) ⟨_,hn,λi z hz=>?_⟩ λi z k hz hk=>?_
  ·by_cases e:i=j
   ·subst e;obtain⟨rfl,_⟩:=jq hz hs;rw[Qx rfl];simp only[if_true];exact vr
   ·have ne:¬z=y:=λq=>by subst q;rw[hs]at hz;cases hz;exact e rfl
    simp only[Qv ne];rw[Qv e];exact q i z hz
  ·refine Y4 (F.cell i z k hz hk) λc ov h1 h2 h3 h4=>?_;refine ke c ov h1 (h2.sameBut hsb (nl c ⟨ov,h2⟩)) ?_ h4;rw[Qv λe=>by subst e;refine U2 (jq hz hs) λY q=>?_;subst q;exact ak hk];exact h3
 |cell=>
  refine Y5 (F.cell j y .cell hs rfl) λc ov h1 h2 h3 h4 h5=>?_;refine wpAny_storeName_cell F.st.kind ((F.st.kd j y _ hs).resolve_right λq=>nomatch q.1) h1 h2 λh' hc hsb=>?_;refine fin c _ (h4 rfl) hsb rfl rfl (by refine X2 hc λo e d=>?_;exact aB o e (.inr (.inl ⟨_,d⟩))) ⟨m,hm.sameBut hsb (Ne.symm (nl c ⟨ov,h2⟩)),λi z hz=>?_⟩ λi z k hz hk=>?_
  ·rw[Qv λe=>by subst e;refine U2 (jq hz hs) λY q=>?_;cases q];exact q i z hz
  ·by_cases e:i=j
   ·subst e;obtain⟨rfl,rfl⟩:=jq hz hs;rw[Qx rfl];exact qL c _ h1 hc vr h4 h5
   ·rw[Qv e];refine Y3 (F.cell i z k hz hk) λc' ov' g1 g2 g3=>?_;refine lb c' ov' g1 (g2.sameBut hsb λq=>?_) g3;subst q;have:=F.st.apart z y c' g1 h1;subst this;rw[hs]at hz;cases hz;exact e rfl
 |_=>exact ak hk
end
structure bK (A:Around) (d:Nat):Prop where
 handled:A.handled=none
 units:A.units+3*d+100<cLine
 depth:A.depth+d<recursionLimit
theorem bK.u64{A:Around}(a:bK A d):A.units+64<cLine:=Qa (Q2 (QH _ (3*d)) (ag (a:=64) rfl)) a.units
theorem bK.u65{A:Around}(a:bK A d):A.in1.units+64<cLine:=by have:=a.units;exact(Qa (Q2 (QH _ (3*d)) (ag (a:=65) rfl)) this:A.units+65<cLine)
noncomputable abbrev Cm(α:Type):=au→St→(α→St→Prop)→Prop
abbrev Qt(G:GE)(x:Cf)(K:KP)(Q:BS):Prop:=∀v y b,K v y.S→truthy y.S v=some b→Nx G [] x y→Q b y.s
abbrev Ql(G:GE)(n:Nat)(x:Cf)(K:List V→St→Prop)(Q:List Value→Shared→Prop):Prop:=∀l y us,K l y.S→Nx G [] x y→aw (RV G y) l us→l.length=n→Q us y.s
abbrev Tr(K:KP):Prop:=∀v S,K v S→∃b,truthy S v=some b
section
variable(G:GE)(A:Around)(sc:aI)(env:Env)
abbrev Iq(W:List Addr)(vs:au)(x:Cf):Prop:=av G x∧FR G sc env W vs x
def ai(t:Sem Value)(m:Cm V):Prop:=∀(W:List Addr)(x:Cf)(vs:au)(E:VS)(K:KP)(Q:VS),Iq G sc env W vs x→m vs x.S K→Qk G x K Q→wpAny (model G.prog G.w) A t Q E x.s
def dm(t:Sem Bool)(m:Cm V):Prop:=∀(W:List Addr)(x:Cf)(vs:au)(E:VS)(K:KP)(Q:BS),Iq G sc env W vs x→Tr K→m vs x.S K→Qt G x K Q→wpAny (model G.prog G.w) A t Q E x.s
def OI(n:Nat)(t:Sem (List Value))(m:Cm (List V)):Prop:=∀(W:List Addr)(x:Cf)(vs:au)(E:VS)(K:List V→St→Prop)(Q:List Value→Shared→Prop),Iq G sc env W vs x→m vs x.S K→Ql G n x K Q→wpAny (model G.prog G.w) A t Q E x.s
end
section
variable{A:Around}{x:Cf}{vs:au}{E:VS}
theorem Iq.nx(i:Iq G sc env W vs x)(n:Nx G [] x y):Iq G sc env W vs y:=⟨n.inv,i.2.nx n⟩
theorem Qk.after(q:Qk G x K Q)(n:Nx G [] x y):Qk G y K Q:=λv z u k n' r=>q v z u k (n.trans n') r
theorem Qt.after{Q:BS}(q:Qt G x K Q)(n:Nx G [] x y):Qt G y K Q:=λv z b k t n'=>q v z b k t (n.trans n')
theorem Qk.tok(q:Qk G x K Q)(I:av G x)(k:K v x.S)(r:RV G x v u)(tk:Tok):Q u {x.s with toks:=tk}:=Pu.same q.pu I k tk r
theorem Qk.here(q:Qk G x K Q)(I:av G x)(k:K v x.S)(r:RV G x v u):Q u x.s:=q v x u k I.refl r
theorem iP{α:Type}{o:Option α}{v:α}{K:α→Prop}(e:o=some v)(h:aq pA o K):K v:=by rw[e]at h;exact h
theorem lT(h:∀(x:Cf)(E:VS)(Q:VS),av G x→(∀w tk,RV G x v w→Q w {x.s with toks:=tk})→WG G A t Q E x.s):ai G A sc env t λz S k=>k v S:=λW x vs E K Q i h' q=>h x E Q i.1 λw tk r=>q.tok i.1 h' r tk
theorem aQ:ai G A sc env t λz z z=>pA.bad:=λW x vs E K Q i h=>h.elim
theorem Ig:dm G A sc env t λz z z=>pA.bad:=λW x vs E K Q i z h=>h.elim
theorem EY{y:Str}(hj:bg pY sc y=some j) (hx:(y==("__classdict__" : Str))=false) (hd:(y==("__debug__" : Str))=false):ai G A sc env (eval (.Name y pos) env) λvs S k=>aq pA (vs[j]?).join λv=>k v S:=λW x vs E K Q i h q=>aY h λv e h=>wpAny_Name (i.2.load hj e hx λw r=>q.here i.1 h r) hd
variable{b:Expr}{mc:Cm V}{pos:Pos}
theorem Cg(he:isTrue e env whole=(do let v ← whole;standAt e.pos;holding [v] (PySem.truthy v)))(h:ai G A sc env whole m):dm G A sc env (isTrue e env whole) m:=λW x vs E K Q i t k q=>wpAny_isTrue_value (h W x vs E K _ i k λv y u k n r=>(t v y.S k).elim λb e=>kQ (K:=λb'=>b'=b) n.inv r (by rw[e];rfl) λb' tk e'=>q v (y.to {y.s with toks:=tk}) b' k (e'.symm▸e) (n.trans (n.inv.toks tk))) he
theorem Ic(h:ai G A sc env (eval a env) ma):ai G A sc env (eval (.UnaryOp .Not a pos) env) λvs S k=>ma vs S λv S=>aq pA (truthy S v) λb=>k (.bool (!b)) S:=λW x vs E K Q i k q=>wpAny_UnaryOp (h W x vs E _ _ i k λv y u k n r=>not_value (kQ n.inv r k λb tk k=>(q.after n).tok n.inv k rfl tk))
theorem Hn(h:dm G A sc env (isTrue a env (eval a env)) ma):dm G A sc env (isTrue (.UnaryOp .Not a pos) env whole) λvs S k=>ma vs S λv S=>aq pA (truthy S v) λb=>k (.bool (!b)) S:=λW x vs E K Q i t k q=>wpAny_isTrue_Not (h W x vs E _ _ i (λv S h=>aY h λb e z=>⟨b,e⟩) k λv y b k e n=>q (.bool (!b)) y (!b) (iP (K:=λb=>K (.bool (!b)) y.S) e k) rfl n)
theorem HL(ho:Gp op=some o)(ha:ai G A sc env (eval a env) ma)(hb:ai G A sc env (eval b env) mb):ai G A sc env (eval (.BinOp a op b pos) env) λvs S k=>ma vs S λv S=>mb vs S λw S=>aq pA (jg o S v w) λr=>k r S:=λW x vs E K Q i k q=>wpAny_BinOp (ha W x vs E _ _ i k λv y u k n r=>hb W y vs E _ _ (i.nx n) k λw z u2 k n2 r2=>JX n2.inv ho (r.nx n2 n.inv) r2 k ((q.after n).after n2).pu)
theorem HO(aok:bK A d)(hm:behindInMarks op b=false)(ha:ai G A sc env (eval a env) ma)(hb:ai G A sc env (eval b env) mb):ai G A sc env (eval (.Compare a [op] [b] pos) env) λvs S k=>ma vs S λv S=>mb vs S λw S=>aq pA (v7 (AA op) S v w) λb=>k (.bool b) S:=λW x vs E K Q i k q=>wpAny_Compare1 (ha W x vs E _ _ i k λv y u k n r=>hb W y vs E _ _ (i.nx n) k λw z u2 k n2 r2=>CO n2.inv aok.u64 (r.nx n2 n.inv) r2 k λb tk k=>((q.after n).after n2).tok n2.inv k rfl tk) hm
theorem HB(aok:bK A d)(hm:behindInMarks op b=false)(ha:ai G A sc env (eval a env) ma)(hb:ai G A sc env (eval b env) mb):dm G A sc env (isTrue (.Compare a [op] [b] pos) env whole) λvs S k=>ma vs S λv S=>mb vs S λw S=>aq pA (v7 (AA op) S v w) λb=>k (.bool b) S:=λW x vs E K Q i t k q=>wpAny_isTrue_Compare1 (ha W x vs E _ _ i k λv y u k n r=>hb W y vs E _ _ (i.nx n) k λw z u2 k n2 r2=>CO n2.inv aok.u64 (r.nx n2 n.inv) r2 k λb tk k=>QN (q (.bool b) (z.to {z.s with toks:=tk}) b k rfl ((n.trans n2).trans (n2.inv.toks tk)))) hm
noncomputable abbrev Ly(ma mb mc:Cm V):Cm V:=λvs S k=>ma vs S λv S=>mb vs S λw S=>aq pA (qq v w) λb=>match b with
 |true=>mc vs S λu S=>aq pA (qq w u) λb=>k (.bool b) S
 |false=>k (.bool false) S
theorem HY(hm:behindInMarks .Lt c=false)(ha:ai G A sc env (eval a env) ma)(hb:ai G A sc env (eval b env) mb)(hc:ai G A sc env (eval c env) mc):ai G A sc env (eval (.Compare a [.Lt,.Lt] [b,c] pos) env) (Ly ma mb mc):=by
 intro W x vs E K Q i k q;show wpAny _ _ (do compareChain pos (← eval a env) [.Lt,.Lt] (markedEach [.Lt,.Lt] [b,c] [eval b env,eval c env])) Q E x.s;refine PK (ha W x vs E _ _ i k λv y u k n r=>?_);show wpAny _ _ (compareChain pos u [.Lt,.Lt] [eval b env,markedBehindIn .Lt c (eval c env)]) Q E y.s;rw[markedBehindIn_of_false hm];refine PK (Qn (hb W y vs E _ _ (i.nx n) k λw z u2 k n2 r2=>?_));refine X3 (qd (A:=A) (E:=E) (r.nx n2 n.inv) r2 k) λt k hc1 Y=>?_;refine PK (QP (PK (Qn (hc1 _ (PK (wpAny_release (PK (Qn (QN ?_)))))))));cases t with
 |false=>exact PU (((q.after n).after n2).here n2.inv k rfl)
 |true=>show wpAny _ _ (compareChain pos u2 [.Lt] [eval c env]) Q E z.s;refine PK (Qn (hc W z vs E _ _ ((i.nx n).nx n2) k λw3 z3 u3 k n3 r3=>?_));refine X3 (qd (A:=A) (E:=E) (r2.nx n3 n2.inv) r3 k) λt k hc2 Y=>?_;exact PK (QP (wpAny_operating (hc2 _ ((((q.after n).after n2).after n3).here n3.inv k rfl))))
theorem Hm(hm:behindInMarks .Lt c=false)(ha:ai G A sc env (eval a env) ma)(hb:ai G A sc env (eval b env) mb)(hc:ai G A sc env (eval c env) mc):dm G A sc env (isTrue (.Compare a [.Lt,.Lt] [b,c] pos) env whole) (Ly ma mb mc):=by
 intro W x vs E K Q i tr k q;show wpAny _ _ (do testChain pos (← eval a env) [.Lt,.Lt] (markedEach [.Lt,.Lt] [b,c] [eval b env,eval c env])) Q E x.s;refine PK (ha W x vs E _ _ i k λv y u k n r=>?_);show wpAny _ _ (testChain pos u [.Lt,.Lt] [eval b env,markedBehindIn .Lt c (eval c env)]) Q E y.s;rw[markedBehindIn_of_false hm];refine PK (Qn (hb W y vs E _ _ (i.nx n) k λw z u2 k n2 r2=>?_));refine X3 (qd (A:=A) (E:=E) (r.nx n2 n.inv) r2 k) λt k hc1 Y=>?_;refine PK (QP (PK (Qn (hc1 _ (PK (wpAny_release (PK (Qn (QN ?_)))))))));cases t with
 |false=>exact PU (((q.after n).after n2) _ z _ k rfl n2.inv.refl)
 |true=>show wpAny _ _ (testChain pos u2 [.Lt] [eval c env]) Q E z.s;refine PK (Qn (hc W z vs E _ _ ((i.nx n).nx n2) k λw3 z3 u3 k n3 r3=>?_));refine X3 (qd (A:=A) (E:=E) (r2.nx n3 n2.inv) r3 k) λt k hc2 Y=>?_;exact PK (QP (PK (wpAny_operating (hc2 _ (Qn (QN ((((q.after n).after n2).after n3) _ z3 _ k rfl n3.inv.refl)))))))
noncomputable abbrev Lz(mc ma mb:Cm V):Cm V:=λvs S k=>mc vs S λv S=>aq pA (truthy S v) λb=>match b with|true=>ma vs S k|false=>mb vs S k
theorem H5(hc:dm G A sc env (isTrue c env (eval c env)) mc)(ha:ai G A sc env (eval a env) ma)(hb:ai G A sc env (eval b env) mb):ai G A sc env (eval (.IfExp c a b pos) env) (Lz mc ma mb):=
 λW x vs E K Q i k q=>wpAny_IfExp (hc W x vs E _ _ i (λv S h=>aY h λb e z=>⟨b,e⟩) k λv y t k e n=>by
  replace k:=iP e k;cases t with
  |true=>exact ha W y vs E _ _ (i.nx n) k (q.after n)
  |false=>exact hb W y vs E _ _ (i.nx n) k (q.after n))
theorem IQ(hc:dm G A sc env (isTrue c env (eval c env)) mc)(ha:dm G A sc env (isTrue a env (eval a env)) ma)(hb:dm G A sc env (isTrue b env (eval b env)) mb):dm G A sc env (isTrue (.IfExp c a b pos) env whole) (Lz mc ma mb):=by
 intro W x vs E K Q i tr k q;show wpAny _ _ (do if ← isTrue c env (eval c env)then isTrue a env (eval a env)else isTrue b env (eval b env)) Q E x.s;refine PK (hc W x vs E _ _ i (λv S h=>aY h λb e z=>⟨b,e⟩) k λv y t k e n=>?_);replace k:=iP e k;cases t with
 |true=>exact ha W y vs E _ _ (i.nx n) tr k (q.after n)
 |false=>exact hb W y vs E _ _ (i.nx n) tr k (q.after n)
theorem Fx(h:dm G A sc env (allTrue op es env) m):dm G A sc env (isTrue (.BoolOp op es pos) env whole) m:=λW x vs E K Q i t k q=>wpAny_isTrue_BoolOp (h W x vs E K Q i t k q)
variable{cl:Nat→List V→St→(V→St→Prop)→Prop}
noncomputable abbrev LH(op:BoolOp):Kk.E→Kk.E→Kk.E:=match op with|.And=>.and|.Or=>.or
theorem uU{f:Expr→Kk.E}:∀(es:List Expr),es≠[]→(∀e∈es,ai G A sc env (eval e env) (ev pA cl (f e)))→ai G A sc env (boolOp pos op (evalEach es env)) (ev pA cl (qa (LH op) (es.map f)))
 |[],h,_=>absurd rfl h
 |[a],_,h=>h a mh
 |a::b::r,_,h=>by
  intro W x vs E K Q i k q;show wpAny _ _ (do
   let v ← eval a env
   standAt pos
   let t ← holding [v] (PySem.truthy v)
   match op,t with
   |.And,false|.Or,true=>pure v
   |_,_=>boolOp pos op (evalEach (b::r) env)) Q E x.s
  have rest:=λy i=>uU (op:=op) (b::r) (cons_ne_nil _ _) (λe he=>h e (mt he)) W y vs E K Q i;induction op using PySem.BoolOp.casesOn with
  |And=>
   refine PK (h a mh W x vs E _ _ i k λv y u k n r=>PK (QP (PK (Qn (kQ n.inv r k λt tk k=>?_)))));cases t with
   |false=>exact PU ((q.after n).tok n.inv k r tk)
   |true=>exact rest _ (i.nx (n.trans (n.inv.toks tk))) k (q.after (n.trans (n.inv.toks tk)))
  |Or=>
   refine PK (h a mh W x vs E _ _ i k λv y u k n r=>PK (QP (PK (Qn (kQ n.inv r k λt tk k=>?_)))));cases t with
   |true=>exact PU ((q.after n).tok n.inv k r tk)
   |false=>exact rest _ (i.nx (n.trans (n.inv.toks tk))) k (q.after (n.trans (n.inv.toks tk)))
theorem uS{f:Expr→Kk.E}:∀(es:List Expr),es≠[]→(∀e∈es,dm G A sc env (isTrue e env (eval e env)) (ev pA cl (f e)))→dm G A sc env (allTrue op es env) (ev pA cl (qa (LH op) (es.map f)))
 |[],h,_=>absurd rfl h
 |[a],_,h=>by
  intro W x vs E K Q i t k q;have:=λQ':Bool→Shared→Prop=>h a mh W x vs E K Q' i t k;induction op using PySem.BoolOp.casesOn with
  |And=>
   refine wpAny_allTrue_And_cons (this _ λv y b k e n=>?_);cases b with
   |true=>exact wpAny_allTrue_And_nil (q v y _ k e n)
   |false=>exact q v y _ k e n
  |Or=>
   refine wpAny_allTrue_Or_cons (this _ λv y b k e n=>?_);cases b with
   |false=>exact wpAny_allTrue_Or_nil (q v y _ k e n)
   |true=>exact q v y _ k e n
 |a::b::r,_,h=>by
  intro W x vs E K Q i t k q;have rest:=λy i=>uS (op:=op) (b::r) (cons_ne_nil _ _) (λe he=>h e (mt he)) W y vs E K Q i t;induction op using PySem.BoolOp.casesOn with
  |And=>
   refine wpAny_allTrue_And_cons (h a mh W x vs E _ _ i (λv S h=>aY h λb e z=>⟨b,e⟩) k λv y b k e n=>?_);replace k:=iP e k;cases b with
   |true=>exact rest y (i.nx n) k (q.after n)
   |false=>exact q v y _ k e n
  |Or=>
   refine wpAny_allTrue_Or_cons (h a mh W x vs E _ _ i (λv S h=>aY h λb e z=>⟨b,e⟩) k λv y b k e n=>?_);replace k:=iP e k;cases b with
   |false=>exact rest y (i.nx n) k (q.after n)
   |true=>exact q v y _ k e n
end
structure sX (K:Frag) (C:Addr) (nm:Str):Prop where
 get:plainGet K C nm=true
 dict:hasDictIn K C=true
 find:∃attr,PySem.W.findIn K (.ref C) nm=some attr∧noGet K attr=true
structure Kl (G:GE):Prop where
 X:G.K.In G.base
 rows:sX G.K G.CT "rows"
 index:sX G.K G.CT "index"
 tab:sX G.K G.CH "tab"
theorem iC{α:Type}{p:α→Bool}{a:α}{l:List α}(h:(a::l).any p=false):p a=false∧l.any p=false:=Rz.mp h
theorem cX(h:dt n es=true):es.any di=false∧es.length≤n:=⟨by have:=(aa h).1;cases q:es.any di<;>first|rfl|(rw[q]at this;exact ak this),P6 (aa h).2⟩
section
variable{G:GE}{A:Around}{sc:aI}{env:Env}{W:List Addr}{vs:au}{E:VS}{a:Expr}{ma mb mc:Cm V}{pos:Pos}{v:V}{u:Value}
variable{cl:Nat→List V→St→(V→St→Prop)→Prop}
theorem mu{r:List Expr}(h:di e=false):starEach (e::r) env=(false,eval e env)::starEach r env:=by induction e using Expr.casesOn<;>first|rfl|exact eg h
theorem cn{pos:Pos}:∀(es:List Expr),es.any di=false→backTo pos (starEach es env)=es.map λe=>(false,eval e env):=by
 intro es;induction es with
 |nil=>exact λz=>rfl
 |cons e r ih_=>
  exact λh=>by rw[mu (iC h).1];show(false,eval e env)::backTo pos (starEach r env)=_;rw[ih_ (iC h).2];rfl
theorem gA{f:Expr→Kk.E}:∀(es:List Expr),(∀e∈es,ai G A sc env (eval e env) (ev pA cl (f e)))→OI G A sc env es.length (spliced (es.map λe=>(false,eval e env))) (kG pA cl (es.map f)):=by
 intro es;induction es with
 |nil=>exact λY=>λW x vs E K Q i k q=>PU (q [] x [] k i.1.refl .nil rfl)
 |cons e es ih_=>exact λh=>λW x vs E K Q i k q=>RO (h e mh W x vs E _ _ i k λv y u k n r=>ih_ (λe he=>h e (mt he)) W y vs E _ _ (i.nx n) k λl z us k n2 r2 hl=>q (v::l) z (u::us) k (n.trans n2) (.cons (r.nx n2 n.inv) r2) (Qb (· + 1) hl))
theorem rN{n:Nat}(h:n≤100):n≤sizeLine:=PM h (ag rfl)
theorem kU{n:Nat}(h:n≤100):n≤aD:=PM h (ag rfl)
theorem H9{l:List V}(I:av G x)(z:l.length≤100)(r:aw (RV G x) l us)(k:K (.tp l) x.S)(q:Qk G x K Q):WG G A (newTuple us) Q E x.s:=wpAny_newTuple (q.pu.old I k (bE.push _ _) λn=>⟨_,us,rfl,P2 _ rfl,I.fresh (bh _),kU z,bP.of (r.imp λy y=>RV.nx n I)⟩) (by rw[← r.len];exact rN z)
theorem uV{x1}{f:Expr→Kk.E}(hp:dt 100 es=true)(h:∀e∈es,ai G A sc env (eval e env) (ev pA cl (f e))):ai G A sc env (eval (.Tuple es x1 pos) env) (ev pA cl (.tp (es.map f))):=by intro W x vs E K Q i k q;show wpAny _ _ (do standAt pos;newTuple (← spliced (backTo pos (starEach es env)))) Q E x.s;rw[cn es (cX hp).1];exact PK (QP (PK (gA es h W x vs E _ _ i k λl y us k n r hl=>H9 n.inv (hl▸(cX hp).2) r k (q.after n))))
theorem Hv{l:List V}{a:Addr}(I:av G x)(hf:x.h.get? a=none)(hk:bE x.h h')(ha:aN h' a us)(z:l.length≤aD)(r:aw (RV G x) l us)(k:K (.hd .ref x.S.h.length) (x.S.new (.list l)))(q:Qk G x K Q):Q (.ref a) {x.s with heap:=h'}:=
 q _ (x.add (.list l) a {x.s with heap:=h'}) _ k (I.new hf hk rfl rfl ha.live λL=>⟨us,ha,z,r.imp (λy y=>RV.mono L .nil)⟩) ⟨a,rfl,by
  show(x.ρ++[a])[x.S.h.length]?=_;rw[← I.ρlen];exact QI⟩
theorem qU{f:Expr→Kk.E}(hp:dt 100 es=true)(h:∀e∈es,ai G A sc env (eval e env) (ev pA cl (f e))):ai G A sc env (eval (.List es pos) env) (ev pA cl (.list m (es.map f))):=by
 intro W x vs E K Q i k q;show wpAny _ _ (do standAt pos;newList (← spliced (backTo pos (starEach es env)))) Q E x.s;rw[cn es (cX hp).1];refine PK (QP (PK (gA es h W x vs E _ _ i k λl y us k n r hl=>?_)));have z:l.length≤100:=hl▸(cX hp).2;refine wpAny_newList ?_ (by rw[← r.len];exact rN z);cases m with
 |true=>exact Hv n.inv (bh _) (bE.push _ _) ⟨0,P2 _ rfl⟩ (kU z) r k (q.after n)
 |false=>exact(q.after n).pu.old n.inv k (bE.push _ _) λn2=>⟨_,us,rfl,⟨0,P2 _ rfl⟩,n.inv.fresh (bh _),kU z,bP.of (r.imp λY Y=>RV.nx n2 n.inv)⟩
theorem Hs(hs:∀o x,subscripted b false o x=operate [o,x] (getItem o x))(ha:ai G A sc env (eval a env) ma)(hb:ai G A sc env (eval b env) mb):ai G A sc env (eval (.Subscript a b pos) env) λvs S k=>ma vs S λv S=>mb vs S λw S=>aq pA (bV S v w) λr=>k r S:=λW x vs E K Q i k q=>Subscript_ (ha W x vs E _ _ i k λv y u k n r=>hb W y vs E _ _ (i.nx n) k λw z u2 k n2 r2=>Jp n2.inv (r.nx n2 n.inv) r2 k hs ((q.after n).after n2).pu)
theorem DJ{lo hi:Option Expr}{p:Pos}(ha:ai G A sc env (eval a env) ma)(hl:ai G A sc env (evalPart lo env) mb)(hh:ai G A sc env (evalPart hi env) mc):ai G A sc env (eval (.Subscript a (.Slice lo hi none p) pos) env) λvs S k=>ma vs S λv S=>mb vs S λw S=>mc vs S λu S=>aq pA (iY S v w u) λr=>k r S:=
 λW x vs E K Q i k q=>Subscript_ (ha W x vs E _ _ i k λv y u k n r=>wpAny_Slice (hl W y vs E _ _ (i.nx n) k λw z u2 k n2 r2=>hh W z vs E _ _ ((i.nx n).nx n2) k λw3 z3 u3 k n3 r3=>by rw[evalPart_none];exact PU (Er n3.inv ((r.nx n2 n.inv).nx n3 n2.inv) (r2.nx n3 n2.inv) r3 k (((q.after n).after n2).after n3).pu)))
theorem I9{k}(ha:ai G A sc env (eval a env) ma):ai G A sc env (eval (.Subscript a (.Slice none none (some (.UnaryOp .USub (.Constant (.int 1) k p3) p2)) p) pos) env) λvs S k=>ma vs S λv S=>aq pA (EP S v) λr=>k r S:=by intro W x vs E K Q i k q;refine Subscript_ (ha W x vs E _ _ i k λv y u k n r=>wpAny_Slice ?_);rw[evalPart_none];refine PU (PU ?_);show wpAny _ _ (eval (.UnaryOp .USub (.Constant (.int 1) _ p3) p2) env) _ _ _;have t:=n.inv.toks (W:=[]) (y.s.toks+1+1);exact wpAny_UnaryOp (wpAny_mkInt (PySem.P.neg_int (Jl (x:=y.to {y.s with toks:=y.s.toks+1+1}) (tk:=y.s.toks+1) t.inv (r.nx t n.inv) k ((q.after n).after t).pu)))
theorem xc{nm:Str}{v:Value}(kl:Kl G)(c:sX G.K C nm)(I:av G x)(hx:x.h.get? o=some ⟨.ref C,some dx,.plain,#[]⟩)(hd:x.h.get? dx=some (PySem.W.dictOf es n))(hl:getL nm es=some (some v))(hv:handedIn v=true)
 (h:∀tk,Q v {x.s with toks:=tk}):WG G A (getAttr (.ref o) nm true) Q E x.s:=by
 refine X2 c.find λattr ha hn=>?_;exact get_value (kl.X.keeps λb o e=>I.base b o e) (C:=C) (od:=some (PySem.W.dictOf es n)) ⟨hx,rfl,rfl,hd⟩ (plainGet_of c.get).1 (findObj_own c.dict ha hn hl) hv (h _)
noncomputable def j9:H→Str|.tab=>"tab" |.rows=>"rows" |.index=>"index" |_=>""
theorem HQ(kl:Kl G)(I:av G x)(ro:RV G x o w)(k:aq pA (BK h o) λr=>K r x.S)(q:Qk G x K Q):WG G A (getAttr w (j9 h) true) Q E x.s:=by
 refine aG k λp hp k=>?_;cases gq hp;obtain⟨c,j⟩:=p;obtain⟨w,rfl,ro⟩:=ro;induction h using H.casesOn<;>induction c using H.casesOn<;>first|exact k.elim|skip
 ·obtain⟨t,d,es,n,h1,h2,h3,_,h5,_⟩:=ro;exact xc kl kl.tab I h2 h3 h5 rfl λtk=>q.tok I k ⟨_,rfl,t,h1,rfl⟩ tk
 ·obtain⟨t,h1,rfl⟩:=ro;refine X2 (I.tabAt h1) λR z T=>?_;refine J6 T.inst λd es n i1 i2 z i4 i5 z=>?_;exact xc kl kl.rows I i1 i2 i4 rfl λtk=>q.tok I k ⟨_,rfl,t,h1,rfl⟩ tk
 ·obtain⟨t,h1,rfl⟩:=ro;refine X2 (I.tabAt h1) λR z T=>?_;refine J6 T.inst λd es n i1 i2 z i4 i5 z=>?_;exact xc kl kl.index I i1 i2 i5 rfl λtk=>q.tok I k ⟨_,rfl,t,h1,rfl⟩ tk
theorem o7{nm:Str}(h:gJ o=false):attributeBase o nm env whole=whole:=by
 induction o using Expr.casesOn with
 |Call f a k p=>
  induction f using Expr.casesOn with
  |Name i _=>
   induction a using List.casesOn with
   |nil=>induction k using List.casesOn with|nil=>exact eg h|cons _ _=>rfl
   |cons _ _=>rfl
  |_=>rfl
 |_=>rfl
theorem FL(kl:Kl G)(hb:gJ a=false)(ha:ai G A sc env (eval a env) ma):ai G A sc env (eval (.Attribute a (j9 h) pos) env) λvs S k=>ma vs S λv S=>aq pA (BK h v) λr=>k r S:=by
 intro W x vs E K Q i k q;show wpAny _ _ (do
  let ov ← attributeBase a (j9 h) env (eval a env)
  standAt pos.atName
  let r ← holding [ov] (getAttr ov (j9 h) true)
  letTemporaryGo a ov r
  pure r) Q E x.s
 rw[o7 hb];exact PK (ha W x vs E _ _ i k λv y u k n r=>PK (QP (PK (Qn (HQ kl n.inv r k λv2 z u2 k n2 r2=>PK (wpAny_letTemporaryGo (PU (q v2 z u2 k (n.trans n2) r2))))))))
variable{d:Nat}{x:Cf}
noncomputable abbrev Cf.hide(x:Cf)(a:Addr)(h:Heap):Cf:={x with w:=dU x.w a (some .hid),s:={x.s with heap:=h}}
theorem av.hide(I:av G x){a:Addr}(hf:x.h.get? a=none)(k:bE x.h h) (live:∃o,h.get? a=some o∧o.cls≠.type "tuple"):Nx G [] x (x.hide a h):=(Nx.role (some .hid) (s':={x.s with heap:=h}) hf I.refl (.inr hf) (λb o z=>k b o) rfl rfl λz=>live).1
theorem HJ(h:FH k=some s):∃x kd p,k=some (.Constant (.str x) kd p)∧dC x=true∧s=x.cps.toList:=by
 induction k using Option.casesOn with
 |none=>exact ah h
 |some e=>
  induction e using Expr.casesOn with
  |Constant c kd p=>
   induction c using PySem.Const.casesOn with
   |str x=>
    cases q:dC x with
    |false=>exact nomatch (show none=some s from by rw[← h];show _=match dC x with|true=>some x.cps.toList|false=>none;rw[q])
    |true=>
     have:some x.cps.toList=some s:=by rw[← h];show _=match dC x with|true=>some x.cps.toList|false=>none;rw[q]
     cases this;exact⟨x,kd,p,rfl,q,rfl⟩
   |_=>exact ah h
  |_=>exact ah h
theorem nQ{k:Option Expr}{r:List (Option Expr)}(h:jr (k::r)=some kk):∃x kd p kk',k=some (.Constant (.str x) kd p)∧dC x=true∧jr r=some kk'∧kk=x.cps.toList::kk':=by have h:(FH k).bind (λs=>(jr r).map (s :: ·))=some kk:=h;refine X2 (Qm.mp h) λs h1 h2=>?_;obtain⟨kk',h3,rfl⟩:=Qr.mp h2;obtain⟨x,kd,p,e,g,rfl⟩:=HJ h1;exact Fd x kd p kk' e g h3 rfl
theorem gD{x:Str}(h:dC x=true):PyData.strOk x=true∧x.cps.toList.length≤aD:=⟨(aa h).1,PI (aa h).2⟩
def Ls(kk:List (List Nat))(ps:List (Value×Value)):Prop:=aw (λ(k:List Nat)(p:Value×Value)=>∃x t,p.1=.str x t∧x.cps.toList=k∧dC x=true) kk ps
theorem ve{f:Expr→Kk.E}:∀(ks:List (Option Expr))(es:List Expr)(kk:List (List Nat)),jr ks=some kk→ks.length=es.length→(∀e∈es,ai G A sc env (eval e env) (ev pA cl (f e)))→
 ∀(W:List Addr)(x:Cf)(vs:au)(E:VS)(K:List V→St→Prop)(Q:List (Value×Value)→Shared→Prop),Iq G sc env W vs x→kG pA cl (es.map f) vs x.S K→
  (∀l y ps,K l y.S→Nx G [] x y→aw (RV G y) l (ps.map (·.2))→Ls kk ps→Q ps y.s)→WG G A (evalPairs (pairTrees ks es env pos)) Q E x.s
 |[],[],kk,hk,_,_=>λW x vs E K Q i k q=>by replace hk:=PG hk;subst hk;show wpAny _ _ (evalPairs []) Q E x.s;unfold evalPairs;exact PU (q [] x [] k i.1.refl .nil .nil)
 |[],_::_,_,_,h,_=>nomatch h
 |_::_,[],_,_,h,_=>nomatch h
 |k::ks,a::es,kk,hk,hl,h=>λW x vs E K Q i kk q=>by obtain⟨y,kd,p,kk',rfl,hg,hk',rfl⟩:=nQ hk;show wpAny _ _ (evalPairs ((eval (.Constant (.str y) kd p) env,do let x ← eval a env;standAt pos;pure x)::pairTrees ks es env pos)) Q E x.s;unfold evalPairs;have t:=i.1.toks (W:=[]) (x.s.toks+1);refine PK (wpAny_Constant_str (PK (Qn (PK (h a mh W _ vs E _ _ (i.nx t) kk λv z u k n r=>PK (QP (PU ?_)))))));refine PK (Qn (ve ks es kk' hk' (Nat.succ.inj hl) (λe he=>h e (mt he)) W z vs E _ _ ((i.nx t).nx n) k λl z2 ps k n2 r2 hp=>PU ?_));exact q (v::l) z2 _ k ((t.trans n).trans n2) (.cons (r.nx n2 n.inv) r2) (.cons ⟨y,_,rfl,rfl,hg⟩ hp)
theorem Ay{m:List (D×Value)}{d:D}(h:∀p∈m,p.1≠d):stored m d w=m++[(d,w)]:=by
 delta stored
 rw[Qv];rw[QA];exact λ⟨p,hp,q⟩=>h p hp (PI q)
theorem Cz:∀(more acc:List (D×Value)),((acc++more).map (·.1)).Nodup→merged acc more=acc++more:=by
 intro more;induction more with
 |nil=>exact λacc z=>by rw[Qy];rfl
 |cons p more ih_=>
  exact λacc h=>by
   have hn:∀q∈acc,q.1≠p.1:=by intro q hq e;rw[QY,nodup_append]at h;exact h.2.2 q.1 (Qd.mpr ⟨q,hq,rfl⟩) p.1 mh e
   show merged (stored acc p.1 p.2) more=_;rw[Ay hn,ih_ _ (by rw[QK];exact h),QK];rfl
noncomputable def yh(p:Value×Value):D×Value:=(match p.1 with
 |.str x _=>.str x
 |_=>.none,p.2)
theorem Ei(hp:Ls kk ps):∀(l:List V)(d:List (V×V)),dictOf kk l=some d→aw (RV G x) l (ps.map (·.2))→
 aw (nA G x) d (ps.map yh)∧((ps.map yh).map (·.1)).Nodup∧Carries (cD G.prog G.w) ps (ps.map yh)∧∀q∈ps.map yh,∃x,q.1=.str x∧x.cps.toList∈kk:=by
 induction hp with
 |nil=>intro l d e r;cases r;replace e:=PG e;subst e;exact⟨.nil,.nil,trivial,λ_ q=>az q⟩
 |@cons k p kk ps hp _ ih=>
  intro l d e r;obtain⟨p1,w⟩:=p;obtain⟨x,t,e1,hx,hg⟩:=hp;subst e1;cases (r)with
  |cons a r=>
  rename_i v l;have e:(match kk.any (cj k)with|true=>none|false=>(dictOf kk l).map ((.str k,v) :: ·))=some d:=e;cases hc:kk.any (cj k)with
  |true=>rw[hc]at e;exact ah e
  |false=>
  rw[hc]at e;obtain⟨d',hd,rfl⟩:=Qr.mp e;refine U4 (ih l d' hd r) λr1 r2 r3 r4=>?_;have hg':=gD hg;refine⟨.cons ⟨⟨x,rfl,hx⟩,a,λy e=>by cases e;exact hg'⟩ r1,?_,⟨?_,rfl,r3⟩,λq hq=>?_⟩
  ·rw[Q4,Q4,RN];refine⟨λq=>?_,r2⟩;refine X2 (Qd.mp q) λq hq e=>?_;refine X2 (r4 q hq) λy hy hm=>?_;have:D.str y=.str x:=hy.symm.trans e;cases this;rw[hx]at hm;have:=List.any_eq_false.mp hc _ hm;exact this (bk.mpr rfl)
  ·exact PL (p:=BU (.str x) (.str x t)) ⟨t,rfl⟩
  ·rcases P4.mp hq with rfl|hq
   ·exact aB x rfl (by rw[hx];exact .head _)
   ·refine X2 (r4 q hq) λy h1 h2=>?_;exact aB y h1 (mt h2)
theorem vm{h:Heap}:∃o,(h.push {cls:=.type "dict",data:=.dict #[]}).get? h.objs.size=some o∧o.cls≠.type "tuple":=⟨_,P2 _ rfl,by decide⟩
theorem ρ_at(I:av G x){a:Addr}:(x.ρ++[a])[x.S.h.length]?=some a:=by rw[← I.ρlen];exact QI
theorem Fp{f:Expr→Kk.E}{es:List Expr}(hk:jr ks=some kk)(hl:ks.length=es.length)(h15:es.length≤15)(h:∀e∈es,ai G A sc env (eval e env) (ev pA cl (f e))) :
 ai G A sc env (eval (.Dict ks es pos) env) (ev pA cl (.dict kk (es.map f))):=by
 intro W x vs E K Q i k q;have fin:∀{z:Cf}{d:List (V×V)}{m:List (D×Value)}{s':Shared},Nx G [] x z→z.w x.h.objs.size=some .hid∨z.h.get? x.h.objs.size=none→s'.heap.DictOf (cD G.prog G.w) x.h.objs.size m→(∀b o,b≠x.h.objs.size→z.h.get? b=some o→s'.heap.get? b=some o)→s'.gens=z.s.gens→s'.os=z.s.os→d.length≤aD→aw (nA G z) d m→K (.hd .ref z.S.h.length) (z.S.new (.dict d))→Q (.ref x.h.objs.size) s':=λ{z d m s'} n hz hd hb g o len r k=>q _ (z.add (.dict d) _ s') _ k (Nx.adopt (o:=.dict d) (s':=s') (bh _) n hz hb g o (uC hd) λL=>⟨m,hd,len,r.imp λp q h=>⟨h.1.mono L.T,RV.mono L .nil h.2.1,h.2.2⟩⟩).1 ⟨_,rfl,ρ_at n.inv⟩
 cases ks with
 |nil=>
  cases es with
  |cons _ _=>cases hl
  |nil=>
  replace hk:=PG hk;subst hk;exact wpAny_Dict_empty (fin (d:=[]) (m:=[]) i.1.refl (.inr (bh _)) (Heap.DictOf.new x.h) (λb o y e=>PY _ e) rfl rfl (Qc _) .nil k)
 |cons k0 ks=>
 have hall:∀(ks:List (Option Expr)) kk,jr ks=some kk→ks.all (·.isSome)=true:=by
  intro ks;induction ks with
  |nil=>intro _ _;rfl
  |cons k ks ih=>intro kk hk;obtain⟨x,kd,p,kk',rfl,_,hk',_⟩:=nQ hk;exact ih kk' hk'
 refine wpAny_Dict_walk (knd:=cD G.prog G.w) (hall _ kk hk) hl (λq=>nomatch q) (by rw[hl];exact h15) ?_;have n0:=i.1.hide (h:=x.h.push {cls:=.type "dict",data:=.dict #[]}) (bh _) (bE.push _ _) vm;refine ve _ es kk hk hl h W (x.hide x.h.objs.size (x.h.push {cls:=.type "dict",data:=.dict #[]})) vs _ _ _ (i.nx n0) k λl z ps k n r hp=>?_;refine aY k λdd hd k=>?_;refine U4 (Ei hp l dd hd r) λq1 q2 q3 y=>?_;refine J2 (Heap.DictOf.new (knd:=cD G.prog G.w) x.h) λo1 es1 e1 e2 e3=>?_;have hz:=n.le.hid _ _ e2 ed;refine eJ (ps.map yh) q3 ⟨o1,es1,e1,hz.1,e3⟩ (λh' hh' hsb=>?_);rw[Cz _ _ q2]at hh';refine fin (n0.trans n) (.inl hz.2) hh' (λb o nb e=>(hsb.2 b nb).trans e) rfl rfl ?_ q1 k;rw[q1.len,PS];have h1:=hp.len;have:∀(ks:List (Option Expr))(kk:List (List Nat)),jr ks=some kk→kk.length=ks.length:=by
  intro ks;induction ks with
  |nil=>intro kk h;replace h:=PG h;subst h;rfl
  |cons k ks ih=>intro kk hk;obtain⟨x,kd,p,kk',rfl,_,hk',rfl⟩:=nQ hk;exact Qb (· + 1) (ih kk' hk')
 rw[← h1,this _ _ hk,hl];exact kU (PM h15 (ag rfl))
end
def fG(G:GE)(x:Cf)(h:Heap)(l:List V)(It:Addr)(i:Nat)(src:Option Nat):Prop:=match src with
 |some j=>∃a,h.IsListIter It a i∧x.ρ[j]?=some a
 |none=>(∃a,h.IsListIter It a i∧RV G x (.ls l) (.ref a))∨(∃a,h.IsTupleIter It a i∧RV G x (.tp l) (.ref a))∨∃n:Nat,IsRangeIter h It i ((n:Int)-i) 1∧l=(List.range n).map λ(i:Nat)=>V.int (Int.ofNat i)
structure Mv (It:Addr) (x:Cf) (s':Shared):Prop where
 k:∀b o,b≠It→x.h.get? b=some o→s'.heap.get? b=some o
 g:s'.gens=x.s.gens
 os:s'.os=x.s.os
section
variable{A:Around}{E:VS}{v:V}{l:List V}
theorem fG.live(t:fG G x h l It i src):∃o,h.get? It=some o∧(o.cls≠.type "list"∧o.cls≠.type "tuple"):=by
 have li:∀{a},h.IsListIter It a i→∃o,h.get? It=some o∧(o.cls≠.type "list"∧o.cls≠.type "tuple"):=λ⟨o,e,c,_⟩=>⟨o,e,by rw[c];decide,by rw[c];decide⟩
 cases src with
 |some j=>refine X2 t λa t z=>?_;exact li t
 |none=>
  rcases t with⟨a,t,_⟩|⟨a,⟨o,e,c,_⟩,_⟩|⟨n,t,_⟩
  ·exact li t
  ·exact eJ o e (by rw[c];decide) (by rw[c];decide)
  ·exact eJ _ t ((by decide:Value.type "range_iterator"≠.type "list")) ((by decide:Value.type "range_iterator"≠.type "tuple"))
theorem fG.mono{h':Heap}(t:fG G x h l It i src)(p:Lm W x y)(w:eV G W x)(e:∀o,h.get? It=some o→h'.get? It=some o):fG G y h' l It i src:=by
 cases src with
 |some j=>exact t.imp λa t=>⟨t.1.imp λo q=>⟨e o q.1,q.2⟩,p.ρ _ _ t.2⟩
 |none=>exact t.imp (λt=>t.imp λa t=>⟨t.1.imp λo q=>⟨e o q.1,q.2⟩,RV.mono p w t.2⟩) λt=>t.imp (λt=>t.imp λa t=>⟨t.1.imp λo q=>⟨e o q.1,q.2⟩,RV.mono p w t.2⟩) λt=>t.imp λn t=>⟨e _ t.1,t.2⟩
theorem qy(n:Nat):Builtin.Range.rangeSize 0 n 1=n:=by
 delta Builtin.Range.rangeSize
 rw[Qx (by omega)];split
 ·rw[Int.ediv_one];omega
 ·omega
theorem CS{K:List V×Option Nat→Prop}(I:av G x)(r:RV G x v u)(h:aq pA (dY x.S v) K)
 (q:∀l src o,K (l,src)→l.length≤aD→fG G x (x.h.push o) l x.h.objs.size 0 src→Q (.ref x.h.objs.size) {x.s with heap:=x.h.push o}):WG G A (pyIter u) Q E x.s:=by
 unfold dY at h;cases ho:bI x.S v with
 |some p=>rw[ho]at h;exact I.own (i:=p.1) (l:=p.2) r ho λa xs _ e _ hρ ha z r=>e▸RT ha.isList (q _ _ _ h z ⟨a,⟨_,P2 _ rfl,rfl,rfl⟩,hρ⟩)
 |none=>
 rw[ho]at h;cases hr:v.asRng with
 |some n=>
  rw[hr]at h;cases yr hr;obtain⟨a,t,u,v,rfl,ha,_,z⟩:=r;refine wpAny_pyIter_range ha ?_ ?_
  ·delta Builtin.Range.small
   rw[qy];unfold aD at z;delta Builtin.Range.rangeFitsLong
   rw[Qx (show(1:Int)>0 by decide)];simp only[Rq,or_eq_true,Ri,beq_iff_eq];have b : -2 ^ 63≤(n:Int)∧(n:Int)<2 ^ 63:=⟨Int.le_trans (by decide) (Rg n),Int.lt_of_le_of_lt (Int.ofNat_le.mpr z) (by decide)⟩
   exact⟨⟨⟨⟨by decide,b⟩,by decide⟩,b⟩,.inr b⟩
  ·rw[qy];exact q _ _ _ h (by rw[PS,R2];exact z) (.inr (.inr ⟨n,P2 _ rfl,rfl⟩))
 |none=>
 rw[hr]at h;refine cR h λl hl k=>?_;induction v using V.casesOn with
 |tp l'=>replace hl:=PG hl;subst hl;refine Y5 (id r) λa xs e ha hn z r'=>?_;exact e▸wpAny_pyIter_tuple ha.isTuple (q _ _ _ k z (.inr (.inl ⟨a,⟨_,P2 _ rfl,rfl,rfl⟩,e▸r⟩)))
 |ls l'=>replace hl:=PG hl;subst hl;refine Y5 (id r) λa xs e ha hn z r'=>?_;exact e▸RT ha.isList (q _ _ _ k z (.inl ⟨a,⟨_,P2 _ rfl,rfl,rfl⟩,e▸r⟩))
 |hd c j=>
  induction c using H.casesOn with
  |ref=>
   have hl:(match x.S.h[j]? with|some (.list l)=>some l|_=>none)=some l:=hl;have ho:(match x.S.h[j]? with|some (.list l)=>some (j,l)|_=>none)=none:=ho;cases q:x.S.h[j]? with
   |none=>rw[q]at hl;exact ah hl
   |some o=>rw[q]at hl ho;cases o<;>first|(exact qE ho;done)|(exact ah hl;done)
  |_=>exact ah hl
 |_=>exact ah hl
theorem zt{Q:Option Value→Shared→Prop}(hh:A.handled=none)(I:av G x)(t:fG G x x.h l It i src)(hc:fX x.S l src=true)(hi:i≤l.length)
 (h1:∀v w s',l[i]?=some v→Mv It x s'→RV G x v w→fG G x s'.heap l It (i+1) src→Q (some w) s')
 (h2:∀s',i=l.length→Mv It x s'→Q none s'):WG G A (pyNext (.ref It)) Q E x.s:=by
 refine X3 t.live λoi ei c1 c2=>?_;have nel:∀{a:Addr}{xs:List Value},aN x.h a xs→a≠It:=λ{a xs} ⟨n,ha⟩ q=>by rw[← q,ha]at ei;replace ei:=PG ei;subst ei;exact c1 rfl
 have net:∀{a:Addr}{xs:List Value},aK x.h a xs→a≠It:=λ{a xs} ha q=>by unfold aK at ha;rw[← q,ha]at ei;replace ei:=PG ei;subst ei;exact c2 rfl
 have mv:∀{h':Heap}{tk:Tok},(∀b o,b∉[It]→x.h.get? b=some o→h'.get? b=some o)→Mv It x {x.s with heap:=h',toks:=tk}:=λk=>⟨λb o q e=>k b o (λz=>q (PH.mp z)) e,rfl,rfl⟩
 have lists:∀{a xs},x.h.IsListIter It a i→aN x.h a xs→aw (RV G x) l xs→(∀h',h'.IsListIter It a (i+1)→fG G x h' l It (i+1) src)→WG G A (pyNext (.ref It)) Q E x.s:=λ{a xs} it ha r hn=>by
  have Wk:=Walks.list (prog:=G.prog) (w:=G.w) (A:=A) hh It a (nel ha) xs.toArray;have hl:=r.len;rcases Nat.lt_or_ge i l.length with hlt|hge
  ·refine X2 (r.get (Qg hlt)) λw hw rw'=>?_;refine Wk.item i x.s Q E (by rw[P9,← hl];exact hlt) ⟨it,ha.isList⟩ λv h' tk hv st k=>?_;have hv:xs[i]?=some v:=by simpa using hv
   rw[hw]at hv;replace hv:=PG hv;subst hv;exact h1 _ _ _ (Qg hlt) (mv k) rw' (hn _ st.1)
  ·have e:i=l.length:=le_antisymm hi hge;exact Wk.done x.s Q E ⟨by rw[P9,← hl,← e];exact it,ha.isList⟩ λh' tk k=>h2 _ e (mv k)
 cases src with
 |some j=>
  refine X2 t λa it hj=>?_;have hl:x.S.h[j]?=some (.list l):=by
   have hc:(match x.S.h[j]? with|some (.list l')=>V.beqL l' l|_=>false)=true:=hc;cases q:x.S.h[j]? with
   |none=>rw[q]at hc;exact ak hc
   |some o=>
    rw[q]at hc;cases o with
    |list l'=>rw[Aa hc]
    |_=>exact ak hc
  refine X3 ((I.obj _ _ _ hl hj).1) λxs ha y r=>?_;exact lists it ha r λh' st=>⟨a,st,hj⟩
 |none=>
  rcases t with⟨a,it,r⟩|⟨a,it,r⟩|⟨n,it,e⟩
  ·refine Y5 (id r) λy xs e ha y y r'=>?_;cases e;exact lists it ha (bP.all r') λh' st=>.inl ⟨a,st,r⟩
  ·refine Y5 (id r) λy xs e ha y y r'=>?_;cases e;replace r':=bP.all r';have Wk:=Walks.tuple (prog:=G.prog) (w:=G.w) (A:=A) hh It a (net ha) xs.toArray;have hl:=r'.len;rcases Nat.lt_or_ge i l.length with hlt|hge
   ·refine X2 (r'.get (Qg hlt)) λw hw rw'=>?_;refine Wk.item i x.s Q E (by rw[P9,← hl];exact hlt) ⟨it,ha.isTuple⟩ λv h' tk hv st k=>?_;have hv:xs[i]?=some v:=by simpa using hv
    rw[hw]at hv;replace hv:=PG hv;subst hv;exact h1 _ _ _ (Qg hlt) (mv k) rw' (.inr (.inl ⟨a,st.1,r⟩))
   ·have e:i=l.length:=le_antisymm hi hge;exact Wk.done x.s Q E ⟨by rw[P9,← hl,← e];exact it,ha.isTuple⟩ λh' tk k=>h2 _ e (mv k)
  ·have Wk:=Walks.range (prog:=G.prog) (w:=G.w) (A:=A) hh It 0 1 n;have hl:l.length=n:=by rw[e,PS,R2]
   have e0:∀i:Nat,(0:Int)+(i:Nat)*1=i:=λi=>by omega
   have fy:IsRangeIter x.h It (0+(i:Nat)*1) ((n:Int)-(i:Nat)) 1:=by rw[e0];exact it
   rcases Nat.lt_or_ge i l.length with hlt|hge
   ·refine Wk.item i x.s Q E (hl▸hlt) fy λv h' tk hv st k=>?_;obtain⟨t,rfl⟩:=hv;refine h1 (.int i) _ _ ?_ (mv k) ?_ (.inr (.inr ⟨n,by rw[e0]at st;exact st,e⟩))
    ·rw[e,QQ,List.getElem?_range (hl▸hlt)];rfl
    ·rw[e0];exact⟨_,rfl⟩
   ·have e':i=l.length:=le_antisymm hi hge;exact Wk.done x.s Q E (by rw[← hl,← e']at fy ⊢; exact fy) λh' tk k=>h2 _ e' (mv k)
end
def Np(G:GE)(x:Cf)(fl:Fl)(f:Flow):Prop:=match fl with
 |.next=>f=.next
 |.cont=>f=.cont
 |.ret v=>∃w,f=.ret w∧RV G x v w
noncomputable abbrev Cs:=au→St→(Fl→au→St→Prop)→Prop
abbrev Qs(G:GE)(sc:aI)(env:Env)(W:List Addr)(x:Cf)(K:KF)(Q:FS):Prop:=∀fl vs y f,K fl vs y.S→Nx G W x y→FR G sc env W vs y→Np G y fl f→Q f y.s
def ba(G:GE)(A:Around)(sc:aI)(env:Env)(t:Sem Flow)(m:Cs):Prop:=∀(W:List Addr)(x:Cf)(vs:au)(E:VS)(K:KF)(Q:FS),Iq G sc env W vs x→m vs x.S K→Qs G sc env W x K Q→wpAny (model G.prog G.w) A t Q E x.s
section
variable{A:Around}{x y z:Cf}{vs:au}{pos:Pos}{mc:Cm V}
theorem Qs.after{K:KF}{Q:FS}(q:Qs G sc env W x K Q)(n:Nx G W x y):Qs G sc env W y K Q:=λfl vs z f k n' F r=>q fl vs z f k (n.trans n') F r
theorem bF:ba G A sc env t λz z z=>pA.bad:=λW x vs E K Q i h=>h.elim
theorem Hx:ba G A sc env (execs [] env) λvs S k=>k .next vs S:=λW x vs E K Q i k q=>Rk (q _ _ _ _ k i.1.refl i.2 rfl)
noncomputable abbrev N1(m1 m2:Cs):Cs:=λvs S k=>m1 vs S λf vs S=>match f with
 |.next=>m2 vs S k
 |.cont=>k .cont vs S
 |.ret v=>k (.ret v) vs S
theorem Gk{st:Stmt}(h1:ba G A sc env (exec st env) m1)(h2:ba G A sc env (execs rest env) m2):ba G A sc env (execs (st::rest) env) (N1 m1 m2):=
 λW x vs E K Q i k q=>Qh (h1 W x vs E _ _ i k λf vs y fw k n F r=>by
  induction f using Fl.casesOn with
  |next=>subst r;exact h2 W y vs E _ _ ⟨n.inv,F⟩ k (q.after n)
  |cont=>subst r;exact q _ _ _ _ k n F rfl
  |ret v=>obtain⟨w,rfl,r⟩:=r;exact q _ _ _ _ k n F ⟨w,rfl,r⟩)
theorem Fc:ba G A sc env (exec (.Pass pos) env) λvs S k=>k .next vs S:=λW x vs E K Q i k q=>wpAny_Pass (q _ _ _ _ k i.1.refl i.2 rfl)
theorem FT:ba G A sc env (exec (.Continue pos) env) λvs S k=>k .cont vs S:=λW x vs E K Q i k q=>wpAny_Continue (q _ _ _ _ k i.1.refl i.2 rfl)
theorem HC(h:ai G A sc env (eval a env) ma):ba G A sc env (exec (.Return (some a) pos) env) λvs S k=>ma vs S λv S=>k (.ret v) vs S:=λW x vs E K Q i k q=>wpAny_Return_some (h W x vs E _ _ i k λv y u k n r=>q _ _ y _ k n.up (i.2.nx n) ⟨u,rfl,r⟩)
theorem Gm:ba G A sc env (exec (.Return none pos) env) λvs S k=>k (.ret .nul) vs S:=λW x vs E K Q i k q=>wpAny_Return_none (q _ _ _ _ k i.1.refl i.2 ⟨_,rfl,rfl⟩)
theorem EI(hs:swapsWith a none pos.line env=pure false)(h:ai G A sc env (eval a env) ma):ba G A sc env (exec (.Expr a pos) env) λvs S k=>ma vs S λz S=>k .next vs S:=λW x vs E K Q i k q=>wpAny_Expr_any (h W x vs E _ _ i k λv y u k n r=>q _ _ y _ k n.up (i.2.nx n) rfl) (by delta interactive;rw[i.2.st.kind];rfl) hs
theorem LQ{a b:List Stmt}(hc:dm G A sc env (isTrue c env (eval c env)) mc)(ha:ba G A sc env (execs a env) m1)(hb:ba G A sc env (execs b env) m2) :
 ba G A sc env (exec (.If c a b pos) env) λvs S k=>mc vs S λv S=>aq pA (truthy S v) λb=>match b with|true=>m1 vs S k|false=>m2 vs S k:=
 λW x vs E K Q i k q=>wpAny_If (hc W x vs E _ _ i (λv S h=>aY h λb e z=>⟨b,e⟩) k λv y t k e n=>by
  replace k:=iP e k;cases t with
  |true=>exact ha W y vs E _ _ (i.nx n) k (q.after n.up)
  |false=>exact hb W y vs E _ _ (i.nx n) k (q.after n.up))
theorem td{nm:Str}(hj:bg cc sc nm=some j)(hs:swapsWith a (some (.Name nm p')) pos.line env=pure false)(h:ai G A sc env (eval a env) ma):ba G A sc env (exec (.Assign [.Name nm p'] a pos) env) λvs S k=>ma vs S λv S=>k .next (vs.set j (some v)) S:=λW x vs E K Q i k q=>wpAny_Assign_Name (h W x vs E _ _ i k λv y u k n r=>(i.2.nx n).store n.inv hj r λs' n2 F=>q _ _ (y.to s') _ k (n.up.trans n2) F rfl) hs
theorem yH(ha:ai G A sc env (eval a env) ma)(hb:ai G A sc env (eval b env) mb)(hc:ai G A sc env (eval c env) mc)(hs:swapsWith c (some (.Subscript a b p')) pos.line env=pure false) :
 ba G A sc env (exec (.Assign [.Subscript a b p'] c pos) env) λvs S k=>mc vs S λx S=>ma vs S λy S=>mb vs S λz S=>aq pA (dp y z x S) λS=>k .next vs S:=
 λW x vs E K Q i k q=>wpAny_Assign_Subscript (hc W x vs E _ _ i k λv y u k n r=>ha W y vs E _ _ (i.nx n) k λv2 y2 u2 k n2 r2=>hb W y2 vs E _ _ ((i.nx n).nx n2) k λv3 y3 u3 k n3 r3=>A7 n3.inv (r2.nx n3 n2.inv) r3 ((r.nx n2 n.inv).nx n3 n2.inv) k λy4 k n4=>q _ _ y4 _ k (((n.trans n2).trans n3).trans n4).up (i.2.nx (((n.trans n2).trans n3).trans n4)) rfl) hs
theorem Ds{b:List Stmt}(hc:dm G A sc env (isTrue c env (eval c env)) mc)(hb:ba G A sc env (execs b env) m1) :
 ba G A sc env (exec (.While c b [] pos) env) λvs S k=>jQ pA (λvs S k=>mc vs S λv S=>aq pA (truthy S v) λb=>k b S) m1 100 vs S k:=by
 intro W x vs E K Q i k q;refine wpAny_While ?_;refine codeAny_whileLoop (λn s₁=>∃y vs₁,s₁=y.s∧Iq G sc env W vs₁ y∧Nx G W x y∧jQ pA (λvs S k=>mc vs S λv S=>aq pA (truthy S v) λb=>k b S) m1 n vs₁ y.S K) (λn s₁ hI=>?_) 100 ⟨x,vs,rfl,i,i.1.refl,k⟩;obtain⟨y,vs₁,rfl,i,n0,k⟩:=hI;cases n with
 |zero=>exact k.elim
 |succ n=>
  refine hc W y vs₁ _ _ _ i (λv S h=>aY h λb e Y=>⟨b,e⟩) k λv z t k e n1=>?_;replace k:=iP e k;cases t with
  |false=>exact Rk (q _ _ z _ k (n0.trans n1.up) (i.2.nx n1) rfl)
  |true=>
   refine hb W z vs₁ _ _ _ (i.nx n1) k λf vs₂ z2 fw k n2 F r=>?_;have nn:=(n0.trans n1.up).trans n2;induction f using Fl.casesOn with
   |next=>subst r;exact⟨n,Nat.lt_succ_self n,z2,vs₂,rfl,⟨n2.inv,F⟩,nn,k⟩
   |cont=>subst r;exact⟨n,Nat.lt_succ_self n,z2,vs₂,rfl,⟨n2.inv,F⟩,nn,k⟩
   |ret v=>obtain⟨w,rfl,r⟩:=r;exact q _ _ z2 _ k nn F ⟨w,rfl,r⟩
theorem Nx.hup{a:Addr}(hf:x.h.get? a=none)(n:Nx G W x z)(hz:z.w a=some .hid)(m:Mv a z s') (live:∃ob,s'.heap.get? a=some ob∧ob.cls≠.type "tuple"):Nx G W x (z.to s')∧Lm [] z (z.to s'):=by
 have h:=Nx.role (some .hid) hf n (.inl hz) m.k m.g m.os λy=>live;rw[show dU z.w a (some .hid)=z.w from funext λb=>by
  by_cases q:b=a
  ·rw[q,ed,hz]
  ·exact jJ q]at h
 exact h
theorem zN{l:List V}(h:l[i]?=some v):l.drop i=v::l.drop (i+1)∧i<l.length:=by obtain⟨h1,h2⟩:=PO.mp h;exact⟨by rw[List.drop_eq_getElem_cons h1,h2],h1⟩
theorem E0{ok:St→Bool}{S:St}{K:KF}:∀{l:List V},bW pA ok m1 j l vs S K→ok S=true
 |[],h=>cN h λe z=>e
 |_::_,h=>cN h λe z=>e
theorem IJ{nm:Str}{b:List Stmt}(aok:bK A d)(hj:bg cc sc nm=some j)(hs:∀y,foldedSetIterable a env y=pure y)(ha:ai G A sc env (eval a env) ma)(hb:ba G A sc env (execs b env) m1) :
 ba G A sc env (exec (.For (.Name nm px) a b [] pos) env) λvs S k=>ma vs S λv S=>aq pA (dY S v) λl=>bW pA (λS=>fX S l.1 l.2) m1 j l.1 vs S k:=by
 intro W x vs E K Q i k q;refine wpAny_For (ha W x vs E _ _ i k λv y u k n r=>CS n.inv r k λl src o k Y t=>?_) hs;have k:bW pA (λS=>fX S l src) m1 j l vs y.S K:=k;have hf:y.h.get? y.h.objs.size=none:=bh _;have t0:fG G y (y.h.push o) l y.h.objs.size 0 src:=t;refine X3 t.live λo' eo Y c2=>?_;refine U2 (Nx.role (W:=W) (some .hid) (s':={y.s with heap:=y.h.push o}) hf n.inv.refl (.inr hf) (λb o Y e=>PY _ e) rfl rfl λY=>⟨o',eo,c2⟩) λn0 L0=>?_;refine codeAny_forLoop (λn s₁=>∃(i:Nat) (z:Cf) (vs₁:au),s₁=z.s∧i≤l.length∧n=l.length-i∧Nx G W y z∧FR G sc env W vs₁ z∧z.w y.h.objs.size=some .hid∧fG G z z.h l y.h.objs.size i src∧bW pA (λS=>fX S l src) m1 j (l.drop i) vs₁ z.S K) (λn₁ s₁ hI=>?_) l.length
  ⟨0,_,vs,rfl,Qc _,rfl,n0,(i.2.nx n).lm L0,ed,t0.mono L0 .nil λY e=>e,k⟩
 obtain⟨i₁,z,vs₁,rfl,hi,rfl,n1,F1,hw,t1,k⟩:=hI;have hc:fX z.S l src=true:=E0 k;refine zt aok.handled n1.inv t1 hc hi (λv' w s' e m r t2=>?_) λs' e m=>?_
 ·refine U2 (zN e) λhd hlt=>?_;rw[hd]at k;refine cN k λY k=>?_;refine X3 t2.live λo2 eo2 Y c22=>?_;refine U2 (Nx.hup hf n1 hw m ⟨o2,eo2,c22⟩) λn2 L2=>?_;refine RU ((F1.lm L2).store (x:=z.to s') n2.inv hj (RV.mono L2 .nil r) λs3 n3 F3=>?_);have h3:=n3.le.hid _ _ eo2 hw;refine hb W _ _ _ _ _ ⟨n3.inv,F3⟩ k λf vs₂ z4 fw k n4 F4 r4=>?_;have h4:=n4.le.hid _ _ h3.1 hw;have nn:=(n2.trans n3).trans n4;have t4:fG G z4 z4.h l y.h.objs.size (i₁+1) src:=((t2.mono L2 .nil λY e=>e).mono n3.le.toLm (F1.lm L2).wok (h':=s3.heap) λo e=>by rw[eo2]at e;replace e:=PG e;subst e;exact h3.1).mono n4.le.toLm F3.wok λo e=>by
   have e:s3.heap.get? y.h.objs.size=some o:=e;rw[h3.1]at e;replace e:=PG e;subst e;exact h4.1
  have next:bW pA (λS=>fX S l src) m1 j (l.drop (i₁+1)) vs₂ z4.S K→∃n,n<l.length-i₁∧∃(i:Nat) (z:Cf) (vs₁:au),z4.s=z.s∧i≤l.length∧n=l.length-i∧Nx G W y z∧FR G sc env W vs₁ z∧z.w y.h.objs.size=some .hid∧fG G z z.h l y.h.objs.size i src∧bW pA (λS=>fX S l src) m1 j (l.drop i) vs₁ z.S K:=λk=>⟨l.length-(i₁+1),Br hlt,i₁+1,z4,vs₂,rfl,hlt,rfl,nn,F4,h4.2,t4,k⟩
  induction f using Fl.casesOn with
  |next=>subst r4;exact next k
  |cont=>subst r4;exact next k
  |ret v=>obtain⟨w,rfl,r4⟩:=r4;exact q _ _ z4 _ k (n.up.trans nn) F4 ⟨w,rfl,r4⟩
 ·rw[e,List.drop_length]at k;refine cN k λY k=>?_;refine U2 (Nx.role (W:=W) none (s':=s') hf n1 (.inl hw) m.k m.g m.os λh=>absurd rfl h) λn2 L2=>?_;exact Rk (q _ _ {z with w:=dU z.w y.h.objs.size none,s:=s'} _ k (n.up.trans n2) (F1.lm L2) rfl)
variable{E:VS}{b:Expr}{s:Shared}
theorem uQ{It a:Addr}(hh:A.handled=none)(hne:a≠It):∀(n i:Nat)(s:Shared)(Q:List Value→Shared→Prop),s.heap.IsListIter It a i→aN s.heap a xs→i+n≤xs.length→
 (∀h' tk,h'.IsListIter It a (i+n)→(∀b o,b≠It→s.heap.get? b=some o→h'.get? b=some o)→Q ((xs.drop i).take n) {s with heap:=h',toks:=tk})→WG G A (draw (.ref It) n) Q E s
 |0,i,s,Q,it,ha,_,hq=>by show wpAny _ _ (pure []) Q E s;exact PU (hq s.heap s.toks it λy y y e=>e)
 |n+1,i,s,Q,it,ha,hn,hq=>by
  show wpAny _ _ (do
   match ← pyNext (.ref It)with
   |none=>pure []
   |some v=>return v::(← holding [v] (draw (.ref It) n))) Q E s
  have Wk:=Walks.list (prog:=G.prog) (w:=G.w) (A:=A) hh It a hne xs.toArray;refine PK (Wk.item i s _ E (by rw[P9];omega) ⟨it,ha.isList⟩ λv h' tk hv st k=>?_);have m:∀b o,b≠It→s.heap.get? b=some o→h'.get? b=some o:=λb o q e=>k b o (λz=>q (PH.mp z)) e;have ha':aN h' a xs:=ha.imp λn e=>m _ _ hne e;refine PK (Qn (uQ hh hne n (i+1) {s with heap:=h',toks:=tk} _ st.1 ha' (by omega) λh2 tk2 it2 m2=>PU ?_));have hv':xs[i]?=some v:=by simpa using hv
  have:=hq h2 tk2 (by rw[show i+(n+1)=i+1+n by omega];exact it2) λb o q e=>m2 b o q (m b o q e);obtain⟨hl,he⟩:=PO.mp hv';rw[List.drop_eq_getElem_cons hl,he,List.take_succ_cons]at this;exact this
theorem qP{a:Addr}{Q:List Value→Shared→Prop}(hh:A.handled=none)(ha:aN s.heap a xs)(hq:∀h' tk,bE s.heap h'→Q xs {s with heap:=h',toks:=tk}):WG G A (unpackItems (.ref a) xs.length none) Q E s:=by
 have hne:a≠s.heap.objs.size:=ha.elim λn e=>Q9 (Q3 e);delta unpackItems
 refine PK ?_;delta notIterableAtAll
 refine PK (wpAny_specialOf ha.isList.typeIs slot_list_iter.lookup ?_);simp only[Option.isSome_some,if_true];refine PU ?_;simp only[false_eq_true,if_false];refine PK (Qn (RT ha.isList ?_));have ha1:aN (s.heap.push {cls:=.type "list_iterator",data:=.fields #[.ref a,.int 0 0]}) a xs:=ha.imp λn e=>PY _ e;refine PK (Qn (uQ (G:=G) hh hne xs.length 0 _ _ ⟨_,P2 _ rfl,rfl,rfl⟩ ha1 (by omega) λh' tk it m=>?_));have ha2:aN h' a xs:=ha1.imp λn e=>m _ _ hne e;rw[List.drop_zero,List.take_length,Qv (by omega)];have Wk:=Walks.list (prog:=G.prog) (w:=G.w) (A:=A) hh s.heap.objs.size a hne xs.toArray;refine PK (Qn (Wk.done _ _ E ⟨by rw[P9];simpa using it,ha2.isList⟩ λh2 tk2 k=>?_));simp only[Option.isSome_none,false_eq_true,if_false];refine PU (hq _ _ λb o e=>?_);have nb:b≠s.heap.objs.size:=Q9 (Q3 e);exact k b o (λz=>nb (PH.mp z)) (m b o nb (PY _ e))
theorem dq{t:Expr}{ts:List Expr}(h:fO sc (t::ts)=some js):∃nm p j js',t=.Name nm p∧bg cc sc nm=some j∧fO sc ts=some js'∧js=j::js':=by have h:(tj sc t).bind (λj=>(fO sc ts).map (j :: ·))=some js:=h;refine X2 (Qm.mp h) λj h1 h2=>?_;obtain⟨js',h3,rfl⟩:=Qr.mp h2;cases t<;>first|exact Fd _ _ j js' rfl h1 h3 rfl|exact ah h1
theorem Ej{Q:Unit→Shared→Prop}:∀(ts:List Expr)(js:List Nat)(l:List V)(ws:List Value)(x:Cf)(vs:au),fO sc ts=some js→g6 js l vs=some vs'→av G x→FR G sc env W vs x→aw (RV G x) l ws→
 (∀y,y.S=x.S→Nx G W x y→FR G sc env W vs' y→Q () y.s)→WG G A (assignInOrder ((assignEach ts env).map (·.2)) ws) Q E x.s:=by
 intro ts;induction ts with
 |nil=>
  exact λjs l ws x vs hn hu I F r q=>by
   replace hn:=PG hn;subst hn;cases l with
   |nil=>replace hu:=PG hu;subst hu;show wpAny _ _ (assignInOrder [] ws) Q E x.s;cases ws<;>exact PU (q x rfl I.refl F)
   |cons _ _=>exact ah hu
 |cons t ts ih_=>
  exact λjs l ws x vs hn hu I F r q=>by
   obtain⟨nm,p,j,js',rfl,hj,hjs,rfl⟩:=dq hn;cases (r)with
   |nil=>exact ah hu
   |cons r0 r=>show wpAny _ _ (assignInOrder (assign (.Name nm p) env::(assignEach ts env).map (·.2)) (_::_)) Q E x.s;exact assignInOrder_cons (RU (F.store I hj r0 λs' n F'=>ih_ js' _ _ (x.to s') _ hjs hu n.inv F' (r.imp (λz z=>RV.mono n.le.toLm F.wok)) λy e n2 F2=>q y e (n.trans n2) F2))
theorem qX:∀(ts:List Expr)(js:List Nat),fO sc ts=some js→(assignEach ts env).length=js.length∧(assignEach ts env).findIdx? (·.1)=none:=by
 intro ts;induction ts with
 |nil=>exact λjs h=>by replace h:=PG h;subst h;exact⟨rfl,rfl⟩
 |cons t ts ih_=>
  exact λjs h=>by obtain⟨nm,p,j,js',rfl,hj,hjs,rfl⟩:=dq h;refine U2 (ih_ js' hjs) λh1 h2=>?_;refine⟨Qb (· + 1) h1,?_⟩;show(((false,assign (.Name nm p) env)::assignEach ts env).findIdx? (·.1))=none;rw[List.findIdx?_cons,h2];rfl
theorem pk:∀{js:List Nat}{l:List V}{vs vs':au},g6 js l vs=some vs'→js.length=l.length
 |[],[],_,_,_=>rfl
 |[],_::_,_,_,h=>ah h
 |_::_,[],_,_,h=>ah h
 |j::js,x::xs,vs,vs',h=>Qb (· + 1) (pk h)
theorem rZ{k}(aok:bK A d)(hn:fO sc ts=some js)(hs:swapsWithSole [.Tuple ts k tp] a pos.line env=pure false)(hw:swappedStores [.Tuple ts k tp] a env=pure none)(h:ai G A sc env (eval a env) ma) :
 ba G A sc env (exec (.Assign [.Tuple ts k tp] a pos) env) λvs S k=>ma vs S λv S=>aq pA (bu S v) λl=>aq pA (g6 js l vs) λvs=>k .next vs S:=by
 intro W x vs E K Q i k q;refine Assign_Tuple (h W x vs E _ _ i k λv y u k n r=>aY k λl hl k=>aY k λvs' hu k=>?_) hs hw;refine U2 (qX (env:=env) ts js hn) λhl1 hl2=>?_;show wpAny _ _ (do standAt tp;unpack u (assignEach ts env)) _ E y.s;refine PK (QP ?_);delta unpack
 rw[hl2,hl1,pk hu];have fin:∀{us:List Value}{h2:Heap}{tk:Tok},bE y.h h2→aw (RV G y) l us→WG G A (assignInOrder ((assignEach ts env).map (·.2)) us) (λY s'=>Q .next s') E {y.s with heap:=h2,toks:=tk}:=λ{us h2 tk} o r=>by have n2:Nx G [] y (y.to {y.s with heap:=h2,toks:=tk}):=n.inv.kept o rfl rfl;exact Ej ts js _ _ (y.to {y.s with heap:=h2,toks:=tk}) vs hn hu n2.inv ((i.2.nx n).nx n2) (bP.nx n2 n.inv r) λz e n3 F=>q .next _ z .next (e▸k) ((n.trans n2).up.trans n3) F rfl
 refine n.inv.list r hl (λad xs Y e ha z r=>?_) λad xs e ha z r=>?_
 ·rw[e,show l.length=xs.toArray.size by rw[P9];exact r.len];exact PK (Qn (unpackItems_tuple aok.handled ha.isTup λh2 ext=>fin (λb o e=>ext b o (Q9 (Q3 e)) e) r))
 ·rw[e,r.len];exact PK (Qn (qP (G:=G) aok.handled ha λh2 tk o=>fin o r))
theorem vj{k k'}(P:Sem (Option (List Str))→Prop)(hok:rG e1 e2=true)(hP0:P (pure none))(hP1:P (pure (some [x1,x2]))) :
 P (swappedStores [.Tuple [.Name x1 p1,.Name x2 p2] k tp] (.Tuple [e1,e2] k' vp) env):=by
 have h3:=(aa hok).2;delta swappedStores
 dsimp only;refine sN (λz=>hP0) λz=>sN (λz=>hP0) λz=>sN (λz=>hP0) λn3=>sN (λz=>hP0) λn4=>sN (λn5=>?_) λz=>?_
 ·exfalso;simp only[List.all_cons,List.all_nil,Bool.and_true]at n4 n5;rw[n5]at h3;have:(foldedForSure 8 e1&&foldedForSure 8 e2)=false:=by simpa using n4
  rw[this]at h3;exact ak h3
 ·have e:∀l:List Str,l=[x1,x2]→P (pure (some l)):=λl h=>h▸hP1;refine e _ ?_;simp only[List.filterMap_cons,List.filterMap_nil]at n3 ⊢;by_cases c1:env.kindOf x1==some NameKind.local&&p1.line==(Option.map (λx:Expr=>x.pos.line) ([Expr.Name x1 p1,Expr.Name x2 p2].head?)).getD 0
  ·by_cases c2:env.kindOf x2==some NameKind.local&&p2.line==(Option.map (λx:Expr=>x.pos.line) ([Expr.Name x1 p1,Expr.Name x2 p2].head?)).getD 0
   ·rw[Qx c1,Qx c2]
   ·rw[Qx c1,Qv c2]at n3;exact absurd rfl n3
  ·rw[Qv c1]at n3;by_cases c2:env.kindOf x2==some NameKind.local&&p2.line==(Option.map (λx:Expr=>x.pos.line) ([Expr.Name x1 p1,Expr.Name x2 p2].head?)).getD 0
   ·rw[Qx c2]at n3;exact absurd rfl n3
   ·rw[Qv c2]at n3;exact absurd rfl n3
theorem v9{k k'}(hok:rG e1 e2=true) :
 swappedStores [.Tuple [.Name x1 p1,.Name x2 p2] k tp] (.Tuple [e1,e2] k' vp) env=pure none∨swappedStores [.Tuple [.Name x1 p1,.Name x2 p2] k tp] (.Tuple [e1,e2] k' vp) env=pure (some [x1,x2]):=
 vj (λr=>r=pure none∨r=pure (some [x1,x2])) hok (.inl rfl) (.inr rfl)
variable{cl:Nat→List V→St→(V→St→Prop)→Prop}
theorem EG{k k'}{f:Expr→Kk.E}(aok:bK A d)(hn:fO sc [.Name x1 p1,.Name x2 p2]=some [j1,j2])(hne:beq j1 j2=false)(hok:rG e1 e2=true)(h:∀e∈[e1,e2],ai G A sc env (eval e env) (ev pA cl (f e))) :
 ba G A sc env (exec (.Assign [.Tuple [.Name x1 p1,.Name x2 p2] k tp] (.Tuple [e1,e2] k' vp) pos) env) (ex pA cl (.pair j1 j2 (f e1) (f e2))):=by
 have hp:dt 100 [e1,e2]=true:=by
  have h1:=aa (aa hok).1;have a:di e1=false:=by simpa using h1.1
  have b:di e2=false:=by simpa using h1.2
  show(!(di e1||(di e2||false))&&true)=true;rw[a,b];rfl
 rcases v9 (env:=env) (x1:=x1) (x2:=x2) (p1:=p1) (p2:=p2) (tp:=tp) (vp:=vp) (k:=k) (k':=k') hok with hw|hw
 ·exact rZ aok hn rfl hw (uV hp h)
 ·intro W x vs E K Q i kk q;have hst:backTo vp (starEach [e1,e2] env)=[(false,eval e1 env),(false,eval e2 env)]:=cn _ (cX hp).1;refine e44 (dq hn) λnm Y Y Y e hj1 hn2 ej=>?_;cases e;refine e44 (dq hn2) λnm Y Y Y e hj2 hn3 ej2=>?_;cases e;replace hn3:=PG hn3;subst hn3;subst ej2;cases ej;have hne':j1≠j2:=λz=>by rw[z,RA]at hne;exact eg hne
  refine Assign_Tuple_swapped (names:=[x1,x2]) ?_ rfl hw;show wpAny _ _ (do standAt vp;newTuple (← spliced (backTo vp (starEach [e1,e2] env)))) _ E x.s;rw[hst];refine PK (QP (PK (gA [e1,e2] h W x vs E (λl S=>match l with|[]=>False|v::l=>match l with|[]=>False|w::_=>K .next ((vs.set j1 (some v)).set j2 (some w)) S) _ i kk λl y us kk n r hl=>?_)));cases (r)with
  |nil=>exact kk.elim
  |@cons va wa _ _ ra r=>
  cases (r)with
  |nil=>exact kk.elim
  |@cons vb wb _ _ rb r=>
  have kK:K .next ((vs.set j2 (some vb)).set j1 (some va)) y.S:=List.set_comm _ _ hne'▸(show K .next ((vs.set j1 (some va)).set j2 (some vb)) y.S from kk)
  cases (r)with
  |cons _ _=>cases hl
  |nil=>
  refine wpAny_newTuple ?_ (show 2≤sizeLine from ag rfl);have ht:aK (y.h.push {cls:=.type "tuple",data:=.seq [wa,wb].toArray}) y.h.objs.size [wa,wb]:=P2 _ rfl;show wpAny _ _ (unpackItems (.ref y.h.objs.size) [wa,wb].toArray.size none) _ E {y.s with heap:=y.h.push {cls:=.type "tuple",data:=.seq [wa,wb].toArray}};refine unpackItems_tuple aok.handled ht.isTup λh2 ext=>?_;have n2:Nx G [] y (y.to {y.s with heap:=h2}):=n.inv.kept (λb o e=>ext b o (Q9 (Q8 (Q3 e) (by rw[Rt];exact Nat.lt_succ_self _))) (PY _ e)) rfl rfl;show wpAny _ _ (assignInOrder [bindName env x2,bindName env x1] [wb,wa]) _ E _;exact assignInOrder_cons (wpAny_bindName (((i.2.nx n).nx n2).store (x:=y.to {y.s with heap:=h2}) n2.inv hj2 (rb.nx n2 n.inv) λs3 n3 F3=>assignInOrder_cons (wpAny_bindName (F3.store (x:=y.to s3) n3.inv hj1 (RV.mono n3.le.toLm ((i.2.nx n).nx n2).wok (ra.nx n2 n.inv)) λs4 n4 F4=>PU (q .next _ (y.to s4) .next kK (((n.trans n2).up.trans n3).trans n4) F4 rfl)))))
end
theorem fe{k:NameKind}:∀{sc:aI}{n j:Nat},bl x sc n=some (j,k)→sc.lookup x=some k:=by
 intro sc;induction sc with
 |nil=>exact @λz z h=>ah h
 |cons p r ih_=>
  exact @λn j h=>by
   unfold bl at h;rw[RB];cases e:x==p.1 with
   |true=>rw[e]at h;cases h;rfl
   |false=>rw[e]at h;exact ih_ h
theorem dh:∀{l:List (Str×Addr)},l.lookup x=some c→(x,c)∈l:=by
 intro l;induction l with
 |nil=>exact @λh=>ah h
 |cons p r ih_=>
  exact @λh=>by
   rw[RB]at h;cases e:x==p.1 with
   |true=>rw[e]at h;replace h:=PG h;subst h;rw[eq_of_beq e];exact .head _
   |false=>rw[e]at h;exact mt (ih_ h)
theorem qH{α:Type}{R:α→α→Prop}{l:List α}(hp:l.Pairwise R){a b:α}(ha:a∈l)(hb:b∈l):a=b∨R a b∨R b a:=by
 refine X1 (PZ.mp ha) λi hi=>?_;refine X1 (PZ.mp hb) λj hj=>?_;obtain⟨hi1,hi2⟩:=PO.mp hi;obtain⟨hj1,hj2⟩:=PO.mp hj;rcases Nat.lt_trichotomy i j with h|h|h
 ·exact .inr (.inl (hi2▸hj2▸List.pairwise_iff_getElem.mp hp i j hi1 hj1 h))
 ·subst h;exact .inl (hi2.symm.trans hj2)
 ·exact .inr (.inr (hi2▸hj2▸List.pairwise_iff_getElem.mp hp j i hj1 hi1 h))
theorem sJ{l:List (Str×Addr)}(hp:l.Pairwise λp q=>p.2≠q.2)(hx:l.lookup x=some c)(hy:l.lookup y=some c):x=y:=by
 rcases qH hp (dh hx) (dh hy)with h|h|h
 ·cases h;rfl
 ·exact absurd rfl h
 ·exact absurd rfl h
theorem vo:∀(names:aI)(n:Nat)(acc:List (Str×Addr)),(acc.lookup x).isSome=true→((cellsFrom n names acc).lookup x).isSome=true:=by
 intro names;induction names with
 |nil=>exact λz z h=>h
 |cons p r ih_=>
  exact λn acc h=>by
   unfold cellsFrom;split
   ·refine ih_ _ _ ?_;rw[RB];cases x==p.1
    ·exact h
    ·rfl
   ·exact ih_ _ _ h
theorem ig{x:Str}:∀(names:aI)(n:Nat)(acc:List (Str×Addr)),(x,NameKind.cell)∈names→((cellsFrom n names acc).lookup x).isSome=true:=by
 intro names;induction names with
 |nil=>exact λz z h=>az h
 |cons p r ih_=>
  exact λn acc h=>by
   unfold cellsFrom;rcases P4.mp h with e|h
   ·subst e;rw[Qx (by rfl)];refine vo r _ _ ?_;rw[RB,R3];rfl
   ·split
    ·exact ih_ _ _ h
    ·exact ih_ _ _ h
theorem ux{on:Str→Bool}{F:List (Str×Value)→(Str→Option Value)→Str→Option Value}(f0:∀m,F [] m=m)(f1:∀n v r m,F ((n,v)::r) m=F r (if on n=true then λy=>if y=n then some v else m y else m))(hx:on x=true) :
 ∀(b:List (Str×Value))(m:Str→Option Value),(b.map (·.1)).Nodup→((∀p∈b,p.1≠x)→F b m x=m x)∧∀(i:Nat)(w:Value),b[i]?=some (x,w)→F b m x=some w
 |[],m,_=>⟨λz=>by rw[f0],λi w h=>ah h⟩
 |(n,v)::r,m,nd=>by
  rw[Q4,RN]at nd;have ih:=ux f0 f1 hx r (if on n=true then λy=>if y=n then some v else m y else m) nd.2;refine⟨λh=>?_,λi w h=>?_⟩
  ·rw[f1,ih.1 λp hp=>h p (mt hp)];have:¬x=n:=λe=>h _ mh e.symm;split
   ·exact Qv this
   ·rfl
  ·rw[f1];cases i with
   |zero=>cases h;rw[ih.1 λp hp e=>nd.1 (Qd.mpr ⟨p,hp,e⟩),Qx hx];exact Qx rfl
   |succ i=>exact ih.2 i w h
section
variable{G:GE}{A:Around}{d:Nat}{sc:aI}{env:Env}{y:Cf}{W:List Addr}{vs:au}{E:VS}
theorem av.nobase(I:av G x)(h:x.h.get? a=none):G.base.get? a=none:=by
 cases q:G.base.get? a with
 |none=>rfl
 |some o=>have:=I.base a o q;rw[h]at this;exact ah this
theorem FR.begin(I:av G x)(n:Nx G [] x (x.to s'))(st:Sc sc env)(len:vs.length=sc.length)(hL:x.h.get? env.locals=none)(ns:∃m,s'.heap.Ns env.locals m∧∀(j:Nat) y,bl y sc 0=some (j,.local)→VO G x (vs[j]?).join (m y))
 (cell:∀(j:Nat) y k,bl y sc 0=some (j,k)→dJ k=true→∃c ov,env.cells.lookup y=some c∧s'.heap.IsCell c ov∧VO G x (vs[j]?).join ov∧(k=.cell∧x.h.get? c=none∨k=.free∧x.w c=none)) :
 ∃W,(∀a∈W,x.h.get? a=none)∧FR G sc env W vs (x.to s'):=by
 have nsL:∃o,s'.heap.get? env.locals=some o∧rS o:=ns.elim λm h=>by obtain⟨⟨o,es,ep,e,d,_⟩,_⟩:=h;exact aB o e (.inl ⟨es,ep,d⟩)
 have hW:∀a∈env.locals::(env.cells.map (·.2)).filter (λc=>decide (x.h.get? c=none∧∃ov,s'.heap.IsCell c ov)),x.h.get? a=none∧∃o,s'.heap.get? a=some o∧rS o:=λa ha=>by
  rcases P4.mp ha with rfl|ha
  ·exact⟨hL,nsL⟩
  ·obtain⟨h1,ov,o,e,d⟩:=PI (P8.mp ha).2;exact⟨h1,o,e,.inr (.inl ⟨_,d⟩)⟩
 refine⟨_,λa ha=>(hW a ha).1,st,len,⟨λa ha=>⟨I.fresh (hW a ha).1,I.nobase (hW a ha).1⟩,λa ha=>(hW a ha).2⟩,.head _,?_,λj y k h hk=>?_⟩
 ·exact ns.imp λm h=>⟨h.1,λj y e=>(h.2 j y e).mono n.le.toLm .nil⟩
 ·refine Y4 (cell j y k h hk) λc ov h1 h2 h3 h4=>?_;refine qL c ov h1 h2 (h3.mono n.le.toLm .nil) (λe=>mt (P8.mpr ⟨Qd.mpr ⟨(y,c),dh h1,rfl⟩,PL ⟨?_,ov,h2⟩⟩)) ?_
  ·rcases h4 with h|⟨h,_⟩
   ·exact h.2
   ·rw[h]at e;cases e
  ·rcases h4 with h|h
   ·exact I.fresh h.2
   ·exact h.2
theorem Nx.drop(n:Nx G [] x y)(n2:Nx G W y z)(hW:∀a∈W,x.h.get? a=none):Nx G [] x z:=
 have p:=n.le.toLm;have q:=n2.le.toLm
 ⟨⟨⟨⟨λk R e=>(p.T k R e).elim λX e=>(q.T k _ e).elim λY e=>⟨X++Y,by rw[e,QK]⟩,λi t e=>q.τ i t (p.τ i t e),λb o e w' J=>q.keep b o (p.keep b o e w' λz=>az z).1 (p.keep b o e w' λz=>az z).2 λz=>(by rw[hW b z]at e;exact ah e),λb o e w'=>q.pr b o (p.pr b o e w').1 (p.pr b o e w').2⟩,λi a e=>q.ρ i a (p.ρ i a e)⟩,
  λb o e w'=>n2.le.hid b o (n.le.hid b o e w').1 (n.le.hid b o e w').2,PM n2.le.cost n.le.cost,n2.le.gens.trans n.le.gens,n2.le.os.trans n.le.os⟩,n2.inv⟩
structure jf (G:GE) (fn:Fn) (a:Addr) (fd:FuncData) (body:List Stmt) (dV:List Value):Prop where
 at_:∃o,G.base.get? a=some o∧o.data=.func fd
 code:G.base.CodeRec fd.code fd.qualname
 body:fd.body=.stmts body
 kind:fd.scope.kind=.function
 co:fd.scope.isCoroutine=false
 gen:fd.scope.isGenerator=false
 glob:fd.globals=mainGlobals
 blt:fd.builtins=builtinsNs
 clo:fd.closure=[]
 slots:fn.slots=fd.scope.names.length
 par:fn.params≤fn.slots
 names:(fd.scope.names.map (·.1)).Nodup
 kinds:∀(i:Nat) x k,fd.scope.names[i]?=some (x,k)→i<fn.params→k=.local∨k=.cell
 nofree:∀y k,(y,k)∈fd.scope.names→k≠.free
 dflts:∀(x:Cf),av G x→aw (RV G x) fn.dflts dV
 binds:∀(ws:List Value)(s:Shared),(∀b o,G.base.get? b=some o→s.heap.get? b=some o)→ws.length≤fn.params→fn.params≤ws.length+dV.length→
  BindsTo s fd ⟨ws,[]⟩ (((fd.scope.names.take fn.params).map (·.1)).zip (ws++dV.drop (ws.length+dV.length-fn.params)))
theorem jD{x:Str}{k:NameKind}:∀{sc:aI}{j:Nat}(n:Nat),(sc.map (·.1)).Nodup→sc[j]?=some (x,k)→bl x sc n=some (n+j,k)
 |[],_,_,_,h=>ah h
 |p::r,0,n,nd,h=>by replace h:=PG h;subst h;unfold bl;rw[R3];rfl
 |p::r,j+1,n,nd,h=>by
  rw[Q4,RN]at nd;unfold bl;cases q:x==p.1 with
  |true=>exact absurd (Qd.mpr ⟨(x,k),PZ.mpr ⟨j,h⟩,eq_of_beq q⟩) nd.1
  |false=>show bl x r (n+1)=_;rw[jD (n+1) nd.2 h,Nat.add_right_comm];rfl
theorem mN{ws fw:List Value}{s:Shared}{Rr:Result→Shared→Prop}(lim:G.base.NoLimit)(ok:jf G fn a fd body dV)(aok:bK A (d+1))(kp:bE G.base s.heap)(h1:ws.length≤fn.params)(h2:fn.params≤ws.length+dV.length)(ew:ws++dV.drop (ws.length+dV.length-fn.params)=fw)(lfw:fw.length=fn.params)
 (h:∀env s₁ m cm E',Sc fd.scope.names env→(∀y,env.kindOf y=fd.scope.names.lookup y)→InCallC s env.locals m env.cells cm s₁→bK (A.deeper env) d→s₁.gens=s.gens→s₁.os=s.os→(∀y,(y,NameKind.cell)∈fd.scope.names→∃c,env.cells.lookup y=some c)→
  (∀(j:Nat) y w,fd.scope.names[j]?=some (y,.local)→fw[j]?=some w→m y=some w)→(∀(j:Nat) y w,fd.scope.names[j]?=some (y,.cell)→fw[j]?=some w→cm y=some w)→
  wpAny (model G.prog G.w) (A.deeper env) (execs body env) (λf s'=>Rr (.ok (.ret (match f with|.ret v=>v|_=>.none))) s') E' s₁) :
 codeAny (model G.prog G.w) A (.call (.ref a) ⟨ws,[]⟩) Rr s:=by
 refine X2 ok.at_ λo ho hdata=>?_;have bt:=ok.binds ws s kp h1 h2;rw[ew]at bt;have hpl:fn.params≤fd.scope.names.length:=ok.slots▸ok.par;have hkeys:((((fd.scope.names.take fn.params).map (·.1)).zip fw).map (·.1))=(fd.scope.names.take fn.params).map (·.1):=List.map_fst_zip (by rw[PS,RZ,lfw];exact Nat.min_le_left _ _)
 have hnd:((((fd.scope.names.take fn.params).map (·.1)).zip fw).map (·.1)).Nodup:=by rw[hkeys];exact List.Sublist.nodup ((List.take_sublist _ _).map _) ok.names
 have hat:∀(i:Nat) y k w,fd.scope.names[i]?=some (y,k)→fw[i]?=some w→(((fd.scope.names.take fn.params).map (·.1)).zip fw)[i]?=some (y,w):=λi y k w hi hw=>by rw[Rx];refine⟨?_,hw⟩;rw[QQ,List.getElem?_take_of_lt (lfw▸(PO.mp hw).1),hi];rfl
 have hmem:∀p∈((fd.scope.names.take fn.params).map (·.1)).zip fw,∃(i:Nat) (k:NameKind),fd.scope.names[i]?=some (p.1,k)∧i<fn.params:=by intro p hp;have:p.1∈((((fd.scope.names.take fn.params).map (·.1)).zip fw).map (·.1)):=Qd.mpr ⟨p,hp,rfl⟩;rw[hkeys]at this;refine X2 (Qd.mp this) λq hq hqe=>?_;refine X1 (PZ.mp hq) λi hi=>?_;have hlt:i<fn.params:=Nat.lt_of_lt_of_le (PO.mp hi).1 (by rw[RZ];exact Nat.min_le_left _ _);rw[List.getElem?_take_of_lt hlt]at hi;exact A4 i q.2 (by rw[hi,← hqe]) hlt
 have hroom:A.depth<recursionLimit:=by have:=aok.depth;exact lg this
 have hlk:∀{i:Nat}{y:Str}{k:NameKind},fd.scope.names[i]?=some (y,k)→fd.scope.names.lookup y=some k:=λhi=>fe (jD 0 ok.names hi);refine codeAny_call_function hroom (kp _ _ ho) hdata ok.co ok.gen ok.body (ok.code.keeps kp) (bt _ _ _ _ ?_);rw[ok.clo];refine wpAny_newFunctionEnv_cells ok.kind (λp hp=>?_) λenv henv s₁ c=>?_
 ·refine Y2 (hmem p hp) λi k hi hlt=>?_;rw[hlk hi];rcases ok.kinds i _ _ hi hlt with rfl|rfl
  ·exact .inl rfl
  ·exact .inr ⟨rfl,ig _ _ _ (PZ.mpr ⟨i,hi⟩)⟩
 ·have hscope:env.scope=fd.scope:=by rw[henv];rfl
  have hkd:∀y,env.kindOf y=fd.scope.names.lookup y:=λy=>by show env.scope.names.lookup y=_;rw[hscope]
  refine Y1 c.toInCall.same λhh tk hs₁=>?_;refine⟨lim.keeps λb o e=>c.toInCall.keep b o (kp b o e),codeAny_func (h env s₁ _ _ _ ⟨by rw[hscope];exact ok.kind,by rw[henv];exact ok.glob,by rw[henv];exact ok.blt,λj y k hj=>.inl ((hkd y).trans (fe hj)),λy z c'=>sJ c.apart⟩ hkd c ⟨aok.handled,?_,?_⟩ (by rw[hs₁]) (by rw[hs₁])
   (λy hy=>by rw[henv];exact Q0.mp (ig fd.scope.names (s.heap.objs.size+1) [] hy)) (λj y w hj hw=>?_) λj y w hj hw=>?_)⟩
  ·have:=aok.units;show A.units+3+3*d+100<cLine;exact Nq this rfl
  ·have:=aok.depth;show A.depth+1+d<recursionLimit;exact tK this
  ·exact(ux (on:=λn=>decide (env.kindOf n=some .local)) (F:=bindL env.kindOf) (λY=>rfl) (λn v r m=>by simp only[Ri];rfl) (PL ((hkd y).trans (hlk hj))) _ _ hnd).2 j w (hat j y _ w hj hw)
  ·exact(ux (on:=λn=>decide (¬env.kindOf n=some .local)) (F:=bindC env.kindOf) (λY=>rfl) (λn v r m=>Qb (bindC env.kindOf r) (by
    by_cases q:env.kindOf n=some .local
    ·rw[Qx q,Qv (by rw (config:={}) [Ri];exact λz=>z q)]
    ·rw[Qv q,Qx (PL q)])) (PL (by rw[hkd y,hlk hj];exact λq=>nomatch q)) _ _ hnd).2 j w (hat j y _ w hj hw)
theorem zv{vs:au}(lim:G.base.NoLimit)(ok:jf G fn a fd body dV)(aok:bK A (d+1))(I:av G x)(r:aw (RV G x) xs ws)(e:Kk.bindArgs fn xs=some vs)
 (h:∀env W s₁ E',bK (A.deeper env) d→Nx G [] x (x.to s₁)→FR G fd.scope.names env W vs (x.to s₁)→(∀a∈W,x.h.get? a=none)→wpAny (model G.prog G.w) (A.deeper env) (execs body env) (λf s₂=>Q (match f with|.ret v=>v|_=>.none) s₂) E' s₁) :
 WG G A (call (.ref a) ws) Q E x.s:=by
 unfold Kk.bindArgs at e;cases hn:decide (xs.length≤fn.params)&&decide (fn.params≤xs.length+fn.dflts.length)with
 |false=>rw[hn]at e;exact ah e
 |true=>
 rw[hn]at e;replace e:=PG e;subst e;have hn1:=PI (aa hn).1;have hn2:=PI (aa hn).2;have rd:=ok.dflts x I;have rfull:=r.app (rd.drop (xs.length+fn.dflts.length-fn.params));have lfull:(xs++fn.dflts.drop (xs.length+fn.dflts.length-fn.params)).length=fn.params:=by rw[PX,length_drop,← Nat.add_sub_assoc (Nat.sub_le_of_le_add (RJ fn.params _▸Qw hn1 _)),Nat.sub_sub_self hn2]
 have ew:ws++dV.drop (ws.length+dV.length-fn.params)=ws++dV.drop (xs.length+fn.dflts.length-fn.params):=by rw[r.len,rd.len]
 rw[r.len]at hn1 hn2;rw[rd.len]at hn2;generalize xs++fn.dflts.drop (xs.length+fn.dflts.length-fn.params)=full at rfull lfull h;generalize ws++dV.drop (xs.length+fn.dflts.length-fn.params)=fw at rfull ew;refine wpAny_call (mN lim ok aok I.base hn1 hn2 ew (rfull.len.symm.trans lfull) λenv s₁ m cm E' st hkd c aok' g o hcell hl hc=>?_);have n:Nx G [] x (x.to s₁):=I.kept c.toInCall.keep g o;have fresh:∀y c',env.cells.lookup y=some c'→x.h.get? c'=none:=λy c' q=>Q5 (Rm (Qa c.toInCall.fresh (c.above y c' (dh q))));have hat:∀(i:Nat) v,((full.map some++List.replicate (fn.slots-fn.params) (none:Option V))[i]?).join=some v→∃w,fw[i]?=some w∧RV G x v w:=λi v hv=>by
  by_cases hlt:i<full.length
  ·rw[Qq (by rw[PS];exact hlt),QQ,Qg hlt]at hv;replace hv:=PG hv;subst hv;exact rfull.get (Qg hlt)
  ·rw[Q1 (by rw[PS];exact Ro hlt),List.getElem?_replicate]at hv;split at hv<;>exact ah hv
 refine X2 (FR.begin (vs:=full.map some++List.replicate (fn.slots-fn.params) (none:Option V)) (sc:=fd.scope.names) (env:=env) I n st
  (by rw[PX,PS,List.length_replicate,lfull,← ok.slots];exact R4 ok.par) (Q5 c.toInCall.fresh)
  ⟨m,c.toInCall.ns,λj y hj v hv=>(hat j v hv).imp λw h=>⟨hl j y w (cY hj) h.1,h.2⟩⟩
  λj y k hj hk=>by
   induction k using PySem.NameKind.casesOn with
   |cell=>refine X1 (hcell y (PZ.mpr ⟨_,cY hj⟩)) λc' hc'=>?_;exact ke c' _ hc' (c.cell y c' hc') (λv hv=>(hat j v hv).imp λw h=>⟨hc j y w (cY hj) h.1,h.2⟩) (.inl ⟨rfl,fresh y c' hc'⟩)
   |free=>exact absurd rfl (ok.nofree y _ (PZ.mpr ⟨_,cY hj⟩))
   |_=>exact ak hk) λW hW F=>?_
 exact h env W s₁ E' aok' n F hW
end
noncomputable abbrev Cf.kill(x:Cf)(i:Nat):Cf:={x with S:=x.S.set i .gone,w:=λb=>if x.w b=some (.obj i)then none else x.w b}
noncomputable def qR(r:Option fL):Option fL:=match r with|some (.obj _)=>some .hid|r=>r
noncomputable def fM(r q:Option fL):Option fL:=match r with|some (.obj i)=>some (.obj i)|_=>match q with|some (.obj _)=>none|q=>q
noncomputable abbrev Cf.apart(x:Cf)(c:Nat):Cf:={x with S:={x.S with c:=c,h:=[]},ρ:=[],w:=λb=>qR (x.w b)}
noncomputable abbrev Cf.back(x y:Cf)(c:Nat)(o:List (List V×List V)):Cf:={y with S:={x.S with c:=x.S.c-c,o:=o},ρ:=x.ρ,w:=λb=>fM (x.w b) (y.w b)}
section
variable{x y:Cf}{v:V}
theorem av.kill(I:av G x)(i:Nat):Nx G [] x (x.kill i):=by
 have keep:∀b,x.w b≠some (.obj i)→(if x.w b=some (.obj i)then none else x.w b)=x.w b:=λb h=>Qv h;have L:Lm [] x (x.kill i):=⟨⟨λk R e=>⟨[],by rw[Qy];exact e⟩,λY Y e=>e,λb o e n Y=>⟨e,(keep b λq=>(by rw[n]at q;exact ah q)).trans n⟩,λb o e n=>⟨e,(keep b λq=>(by rw[n]at q;cases q)).trans n⟩⟩,λY Y e=>e⟩
 refine⟨⟨L,λb o e n=>⟨e,(keep b λq=>(by rw[n]at q;cases q)).trans n⟩,Qi _,rfl,rfl⟩,I.go (y:=x.kill i) L .nil I.room (λb r h=>?_) (I.ρlen.trans (RY ..).symm) (λj o b h1 h2=>?_) I.τlen (λk R t h1 h2=>.inl ⟨h1,h2,λb hb=>⟨rfl,keep b λq=>?_⟩⟩) I.ok I.n (λh=>.inl ⟨h,rfl⟩) λY h=>.inl h⟩
 ·have h:(if x.w b=some (.obj i)then none else x.w b)=some r:=h;split at h
  ·exact ah h
  ·exact I.live b r h
 ·have h1:(x.S.h.set i .gone)[j]?=some o:=h1;by_cases q:i=j
  ·subst q;rw[QO ((RY ..).symm▸(PO.mp h1).1)]at h1;replace h1:=PG h1;subst h1;exact .inr ⟨trivial,λz=>absurd rfl z⟩
  ·rw[Ry q]at h1;refine .inl ⟨h1,h2,λz=>⟨rfl,keep b λe=>?_⟩⟩;rw[(I.obj j o b h1 h2).2 z]at e;cases e;exact q rfl
 ·have r:=(I.tab k R t h1 h2).roles;rcases hb with rfl|rfl
  ·rw[r.1]at q;cases q
  ·rw[r.2]at q;cases q
noncomputable def wz(v:V):Option Nat:=match v.asHdl with|some (.ref,i)=>some i|_=>none
theorem yL(h:List O)(v:V)(l:List V):iW h (v::l)=iW (match wz v with|some i=>h.set i .gone|none=>h) l:=by
 show(match v.asHdl with|some (.ref,i)=>iW (h.set i .gone) l|_=>iW h l)=_;delta wz
 cases v.asHdl with
 |none=>rfl
 |some p=>obtain⟨c,i⟩:=p;cases c<;>rfl
theorem MO:∀(l:List V)(x:Cf),av G x→∃y,y.s=x.s∧y.S={x.S with h:=iW x.S.h l}∧y.ρ=x.ρ∧Nx G [] x y∧(∀b,y.w b=x.w b∨y.w b=none)∧∀v∈l,∀i,wz v=some i→∀b,x.w b=some (.obj i)→y.w b=none:=by
 intro l;induction l with
 |nil=>exact λx I=>⟨x,rfl,rfl,rfl,I.refl,λz=>.inl rfl,λz h=>az h⟩
 |cons v l ih_=>
  exact λx I=>by
   rw[yL];cases q:wz v with
   |none=>
    refine X6 (ih_ x I) λy h1 h2 h3 h4 h5 h6=>?_;refine Kh y h1 h2 h3 h4 h5 (λw hw=>?_);rcases P4.mp hw with rfl|hw
    ·intro i e;rw[q]at e;exact ah e
    ·exact h6 w hw
   |some i=>
    have n:=I.kill i;refine X6 (ih_ (x.kill i) n.inv) λy h1 h2 h3 h4 h5 h6=>?_;have kw:∀b,(x.kill i).w b=x.w b∨(x.kill i).w b=none:=λb=>by
     by_cases q:x.w b=some (.obj i)
     ·exact .inr (Qx q)
     ·exact .inl (Qv q)
    refine Kh y h1 h2 h3 (n.trans h4) (λb=>?_) (λw hw j e b hb=>?_)
    ·rcases h5 b with e|e
     ·rw[e];exact kw b
     ·exact .inr e
    ·rcases kw b with e2|e2
     ·rcases P4.mp hw with rfl|hw
      ·rw[q]at e;replace e:=PG e;subst e;have:(x.kill i).w b=none:=Qx hb;rcases h5 b with e|e
       ·exact e.trans this
       ·exact e
      ·exact h6 w hw j e b (e2.trans hb)
     ·rcases h5 b with e|e
      ·exact e.trans e2
      ·exact e
theorem rp:V.freeL l=true→∀v∈l,V.free v=true:=by
 induction l with
 |nil=>exact λz z h=>az h
 |cons a l ih=>exact λh v hv=>(P4.mp hv).elim (λe=>e▸(aa h).1) (ih (aa h).2 v)
theorem uW(I:av G x)(L:Lf [] x y)(hk:∀i,wz v=some i→∀b,x.w b=some (.obj i)→y.w b=none)(es:y.s=x.s)(r:RV G x v u)(f:V.free (ar x.S v)=true):RV G y (ar x.S v) u:=by
 unfold ar at *;cases hl:bT x.S v with
 |none=>rw[hl]at f;exact r.freed L .nil f
 |some l=>
  rw[hl]at f;induction v using V.casesOn with
  |ls l'=>replace hl:=PG hl;subst hl;exact r.freed L .nil f
  |hd c i=>
   induction c using H.casesOn with
   |ref=>
    obtain⟨a,rfl,hρ⟩:=r;have hl:(match x.S.h[i]? with|some (.list l)=>some l|_=>none)=some l:=hl;cases q:x.S.h[i]? with
    |none=>rw[q]at hl;exact ah hl
    |some o=>
     rw[q]at hl;induction o using O.casesOn with
     |list l'=>replace hl:=PG hl;subst hl;obtain⟨⟨xs,ha,z,r⟩,hw⟩:=I.obj _ _ _ q hρ;exact qL a xs rfl (by rw[show y.h=x.h from Qb Shared.heap es];exact ha) (hk i rfl a (hw λh=>nomatch h)) z (bP.of (pq L .nil r (rp f)))
     |_=>exact ah hl
   |_=>exact ah hl
  |_=>exact ah hl
theorem EC{l':List V}{h':List O}(I:av G x)(r:aw (RV G x) l us)(e:gk x.S l=some (l',h')):∃y,y.s=x.s∧y.S={x.S with h:=h'}∧Nx G [] x y∧aw (RV G y) l' us∧V.freeL l'=true:=by
 unfold gk at e;cases q:V.freeL l with
 |true=>rw[q]at e;cases e;exact KA x rfl rfl I.refl r q
 |false=>
  rw[q]at e;cases q2:V.freeL (l.map (ar x.S))with
  |false=>rw[q2]at e;exact ah e
  |true=>
   rw[q2]at e;cases e;refine X6 (MO l x I) λy h1 h2 _ h4 _ h6=>?_;refine KA y h1 h2 h4 ?_ q2;have f:=rp q2;clear q q2 h2;induction r with
   |nil=>exact .nil
   |cons a _ ih=>exact .cons (uW I h4.le.toLf (λi e=>h6 _ mh i e) h1 a (f _ mh)) (ih (λw hw=>h6 w (mt hw)) λw hw=>f w (mt hw))
theorem De(h:qR r=some q):∃q',r=some q':=by
 cases r with
 |none=>exact ah h
 |some q'=>exact⟨q',rfl⟩
theorem eh{r q:Option fL}(h:r=q)(n:∀i,q≠some (.obj i)):qR r=q:=by
 subst h;delta qR
 split
 ·exact absurd rfl (n _)
 ·rfl
theorem av.apart(I:av G x){c:Nat}(hc:c≤x.S.c):av G (x.apart c)∧Lf [] x (x.apart c):=by
 have L:Lf [] x (x.apart c):=⟨λk R e=>⟨[],by rw[Qy];exact e⟩,λz z e=>e,λb o e n z=>⟨e,eh n λz q=>(ah q)⟩,λb o e n=>⟨e,eh n λz q=>(nomatch q)⟩⟩
 refine⟨⟨I.base,λb o e=>eh (I.free b o e) λz q=>(ah q),I.sys,λa r h=>?_,rfl,λi o a h=>(ah h),I.τlen,λk R t h1 h2=>?_,I.ok,I.n,PM (QB hc _) I.room,I.late,I.ord⟩,L⟩
 ·refine X1 (De h) λr' e=>?_;exact I.live a r' e
 ·have T:=I.tab k R t h1 h2;exact T.mono I L .nil rfl rfl ((eh T.roles.1 λz q=>(nomatch q)).trans T.roles.1.symm) ((eh T.roles.2 λz q=>(nomatch q)).trans T.roles.2.symm)
theorem yQ{r q p:Option fL}(h:r=p)(n:∀i,p≠some (.obj i))(e:q=p):fM r q=p:=by
 subst h e;delta fM
 split
 ·exact absurd rfl (n _)
 ·split
  ·exact absurd rfl (n _)
  ·rfl
theorem av.back(I:av G x){c:Nat}{o:List (List V×List V)}(hc:c≤x.S.c)(n:Nx G [] (x.apart c) y)(hn:y.S.n=x.S.n)(ho:o=x.S.o∨o=y.S.o):Nx G [] x (x.back y c o)∧Lf [] y (x.back y c o):=by
 have J:=n.inv;have L:=n.le;have obj:∀b i,x.w b=some (.obj i)→y.h.get? b=x.h.get? b:=λb i h=>by refine X2 (I.live b _ h) λo e _=>?_;rw[e];exact(L.hid b o e (by show qR (x.w b)=_;rw[h];rfl)).1
 have kb:∀b o p,x.h.get? b=some o→x.w b=p→(∀i,p≠some (.obj i))→y.h.get? b=some o∧y.w b=p→y.h.get? b=some o∧fM (x.w b) (y.w b)=p:=λb o p e w' ni q=>⟨q.1,yQ w' ni q.2⟩
 have L1:Lm [] x (x.back y c o):=⟨⟨L.T,L.τ,λb o e n' _=>kb b o _ e n' (λ_ q=>(ah q)) (L.keep b o e (eh n' λ_ q=>(ah q)) λq=>(az q)),λb o e n'=>kb b o _ e n' (λ_ q=>(nomatch q)) (L.pr b o e (eh n' λ_ q=>(nomatch q)))⟩,λ_ _ e=>e⟩
 -- what is not an object of x
 have non:∀b p,y.w b=p→(∀i,p≠some (.obj i))→p≠some .hid→fM (x.w b) (y.w b)=p:=λb p e ni nh=>by
  delta fM
  split
  ·rename_i i q;refine X2 (I.live b _ q) λo eo _=>?_;have:=(L.hid b o eo (by show qR (x.w b)=_;rw[q];rfl)).2;exact absurd (e.symm.trans this) nh
  ·split
   ·rename_i q;exact absurd (e.symm.trans q) (ni _)
   ·exact e
 have L2:Lf [] y (x.back y c o):=⟨λk R e=>⟨[],by rw[Qy];exact e⟩,λ_ _ e=>e,λb o e n' _=>⟨e,non b _ n' (λ_ q=>(ah q)) λq=>(ah q)⟩,λb o e n'=>⟨e,non b _ n' (λ_ q=>(nomatch q)) λq=>(nomatch q)⟩⟩
 have cost:cA y.T+(x.S.c-c)≤cA x.T+x.S.c:=by have:cA y.T+y.S.c≤cA x.T+c:=L.cost;exact PM (Qw (uu this) _) (Nw hc)
 refine⟨⟨⟨L1,λb o e n'=>kb b o _ e n' (λ_ q=>(nomatch q)) (L.hid b o e (eh n' λ_ q=>(nomatch q))),cost,L.gens,L.os⟩,I.go (y:=x.back y c o) L1 .nil (PM cost I.room) (λb r h=>?_) I.ρlen (λi o a h1 h2=>.inl ⟨h1,h2,λz=>?_⟩) J.τlen (λk R t h1 h2=>?_) J.ok (hn.symm.trans J.n) (λh=>.inl ⟨h,rfl⟩) λp h=>ho.elim (λe=>.inl (e▸h)) λe=>.inr (J.ord p (e▸h))⟩,L2⟩
 ·have h:fM (x.w b) (y.w b)=some r:=h;unfold fM at h;split at h
  ·rename_i i q;refine X2 (I.live b _ q) λo e c=>?_;exact aB o ((obj b i q).trans e) c
  ·split at h
   ·exact ah h
   ·exact J.live b r h
 ·have w':=(I.obj i o a h1 h2).2 z;exact⟨obj a i w',by show fM (x.w a) (y.w a)=_;rw[w'];rfl⟩
 ·have T:=J.tab k R t h1 h2;exact .inr (T.mono J L2 .nil rfl rfl ((non _ _ T.roles.1 (λ_ q=>(nomatch q)) λq=>(nomatch q)).trans T.roles.1.symm) ((non _ _ T.roles.2 (λ_ q=>(nomatch q)) λq=>(nomatch q)).trans T.roles.2.symm))
end
def BG(cl:Nat→List V→St→(V→St→Prop)→Prop)(fn:Fn)(args:List V)(S:St)(k:KP):Prop:=match fn.mode with
 |.own c s=>iff pA (ble c S.c) (aq pA (gk S args) λx=>aq pA (bindArgs fn x.1) λvs=>ao pA cl fn.body vs {S with c:=c,h:=[]} λfl _ S'=>iff pA (beq S'.n S.n) (aq pA (gE S' fl.val) λv=>k v {S with c:=S.c-c,h:=x.2,o:=iG s S'.o S.o}))
 |.open_=>aq pA (bindArgs fn args) λvs=>ao pA cl fn.body vs S λfl _ S=>k fl.val S
 |.late=>aq pA (bindArgs fn args) λvs=>ao pA cl fn.body vs {S with late:=S.late||f5 S} λfl _ S=>k fl.val S
section
variable{G:GE}{A:Around}{d:Nat}{env:Env}{E:VS}
theorem DG(I:av G x)(h:f5 x.S=true):∀r∈dM (x.S.n-1),∃i,At x.T (x.S.n-1) i r:=by
 refine X2 (QA.mp h) λo ho h=>?_;cases o with
 |dict l=>intro r hr;refine X2 (QA.mp (P5.mp h r hr)) λp hp e=>?_;replace e:=iJ e;refine X1 (PZ.mp ho) λi hi=>?_;have:i<x.ρ.length:=I.ρlen▸(PO.mp hi).1;obtain⟨⟨m,_,_,r⟩,_⟩:=I.obj i _ _ hi (Qg this);refine X1 (PZ.mp hp) λj hj=>?_;refine X3 (r.get hj) λq z hq z=>?_;rw[e]at hq;refine X2 hq λn z a=>?_;exact⟨n,a⟩
 |_=>exact ak h
theorem av.late_on(I:av G x):Nx G [] x {x with S:={x.S with late:=x.S.late||f5 x.S}}:=by
 have L:Lm [] x {x with S:={x.S with late:=x.S.late||f5 x.S}}:=⟨⟨λk R e=>⟨[],by rw[Qy];exact e⟩,λz z e=>e,λb o e n z=>⟨e,n⟩,λb o e n=>⟨e,n⟩⟩,λz z e=>e⟩
 refine⟨⟨L,λb o e n=>⟨e,n⟩,Qi _,rfl,rfl⟩,I.go (y:={x with S:={x.S with late:=x.S.late||f5 x.S}}) L .nil I.room I.live I.ρlen (λi o a h1 h2=>.inl ⟨h1,h2,λz=>⟨rfl,rfl⟩⟩) I.τlen (λk R t h1 h2=>.inl ⟨h1,h2,λb z=>⟨rfl,rfl⟩⟩) I.ok I.n (λh=>?_) λz h=>.inl h⟩;rcases QW.mp h with h|h
 ·exact .inl ⟨h,rfl⟩
 ·exact .inr (show ∀r∈dM (x.S.n-1),∃i,At x.T (x.S.n-1) i r from DG I h)
theorem DB{fl:Fl}(r:Np G y fl f):RV G y fl.val (match(generalizing:=false) f with|.ret v=>v|_=>.none):=by
 induction fl using Fl.casesOn with
 |next=>subst r;exact rfl
 |cont=>subst r;exact rfl
 |ret v=>obtain⟨w,rfl,r⟩:=r;exact r
theorem yC{S:St}{K:V→Prop}{C:Prop}(h:aq pA (gE S v) K)(f:V.free (ar S v)=true→K (ar S v)→C):C:=by
 unfold gE at h;cases q:V.free (ar S v)with
 |true=>rw[q]at h;exact f q h
 |false=>rw[q]at h;exact h.elim
theorem FF{cl:Nat→List V→St→(V→St→Prop)→Prop}(lim:G.base.NoLimit)(ok:jf G fn a fd body dV)(aok:bK A (d+1))
 (hB:∀env,bK (A.deeper env) d→ba G (A.deeper env) fd.scope.names env (execs body env) (ao pA cl fn.body)) (I:av G x) (r:aw (RV G x) xs us) (h:BG cl fn xs x.S K) (q:Qk G x K Q):WG G A (call (.ref a) us) Q E x.s:=by
 have go:∀{y:Cf}{ys:List V},av G y→y.s=x.s→aw (RV G y) ys us→(aq pA (bindArgs fn ys) λvs=>ao pA cl fn.body vs y.S λfl _ S=>K fl.val S)→Qk G y K Q→WG G A (call (.ref a) us) Q E x.s:=λ{y ys} I es r h q=>es▸aY h λvs e h=>zv lim ok aok I r e λenv W s₁ E' aok' n F hW=>hB env aok' W (y.to s₁) vs E' _ _ ⟨n.inv,F⟩ h λfl vs' z f k n2 F2 rf=>q _ z _ k (n.drop n2 hW) (DB rf)
 unfold BG at h;split at h
 ·rename_i c s hm;refine cN h λhc h=>aY h λp hp h=>aY h λvs e h=>?_;replace hc:=P6 hc;obtain⟨y,es,eS,n,r',hf⟩:=EC I r hp;refine U2 (n.inv.apart (c:=c) (by rw[eS];exact hc)) λJ L=>?_;rw[← es];refine zv (x:=y.apart c) lim ok aok J (pq L .nil r' (rp hf)) e λenv W s₁ E' aok' n1 F hW=>?_;have eA:((y.apart c).to s₁).S={x.S with c:=c,h:=[]}:=by show({y.S with c:=c,h:=[]}:St)=_;rw[eS]
  refine hB env aok' W ((y.apart c).to s₁) vs E' _ _ ⟨n1.inv,F⟩ (by rw (config:={}) [eA];exact h) λfl vs' z f k n2 F2 rf=>cN k λhn k=>yC k λhz k=>?_;have hn:z.S.n=y.S.n:=by rw[eS];exact PJ hn
  have n3:Nx G [] (y.apart c) z:=n1.drop n2 hW;refine U2 (n.inv.back (c:=c) (o:=iG s z.S.o y.S.o) (by rw[eS];exact hc) n3 hn (by cases s;exact .inl rfl;exact .inr rfl)) λn4 L4=>?_;refine q _ (y.back z c _) _ (by show K _ {y.S with c:=y.S.c-c,o:=iG s z.S.o y.S.o}; rw[eS];exact k) (n.trans n4) (uW n3.inv L4 (λi _ b hb=>?_) rfl (DB rf) hz);show fM (y.w b) (z.w b)=none;delta fM
  split
  ·rename_i j e;refine X2 (n.inv.live b _ e) λo eo _=>?_;have:=(n3.le.hid b o eo (by show qR (y.w b)=_;rw[e];rfl)).2;rw[hb]at this;cases this
  ·rw[hb]
 ·exact go I rfl r h q
 ·exact go (y:={x with S:={x.S with late:=x.S.late||f5 x.S}}) I.late_on.inv rfl (bP.nx I.late_on I r) h (q.after I.late_on)
end
theorem gm:∀(names:aI)(n:Nat)(acc:List (Str×Addr)),cellsFrom n names acc=cellsFrom n names []++acc:=by
 intro names;induction names with
 |nil=>exact λz z=>rfl
 |cons p r ih_=>
  exact λn acc=>by
   unfold cellsFrom;split
   ·rw[ih_ (n+1) (_::acc),ih_ (n+1) [_],QK];rfl
   ·exact ih_ n acc
theorem jc:∀(names:aI)(n:Nat)(x:Str)(c:Addr),(x,c)∈cellsFrom n names []→(x,NameKind.cell)∈names
 |[],_,_,_,h=>az h
 |(y,k)::r,n,x,c,h=>by
  unfold cellsFrom at h;split at h
  ·rename_i hk;cases (eq_of_beq hk:k=.cell);rw[gm]at h;rcases Qe.mp h with h|h
   ·exact mt (jc r _ x c h)
   ·cases PH.mp h;exact .head _
  ·exact mt (jc r _ x c h)
noncomputable def fo(env:Env):aI→List (Str×Addr)→List (Str×Addr)
 |[],acc=>acc
 |p::r,acc=>fo env r (if p.2 == .free then(p.1,(env.cells.lookup p.1).getD 0)::acc else acc)
theorem AL{env:Env}{f:Str×NameKind→List (Str×Addr)→Sem (ForInStep (List (Str×Addr)))}:∀(names:aI)(acc:List (Str×Addr)),
 (∀p acc,p∈names→f p acc=pure (.yield (if p.2 == .free then(p.1,(env.cells.lookup p.1).getD 0)::acc else acc)))→forIn names acc f=pure (fo env names acc):=by
 intro names;induction names with
 |nil=>exact λacc z=>by rw[List.forIn_nil];rfl
 |cons p r ih_=>
  exact λacc h=>by rw[forIn_cons,h p acc mh,pure_bind];exact ih_ _ λy acc q=>h y acc (mt q)
theorem wK{env:Env}{scope:Scope}(h:∀x,(x,NameKind.free)∈scope.names→∃c,env.cells.lookup x=some c):closureFor scope env=pure (fo env scope.names []):=by
 simp only[closureFor];rw (config:={}) [AL (env:=env) scope.names [] λp acc hx=>?_]
 ·rfl
 ·obtain⟨x,k⟩:=p;cases hk:k==NameKind.free with
  |false=>simp[hk]
  |true=>cases (eq_of_beq hk:k=.free);refine X1 (h x hx) λc hc=>?_;simp only[if_true,cellOf,hc,hk];rfl
theorem xg:∀(names:aI)(acc:List (Str×Addr)),fo env names acc=fo env names []++acc:=by
 intro names;induction names with
 |nil=>exact λz=>rfl
 |cons p r ih_=>
  exact λacc=>by
   unfold fo;split
   ·rw[ih_ (_::acc),ih_ [_],QK];rfl
   ·exact ih_ acc
theorem iA:∀(names:aI)(x:Str)(c:Addr),(x,c)∈fo env names []→(x,NameKind.free)∈names∧c=(env.cells.lookup x).getD 0
 |[],_,_,h=>az h
 |(y,k)::r,x,c,h=>by
  unfold fo at h;split at h
  ·rename_i hk;cases (eq_of_beq hk:k=.free);rw[xg]at h;rcases Qe.mp h with h|h
   ·exact⟨mt (iA r x c h).1,(iA r x c h).2⟩
   ·cases PH.mp h;exact⟨.head _,rfl⟩
  ·exact⟨mt (iA r x c h).1,(iA r x c h).2⟩
theorem DK{env:Env}(hc:env.cells.lookup x=some c):∀(names:aI),(x,NameKind.free)∈names→(fo env names []).lookup x=some c:=by
 intro names;induction names with
 |nil=>exact λh=>az h
 |cons p r ih_=>
  exact λh=>by
   have key:(fo env r []).lookup x=some c∨(fo env r []).lookup x=none:=by
    cases q:(fo env r []).lookup x with
    |none=>exact .inr rfl
    |some d=>exact .inl (by rw[(iA r x d (dh q)).2,hc];rfl)
   unfold fo;rw[xg,List.lookup_append];rcases P4.mp h with e|h
   ·subst e;rcases key with q|q
    ·rw[q];rfl
    ·rw[q,Qx (by rfl),RB,R3,hc];rfl
   ·rw[ih_ h];rfl
noncomputable def zc(csc:Scope)(L:Addr)(cells:List (Str×Addr))(env:Env):Env:={newEnv csc L env.globals cells env.qual none .none (some env) builtinsNs with scope:=relabel csc env}
theorem lS{env:Env}:∀(names:aI),(names.map λ(n,k)=>if(k==NameKind.free&&env.scope.kind == .function&&env.kindOf n==some .cell)then(n,NameKind.cell)else(n,k)).lookup x=
 (names.lookup x).map λk=>if(k==NameKind.free&&env.scope.kind == .function&&env.kindOf x==some .cell)then NameKind.cell else k
 |[]=>rfl
 |(y,k)::r=>by
  simp only[Q4,RB];by_cases e:x=y
  ·subst e;split<;>simp_all
  ·have e':(x==y)=false:=by simpa using e
   have ih:=lS (env:=env) (x:=x) r;rw[e',← ih];split<;>rw[RB,e']
theorem nJ:∀(names:aI)(caps:List (Option Nat)),eI sc names=some caps→caps.length=names.length∧∀(j:Nat) p,names[j]?=some p→∃c,caps[j]?=some c∧(p.2=.free→∃n,bg dJ sc p.1=some n∧c=some n)∧(p.2≠.free→c=none):=by
 intro names;induction names with
 |nil=>exact λcaps h=>by replace h:=PG h;subst h;exact⟨rfl,λj p h=>ah h⟩
 |cons p r ih_=>
  exact λcaps h=>by
   have key:∃c caps',eI sc r=some caps'∧caps=c::caps'∧(p.2=.free→∃n,bg dJ sc p.1=some n∧c=some n)∧(p.2≠.free→c=none):=by
    have free:(bg dJ sc p.1).bind (λn=>(eI sc r).map (some n :: ·))=some caps→p.2=.free→∃c caps',eI sc r=some caps'∧caps=c::caps'∧(p.2=.free→∃n,bg dJ sc p.1=some n∧c=some n)∧(p.2≠.free→c=none):=λh q=>by refine X2 (Qm.mp h) λn h1 h2=>?_;obtain⟨l,h3,rfl⟩:=Qr.mp h2;exact ke (some n) l h3 rfl (λY=>⟨n,h1,rfl⟩) (λz=>absurd q z)
    have other:(eI sc r).map (none :: ·)=some caps→p.2≠.free→∃c caps',eI sc r=some caps'∧caps=c::caps'∧(p.2=.free→∃n,bg dJ sc p.1=some n∧c=some n)∧(p.2≠.free→c=none):=λh q=>by obtain⟨l,h3,rfl⟩:=Qr.mp h;exact ke none l h3 rfl (λz=>absurd z q) (λY=>rfl)
    obtain⟨y,k⟩:=p;cases k<;>first|exact free h rfl|exact other h λz=>nomatch z
   obtain⟨c,caps',h1,rfl,h2⟩:=key;refine U2 (ih_ caps' h1) λl1 l2=>?_;refine⟨Qb (· + 1) l1,λj y hj=>?_⟩;cases j with
   |zero=>replace hj:=PG hj;subst hj;exact aB c rfl h2
   |succ j=>exact l2 j y hj
section
variable{A:Around}{E:VS}{s:Shared}{env:Env}
theorem BE{Q:Env→Shared→Prop}
 (h:Q (newEnv csc s.heap.objs.size env.globals (cellsFrom (s.heap.objs.size+1) csc.names cl) env.qual none .none (some env) builtinsNs) {s with heap:=pushCells (s.heap.push {cls:=.type "dict",data:=.dict #[]}) csc.names}) :
 wpAny M A (newFunctionEnv csc env.globals cl [] env.qual none .none (some env)) Q E s:=by
 simp only[newFunctionEnv,Option.isSome_some,if_true];refine PK (wpAny_alloc ?_);refine PK (wpAny_layCells _ (λname kind cells=>by cases hkc:kind==NameKind.cell<;>simp[hkc]) _ _ _ _ ?_);rw[show({s with heap:=s.heap.push {cls:=.type "dict",data:=.dict #[]}}:Shared).heap.objs.size=s.heap.objs.size+1 from Rt ..];rw[List.forIn_nil];exact PK (PU (PU h))
end
section
variable{G:GE}{sc:aI}{env:Env}{x:Cf}{W:List Addr}{vs:au}
theorem kP{csc:Scope}{caps:List (Option Nat)}(F:FR G sc env W vs x)(hcap:eI sc csc.names=some caps){j:Nat}{y:Str}(h:csc.names[j]?=some (y,.free)):∃c ov,env.cells.lookup y=some c∧x.h.IsCell c ov∧VO G x ((fc vs caps)[j]?).join ov∧x.w c=none:=by
 refine X3 ((nJ csc.names caps hcap).2 j _ h) λo h1 h2 z=>?_;obtain⟨n,h3,rfl⟩:=h2 rfl;refine X2 (kT h3) λk hs hk=>?_;refine Y5 (F.cell n y k hs hk) λc ov q1 q2 q3 z q5=>?_;refine ke c ov q1 q2 ?_ q5;delta fc
 rw[QQ,h1];exact q3
theorem FR.comp{csc:Scope}(I:av G x)(F:FR G sc env W vs x)(hk:csc.kind=.function)(nd:(csc.names.map (·.1)).Nodup)(hcap:eI sc csc.names=some caps) :
 Nx G [] x (x.to {x.s with heap:=pushCells (x.h.push {cls:=.type "dict",data:=.dict #[]}) csc.names})∧∃W',(∀a∈W',x.h.get? a=none)∧FR G csc.names (zc csc x.h.objs.size (cellsFrom (x.h.objs.size+1) csc.names (fo env csc.names [])) env) W' (fc vs caps) (x.to {x.s with heap:=pushCells (x.h.push {cls:=.type "dict",data:=.dict #[]}) csc.names}):=by
 have K:bE x.h (pushCells (x.h.push {cls:=.type "dict",data:=.dict #[]}) csc.names):=λb o e=>pushCells_keeps _ _ b o (PY _ e);have n:Nx G [] x (x.to {x.s with heap:=pushCells (x.h.push {cls:=.type "dict",data:=.dict #[]}) csc.names}):=I.kept K rfl rfl;have ok:=cellsFrom_ok csc.names (x.h.push {cls:=.type "dict",data:=.dict #[]}) (x.h.objs.size+1) [] ⟨λ_ _ hm=>(az hm),List.Pairwise.nil⟩ (by rw[Rt];exact Qi _);rw[Rt]at ok;have hown:∀n c,(n,c)∈cellsFrom (x.h.objs.size+1) csc.names []→x.h.get? c=none:=λn c hm=>Q5 (Rm (ok.empty n c hm).2);have at_:∀{j:Nat}{y:Str}{k:NameKind},bl y csc.names 0=some (j,k)→(y,k)∈csc.names:=λh=>PZ.mpr ⟨_,cY h⟩;have uniq:∀{y:Str}{k k':NameKind},(y,k)∈csc.names→(y,k')∈csc.names→k=k':=λh h'=>by refine X1 (PZ.mp h) λi hi=>?_;refine X1 (PZ.mp h') λj hj=>?_;have a:=jD 0 nd hi;rw[jD 0 nd hj]at a;exact(Prod.mk.inj (PG a)).2.symm
 have old:∀{y:Str}{c:Addr},(y,NameKind.free)∈csc.names→env.cells.lookup y=some c→∃o,x.h.get? c=some o:=λhm hc=>by refine X1 (PZ.mp hm) λj hj=>?_;obtain⟨c',ov,h1,⟨o,e,_⟩,_⟩:=kP F hcap hj;rw[hc]at h1;replace h1:=PG h1;subst h1;exact⟨o,e⟩
 have lkAll:∀y c,(cellsFrom (x.h.objs.size+1) csc.names (fo env csc.names [])).lookup y=some c→(y,c)∈cellsFrom (x.h.objs.size+1) csc.names []∨((y,NameKind.free)∈csc.names∧env.cells.lookup y=some c):=λy c q=>by
  rw[gm]at q;rcases Qe.mp (dh q)with q|q
  ·exact .inl q
  ·refine U2 (iA _ _ _ q) λh1 h2=>?_;refine X1 (PZ.mp h1) λj hj=>?_;refine Y2 (kP F hcap hj) λc' _ hc _=>?_;rw[hc]at h2;subst h2;exact .inr ⟨h1,hc⟩
 have kd:∀y k,csc.names.lookup y=some k→(zc csc x.h.objs.size (cellsFrom (x.h.objs.size+1) csc.names (fo env csc.names [])) env).kindOf y=some (if(k==NameKind.free&&env.scope.kind == .function&&env.kindOf y==some .cell)then NameKind.cell else k):=λy k q=>by show(csc.names.map λ(n,k)=>if(k==NameKind.free&&env.scope.kind == .function&&env.kindOf n==some .cell)then(n,NameKind.cell)else(n,k)).lookup y=_;rw[lS,q];rfl
 refine⟨n,FR.begin I n ⟨hk,F.st.glob,F.st.blt,λj y k h=>?_,λy z c h1 h2=>?_⟩ (by delta fc;rw[PS];exact(nJ _ _ hcap).1) (bh _) ⟨λ_=>none,(Heap.Ns.new x.h (.type "dict")).keeps (pushCells_keeps _ _),λj y h v e=>?_⟩ λj y k h hk=>?_⟩
 ·rw[kd y k (fe h)];split
  ·rename_i q;exact .inr ⟨eq_of_beq (aa (aa q).1).1,rfl⟩
  ·exact .inl rfl
 ·rcases lkAll y c h1 with q1|⟨q1,r1⟩<;>rcases lkAll z c h2 with q2|⟨q2,r2⟩
  ·rcases qH ok.apart q1 q2 with h|h|h
   ·cases h;rfl
   ·exact absurd rfl h
   ·exact absurd rfl h
  ·refine X1 (old q2 r2) λo e=>?_;rw[hown y c q1]at e;exact ah e
  ·refine X1 (old q1 r1) λo e=>?_;rw[hown z c q2]at e;exact ah e
  ·exact F.st.apart y z c r1 r2
 ·refine X3 ((nJ csc.names caps hcap).2 j _ (cY h)) λo h1 _ h2=>?_;unfold fc at e;rw[QQ,h1,h2 λq=>nomatch q]at e;cases e
 ·induction k using PySem.NameKind.casesOn with
  |cell=>
   refine X1 (Q0.mp (ig csc.names (x.h.objs.size+1) [] (at_ h))) λc hc=>?_;have hm:=dh hc;refine ke c none ?_ ((ok.empty y c hm).1) (λv e=>?_) (.inl ⟨rfl,hown y c hm⟩)
   ·show(cellsFrom (x.h.objs.size+1) csc.names (fo env csc.names [])).lookup y=some c;rw[gm,List.lookup_append,hc];rfl
   ·refine X3 ((nJ csc.names caps hcap).2 j _ (cY h)) λo h1 _ h2=>?_;unfold fc at e;rw[QQ,h1,h2 λq=>nomatch q]at e;cases e
  |free=>
   obtain⟨c,ov,h1,⟨o,h2,hd⟩,h3,h5⟩:=kP F hcap (cY h);refine ke c ov ?_ ⟨o,K _ _ h2,hd⟩ h3 (.inr ⟨rfl,h5⟩);show(cellsFrom (x.h.objs.size+1) csc.names (fo env csc.names [])).lookup y=some c;rw[gm,List.lookup_append,DK h1 _ (at_ h)];cases q:(cellsFrom (x.h.objs.size+1) csc.names []).lookup y with
   |none=>rfl
   |some c'=>exact nomatch uniq (jc _ _ _ _ (dh q)) (at_ h)
  |_=>exact ak hk
variable{A:Around}{y z:Cf}{V:List Addr}{E:VS}
variable{cl:Nat→List Kk.V→St→(Kk.V→St→Prop)→Prop}
theorem FD{f:Expr→Kk.E}:∀(ifs:List Expr),(∀e∈ifs,dm G A sc env (isTrue e env (eval e env)) (ev pA cl (f e)))→∀(W:List Addr)(x:Cf)(vs:au)(E:VS)(K:Bool→St→Prop)(Q:BS),Iq G sc env W vs x→gS pA cl (ifs.map f) vs x.S K→(∀b y,K b y.S→Nx G [] x y→Q b y.s)→
 WG G A (forIn ifs true λc r=>if r=true then do let ok ← isTrue c env (eval c env);pure (ForInStep.yield ok)else pure (ForInStep.yield r)) Q E x.s:=by
 have fls:∀(ifs:List Expr),(forIn ifs false λc r=>if r=true then do let ok ← isTrue c env (eval c env);pure (ForInStep.yield ok)else pure (ForInStep.yield r):Sem Bool)=pure false:=by
  intro ifs;induction ifs with
  |nil=>rfl
  |cons a r ih=>rw[forIn_cons];simp only[false_eq_true,if_false,pure_bind];exact ih
 intro ifs;induction ifs with
 |nil=>intro _ W x vs E K Q i k q;rw[List.forIn_nil];exact PU (q _ x k i.1.refl)
 |cons a r ih=>
  intro h W x vs E K Q i k q;rw[forIn_cons];simp only[if_true];refine PK (PK (h a mh W x vs E _ _ i (λv S h=>aY h λb e Y=>⟨b,e⟩) k λv y t k e n=>PU ?_));replace k:=iP e k;cases t with
  |true=>exact ih (λe he=>h e (mt he)) W y vs E K Q (i.nx n) k λb z k n2=>q b z k (n.trans n2)
  |false=>show wpAny _ _ (forIn r false _) Q E y.s;rw[fls r];exact PU (q _ y k n)
structure CA (G:GE) (y:Cf) (W:List Addr) (sc:aI) (env:Env) (It D:Addr) (l:List Kk.V) (src:Option Nat) (i:Nat) (dn:List Kk.V) (vs:au) (z:Cf):Prop where
 n:Nx G W y z
 fr:FR G sc env W vs z
 wI:z.w It=some .hid
 wD:z.w D=some .hid
 it:fG G z z.h l It i src
 acc:∃ys,aN z.h D ys∧aw (RV G z) dn ys
 len:dn.length≤i
variable{D:Addr}{l:List Kk.V}{i:Nat}
theorem CA.nx(c:CA G y W sc env It D l src i dn vs z)(n:Nx G V z z')(w:eV G V z)(nW:Nx G W z z')(F:FR G sc env W vs' z'):CA G y W sc env It D l src i dn vs' z' where
 n:=c.n.trans nW
 fr:=F
 wI:=c.it.live.elim λo e=>(n.le.hid _ _ e.1 c.wI).2
 wD:=c.acc.elim λys h=>h.1.elim λk e=>(n.le.hid _ _ e c.wD).2
 it:=c.it.mono n.le.toLm w λo e=>(n.le.hid _ _ e c.wI).1
 acc:=c.acc.imp λys h=>⟨h.1.imp λk e=>(n.le.hid _ _ e c.wD).1,h.2.imp λY Y=>RV.mono n.le.toLm w⟩
 len:=c.len
theorem CA.ne(c:CA G y W sc env It D l src i dn vs z):D≠It:=λq=>by refine X3 c.it.live λo e h Y=>?_;obtain⟨ys,⟨k,e2⟩,_⟩:=c.acc;rw[← q,e2]at e;replace e:=PG e;subst e;exact h rfl
theorem CA.moved(c:CA G y W sc env It D l src i dn vs z)(hI:y.h.get? It=none)(m:Mv It z s')(t:fG G z s'.heap l It i' src)(hi:dn.length≤i'):CA G y W sc env It D l src i' dn vs (z.to s')∧Lm [] z (z.to s'):=by refine X3 t.live λo e Y c2=>?_;refine U2 (Nx.hup hI c.n c.wI m ⟨o,e,c2⟩) λn L=>?_;exact⟨⟨n,c.fr.lm L,c.wI,c.wD,t.mono L .nil λY e=>e,c.acc.imp λys h=>⟨h.1.imp λk e=>m.k _ _ c.ne e,h.2.imp λY Y=>RV.mono L .nil⟩,hi⟩,L⟩
theorem C0{ok:St→Bool}{S:St}{cond:au→St→(Bool→St→Prop)→Prop}{elt:au→St→(Kk.V→St→Prop)→Prop}{K:List Kk.V→St→Prop}:∀{l:List Kk.V},dv pA ok cond elt j l vs S K→ok S=true
 |[],h=>cN h λe z=>e
 |_::_,h=>cN h λe z=>e
theorem DW{nm:Str}{ifs:List Expr}{f:Expr→Kk.E}{Rr:Result→Shared→Prop}{K:List Kk.V→St→Prop}(aok:bK A d)
 (hj:bg cc sc nm=some j) (hl:l.length≤aD) (hD:y.h.get? D=none) (hI:y.h.get? It=none) (ht:∀e∈ifs,dm G A sc env (isTrue e env (eval e env)) (ev pA cl (f e))) (he:ai G A sc env (eval elt env) (ev pA cl (f elt)))
 (fin:∀i vs z out,CA G y W sc env It D l src i out vs z→out.length≤aD→K out z.S→∀s',Mv It z s'→Rr (.ok .next) s')
 (c0:CA G y W sc env It D l src 0 [] vs z) (k0:dv pA (λS=>fX S l src) (gS pA cl (ifs.map f)) (ev pA cl (f elt)) j l vs z.S K) :
 codeAny (model G.prog G.w) A (.compLoop (.ListComp elt [⟨.Name nm px,itE,ifs,0⟩] csc pos) 0 (.ref It) (.ref D) env) Rr z.s:=by
 refine codeAny_compLoop_tests (λn s₁=>∃(i:Nat) (z:Cf) (vs₁:au) (dn:List Kk.V),s₁=z.s∧i≤l.length∧n=l.length-i∧CA G y W sc env It D l src i dn vs₁ z∧dv pA (λS=>fX S l src) (gS pA cl (ifs.map f)) (ev pA cl (f elt)) j (l.drop i) vs₁ z.S λr S=>K (dn++r) S) (λn₁ s₁ hI'=>?_) l.length ⟨0,z,vs,[],rfl,Qc _,rfl,c0,k0⟩;obtain⟨i,z,vs₁,dn,rfl,hi,rfl,c,k⟩:=hI';refine zt aok.handled c.n.inv c.it (C0 k) hi (λv w s' e m r t2=>?_) λs' e m=>?_
 ·refine U2 (zN e) λhd hlt=>?_;rw[hd]at k;refine cN k λY k=>?_;refine U2 (c.moved hI m t2 (le_succ_of_le c.len)) λc1 L1=>?_;refine RU (c1.fr.store (x:=z.to s') c1.n.inv hj (r.mono L1 .nil) λs3 n3 F3=>?_);have c3:=c1.nx n3 c1.fr.wok n3 F3;refine FD ifs ht W _ _ _ _ _ ⟨n3.inv,F3⟩ k λb z4 k n4=>?_;have c4:=c3.nx n4 .nil n4.up (F3.nx n4);cases b with
  |false=>exact⟨l.length-(i+1),Br hlt,i+1,z4,_,dn,rfl,hlt,rfl,c4,k⟩
  |true=>
   refine he W z4 _ _ _ _ ⟨n4.inv,c4.fr⟩ k λv5 z5 u5 k n5 r5=>?_;have c5:=c4.nx n5 .nil n5.up (c4.fr.nx n5);refine X2 c5.acc λys ha rr=>?_;have z5l:=c5.len;refine wpAny_list_append_plain ha (λh8 ha8 hs8=>?_) (by rw[P9,← rr.len];exact bB (by omega));have ha8':aN h8 D (ys++[u5]):=by obtain⟨n,e⟩:=ha8;exact⟨n,by rw[e];simp⟩
   refine U2 (Nx.hup (s':={z5.s with heap:=h8}) hD c5.n c5.wD ⟨λb o q e=>(hs8.2 b q).trans e,rfl,rfl⟩ ha8'.live) λn8 L8=>?_;refine⟨l.length-(i+1),Br hlt,i+1,z5.to {z5.s with heap:=h8},_,dn++[v5],rfl,hlt,rfl,⟨n8,c5.fr.lm L8,c5.wI,c5.wD,c5.it.mono L8 .nil λo e=>(hs8.2 _ (Ne.symm c5.ne)).trans e,⟨_,ha8',(rr.imp λY Y=>RV.mono L8 .nil).app (.cons (r5.mono L8 .nil) .nil)⟩,?_⟩,?_⟩
   ·rw[PX];exact Rn c.len
   ·have:(λr S=>K (dn++[v5]++r) S)=λr S=>K (dn++v5::r) S:=funext λr=>by rw[QK];rfl
    rw[this];exact k
 ·rw[e,List.drop_length]at k;refine cN k λY k=>?_;have k:K (dn++[]) z.S:=k;rw[Qy]at k;exact fin i vs₁ z dn c (PM c.len (PM hi hl)) k s' m
theorem yE{E:VS}(t:fG G x x.h l It i src)(hq:Q (.ref It) x.s):WG G A (pyIter (.ref It)) Q E x.s:=by
 cases src with
 |some j=>refine X2 t λa t z=>?_;exact wpAny_pyIter_listiter t hq
 |none=>
  rcases t with⟨a,t,_⟩|⟨a,t,_⟩|⟨n,t,_⟩
  ·exact wpAny_pyIter_listiter t hq
  ·exact wpAny_pyIter_tupleiter t hq
  ·exact wpAny_pyIter_rangeiter t hq
end
def Jh(m:Bool)(K:KP)(r:List V)(S:St):Prop:=match m with|false=>K (.ls r) S|true=>K (.hd .ref S.h.length) (S.new (.list r))
section
variable{A:Around}{x y:Cf}{vs:au}{E:VS}
variable{cl:Nat→List V→St→(V→St→Prop)→Prop}{csc:Scope}{nm:Str}{ifs:List Expr}{f:Expr→Kk.E}{m:Bool}
noncomputable abbrev AJ(cl:Nat→List V→St→(V→St→Prop)→Prop)(mi:Cm V)(j:Nat)(caps:List (Option Nat))(cs:List Kk.E)(e:Kk.E)(m:Bool):Cm V:=λvs S K=>mi vs S λv S=>aq pA (dY S v) λl=>dv pA (λS=>fX S l.1 l.2) (gS pA cl cs) (ev pA cl e) j l.1 (fc vs caps) S (Jh m K)
theorem jv(n:bE x.h y.h)(h:y.h.get? a=none):x.h.get? a=none:=by
 cases q:x.h.get? a with
 |none=>rfl
 |some o=>rw[n a o q]at h;exact qE h
theorem vf{use:Option (Value→Sem Unit)}(aok:bK A d)(hk:csc.kind=.function)(nd:(csc.names.map (·.1)).Nodup)(hcap:eI sc csc.names=some caps)(hj:bg cc csc.names nm=some j)(hs:∀y,foldedSetIterable itE env y=pure y)
 (hi:ai G A sc env (eval itE env) mi) (ht:∀cenv,∀e∈ifs,dm G A csc.names cenv (isTrue e cenv (eval e cenv)) (ev pA cl (f e))) (he:∀cenv,ai G A csc.names cenv (eval elt cenv) (ev pA cl (f elt)))
 (i:Iq G sc env W vs x) (k:AJ cl mi j caps (ifs.map f) (f elt) m vs x.S K)
 (hfin:∀v y0 y D C,K v y.S→Nx G [] x y0→Nx G [] y0 y→RV G y v (.ref D)→(∃m,y.h.Ns C m)→y.w C=none→y0.h.get? C=none→compPost (model G.prog G.w) A E use Q (.ref D) C (.ok .next) y.s) :
 WG G A (comprehension (.ListComp elt [⟨.Name nm px,itE,ifs,0⟩] csc pos) csc env fpos (newList []) false (eval itE env) use) Q E x.s:=by
 refine wpAny_comprehension_free (g:=⟨.Name nm px,itE,ifs,0⟩) (gs:=[]) rfl hs (wK λy hy=>?_) hk (λy hy hl=>?_) ?_
 ·refine X1 (PZ.mp hy) λj hj=>?_;refine Y2 (kP i.2 hcap hj) λc Y h Y=>?_;exact⟨c,h⟩
 ·refine X1 (PZ.mp hy) λi hi=>?_;have:csc.names[i]?=some (y.1,NameKind.local):=by rw[hi,← hl]
  exact fe (jD 0 nd this)
 refine hi W x vs E _ _ i k λv y u k n r=>CS n.inv r k λl src o k hbig t=>?_;have k:dv pA (λS=>fX S l src) (gS pA cl (ifs.map f)) (ev pA cl (f elt)) j l (fc vs caps) y.S (Jh m K):=k;have hI:y.h.get? y.h.objs.size=none:=bh _;refine X3 t.live λo1 e1 Y c1=>?_;refine U2 (Nx.role (W:=[]) (some .hid) (s':={y.s with heap:=y.h.push o}) hI n.inv.refl (.inr hI) (λb o Y e=>PY _ e) rfl rfl λY=>⟨o1,e1,c1⟩) λn1 L1=>?_;have hD1:(y.h.push o).get? (y.h.push o).objs.size=none:=bh _;have K1:bE y.h (y.h.push o):=bE.push _ _;generalize y.h.push o=h1 at t e1 n1 L1 hD1 K1 ⊢;generalize y.h.objs.size=It at hI t e1 n1 L1 ⊢;refine wpAny_newList ?_ (Qc _);show wpAny _ _ _ _ _ {y.s with heap:=h1.push {cls:=.type "list",data:=.seq ([]:List Value).toArray}};have hD:y.h.get? h1.objs.size=none:=jv (x:=y) (y:=y.to {y.s with heap:=h1}) K1 hD1;have lD:aN (h1.push {cls:=.type "list",data:=.seq ([]:List Value).toArray}) h1.objs.size []:=⟨0,P2 _ rfl⟩
 have K2:bE h1 (h1.push {cls:=.type "list",data:=.seq ([]:List Value).toArray}):=bE.push _ _;have nID:It≠h1.objs.size:=λq=>by rw[q,hD1]at e1;exact ah e1
 show wpAny _ _ _ (λcenv s₄=>codeAny _ _ (.compStart _ 0 (.ref It) (.ref h1.objs.size) _) _ s₄) _ _;generalize h1.push {cls:=.type "list",data:=.seq ([]:List Value).toArray}=h2 at lD K2 ⊢;generalize h1.objs.size=D at hD1 hD lD nID ⊢;refine U2 (Nx.role (W:=[]) (some .hid) (s':={y.s with heap:=h2}) hD n1 (.inr hD1) (λb o Y e=>K2 b o e) rfl rfl λY=>lD.live) λn2 L2=>?_;obtain⟨n3,W',hW',F3⟩:=FR.comp n2.inv (((i.2.nx n).lm L1).lm L2) hk nd hcap;refine BE (s:={y.s with heap:=h2}) ?_;have K3:bE h2 (pushCells (h2.push {cls:=.type "dict",data:=.dict #[]}) csc.names):=λb o e=>pushCells_keeps _ _ b o (PY _ e);have hWy:∀a∈W',y.h.get? a=none:=λa ha=>jv (x:=y) (y:=y.to {y.s with heap:=h2}) (λb o e=>K2 b o (K1 b o e)) (hW' a ha);have n03:=(n2.trans n3).up (W:=W');have t3:fG G {y with w:=dU (dU y.w It (some .hid)) D (some .hid),s:={y.s with heap:=pushCells (h2.push {cls:=.type "dict",data:=.dict #[]}) csc.names}} (pushCells (h2.push {cls:=.type "dict",data:=.dict #[]}) csc.names) l It 0 src:=((t.mono L1 .nil λY e=>e).mono L2 .nil λo e=>K2 _ _ e).mono n3.le.toLm .nil λo e=>K3 _ _ e
 refine(λloop=>codeAny_compStart_list loop (yE (x:={y with w:=dU (dU y.w It (some .hid)) D (some .hid),s:={y.s with heap:=pushCells (h2.push {cls:=.type "dict",data:=.dict #[]}) csc.names}}) t3 loop)) (DW (y:=y) (z:={y with w:=dU (dU y.w It (some .hid)) D (some .hid),s:={y.s with heap:=pushCells (h2.push {cls:=.type "dict",data:=.dict #[]}) csc.names}}) aok hj hbig hD hI (ht _) (he _) (λi₁ vs₁ z out c ho k s' mv=>?_) ⟨n03,F3,(jJ nID).trans ed,ed,t3,⟨[],lD.imp λY e=>K3 _ _ e,.nil⟩,Qi _⟩ k);refine U2 (Nx.role (W:=W') none (s':=s') hI c.n (.inl c.wI) mv.k mv.g mv.os λh=>absurd rfl h) λn4 L4=>?_;refine X2 c.acc λys ha rr=>?_;have ha4:aN s'.heap D ys:=ha.imp λY e=>mv.k _ _ c.ne e;have wD4:dU z.w It none D=some .hid:=(jJ c.ne).trans c.wD;have hC:=c.fr.loc;obtain⟨mm,⟨oC,es,ep,eC,hC2⟩,_⟩:=c.fr.ns;have kC:=L4.keep _ _ eC (c.fr.wok.no _ hC).1 λz=>az z;have last:∀{v:V}{z2:Cf},Nx G W' y z2→Lm [] {z with w:=dU z.w It none,s:=s'} z2→K v z2.S→RV G z2 v (.ref D)→z2.s=s'→compPost (model G.prog G.w) A E use Q (.ref D) h2.objs.size (.ok .next) s':=λ{v z2} n5 L5 k r es=>by have q:=L5.keep _ _ kC.1 kC.2 λz=>az z;exact es▸hfin v y z2 D _ k n (n.inv.refl.drop n5 hWy) r ⟨mm,oC,_,_,q.1,hC2⟩ q.2 (hWy _ hC)
 cases m with
 |false=>refine U2 (Nx.role (W:=W') none (s':=s') hD n4 (.inl wD4) (λY Y Y e=>e) rfl rfl λh=>absurd rfl h) λn5 L5=>?_;exact last n5 L5 k ⟨D,ys,rfl,ha4,ed,ho,bP.of (rr.imp λY Y r=>(r.mono L4 .nil).mono L5 .nil)⟩ rfl
 |true=>refine U2 (Nx.adopt (W:=W') (o:=.list out) (s':=s') hD n4 (.inl wD4) (λY Y Y e=>e) rfl rfl ha4.live λL=>⟨ys,ha4,ho,rr.imp λY Y r=>(r.mono L4 .nil).mono L .nil⟩) λn5 L5=>?_;exact last n5 L5 k ⟨D,rfl,ρ_at n4.inv⟩ rfl
theorem B5(n0:Nx G [] y0 y)(hm:∃m,y.h.Ns C m)(wC:y.w C=none)(hC:y0.h.get? C=none)(I0:av G y0)(hsb:Heap.SameBut C y.h h'):Nx G [C] y (y.to {y.s with heap:=h'})∧eV G [C] y∧Nx G [] y0 (y.to {y.s with heap:=h'}):=by
 have w:eV G [C] y:=⟨λa ha=>PH.mp ha▸⟨wC,I0.nobase hC⟩,λa ha=>PH.mp ha▸hm.elim λm h=>by refine J3 h λo es ep e d Y=>?_;exact aB o e (.inl ⟨es,ep,d⟩)⟩
 have n:Nx G [C] y (y.to {y.s with heap:=h'}):=n0.inv.quiet w (Qi _) (λb o e q=>(hsb.2 b λz=>q (z▸.head _)).trans e) rfl rfl;exact⟨n,w,n0.drop n λa ha=>PH.mp ha▸hC⟩
theorem wH(aok:bK A d)(hk:csc.kind=.function)(nd:(csc.names.map (·.1)).Nodup)(hcap:eI sc csc.names=some caps)(hj:bg cc csc.names nm=some j)(hs:∀y,foldedSetIterable itE env y=pure y)
 (hi:ai G A sc env (eval itE env) mi) (ht:∀cenv,∀e∈ifs,dm G A csc.names cenv (isTrue e cenv (eval e cenv)) (ev pA cl (f e))) (he:∀cenv,ai G A csc.names cenv (eval elt cenv) (ev pA cl (f elt))) :
 ai G A sc env (eval (.ListComp elt [⟨.Name nm px,itE,ifs,0⟩] csc pos) env) (AJ cl mi j caps (ifs.map f) (f elt) m):=
 λW x vs E K Q i k q=>vf (use:=none) aok hk nd hcap hj hs hi ht he i k λv y0 y D C k n n0 r hm wC hC=>hm.elim λmm hm'=>⟨mm,hm',λh' hsb=>by refine U3 (B5 n0 hm wC hC n.inv hsb) λn1 w n2=>?_;exact q v (y.to {y.s with heap:=h'}) _ k (n.trans n2) (r.mono n1.le.toLm w)⟩
theorem kj(aok:bK A d)(hk:csc.kind=.function)(nd:(csc.names.map (·.1)).Nodup)(hcap:eI sc csc.names=some caps)(hj:bg cc csc.names nm=some j)(hs:∀y,foldedSetIterable itE env y=pure y)
 (hi:ai G A sc env (eval itE env) mi) (ht:∀cenv,∀e∈ifs,dm G A csc.names cenv (isTrue e cenv (eval e cenv)) (ev pA cl (f e))) (he:∀cenv,ai G A csc.names cenv (eval elt cenv) (ev pA cl (f elt))) (hjy:bg cc sc ny=some jy) :
 ba G A sc env (exec (.Assign [.Name ny p'] (.ListComp elt [⟨.Name nm px,itE,ifs,0⟩] csc cpos) pos) env) λvs S k=>AJ cl mi j caps (ifs.map f) (f elt) m vs S λv S=>k .next (vs.set jy (some v)) S:=by
 have hsw:∃b,swapsWith (.ListComp elt [⟨.Name nm px,itE,ifs,0⟩] csc cpos) (some (.Name ny p')) pos.line env=pure b:=⟨_,rfl⟩
 obtain⟨b,hsw⟩:=hsw;cases b with
 |false=>exact td hjy hsw (wH aok hk nd hcap hj hs hi ht he)
 |true=>
  intro W x vs E K Q i k q;rw[exec_Assign_Name_used _ _ _ _ hsw];refine PK (QP ?_);show wpAny _ _ ((comprehension (.ListComp elt [⟨.Name nm px,itE,ifs,0⟩] csc cpos) csc env _ (newList []) false (eval itE env) (some (assign (.Name ny p') env)) >>= λY=>pure ()) >>= λY=>pure Flow.next) Q E x.s;refine PK (PK (vf (use:=some (assign (.Name ny p') env)) aok hk nd hcap hj hs hi ht he i k λv y0 y D C k n n0 r hm wC hC=>?_));have F0:=i.2.nx n;have CW:C∉W:=λq=>by refine X2 (F0.wok.ns _ q) λo e Y=>?_;rw[hC]at e;exact ah e
  refine RU ((F0.nx n0).store n0.inv hjy r λs2 n2 F2=>?_);obtain⟨mm,⟨ob,es,ep,he',hd,hr⟩⟩:=hm;have q2:=n2.le.keep C ob he' wC CW;have hm2:∃m,s2.heap.Ns C m:=⟨mm,ob,es,ep,q2.1,hd,hr⟩
  refine aB mm ⟨ob,es,ep,q2.1,hd,hr⟩ (λh3 hsb=>PU (PU ?_));have w:eV G [C] (y.to s2):=⟨λa ha=>PH.mp ha▸⟨wC,n.inv.nobase hC⟩,λa ha=>PH.mp ha▸⟨ob,q2.1,.inl ⟨es,ep,hd⟩⟩⟩
  have n3:Nx G [C] (y.to s2) (y.to {s2 with heap:=h3}):=n2.inv.quiet w (Qi _) (λb o e q=>(hsb.2 b λz=>q (z▸.head _)).trans e) rfl rfl;have n4:Nx G (C::W) y0 (y.to {s2 with heap:=h3}):=(n0.up.trans ⟨n2.le.more λa h=>mt h,n2.inv⟩).trans ⟨n3.le.more λa h=>PH.mp h▸.head _,n3.inv⟩;refine q .next _ (y.to {s2 with heap:=h3}) .next k (n.up.trans ⟨?_,n4.inv⟩) (F2.lmV n3.le.toLm w λa ha=>PH.mp ha▸⟨CW,λov h=>?_⟩) rfl
  ·exact {n4.le with keep:=λb o e w' h=>n4.le.keep b o e w' λq=>(P4.mp q).elim (λz=>by rw[z,hC]at e;exact ah e) h}
  ·obtain⟨o,e,d⟩:=h;rw[q2.1]at e;replace e:=PG e;subst e;rw[hd]at d;cases d
end
structure kA (G:GE) (C:Addr) (nm:Str) (f:Addr) (fd:FuncData):Prop where
 ga:PySem.W.findIn G.K (.ref C) "__getattribute__"=some (some (.builtin "object.__getattribute__"))
 gn:PySem.W.findIn G.K (.ref C) "__getattr__"=some none
 find:PySem.W.findIn G.K (.ref C) nm=some (some (.ref f))
 ty:typeIn G.K (.ref f)=some (.type "function")
 at_:∃o,G.base.get? f=some o∧o.data=.func fd
structure jk (G:GE) (mg mb:Str→Option Value):Prop where
 mg:G.base.Ns mainGlobals mg
 mb:G.base.Ns builtinsNs mb
section
variable{G:GE}{A:Around}{sc:aI}{env:Env}{x:Cf}{vs:au}{E:VS}{pos p:Pos}{mg mb:Str→Option Value}{nm:Str}{args:List Expr}{f:Expr→Kk.E}
variable{cl:Nat→List V→St→(V→St→Prop)→Prop}
noncomputable abbrev dg(env:Env)(es:List Expr):List (Bool×Sem Value):=es.map λe=>(false,eval e env)
theorem bN(es:List Expr):(dg env es).any (·.1)=false:=by
 induction es with
 |nil=>rfl
 |cons a r ih=>exact ih
theorem vA(es:List Expr):(dg env es).all (λx=>!x.1)=true:=by
 induction es with
 |nil=>rfl
 |cons a r ih=>exact ih
theorem cG{f:Value}{E:VS}{Q:Args→Shared→Prop}(h:wpAny M A (spliced (dg env es)) (λvs s'=>Q ⟨vs,[]⟩ s') E s):wpAny M A (evalArgs f true (dg env es) []) Q E s:=by
 cases es with
 |nil=>
  delta evalArgs
  show wpAny M A (spliced [] >>= _) Q E s;exact PK (wpAny_mono h (λvs s' h'=>PK (PU (Qn (PK (PU (PK (PU (PU h')))))))) λz z x=>x)
 |cons a r=>exact PySem.Calls.evalArgs_plain h
def lZ(G:GE)(A:Around)(cl:Nat→List V→St→(V→St→Prop)→Prop)(k:Nat)(a:Addr):Prop:=∀(x:Cf)(E:VS)(K:KP)(Q:VS)(xs:List V)(us:List Value),av G x→aw (RV G x) xs us→cl k xs x.S K→Qk G x K Q→wpAny (model G.prog G.w) A (call (.ref a) us) Q E x.s
theorem av.nsb(I:av G x){a:Addr}{m:Str→Option Value}(h:G.base.Ns a m):x.h.Ns a m:=by refine J2 h λo es ep e r=>?_;exact tX o es ep (I.base _ _ e) r
theorem kL{x:Str}(h:dX x=true):(x==("__classdict__" : Str))=false∧(x==("__debug__" : Str))=false:=by replace h:=aa (aa h).1;exact⟨by simpa using h.1,by simpa using h.2⟩
theorem FR.glob(F:FR G sc env W vs x)(h:c7 sc nm=true):env.kindOf nm=some .globalImplicit:=by refine X1 (C4 h) λj e=>?_;exact(F.st.kd j nm _ e).resolve_right λq=>nomatch q.1
theorem kO(gb:jk G mg mb)(i:Iq G sc env W vs x)(hg:c7 sc nm=true)(hx:dX nm=true)(hv:mg nm=some u)(h:Q u x.s):WG G A (eval (.Name nm p) env) Q E x.s:=RC i.2.st.kind (i.2.glob hg) (loadGlobal_global (by rw[i.2.st.glob];exact i.1.nsb gb.mg) hv h) (kL hx).2
theorem nr(gb:jk G mg mb)(i:Iq G sc env W vs x)(hg:c7 sc nm=true)(hx:dX nm=true)(hn:mg nm=none)(hv:mb nm=some u)(h:Q u x.s):WG G A (eval (.Name nm p) env) Q E x.s:=RC i.2.st.kind (i.2.glob hg) (loadGlobal_builtin (by rw[i.2.st.glob];exact i.1.nsb gb.mg) hn (by rw[i.2.st.blt];exact i.1.nsb gb.mb) hv h) (kL hx).2
theorem Be(gb:jk G mg mb)(hg:c7 sc nm=true)(hx:dX nm=true)(hv:mg nm=some u)(hr:∀x,av G x→RV G x v u):ai G A sc env (eval (.Name nm p) env) λz S k=>k v S:=λW x vs E K Q i k q=>kO gb i hg hx hv (q.here i.1 k (hr x i.1))
theorem E3{k:Nat}{ad:Addr}{fd:FuncData}(gb:jk G mg mb)(hg:c7 sc nm=true)(hx:dX nm=true)(hp:dt 20 args=true)(hv:mg nm=some (.ref ad))(ho:∃o,G.base.get? ad=some o∧o.data=.func fd)(hc:lZ G A cl k ad)
 (h:∀e∈args,ai G A sc env (eval e env) (ev pA cl (f e))):ai G A sc env (eval (.Call (.Name nm p) args [] pos) env) (ev pA cl (.cl k (args.map f))):=by
 intro W x vs E K Q i k q;refine X2 ho λo ho hd=>?_;refine Call_Name (cn args (cX hp).1) (kO gb i hg hx hv ?_);refine RM (o:=o) (fd:=fd) (cG (gA args h W x vs E _ _ i k λl y us k n r z=>?_));exact⟨⟨n.inv.base _ _ ho,hd⟩,hc y E K Q l us n.inv r k (q.after n)⟩
theorem Gn(aok:bK A d)(gb:jk G mg mb)(hg:c7 sc nm=true)(hx:dX nm=true)(hp:dt 20 args=true)(hn:mg nm=none)(hv:mb nm=some (lR q'))(hq:q'≠.isStr)
 (h:∀e∈args,ai G A sc env (eval e env) (ev pA cl (f e))):ai G A sc env (eval (.Call (.Name nm p) args [] pos) env) (ev pA cl (.p q' (args.map f))):=by
 intro W x vs E K Q i k q;refine Call_Name (cn args (cX hp).1) (nr gb i hg hx hn hv ?_);have core:∀g,g=lR q'→WG G A (evalArgs g true (dg env args) []) (λa s₁=>WG G A (call g ([]++a.pos) a.kw) Q E s₁) E x.s:=λg hg=>by refine cG (gA args h W x vs E _ _ i k λl y us k n r z=>aY k λv e k=>?_);obtain⟨w,rfl,rw'⟩:=gu e r;have:=zg (E:=E) aok.handled n.inv rw' k (q.after n);rw[hg];cases q'<;>first|exact this|exact absurd rfl hq
 induction q' using P1.casesOn with
 |len=>exact QD (bN _) (core _ rfl)
 |sorted=>exact QD (bN _) (core _ rfl)
 |all=>exact QD (bN _) (core _ rfl)
 |any=>exact QD (bN _) (core _ rfl)
 |tuple=>exact PyProof.Rows.callWith_type (bN _) (core _ rfl)
 |range=>exact PyProof.Rows.callWith_type (bN _) (core _ rfl)
 |isStr=>exact absurd rfl hq
theorem Ed(aok:bK A d)(gb:jk G mg mb) (hg:c7 sc "isinstance"=true) (hg2:c7 sc "str"=true) (hst:di a=false) (hn:mg "isinstance"=none) (hv:mb "isinstance"=some (.builtin "isinstance"))
 (hn2:mg "str"=none) (hv2:mb "str"=some (.type "str")) (h:ai G A sc env (eval a env) (ev pA cl (f a))):ai G A sc env (eval (.Call (.Name "isinstance" p) [a,.Name "str" p2] [] pos) env) (ev pA cl (.p .isStr [f a])):=by
 intro W x vs E K Q i k q;refine Call_Name (cn _ (by show(di a||false)=false;rw[hst];rfl)) (nr gb i hg (by decide) hn hv ?_);refine QD (bN _) (cG (RO (h W x vs E _ _ i k λv y u k n r=>?_)));exact RO (nr gb (i.nx n) hg2 (by decide) hn2 hv2 (spliced_nil (zg (p:=.isStr) aok.handled n.inv r k (q.after n))))
theorem ti{apos:Pos}(hb:gJ a=false)(hp:dt 20 args=true)(hline:(apos.endLine==pos.line)=true)
 (h:WG G A (eval a env) (λov s₁=>∀pl,WG G A (getMethod ov nm pl) (λp s₂=>WG G A (callWith pos p.1 p.2 (dg env args) []) Q E s₂) E s₁) E s) :
 WG G A (eval (.Call (.Attribute a nm apos) args [] pos) env) Q E s:=by
 rw[arm_eval_Call,o7 hb,cn args (cX hp).1];refine PK (wpAny_mono h (λov s₁ h₁=>?_) λz z e=>e);refine PK (QP ?_);have hform:methodCallForm (args.length+([]:List Keyword).length) (dg env args) (backToKw pos (keywordEach [] env))=true:=by show((dg env args).all (λx=>!x.1)&&true&&decide (args.length+0+0<30))=true;rw[vA,PL (p:=args.length+0+0<30) (Qa (cX hp).2 (ag rfl:20<30))];rfl
 have hpos:methodCallPos true a env apos pos=pure pos:=by delta methodCallPos;simp[hline]
 delta methodCall
 rw[hform];exact PK (Qn (wpAny_mono (h₁ _) (λp s₂ h₂=>PK (wpAny_of_eq hpos h₂)) λz z e=>e))
variable{y:Cf}{W:List Addr}{apos:Pos}{c:Expr}
theorem FN{m:M1}(kf:pC G)(aok:bK A d)(hm:m≠.put)(hb:gJ a=false)(hp:dt 20 args=true)(hline:(apos.endLine==pos.line)=true)(ha:ai G A sc env (eval a env) (ev pA cl (f a)))
 (h:∀e∈args,ai G A sc env (eval e env) (ev pA cl (f e))):ai G A sc env (eval (.Call (.Attribute a (Str.ofString (p6 m)) apos) args [] pos) env) (ev pA cl (.me m (f a) (args.map f))):=
 λW x vs E K Q i k q=>ti hb hp hline (ha W x vs E _ _ i k λv y u k n r pl=>cN k λe k=>Az kf hm n.inv r e (QD (bN _) (cG (gA args h W y vs E _ _ (i.nx n) k λl z us k n2 r2 Y=>HT kf hm aok.u65 n2.inv (r.nx n2 n.inv) r2 k ((q.after n).after n2)))))
theorem qr(h:getL nm es=some none):shadowIn (some (PySem.W.dictOf es n)) nm=some false:=by show(getL nm es).map (·.isSome)=_;rw[h];rfl
theorem wZ{pl}(kl:Kl G)(mt:kA G C nm fa fd)(i:Iq G sc env W vs x)(h1:x.h.get? o=some ⟨.ref C,some dx,.plain,#[]⟩)(h2:x.h.get? dx=some (PySem.W.dictOf es n))(h3:getL nm es=some none)
 (h:WG G A (spliced (dg env args)) (λus s=>WG G A (call (.ref fa) (.ref o::us)) Q E s∧∃y,Nx G [] x y∧y.s=s) E x.s) :
 WG G A (getMethod (.ref o) nm pl) (λp s₂=>WG G A (callWith pos p.1 p.2 (dg env args) []) Q E s₂) E x.s:=by
 refine X2 mt.at_ λof hof hfd=>?_;refine method_fn (kl.X.keeps λb o e=>i.1.base b o e) (ox:=⟨.ref C,some dx,.plain,#[]⟩) (od:=some (PySem.W.dictOf es n)) ⟨h1,rfl,rfl,h2⟩ mt.ga mt.gn mt.find mt.ty (qr h3) ?_;refine RM (o:=of) (fd:=fd) (cG (wpAny_mono h (λus s h=>?_) λz z e=>e));obtain⟨h,y,n,rfl⟩:=h;exact⟨⟨n.inv.base _ _ hof,hfd⟩,h⟩
theorem DR(kl:Kl G)(mt:kA G G.CH nm fa fd) (hnm:nm=Str.ofString "force"∨nm=Str.ofString "fits") (hc:lZ G A cl k fa) (hb:gJ a=false) (hp:dt 20 args=true) (hline:(apos.endLine==pos.line)=true)
 (ha:ai G A sc env (eval a env) (ev pA cl (f a))) (h:∀e∈args,ai G A sc env (eval e env) (ev pA cl (f e))):ai G A sc env (eval (.Call (.Attribute a nm apos) args [] pos) env) (ev pA cl (.hostm k (f a) (args.map f))):=by
 intro W x vs E K Q i k q;refine ti hb hp hline (ha W x vs E _ _ i k λv y u k n r pl=>cN k λe k=>?_);have:∃j,v=.hd .host j:=by
  unfold Ck at e;induction v using V.casesOn with
  |hd c j=>cases c<;>first|exact⟨j,rfl⟩|cases e
  |_=>cases e
 obtain⟨j,rfl⟩:=this;obtain⟨o,rfl,hd⟩:=id r;obtain⟨t,dx,es,n1,h1,h2,h3,h4,h5,h6,h7⟩:=hd;refine wZ kl mt (i.nx n) h2 h3 (by rcases hnm with rfl|rfl;exact h6;exact h7) (gA args h W y vs E _ _ (i.nx n) k λl z us k n2 r2 Y=>⟨?_,z,n2,rfl⟩);exact hc z E K Q _ _ n2.inv (.cons (r.nx n2 n.inv) r2) k ((q.after n).after n2)
def Ap(G:GE)(A:Around)(fa:Addr):Prop:=∀(x:Cf)(E:VS)(K:KP)(Q:VS)(k:Nat)(t:TA)(r:V)(w:Value),av G x→x.τ[k]?=some t→RV G x r w→(lI k r x.S).run pA K→Qk G x K Q→wpAny (model G.prog G.w) A (call (.ref fa) [.ref t.inst,w]) Q E x.s
theorem IL(kl:Kl G) (mt:kA G G.CT "put" fa fd) (ho:Ap G A fa) (hb:gJ a=false) (hp:dt 20 args=true) (hline:(apos.endLine==pos.line)=true)
 (ha:ai G A sc env (eval a env) (ev pA cl (f a))) (h:∀e∈args,ai G A sc env (eval e env) (ev pA cl (f e))):ai G A sc env (eval (.Call (.Attribute a "put" apos) args [] pos) env) (ev pA cl (.me .put (f a) (args.map f))):=by
 intro W x vs E K Q i k q;refine ti hb hp hline (ha W x vs E _ _ i k λv y u k n r pl=>cN k λe k=>?_);have:∃j,v=.hd .tab j:=by
  have e:(match v.asHdl with|some (.tab,_)=>true|_=>false)=true:=e;induction v using V.casesOn with
  |hd c j=>cases c<;>first|exact⟨j,rfl⟩|exact ak e
  |_=>exact ak e
 obtain⟨j,rfl⟩:=this;obtain⟨o,rfl,t,h1,rfl⟩:=id r;refine X2 (n.inv.tabAt h1) λR Y TT=>?_;refine J6 TT.inst λdx es n1 i1 i2 Y Y Y i6=>?_;refine wZ kl mt (i.nx n) i1 i2 i6 (gA args h W y vs E _ _ (i.nx n) k λl z us k n2 r2 Y=>⟨?_,z,n2,rfl⟩);refine bj k λrr hr k=>?_;obtain⟨w,rfl,rw'⟩:=gu hr r2;exact ho z E K Q j t rr w n2.inv (n2.le.τ _ _ h1) rw' k ((q.after n).after n2)
def rz(G:GE)(A:Around):Prop:=∀(x:Cf)(E:VS)(K:KP)(Q:VS),av G x→16≤x.S.c→K (.hd .tab x.S.n) {x.S with c:=x.S.c-16,n:=x.S.n+1,late:=false}→Qk G x K Q→wpAny (model G.prog G.w) A (call (.ref G.CT) []) Q E x.s
def oX(G:GE)(A:Around):Prop:=∀(x:Cf)(E:VS)(K:KP)(Q:VS)(k:Nat)(w:Value),av G x→RV G x (.hd .tab k) w→K (.hd .host k) x.S→Qk G x K Q→wpAny (model G.prog G.w) A (call (.ref G.CH) [w]) Q E x.s
theorem BN(kl:Kl G)(gb:jk G mg mb) (hg:c7 sc "TypeTable"=true) (hv:mg "TypeTable"=some (.ref G.CT)) (hk:keepIn G.K (.ref G.CT)=true) (hn:rz G A) :
 ai G A sc env (eval (.Call (.Name "TypeTable" p) [] [] pos) env) (ev pA cl .newTab):=by
 intro W x vs E K Q i k q;have k:(match ble 16 x.S.c with|true=>K (.hd .tab x.S.n) {x.S with c:=x.S.c-16,n:=x.S.n+1,late:=false}|false=>False):=k;cases hc:ble 16 x.S.c with
 |false=>rw[hc]at k;exact k.elim
 |true=>rw[hc]at k;exact Call_Name (cn (pos:=pos) [] rfl) (kO gb i hg (by decide) hv (callWith_K0 (env:=env) (kl.X.keeps λb o e=>i.1.base b o e) hk (hn x E K Q i.1 (P6 hc) k q)))
theorem yD(kl:Kl G)(gb:jk G mg mb) (hg:c7 sc "RefHost"=true) (hv:mg "RefHost"=some (.ref G.CH)) (hk:keepIn G.K (.ref G.CH)=true) (hn:oX G A) (hst:di a=false) (ha:ai G A sc env (eval a env) (ev pA cl (f a))) :
 ai G A sc env (eval (.Call (.Name "RefHost" p) [a] [] pos) env) (ev pA cl (.newHost (f a))):=by
 intro W x vs E K Q i k q;refine Call_Name rfl (kO gb i hg (by decide) hv (callWith_K (h₀:=G.base) kl.X hk ?_ (mu hst)));rw[cn [a] (by show(di a||false)=false;rw[hst];rfl)];refine RO (ha W x vs E _ _ i k λv y u k n r=>spliced_nil ⟨kl.X.keeps λb o e=>n.inv.base b o e,?_⟩);refine aY k λc hc k=>?_;cases gq hc;obtain⟨c,j⟩:=c;cases c<;>first|exact k.elim|exact hn y E K Q j u n.inv r k (q.after n)
end
section
variable{G:GE}{A:Around}{env:Env}{E:VS}{mg mb m:Str→Option Value}{s:Shared}{h h':Heap}{inst dx rws idx a:Addr}{dd:D}{es:List DictEntry}{n:Nat}
theorem qc(k:∀b xs,aK h b xs→aK h' b xs)(r:(dB G.prog G.w).is h dd a):(dB G.prog G.w).is h' dd a:=⟨r.1,(DV.keepH k).1 _ _ 6 r.1 r.2⟩
theorem gQ(e:h'.get? idx=h.get? idx)(k:∀b xs,aK h b xs→aK h' b xs)(r:h.DictOfH (dB G.prog G.w) idx mm):h'.DictOfH (dB G.prog G.w) idx mm:=by refine J6 r λo es ep ho a1 a2 a3 a4 a5=>?_;exact O1 o es ep (e.trans ho) a1 a2 a3 (λq hq=>qc k (a4 q hq)) a5
structure PW (G:GE) (env:Env) (inst dx rws idx a:Addr) (dd:D) (es:List DictEntry) (n:Nat) (m:Str→Option Value) (mm:List (D×Addr×Value)) (xs:List Value) (h:Heap):Prop where
 base:bE G.base h
 inst:h.get? inst=some ⟨.ref G.CT,some dx,.plain,#[]⟩
 dict:h.get? dx=some (PySem.W.dictOf es n)
 key:(dB G.prog G.w).is h dd a
 ns:h.Ns env.locals m
 rows:aN h rws xs
 index:h.DictOfH (dB G.prog G.w) idx mm
theorem PW.step{m':Str→Option Value}{c:Addr}(w:PW G env inst dx rws idx a dd es n m mm xs h)(hc:c=env.locals∨c=rws∨c=idx)(out:∀c,c=env.locals∨c=rws∨c=idx→G.base.get? c=none∧c≠inst∧c≠dx)(sb:∀b,b≠c→h'.get? b=h.get? b)
 (f:(∀b xs,aK h b xs→aK h' b xs)→h'.Ns env.locals m'∧aN h' rws xs'∧h'.DictOfH (dB G.prog G.w) idx mm'):PW G env inst dx rws idx a dd es n m' mm' xs' h':=by
 refine U3 (out c hc) λo1 o2 o3=>?_;have kt:∀b xs,aK h b xs→aK h' b xs:=λb ys t=>(sb b λz=>by
  unfold aK at t;rw[z]at t;rcases hc with rfl|rfl|rfl
  ·refine J3 w.ns λo y y e q y=>?_;rw[t]at e;replace e:=PG e;subst e;cases q
  ·refine X1 w.rows λk e=>?_;rw[t]at e;exact absurd (Qb Obj.cls (PG e)) (by decide:Value.type "tuple"≠.type "list")
  ·refine J4 w.index λo y y e y q y=>?_;rw[t]at e;replace e:=PG e;subst e;cases q).trans t
 refine U3 (f kt) λf1 f2 f3=>?_;exact⟨λb o e=>(sb b λz=>by rw[z,o1]at e;exact ah e).trans (w.base b o e),(sb _ o2.symm).trans w.inst,(sb _ o3.symm).trans w.dict,qc kt w.key,f1,f2,f3⟩
noncomputable def jH(p:Nat→Pos):List Stmt:=[
 .If (.Compare (.Name "row" (p 1)) [.In] [.Attribute (.Name "self" (p 2)) "index" (p 3)] (p 4)) [.Return (some (.Subscript (.Attribute (.Name "self" (p 5)) "index" (p 6)) (.Name "row" (p 7)) (p 8))) (p 9)] [] (p 10),
 .Assign [.Name "t" (p 11)] (.Call (.Name "len" (p 12)) [.Attribute (.Name "self" (p 13)) "rows" (p 14)] [] (p 15)) (p 16),
 .Expr (.Call (.Attribute (.Attribute (.Name "self" (p 20)) "rows" (p 21)) "append" (p 17)) [.Name "row" (p 18)] [] (p 19)) (p 22),
 .Assign [.Subscript (.Attribute (.Name "self" (p 23)) "index" (p 24)) (.Name "row" (p 25)) (p 26)] (.Name "t" (p 27)) (p 28),
 .Return (some (.Name "t" (p 29))) (p 30)]
noncomputable def fF:aI:=[("self",.local),("row",.local),("t",.local),("len",.globalImplicit)]
theorem yg{p:Nat→Pos}{Q:FS}(kl:Kl G)(aok:bK A d)(gb:jk G mg mb) (hlen1:mg "len"=none) (hlen2:mb "len"=some (.builtin "len")) (hline:((p 17).endLine==(p 19).line)=true)
 (st:Sc fF env) (out:∀c,c=env.locals∨c=rws∨c=idx→G.base.get? c=none∧c≠inst∧c≠dx) (n1:rws≠idx) (n2:rws≠env.locals) (n3:idx≠env.locals) (sys:(idx==sysModules)=false)
 (w:PW G env inst dx rws idx a dd es n m mm xs s.heap) (h1:m "self"=some (.ref inst)) (h2:m "row"=some (.ref a)) (g1:getL "rows" es=some (some (.ref rws))) (g2:getL "index" es=some (some (.ref idx))) (z:xs.length≤aD) (zm:mm.length≤aD)
 (found:∀b v tk,atKey mm dd=some (b,v)→Q (.ret v) {s with toks:=tk})
 (new:∀h' tk t t' m',atKey mm dd=none→(∀b,b≠env.locals→b≠rws→b≠idx→h'.get? b=s.heap.get? b)→PW G env inst dx rws idx a dd es n m' (mm++[(dd,a,.int xs.length t)]) (xs++[.ref a]) h'→Q (.ret (.int xs.length t')) {s with heap:=h',toks:=tk}) :
 WG G A (execs (jH p) env) Q E s:=by
 have kl':∀{y:Str}{j:Nat},bl y fF 0=some (j,.local)→env.kindOf y=some .local:=λe=>(st.kd _ _ _ e).resolve_right λq=>nomatch q.1;have ld:∀{y:Str}{j:Nat}{v:Value}{p:Pos}{m':Str→Option Value}{s':Shared}{E:VS}{Q:VS},bl y fF 0=some (j,.local)→(y==("__debug__" : Str))=false→s'.heap.Ns env.locals m'→m' y=some v→Q v s'→WG G A (eval (.Name y p) env) Q E s':=λe e2 hn hv q=>wpAny_Name (Rh st.kind (kl' e) hn hv q) e2;have at_:∀{nm:Str}{o:Addr}{p1 p2:Pos}{m':Str→Option Value}{mm':List (D×Addr×Value)}{xs':List Value}{s':Shared}{E:VS}{Q:VS},sX G.K G.CT nm→getL nm es=some (some (.ref o))→PW G env inst dx rws idx a dd es n m' mm' xs' s'.heap→m' "self"=some (.ref inst)→(∀tk,Q (.ref o) {s' with toks:=tk})→
  WG G A (eval (.Attribute (.Name "self" p1) nm p2) env) Q E s':=λ{nm o p1 p2 m' mm' xs' s' E Q} c g w e q=>by
  show wpAny _ _ (do
   let ov ← attributeBase (.Name "self" p1) nm env (eval (.Name "self" p1) env)
   standAt p2.atName
   let r ← holding [ov] (getAttr ov nm true)
   letTemporaryGo (.Name "self" p1) ov r
   pure r) Q E s'
  rw[o7 rfl];refine X2 c.find λattr ha hn=>?_;exact PK (ld (j:=0) rfl (by decide) w.ns e (PK (QP (PK (Qn (get_value (kl.X.keeps w.base) (C:=G.CT) (od:=some (PySem.W.dictOf es n)) ⟨w.inst,rfl,rfl,w.dict⟩ (plainGet_of c.get).1 (findObj_own c.dict ha hn g) rfl (PK (wpAny_letTemporaryGo (PU (q _))))))))))
 refine Qh (wpAny_If (wpAny_isTrue_Compare1 (ld (j:=1) rfl (by decide) w.ns h2 (at_ kl.index g2 w h1 λtk=>?_)) rfl));refine wpAny_in_heap (show A.in1.units+64<cLine from aok.u65) w.key sys w.index ?_;cases hf:atKey mm dd with
 |some bv=>refine QN ?_;rw[Qx (show(some bv).isSome=true from rfl)];refine Qh (wpAny_Return_some (Subscript_ (at_ (s':={s with toks:=_}) kl.index g2 w h1 λtk=>ld (j:=1) rfl (by decide) w.ns h2 ?_)));exact tail_any w.index.typeIs slot_dict_getitem.lookup (wpAny_getItem_heap (show A.in1.units+64<cLine from aok.u65) w.key w.index hf (found bv.1 bv.2 _ hf)) rfl
 |none=>
  refine QN ?_;rw[Qv (show ¬((none:Option (Addr×Value)).isSome=true)from λe=>ak e)];refine Rk ?_;have nsb:∀{c:Addr}{m':Str→Option Value},G.base.Ns c m'→s.heap.Ns c m':=λ⟨o,es,ep,e,r⟩=>⟨o,es,ep,w.base _ _ e,r⟩
  refine Qh (wpAny_Assign_Name (Call_Name (cn _ rfl) (RC st.kind ((st.kd 3 "len" .globalImplicit rfl).resolve_right λq=>nomatch q.1) (loadGlobal_builtin (by rw[st.glob];exact nsb gb.mg) hlen1 (by rw[st.blt];exact nsb gb.mb) hlen2 ?_) (by decide))));refine QD (bN _) (cG (RO (at_ (s':={s with toks:=_}) kl.rows g1 w h1 λtk=>spliced_nil ?_)));refine call_len_list w.rows.isList (by rw[P9];exact iR z) ?_;rw[P9];refine wpAny_storeName_local (kl' (j:=2) rfl) w.ns (λh4 hn4 hs4=>?_) (by rw[st.kind];rfl);have w4:PW G env inst dx rws idx a dd es n _ mm xs h4:=w.step (.inl rfl) out hs4.2 λkt=>⟨hn4,w.rows.imp λY e=>(hs4.2 _ n2).trans e,gQ (hs4.2 _ n3) kt w.index⟩
  have v1:(if Str.ofString "self"=Str.ofString "t" then some (Value.int (xs.length:Nat) (tk+1))else m "self")=some (.ref inst):=(Qv (by decide)).trans h1;have v2:(if Str.ofString "row"=Str.ofString "t" then some (Value.int (xs.length:Nat) (tk+1))else m "row")=some (.ref a):=(Qv (by decide)).trans h2;refine Qh (wpAny_Expr_any (ti (G:=G) rfl rfl hline (at_ (s':={s with heap:=h4,toks:=_}) kl.rows g1 w4 v1 λtk pl=>?_)) (by delta interactive;rw[st.kind];rfl) rfl);refine Rj w4.rows.isList.typeIs PySem.F.plainAttrs_list PySem.F.slot_list_append PySem.F.type_list_append (jA w4.rows) ?_;refine QD (bN _) (cG (RO (ld (j:=1) (s':={s with heap:=h4,toks:=_}) rfl (by decide) w4.ns v2 (spliced_nil ?_))));refine wpAny_list_append_plain (s:={s with heap:=h4,toks:=_}) w4.rows (λh7 ha7 hs7=>?_) (by rw[P9];exact bB z);have w7:PW G env inst dx rws idx a dd es n _ mm (xs++[.ref a]) h7:=w4.step (.inr (.inl rfl)) out hs7.2 λkt=>⟨w4.ns.sameBut hs7 n2.symm,ha7.imp λY e=>by rw[e];simp,gQ (hs7.2 _ n1.symm) kt w4.index⟩
  refine Qh (wpAny_Assign_Subscript (ld (j:=2) (s':={s with heap:=h7,toks:=_}) rfl (by decide) w7.ns (Qx rfl) (at_ (s':={s with heap:=h7,toks:=_}) kl.index g2 w7 v1 λtk=>ld (j:=1) (s':={s with heap:=h7,toks:=_}) rfl (by decide) w7.ns v2 ?_)) rfl);refine wpAny_setItem_heap (s:={s with heap:=h7,toks:=_}) (show A.in1.units+64<cLine from aok.u65) w7.key w7.index (λh8 hm8 hs8=>?_) (bB zm);rw[storedH_new hf]at hm8;have w8:PW G env inst dx rws idx a dd es n _ (mm++[(dd,a,.int (xs.length:Nat) _)]) (xs++[.ref a]) h8:=w7.step (.inr (.inr rfl)) out hs8.2 λkt=>⟨w7.ns.sameBut hs8 n3.symm,w7.rows.imp λY e=>(hs8.2 _ n1).trans e,hm8⟩
  exact Qh (wpAny_Return_some (ld (j:=2) (s':={s with heap:=h8,toks:=_}) rfl (by decide) w8.ns (Qx rfl) (new h8 _ _ _ _ hf (λb b1 b2 b3=>((hs8.2 b b3).trans (hs7.2 b b2)).trans (hs4.2 b b1)) w8)))
end
theorem uI:∀{T:List (List V)}{k:Nat}{R:List V}{r:V},T[k]?=some R→cA (T.set k (R++[r]))=cA T+1
 |[],_,_,_,h=>ah h
 |Q::T,0,R,r,h=>by replace h:=PG h;subst h;show(Q++[r]).length+cA T=Q.length+cA T+1;rw[PX,Nat.add_right_comm];rfl
 |Q::T,k+1,R,r,h=>by show Q.length+cA (T.set k (R++[r]))=Q.length+cA T+1;rw[uI (T:=T) (k:=k) h,Rc]
theorem dI.concat{r:V}(ok:dI T)(hR:T[k]?=some R)(hn:r∉R):dI (T.set k (R++[r])):=by
 intro j R' e i i' y h1 h2;have lt:k<T.length:=(PO.mp hR).1;by_cases q:k=j
 ·subst q;rw[QO lt]at e;replace e:=PG e;subst e;have cases2:∀i:Nat,(R++[r])[i]?=some y→(R[i]?=some y)∨(i=R.length∧y=r):=λi h=>by
   by_cases z:i<R.length
   ·rw[Qq z]at h;exact .inl h
   ·have:=(PO.mp h).1;rw[PX]at this;have e:i=R.length:=le_antisymm (Nat.le_of_lt_succ this) (Ro z);subst e;rw[QI]at h;exact .inr ⟨rfl,(PG h).symm⟩
  rcases cases2 i h1 with a|⟨a,b⟩<;>rcases cases2 i' h2 with a'|⟨a',b'⟩
  ·exact ok k R hR i i' y a a'
  ·exact absurd (PZ.mpr ⟨_,b'▸a⟩) hn
  ·exact absurd (PZ.mpr ⟨_,b▸a'⟩) hn
  ·rw[a,a']
 ·rw[Ry q]at e;exact ok j R' e i i' y h1 h2
section
variable{G:GE}{A:Around}{d:Nat}{mg mb:Str→Option Value}
noncomputable abbrev Cf.grow(x:Cf)(c k:Nat)(R:List V)(s:Shared):Cf:={x with S:={x.S with c:=c},T:=x.T.set k R,s:=s}
theorem sS.concat(h:sS T R m)(rd:RD T r dd):sS T (R++[r]) (m++[(dd,a,.int (R.length:Nat) t)]):=by
 refine⟨by rw[PX,PX,h.1];rfl,λn v e=>?_⟩;by_cases z:n<R.length
 ·rw[Qq z]at e;rw[Qq (h.1▸z)];exact h.2 n v e
 ·have:=(PO.mp e).1;rw[PX]at this;have e':n=R.length:=le_antisymm (Nat.le_of_lt_succ this) (Ro z);subst e';rw[QI]at e;replace e:=PG e;subst e;exact tX dd a t (by rw[← h.1];exact QI) rd
theorem av.grow(I:av G x){c:Nat}{r:V}{s':Shared}(ht:x.τ[k]?=some t)(hR:x.T[k]?=some R)(hn:r∉R)(hc:c+1=x.S.c)(hs:∀b o,b≠t.rws→b≠t.idx→x.h.get? b=some o→s'.heap.get? b=some o)(g:s'.gens=x.s.gens)(os:s'.os=x.s.os)
 (al:∀b,b=t.rws∨b=t.idx→∃o,s'.heap.get? b=some o∧o.cls≠.type "tuple") (h:Lm [] x (x.grow c k (R++[r]) s')→TR G (x.grow c k (R++[r]) s') k (R++[r]) t):Nx G [] x (x.grow c k (R++[r]) s'):=by
 have TT:=I.tab k R t hR ht;have lt:k<x.T.length:=(PO.mp hR).1;have keep:∀b o q,x.h.get? b=some o→x.w b=q→q≠some (.rws k)→q≠some (.idx k)→s'.heap.get? b=some o:=λb o q e w' q1 q2=>hs b o (λz=>q1 (by rw[← w',z];exact TT.roles.1)) (λz=>q2 (by rw[← w',z];exact TT.roles.2)) e;have L:Lm [] x (x.grow c k (R++[r]) s'):=⟨⟨λj R' e=>by
  by_cases q:k=j
  ·subst q;rw[hR]at e;replace e:=PG e;subst e;exact⟨[r],QO lt⟩
  ·exact⟨[],by rw[Qy];exact(Ry q).trans e⟩,λY Y e=>e,λb o e w' Y=>⟨keep b o _ e w' (λq=>ah q) (λq=>ah q),w'⟩,λb o e w'=>⟨keep b o _ e w' (λq=>nomatch q) (λq=>nomatch q),w'⟩⟩,λY Y e=>e⟩
 have cost:cA (x.T.set k (R++[r]))+c≤cA x.T+x.S.c:=by rw[uI hR,← hc,Nat.add_right_comm];exact Qi _
 have same:∀b q,x.w b=some q→q≠.rws k→q≠.idx k→s'.heap.get? b=x.h.get? b:=λb q e q1 q2=>by refine X2 (I.live b q e) λo eo Y=>?_;rw[eo];exact keep b o _ eo e (λz=>q1 (PG z)) λz=>q2 (PG z)
 refine⟨⟨L,λb o e w'=>⟨keep b o _ e w' (λq=>nomatch q) (λq=>nomatch q),w'⟩,cost,g,os⟩,I.go (y:=x.grow c k (R++[r]) s') L .nil (PM cost I.room) (λb q e=>?_) I.ρlen (λi o b h1 h2=>.inl ⟨h1,h2,λnz=>⟨same b _ ((I.obj i o b h1 h2).2 nz) (λq=>nomatch q) (λq=>nomatch q),rfl⟩⟩) (I.τlen.trans (RY ..).symm) (λj R' u h1 h2=>?_) (I.ok.concat hR hn) (I.n.trans (RY ..).symm) (λh=>.inl ⟨h,rfl⟩) λY h=>.inl h⟩
 ·by_cases q1:b=t.rws
  ·exact al b (.inl q1)
  ·by_cases q2:b=t.idx
   ·exact al b (.inr q2)
   ·refine X2 (I.live b q e) λo eo hc=>?_;exact aB o (hs b o q1 q2 eo) hc
 ·have h1:(x.T.set k (R++[r]))[j]?=some R':=h1;by_cases q:k=j
  ·subst q;rw[QO lt]at h1;replace h1:=PG h1;subst h1;cases ht.symm.trans h2;exact .inr (h L)
  ·rw[Ry q]at h1;have U:=(I.tab j R' u h1 h2).roles;refine .inl ⟨h1,h2,λb hb=>⟨?_,rfl⟩⟩;rcases hb with rfl|rfl
   ·exact same _ _ U.1 (λz=>q (by cases z;rfl)) (λz=>nomatch z)
   ·exact same _ _ U.2 (λz=>nomatch z) λz=>q (by cases z;rfl)
theorem Cn{fa:Addr}{fd:FuncData}{p:Nat→Pos}{fn:Fn}(kl:Kl G)(gb:jk G mg mb)(lim:G.base.NoLimit) (hlen1:mg "len"=none) (hlen2:mb "len"=some (.builtin "len")) (hline:((p 17).endLine==(p 19).line)=true)
 (ok:jf G fn fa fd (jH p) []) (hp:fn.params=2) (hn:fd.scope.names=fF) (aok:bK A (d+1)):Ap G A fa:=by
 intro x E K Q k t r w I ht rr h q;refine ee h λokr h=>?_;refine X2 (I.tabAt ht) λR hR TT=>?_;obtain⟨a,dd,rfl,rd,hk⟩:=yk okr rr;obtain⟨dx,es,nn,i1,i2,⟨w1,w2⟩,g1,g2,_⟩:=TT.inst;refine X2 TT.rows λxs hrows rxs=>?_;refine X2 TT.index λmm hm hms=>?_;refine wpAny_call (mN lim ok aok I.base (by rw[hp];exact Qi _) (by rw[hp];exact Qi _) rfl (by rw[hp];rfl) λenv s₁ m cm E' st hkd c aok' g o y hl y=>?_);rw[hn]at st hl;have ol:bE x.h s₁.heap:=c.toInCall.keep;have n1:Nx G [] x (x.to s₁):=I.kept ol g o;have kt:∀b ys,aK x.h b ys→aK s₁.heap b ys:=λb ys e=>ol _ _ e;have hL:x.h.get? env.locals=none:=Q5 c.toInCall.fresh;have ne:∀{b o},x.h.get? b=some o→b≠env.locals:=λe z=>by rw[z,hL]at e;exact ah e
 refine X1 (id hrows) λkr hr=>?_;refine X2 (I.live _ _ TT.roles.2) λoi ei y=>?_;have rno:∀{b q},x.w b=some q→q≠.pr→G.base.get? b=none∧b≠t.inst∧b≠dx:=λ{b q} e nq=>by
  refine⟨?_,λz=>?_,λz=>?_⟩
  ·cases z:G.base.get? b with
   |none=>rfl
   |some o=>rw[I.free b o z]at e;exact ah e
  ·rw[z,w1]at e;exact nq (PG e).symm
  ·rw[z,w2]at e;exact nq (PG e).symm
 have w0:PW G env t.inst dx t.rws t.idx a dd es nn m mm xs s₁.heap:=⟨λb o e=>ol b o (I.base b o e),ol _ _ i1,ol _ _ i2,qc kt hk,c.toInCall.ns,hrows.imp λy e=>ol _ _ e,gQ (by rw[ei];exact ol _ _ ei) kt hm⟩
 have nri:t.rws≠t.idx:=λz=>by have:=TT.roles.1;rw[z,TT.roles.2]at this;cases this
 have ra:=Dy I hR TT okr rd hm hms;have l1:=I.len hR;have l16:16≤R.length:=by
  have:min 16 R.length=16:=RZ▸Qb List.length TT.first
  exact this▸Nat.min_le_right 16 R.length
 refine yg (d:=d) kl aok' gb hlen1 hlen2 hline st (λb hb=>?_) nri (ne hr) (ne ei) (I.sysne TT.roles.2) w0 (hl 0 _ _ rfl rfl) (hl 1 _ _ rfl rfl) g1 g2 (rxs.len▸l1) (hms.1▸l1) (λb v tk e=>?_) λh' tk t1 t2 m' e hsame w'=>?_
 ·rcases hb with rfl|rfl|rfl
  ·exact⟨I.nobase hL,(ne i1).symm,(ne i2).symm⟩
  ·exact rno TT.roles.1 λq=>nomatch q
  ·exact rno TT.roles.2 λq=>nomatch q
 ·rcases ra with⟨n,b',tk',h1,h2⟩|⟨h1,_⟩
  ·rw[e]at h1;cases h1;have rv:=Bq (tk:=tk') I hR TT h2;have nq:∀c,c≤x.S.c→Nx G [] x (x.pay c {s₁ with toks:=tk}):=λc hc=>I.quiet .nil hc (λb o e y=>ol b o e) g o;have fin:∀v,K v x.S→RV G x v (.int (n:Nat) tk')→Q (.int (n:Nat) tk') {s₁ with toks:=tk}:=λv k r=>q v (x.pay x.S.c {s₁ with toks:=tk}) _ k (nq _ (Qi _)) (r.nx (nq _ (Qi _)) I);cases hf:dc r ax 0 with
   |some i=>rw[hf]at h;exact fin _ h (rv.1 i hf)
   |none=>
    replace h:cF.run pA (match dG x.S k r with|true=>.ret (.id k r) x.S|false=>A9 (.id k r) x.S) K:=by rw[hf]at h;exact h
    cases hkn:dG x.S k r with
    |true=>rw[hkn]at h;exact fin _ h (rv.2 hf)
    |false=>
     rw[hkn]at h;have h:cF.run pA (match x.S.c with|0=>.bad|c+1=>.ret (.id k r) {x.S with c:=c}) K:=h;cases hc:x.S.c with
     |zero=>rw[hc]at h;exact h.elim
     |succ c=>rw[hc]at h;exact q _ (x.pay c {s₁ with toks:=tk}) _ h (nq c (by rw[hc];exact le_succ _)) ((rv.2 hf).nx (nq c (by rw[hc];exact le_succ _)) I)
  ·rw[e]at h1;exact qE h1
 ·have nR:r∉R:=by
   rcases ra with⟨_,_,_,h1,_⟩|⟨_,h1⟩
   ·rw[e]at h1;exact ah h1
   ·exact h1
  have hf:dc r ax 0=none:=by
   cases hf:dc r ax 0 with
   |none=>rfl
   |some i=>exact absurd (PZ.mpr ⟨_,TT.get (jw hf).2⟩) nR
  replace h:cF.run pA (match dG x.S k r with|true=>.ret (.id k r) x.S|false=>A9 (.id k r) x.S) K:=by rw[hf]at h;exact h
  cases hkn:dG x.S k r with
  |true=>exact absurd (wq I hR hkn) nR
  |false=>
  rw[hkn]at h;have h:cF.run pA (match x.S.c with|0=>.bad|c+1=>.ret (.id k r) {x.S with c:=c}) K:=h;cases hc:x.S.c with
  |zero=>rw[hc]at h;exact h.elim
  |succ c=>
  rw[hc]at h;have lx:=rxs.len;rw[← lx]at w' ⊢;have nx:Nx G [] x (x.grow c k (R++[r]) {s₁ with heap:=h',toks:=tk}):=I.grow ht hR nR hc.symm (λb o b1 b2 e=>(hsame b (ne e) b1 b2).trans (ol b o e)) g o
   (λb hb=>hb.elim (λz=>z▸w'.rows.live) λz=>z▸(by refine J3 w'.index λo es ep e q y=>?_;exact aB o e (by rw[q.1];decide))) λL=>⟨⟨dx,es,nn,w'.inst,w'.dict,⟨w1,w2⟩,TT.inst.choose_spec.choose_spec.choose_spec.2.2.2.1▸g1,g2,by assumption⟩,⟨_,w'.rows,(rxs.imp λy y=>RV.mono L .nil).app (.cons (rr.mono L .nil) .nil)⟩,⟨_,w'.index,(hms.mono L.T).concat (rd.mono L.T)⟩,TT.roles,?_,λv hv=>?_⟩
  ·refine q _ (x.grow c k (R++[r]) {s₁ with heap:=h',toks:=tk}) _ h nx ⟨R.length,_,rfl,?_,R++[r],QO (PO.mp hR).1,QI⟩;exact l16
  ·rw[List.take_append_of_le_length l16];exact TT.first
  ·rcases Qe.mp hv with hv|hv
   ·exact TT.rowok v hv
   ·rw[PH.mp hv];exact okr
end
theorem EE:∀(es:List DictEntry),(getL x es).isSome=true→getL y (putL x hh (.str x t) v es)=if y=x then some (some v)else getL y es:=by
 intro es;induction es with
 |nil=>
  exact λY=>by
   unfold putL getL;by_cases e:y=x
   ·subst e;rw[Qx rfl,find?_cons_of_pos (by show(y==y)=true;simp)]
   ·rw[Qv e,Q7 (by show ¬(x==y)=true;simpa using λq=>e q.symm)];rfl
 |cons a r ih_=>
  exact λhs=>by
   unfold putL;cases h:a.key.isStr x with
   |true=>
    rw[Qx rfl];refine X1 (xp h) λta ha=>?_;by_cases e:y=x
    ·subst e;delta getL
     rw[Qx rfl,find?_cons_of_pos (by exact h)]
    ·have hn:a.key.isStr y=false:=by
      rw[ha];show(x==y)=false;simpa using λq=>e q.symm
     delta getL
     rw (config:={}) [Qv e,Q7 (by show ¬a.key.isStr y=true;rw (config:={}) [hn];simp),Q7 (by rw (config:={}) [hn];simp),any_cons,any_cons];rfl
   |false=>
    rw[Qv (by simp)];have hs':(getL x r).isSome=true:=by
     unfold getL at hs ⊢;rw[Q7 (by rw[h];simp)]at hs;cases q:r.find? (λz=>z.key.isStr x)with
     |some z=>rfl
     |none=>
      rw[q]at hs;rw[any_cons]at hs;cases z:a.refKey with
      |true=>rw[z]at hs;simp at hs
      |false=>rw[z]at hs;simpa using hs
    have hany:a.refKey=true→(r.find? (λz=>z.key.isStr x)).isSome=true:=by
     intro z;unfold getL at hs;rw[Q7 (by rw[h];simp)]at hs;cases q:r.find? (λz=>z.key.isStr x)with
     |some _=>rfl
     |none=>rw[q,any_cons,z]at hs;simp at hs
    have ih:=ih_ hs';by_cases e:y=x
    ·subst e;rw[Qx rfl]at ih ⊢;unfold getL at ih ⊢;rw[Q7 (by rw (config:={}) [h];simp),any_cons];cases q:(putL y hh (.str y t) v r).find? (λz=>z.key.isStr y)with
     |some z=>rw[q]at ih;exact ih
     |none=>rw[q]at ih;dsimp only at ih;split at ih<;>cases ih
    ·rw[Qv e]at ih ⊢;unfold getL at ih ⊢;cases hy:a.key.isStr y with
     |true=>rw[find?_cons_of_pos (by exact hy),find?_cons_of_pos (by exact hy)]
     |false=>
      rw[Q7 (by rw (config:={}) [hy];simp),Q7 (by rw (config:={}) [hy];simp),any_cons,any_cons];cases q:(putL x hh (.str x t) v r).find? (λz=>z.key.isStr y)with
      |some z=>
       cases q':r.find? (λz=>z.key.isStr y)with
       |some z'=>rw[q,q']at ih;exact ih
       |none=>rw[q,q']at ih;dsimp only at ih;split at ih<;>cases ih
      |none=>
       cases q':r.find? (λz=>z.key.isStr y)with
       |some z'=>rw[q,q']at ih;dsimp only at ih;split at ih<;>cases ih
       |none=>
        rw[q,q']at ih;dsimp only at ih ⊢;cases a.refKey with
        |true=>simp
        |false=>simpa using ih
theorem xn:∀(es:List DictEntry),(putL x hh k v es).length≤es.length+1:=by
 intro es;induction es with
 |nil=>exact by simp[putL]
 |cons a r ih_=>
  exact by
   unfold putL;split
   ·simp
   ·simpa using ih_
def Mk(C x dx L:Addr)(h₀:Heap)(m:Str→Option Value)(g:Str→Option Value)(c:Nat)(ex:List (Addr×Obj))(h:Heap):Prop:=∃es n,Fr h₀ L h m∧News h₀ L h ((dx,PySem.W.dictOf es n)::(x,instObj C dx)::ex)∧(∀y,getL y es=some (g y))∧es.length≤c∧(∀p∈ex,p.1≠dx∧p.1≠x)∧x≠dx
structure gj (K:Frag) (C:Addr) (nm:Str):Prop where
 hs:PySem.W.findIn K (.ref C) "__setattr__"=some (some (.builtin "object.__setattr__"))
 hp:plainOver K C=true
 ht:takerIn K C nm=some none
 hh:hasDictIn K C=true
section
variable{G:GE}{A:Around}{E:VS}{s:Shared}{m g:Str→Option Value}{ex:List (Addr×Obj)}
theorem pN{nm:Str}{Q:Unit→Shared→Prop}(X₀:G.K.In h₀)(so:gj G.K C nm)(mk:Mk C x dx L h₀ m g c ex s.heap)(hc:c<1000)
 (h:∀h' tk,Mk C x dx L h₀ m (λy=>if y=nm then some v else g y) (c+1) ex h'→Q () {s with heap:=h',toks:=tk}):WG G A (setAttr (.ref x) nm v) Q E s:=by
 refine Y6 mk λes n F N hg hl hap hne=>?_;have Ix:InstAt s.heap x (instObj C dx) C (some (PySem.W.dictOf es n)):=⟨N.get (mt mh),rfl,rfl,N.get mh⟩
 refine set_dict F X₀ N Ix rfl so.hs so.hp so.ht so.hh (by rw[hg];rfl) rfl (.head λp hp=>?_) (PM (xn es) (by omega)) λh' F' N'=>h _ _ ⟨_,_,F',N',λy=>?_,PM (xn es) (by omega),hap,hne⟩
 ·rcases P4.mp hp with rfl|hp
  ·exact hne
  ·exact(hap p hp).1
 ·rw[EE es (by rw[hg];rfl),hg];show _=some (if y=nm then some v else g y);split<;>rfl
theorem Mk.push(mk:Mk C x dx L h₀ m g c ex h)(o:Obj)(hf:o.isFreed=false):Mk C x dx L h₀ m g c ((h.objs.size,o)::ex) (h.push o):=by
 refine Y6 mk λes n F N hg hl hap hne=>?_;have h1:=Q3 (N.get mh);have h2:=Q3 (N.get (mt mh));have h3:L<h.objs.size:=by refine J2 F.ns λo z z e z=>?_;exact Q3 e
 refine Kq es n (F.push o) ?_ hg hl (λp hp=>?_) hne
 ·have N':=N.push F o hf;intro p hp;refine N' p ?_;rcases P4.mp hp with rfl|hp
  ·exact mt mh
  ·rcases P4.mp hp with rfl|hp
   ·exact mt (mt mh)
   ·rcases P4.mp hp with rfl|hp
    ·exact .head _
    ·exact mt (mt (mt hp))
 ·rcases P4.mp hp with rfl|hp
  ·exact⟨Nat.ne_of_gt h1,Nat.ne_of_gt h2⟩
  ·exact hap p hp
theorem Mk.ns(mk:Mk C x dx L h₀ m g c ex h):h.Ns L m:=by refine Y2 mk λes n F z=>?_;exact F.ns
theorem Mk.keep(mk:Mk C x dx L h₀ m g c ex h):bE h₀ h:=by refine Y2 mk λes n F z=>?_;exact F.keep
variable{env:Env}{C x dx L:Addr}{h₀:Heap}{c:Nat}
structure f7 (env:Env) (L x:Addr) (m:Str→Option Value):Prop where
 kind:env.scope.kind=.function
 loc:env.locals=L
 self:env.kindOf "self"=some .local
 at_:m "self"=some (.ref x)
theorem lQ(sa:f7 env L x m)(mk:Mk C x dx L h₀ m g c ex s.heap)(h:Q (.ref x) s):WG G A (eval (.Name "self" p) env) Q E s:=wpAny_Name (Rh sa.kind sa.self (by rw[sa.loc];exact mk.ns) sa.at_ h) (by decide)
noncomputable abbrev e8(l:List Value):Obj:={cls:=.type "list",data:=.seq l.toArray}
theorem z0{nm:Str}{Q:FS}(X₀:G.K.In h₀)(so:gj G.K C nm)(sa:f7 env L x m)(mk:Mk C x dx L h₀ m g c ex s.heap)(hc:c<1000)
 (h:∀h' tk,Mk C x dx L h₀ m (λy=>if y=nm then some (.ref s.heap.objs.size)else g y) (c+1) ((s.heap.objs.size,e8 [])::ex) h'→Q .next {s with heap:=h',toks:=tk}):WG G A (exec (.Assign [.Attribute (.Name "self" p1) nm p2] (.List [] p3) pos) env) Q E s:=by
 refine QU (wpAny_List (spliced_nil ⟨by simp,?_⟩)) rfl;have mk':=mk.push (e8 []) rfl;exact lQ (s:={s with heap:=s.heap.push (e8 [])}) sa mk' (pN (s:={s with heap:=s.heap.push (e8 [])}) X₀ so mk' hc λh' tk q=>h h' tk q)
theorem Gr{nm:Str}{k}{Q:FS}(X₀:G.K.In h₀)(so:gj G.K C nm)(sa:f7 env L x m)(mk:Mk C x dx L h₀ m g c ex s.heap)(hc:c<1000)
 (h:∀h' tk,Mk C x dx L h₀ m (λy=>if y=nm then some (.ref s.heap.objs.size)else g y) (c+1) ((s.heap.objs.size,e8 [.none])::ex) h'→Q .next {s with heap:=h',toks:=tk}):WG G A (exec (.Assign [.Attribute (.Name "self" p1) nm p2] (.List [.Constant .none k p4] p3) pos) env) Q E s:=by
 refine QU (wpAny_List ?_) rfl;rw[cn _ rfl];refine RO (wpAny_Constant_none (spliced_nil ⟨by simp[sizeLine],?_⟩));have mk':=mk.push (e8 [.none]) rfl;exact lQ (s:={s with heap:=s.heap.push (e8 [.none])}) sa mk' (pN (s:={s with heap:=s.heap.push (e8 [.none])}) X₀ so mk' hc λh' tk q=>h h' tk q)
theorem yZ{nm:Str}{Q:FS}(X₀:G.K.In h₀)(so:gj G.K C nm)(sa:f7 env L x m)(mk:Mk C x dx L h₀ m g c ex s.heap)(hc:c<1000)
 (h:∀h' tk,Mk C x dx L h₀ m (λy=>if y=nm then some (.ref s.heap.objs.size)else g y) (c+1) ((s.heap.objs.size,emptyDict)::ex) h'→Q .next {s with heap:=h',toks:=tk}):WG G A (exec (.Assign [.Attribute (.Name "self" p1) nm p2] (.Dict [] [] p3) pos) env) Q E s:=by
 refine QU (wpAny_Dict_empty ?_) rfl;have mk':=mk.push emptyDict rfl;exact lQ (s:={s with heap:=s.heap.push emptyDict}) sa mk' (pN (s:={s with heap:=s.heap.push emptyDict}) X₀ so mk' hc λh' tk q=>h h' tk q)
theorem pK{nm:Str}{p1 p2 pos:Pos}{e:Expr}{v:Value}{Q:FS}(X₀:G.K.In h₀)(so:gj G.K C nm)(sa:f7 env L x m)(mk:Mk C x dx L h₀ m g c ex s.heap)(hc:c<1000)(hsw:∀t l,swapsWith e t l env=pure false)
 (he:∀(Q:VS),(∀tk v,Q v {s with toks:=tk})→WG G A (eval e env) Q E s)
 (h:∀h' tk v,Mk C x dx L h₀ m (λy=>if y=nm then some v else g y) (c+1) ex h'→Q .next {s with heap:=h',toks:=tk}):WG G A (exec (.Assign [.Attribute (.Name "self" p1) nm p2] e pos) env) Q E s:=by
 refine QU (he _ λtk v=>?_) (hsw _ _);exact lQ (s:={s with toks:=tk}) sa mk (pN (s:={s with toks:=tk}) X₀ so mk hc λh' tk q=>h h' tk v q)
end
section
variable{G:GE}{x y:Cf}{A:Around}{d:Nat}{mg mb:Str→Option Value}
theorem av.marks(I:av G x){S':St}{Ts:List (List V)}{ts:List TA}{w':Addr→Option fL}{s':Shared}(hS:S'.h=x.S.h∧S'.o=x.S.o)(hw:∀b o,x.h.get? b=some o→w' b=x.w b)(k:bE x.h s'.heap)(g:s'.gens=x.s.gens)(os:s'.os=x.s.os) (live:∀b r,x.h.get? b=none→w' b=some r→∃o,s'.heap.get? b=some o∧o.cls≠.type "tuple")
 (cost:cA (x.T++Ts)+S'.c≤cA x.T+x.S.c) (len:ts.length=Ts.length) (n:S'.n=(x.T++Ts).length) (late:S'.late=true→x.S.late=true∧S'.n=x.S.n) (ok:∀R∈Ts,∀(i j:Nat)(r:V),R[i]?=some r→R[j]?=some r→i=j)
 (tab:Lm [] x {x with S:=S',T:=x.T++Ts,τ:=x.τ++ts,w:=w',s:=s'}→∀(j:Nat) R t,Ts[j]?=some R→ts[j]?=some t→TR G {x with S:=S',T:=x.T++Ts,τ:=x.τ++ts,w:=w',s:=s'} (x.T.length+j) R t):Nx G [] x {x with S:=S',T:=x.T++Ts,τ:=x.τ++ts,w:=w',s:=s'}:=by
 have L:Lm [] x {x with S:=S',T:=x.T++Ts,τ:=x.τ++ts,w:=w',s:=s'}:=⟨⟨λk R e=>⟨[],by rw[Qy];exact(Qq (PO.mp e).1).trans e⟩,λi t e=>(Qq (PO.mp e).1).trans e,λb o e n Y=>⟨k b o e,(hw b o e).trans n⟩,λb o e n=>⟨k b o e,(hw b o e).trans n⟩⟩,λY Y e=>e⟩
 have old:∀b r,x.w b=some r→s'.heap.get? b=x.h.get? b∧w' b=x.w b:=λb r e=>by refine X2 (I.live b r e) λo eo Y=>?_;exact⟨by rw[eo];exact k b o eo,hw b o eo⟩
 refine⟨⟨L,λb o e n=>⟨k b o e,(hw b o e).trans n⟩,cost,g,os⟩,I.go (y:={x with S:=S',T:=x.T++Ts,τ:=x.τ++ts,w:=w',s:=s'}) L .nil (PM cost I.room) (λb r e=>?_) (by rw[I.ρlen,hS.1]) (λi o a h1 h2=>.inl ⟨hS.1▸h1,h2,λnz=>old a _ ((I.obj i o a (hS.1▸h1) h2).2 nz)⟩) (by rw[PX,PX,I.τlen,len]) (λj R t h1 h2=>?_) (λj R e=>?_) n (λh=>.inl (late h)) λp h=>.inl (hS.2▸h)⟩
 ·cases q:x.h.get? b with
  |none=>exact live b r q e
  |some o=>have e:x.w b=some r:=(hw b o q).symm.trans e;refine X2 (I.live b r e) λo' e' c=>?_;exact aB o' (k b o' e') c
 ·have h1:(x.T++Ts)[j]?=some R:=h1;have h2:(x.τ++ts)[j]?=some t:=h2;by_cases q:j<x.T.length
  ·rw[Qq q]at h1;rw[Qq (I.τlen▸q)]at h2;have r:=(I.tab j R t h1 h2).roles;exact .inl ⟨h1,h2,λb hb=>hb.elim (λz=>z▸old _ _ r.1) λz=>z▸old _ _ r.2⟩
  ·rw[Q1 (Ro q)]at h1;rw[Q1 (I.τlen▸Ro q),I.τlen]at h2;have:=tab L _ R t h1 h2;rw[R4 (Ro q)]at this;exact .inr this
 ·by_cases q:j<x.T.length
  ·rw[Qq q]at e;exact I.ok j R e
  ·rw[Q1 (Ro q)]at e;exact ok R (PZ.mpr ⟨_,e⟩)
theorem DE{rest:List Value}(aok:bK A (d+1)):bK (A.under (.builtin "type.__call__" ⟨.ref C::rest,kw⟩)) d:=by exact⟨aok.handled,(Nq (k:=1) aok.units rfl:A.units+1+3*d+100<cLine),(by rw[Rc,RJ 1];exact aok.depth:A.depth+1+d<recursionLimit)⟩
theorem rM{C fI:Addr}{fdI:FuncData}{bodyI:List Stmt}{fn:Fn}{ws:List Value}{E:VS}(kl:Kl G)(lim:G.base.NoLimit)(mkc:makesIn G.K C=true) (init:PySem.W.findIn G.K (.ref C) "__init__"=some (some (.ref fI))) (ty:typeIn G.K (.ref fI)=some (.type "function"))
 (ok:jf G fn fI fdI bodyI []) (hp:fn.params=ws.length+1) (hself:fdI.scope.names[0]?=some (Str.ofString "self",.local)) (aok:bK A (d+3)) (I:av G x)
 (h:∀env s₁ m A' E',Sc fdI.scope.names env→(∀y,env.kindOf y=fdI.scope.names.lookup y)→bK A' (d+1)→s₁.gens=x.s.gens→s₁.os=x.s.os→x.h.objs.size+1<env.locals→f7 env env.locals (x.h.objs.size+1) m→Mk C (x.h.objs.size+1) x.h.objs.size env.locals x.h m (λz=>none) 0 [] s₁.heap→
  (∀(j:Nat) y w,fdI.scope.names[j+1]?=some (y,.local)→ws[j]?=some w→m y=some w)→wpAny (model G.prog G.w) A' (execs bodyI env) (λf s'=>f=.next∧Q (.ref (x.h.objs.size+1)) s') E' s₁) :
 WG G A (call (.ref C) ws) Q E x.s:=by
 have X:G.K.In x.h:=kl.X.keeps λb o e=>I.base b o e;obtain⟨S,T,ρ,τ,w,hh,g,dd,t,os⟩:=x;refine wpAny_call (make_core (makes_of X mkc) (looks_findIn X init) (λself=>bind_fn X self ty) (.inl rfl) ?_);have K1:bE hh ((hh.push emptyDict).push (instObj C hh.objs.size)):=bE.two _ _ _;refine mN (d:=d+1) (fw:=.ref (hh.objs.size+1)::ws) (s:=⟨(hh.push emptyDict).push (instObj C hh.objs.size),g,dd,t,os⟩) lim ok (DE (d:=d+2) aok) (λb o e=>K1 b o (I.base b o e)) (by rw[hp];exact Qi _) (by rw[hp];exact Qi _) (by rw[List.drop_nil,Qy]) (by rw[hp];rfl) λenv s₁ m cm E' st hkd c aok' g1 o1 z hl z=>?_;have hL:hh.objs.size+1<env.locals:=by
  have:=c.toInCall.fresh;have e:((hh.push emptyDict).push (instObj C hh.objs.size)).objs.size=hh.objs.size+1+1:=by rw[Rt,Rt]
  have this:((hh.push emptyDict).push (instObj C hh.objs.size)).objs.size≤env.locals:=this;rw[e]at this;exact this
 refine wpAny_mono (h env s₁ m _ E' st hkd aok' g1 o1 hL ⟨st.kind,rfl,by rw[hkd];exact fe (jD 0 ok.names hself),hl 0 _ _ hself rfl⟩ ?_ λj y w hj hw=>hl (j+1) y w hj hw) (λf s' hf=>?_) λz z e=>e
 ·refine Kq [] 0 ⟨c.toInCall.ns,λb o e=>c.toInCall.keep b o (K1 b o e),Rm (lt_of_succ_lt hL)⟩ (λq hq=>?_) (λy=>rfl) (Qi _) (λq hq=>(az hq)) (Nat.succ_ne_self _);have g1:((hh.push emptyDict).push (instObj C hh.objs.size)).get? hh.objs.size=some emptyDict:=PY _ (P2 _ rfl);have g2:((hh.push emptyDict).push (instObj C hh.objs.size)).get? (hh.objs.size+1)=some (instObj C hh.objs.size):=by
   have:=P2 (hh.push emptyDict) (o:=instObj C hh.objs.size) rfl;rwa [Rt]at this
  rcases P4.mp hq with rfl|hq
  ·exact⟨c.toInCall.keep _ _ g1,Q9 (lt_of_succ_lt hL),bh _⟩
  ·rcases P4.mp hq with rfl|hq
   ·exact⟨c.toInCall.keep _ _ g2,Q9 hL,Q5 (le_succ _)⟩
   ·exact az hq
 ·obtain⟨rfl,hf⟩:=hf;exact⟨rfl,hf⟩
noncomputable def ja:aI:=[("self",.local),("tab",.local),("MOST_ROUNDS",.globalImplicit),("MOST_SHAPES",.globalImplicit)]
structure y6 (G:GE) (mg:Str→Option Value) (fI:Addr) (fdI:FuncData) (p:Nat→Pos):Prop where
 mkc:makesIn G.K G.CH=true
 init:PySem.W.findIn G.K (.ref G.CH) "__init__"=some (some (.ref fI))
 ty:typeIn G.K (.ref fI)=some (.type "function")
 ok:jf G ⟨2,4,[],.open_,[]⟩ fI fdI [
  .Assign [.Attribute (.Name "self" (p 0)) "tab" (p 1)] (.Name "tab" (p 2)) (p 3),
  .Assign [.Attribute (.Name "self" (p 4)) "deep" (p 5)] (.Constant (.int 0) 0 (p 6)) (p 7),
  .Assign [.Attribute (.Name "self" (p 8)) "most_rounds" (p 9)] (.Name "MOST_ROUNDS" (p 10)) (p 11),
  .Assign [.Attribute (.Name "self" (p 12)) "most_deep" (p 13)] (.Name "MOST_SHAPES" (p 14)) (p 15),
  .Assign [.Attribute (.Name "self" (p 16)) "lib" (p 17)] (.Constant .none 0 (p 18)) (p 19)] []
 names:fdI.scope.names=ja
 so:∀nm∈["tab","deep","most_rounds","most_deep","lib"],gj G.K G.CH (Str.ofString nm)
 rounds:∃w,mg "MOST_ROUNDS"=some w
 shapes:∃w,mg "MOST_SHAPES"=some w
theorem Ax{p:Nat→Pos}(kl:Kl G)(gb:jk G mg mb)(lim:G.base.NoLimit)(tc:y6 G mg fI fdI p)(aok:bK A (d+3)):oX G A:=by
 intro x E K Q kt xv I rt k q;have hn:=tc.names;have X:G.K.In x.h:=kl.X.keeps λb o e=>I.base b o e;refine rM (fn:=⟨2,4,[],.open_,[]⟩) kl lim tc.mkc tc.init tc.ty tc.ok rfl (by rw[hn];rfl) aok I λenv s₁ m A' E' st hkd aok' g1 o1 hL sa mk0 hm=>?_;rw[hn]at st hkd hm;have so:=tc.so;refine X1 tc.rounds λw1 hw1=>?_;refine X1 tc.shapes λw2 hw2=>?_;have glo:∀{y:Str}{w:Value}{pp:Pos}{h:Heap}{tk:Tok}{c:Nat}{g':Str→Option Value}{Q:VS},ja.lookup y=some .globalImplicit→(y==("__debug__" : Str))=false→mg y=some w→Mk G.CH (x.h.objs.size+1) x.h.objs.size env.locals x.h m g' c [] h→Q w {s₁ with heap:=h,toks:=tk}→
  wpAny (model G.prog G.w) A' (eval (.Name y pp) env) Q E' {s₁ with heap:=h,toks:=tk}:=by
  intro y w pp h tk c g' Q h1 h2 h3 mk hQ;refine RC st.kind ((hkd y).trans h1) (loadGlobal_global (mg:=mg) ?_ h3 hQ) h2;rw[st.glob];refine J2 gb.mg λo es ep e r=>?_;exact tX o es ep (mk.keep _ _ (I.base _ _ e)) r
 refine Qh (QU (wpAny_Name (Rh st.kind ((hkd _).trans rfl) mk0.ns (hm 0 _ xv rfl rfl) (lQ sa mk0 (pN (G:=G) X (so "tab" (by simp)) mk0 (by omega) λh1 tk1 mk1=>?_))) (by decide)) rfl);refine Qh (pK (G:=G) (v:=.none) (s:={s₁ with heap:=h1,toks:=tk1}) X (so "deep" (by simp)) sa mk1 (by omega) (λY Y=>rfl) (λQ h=>wpAny_Constant_int (h _ _)) λh2 tk2 v2 mk2=>?_);refine Qh (pK (G:=G) (v:=.none) (s:={s₁ with heap:=h2,toks:=tk2}) X (so "most_rounds" (by simp)) sa mk2 (by omega) (λY Y=>rfl) (λQ h=>glo rfl (by decide) hw1 mk2 (h tk2 w1)) λh3 tk3 v3 mk3=>?_);refine Qh (pK (G:=G) (v:=.none) (s:={s₁ with heap:=h3,toks:=tk3}) X (so "most_deep" (by simp)) sa mk3 (by omega) (λY Y=>rfl) (λQ h=>glo rfl (by decide) hw2 mk3 (h tk3 w2)) λh4 tk4 v4 mk4=>?_);refine Qh (pK (G:=G) (v:=.none) (s:={s₁ with heap:=h4,toks:=tk4}) X (so "lib" (by simp)) sa mk4 (by omega) (λY Y=>rfl) (λQ h=>wpAny_Constant_none (h tk4 .none)) λh tk v5 mk5=>?_);refine Rk ⟨rfl,?_⟩;obtain⟨es,n,F,N,hg,hl,hapx,hne⟩:=mk5;have nx:=N _ (mt mh);have nd:=N _ mh;obtain⟨w',hw'⟩:∃w',w'=λb=>if b=x.h.objs.size+1∨b=x.h.objs.size then some .pr else x.w b:=⟨_,rfl⟩
 have nn:=I.marks (S':=x.S) (Ts:=[]) (ts:=[]) (w':=w') (s':={s₁ with heap:=h,toks:=tk}) ⟨rfl,rfl⟩ (λb o e=>hw'▸Qv λz=>z.elim (λz=>by rw[z,nx.2.2]at e;exact ah e) λz=>by rw[z,nd.2.2]at e;exact ah e) F.keep g1 o1
  (λb r e h=>by
   rw[hw']at h;by_cases z:b=x.h.objs.size+1∨b=x.h.objs.size
   ·rcases z with rfl|rfl
    ·exact aB _ nx.1 (λz=>nomatch z)
    ·exact aB _ nd.1 ((by decide:Value.type "dict"≠.type "tuple"))
   ·have h:(if b=x.h.objs.size+1∨b=x.h.objs.size then some .pr else x.w b)=some r:=h;rw[Qv z,I.fresh e]at h;exact ah h) (by rw[Qy];exact Qi _) rfl (by rw[Qy];exact I.n) (λh=>⟨h,rfl⟩) (λR h=>az h) λY j R t h=>ah h
 obtain⟨o,rfl,t,ht,rfl⟩:=rt;refine q _ {x with T:=x.T++[],τ:=x.τ++[],w:=w',s:={s₁ with heap:=h,toks:=tk}} _ k nn ⟨_,rfl,t,x.h.objs.size,es,n,nn.le.τ _ _ ht,nx.1,nd.1,⟨by rw[hw'];exact Qx (.inl rfl),by rw[hw'];exact Qx (.inr rfl)⟩,?_,?_,?_⟩;all_goals (rw[hg];rfl)
end
noncomputable def gz:aI:=[("self",.local),("row",.local),("FIRST_ROWS",.globalImplicit)]
noncomputable def mX(p:Nat→Pos):List Stmt:=[
 .Assign [.Attribute (.Name "self" (p 0)) "rows" (p 1)] (.List [] (p 2)) (p 3),
 .Assign [.Attribute (.Name "self" (p 4)) "index" (p 5)] (.Dict [] [] (p 6)) (p 7),
 .Assign [.Attribute (.Name "self" (p 8)) "decls" (p 9)] (.List [.Constant .none 0 (p 10)] (p 11)) (p 12),
 .Assign [.Attribute (.Name "self" (p 13)) "bounds" (p 14)] (.List [] (p 15)) (p 16),
 .Assign [.Attribute (.Name "self" (p 17)) "defaults" (p 18)] (.List [] (p 19)) (p 20),
 .Assign [.Attribute (.Name "self" (p 21)) "names" (p 22)] (.List [] (p 23)) (p 24),
 .Assign [.Attribute (.Name "self" (p 25)) "origins" (p 26)] (.Dict [] [] (p 27)) (p 28),
 .Assign [.Attribute (.Name "self" (p 29)) "renamed" (p 30)] (.Dict [] [] (p 31)) (p 32),
 .Assign [.Attribute (.Name "self" (p 33)) "shaping" (p 34)] (.Constant (.int 0) 0 (p 35)) (p 36),
 .Assign [.Attribute (.Name "self" (p 37)) "putting" (p 38)] (.Constant (.int 0) 0 (p 39)) (p 40),
 .For (.Name "row" (p 41)) (.Name "FIRST_ROWS" (p 42)) [.Expr (.Call (.Attribute (.Name "self" (p 43)) "put" (p 44)) [.Name "row" (p 45)] [] (p 46)) (p 47)] [] (p 48)]
section
variable{G:GE}{x:Cf}{A:Around}{d:Nat}{mg mb:Str→Option Value}
structure rI (G:GE) (mg:Str→Option Value) (fI:Addr) (fdI:FuncData) (p:Nat→Pos) (fP:Addr) (fdP:FuncData) (pp:Nat→Pos):Prop where
 mkc:makesIn G.K G.CT=true
 init:PySem.W.findIn G.K (.ref G.CT) "__init__"=some (some (.ref fI))
 ty:typeIn G.K (.ref fI)=some (.type "function")
 ok:jf G ⟨1,3,[],.open_,[]⟩ fI fdI (mX p) []
 names:fdI.scope.names=gz
 so:∀nm∈["rows","index","decls","bounds","defaults","names","origins","renamed","shaping","putting"],gj G.K G.CT (Str.ofString nm)
 put:kA G G.CT "put" fP fdP
 pok:jf G ⟨2,4,[],.open_,[]⟩ fP fdP (jH pp) []
 pnames:fdP.scope.names=fF
 first:∃a,mg "FIRST_ROWS"=some (.ref a)∧∀x,av G x→RV G x (.tp ax) (.ref a)
 line:((p 44).endLine==(p 46).line)=true
 pline:((pp 17).endLine==(pp 19).line)=true
theorem pT:∀i:Nat,i<16→∃r,ax[i]?=some r∧dc r (ax.take i) 0=none∧ax.take (i+1)=ax.take i++[r]:=by
 intro i h;match i,h with
 |0,_|1,_|2,_|3,_|4,_|5,_|6,_|7,_|8,_|9,_|10,_|11,_|12,_|13,_|14,_|15,_=>exact eJ _ rfl rfl rfl
 |n+16,h=>exact absurd h (by omega)
theorem mR(k:Nat):∀r∈ax,fS k r=true:=P5.mp (show ax.all (fS k)=true from rfl)
structure Up (G:GE) (x:Cf) (L inst dx rws idx:Addr) (es:List DictEntry) (n i:Nat) (s:Shared):Prop where
 old:bE x.h s.heap
 g:s.gens=x.s.gens
 os:s.os=x.s.os
 ns:∃m,s.heap.Ns L m∧m "self"=some (.ref inst)
 inst:s.heap.get? inst=some ⟨.ref G.CT,some dx,.plain,#[]⟩
 dict:s.heap.get? dx=some (PySem.W.dictOf es n)
 rows:∃xs,aN s.heap rws xs∧aw (RV G x) (ax.take i) xs
 index:∃m,s.heap.DictOfH (dB G.prog G.w) idx m∧sS x.T (ax.take i) m
variable{L inst dx rws idx It:Addr}{i:Nat}{s':Shared}{E:VS}
theorem Up.kt(u:Up G x L inst dx rws idx es n i s)(sb:∀b o,b≠It→s.heap.get? b=some o→s'.heap.get? b=some o)(hIt:∀ys,¬aK s.heap It ys):∀b ys,aK s.heap b ys→aK s'.heap b ys:=λb ys t=>sb b _ (λz=>hIt ys (z▸t)) t
theorem Up.step(u:Up G x L inst dx rws idx es n i s)(sb:∀b o,b≠It→s.heap.get? b=some o→s'.heap.get? b=some o)(g:s'.gens=s.gens)(os:s'.os=s.os)(hIt:∀ys,¬aK s.heap It ys)(hx:x.h.get? It=none)(h1:inst≠It)(h2:dx≠It)(h3:rws≠It)(h4:idx≠It)
 (ns:∃m,s'.heap.Ns L m∧m "self"=some (.ref inst)):Up G x L inst dx rws idx es n i s':=
 ⟨λb o e=>sb b o (λz=>by rw[z,hx]at e;exact ah e) (u.old b o e),g.trans u.g,os.trans u.os,ns,sb _ _ h1 u.inst,sb _ _ h2 u.dict,u.rows.imp λxs r=>⟨r.1.imp λy e=>sb _ _ h3 e,r.2⟩,u.index.imp λm r=>⟨by
  refine J2 (id r.1) λo es ep e q=>?_;exact gQ ((sb _ _ h4 e).trans e.symm) (u.kt sb hIt) r.1,r.2⟩⟩
theorem Jr{pp p:Nat→Pos}(kl:Kl G)(gb:jk G mg mb)(lim:G.base.NoLimit) (hlen1:mg "len"=none) (hlen2:mb "len"=some (.builtin "len")) (tc:rI G mg fI fdI p fP fdP pp) (aok:bK A (d+1)) (I:av G x)
 (fr:∀b,b=L∨b=rws∨b=idx∨b=inst∨b=dx→x.h.get? b=none) (d1:rws≠idx) (d2:rws≠inst) (d3:rws≠dx) (d4:idx≠inst) (d5:idx≠dx) (d6:L≠rws) (d7:L≠idx) (g1:getL "rows" es=some (some (.ref rws))) (g2:getL "index" es=some (some (.ref idx)))
 (hi:i<16) (hr:ax[i]?=some r) (rv:RV G x r w) (u:Up G x L inst dx rws idx es n i s) (q:∀v s',Up G x L inst dx rws idx es n (i+1) s'→(∀b o,b≠rws→b≠idx→s.heap.get? b=some o→s'.heap.get? b=some o)→Q v s'):WG G A (call (.ref fP) [.ref inst,w]) Q E s:=by
 obtain⟨a,dd,rfl,rd,hk⟩:=yk (mR 0 r (PZ.mpr ⟨_,hr⟩)) rv;refine X3 (pT i hi) λr' hr' hnew htake=>?_;cases hr.symm.trans hr';refine X2 u.rows λxs hrows rxs=>?_;refine X2 u.index λmm hm hms=>?_;have lt:(ax.take i).length=i:=by rw[RZ];exact Nat.min_eq_left (Rm hi)
 have lx:xs.length=i:=rxs.len.symm.trans lt;have base:bE G.base s.heap:=λb o e=>u.old b o (I.base b o e);refine wpAny_call (mN lim tc.pok aok base (Qi _) (Qi _) rfl rfl λenv s₁ m cm E' st hkd c aok' g o Y hl Y=>?_);rw[tc.pnames]at st hl;have ol:bE s.heap s₁.heap:=c.toInCall.keep;have kt:∀b ys,aK s.heap b ys→aK s₁.heap b ys:=λb ys e=>ol _ _ e;have hL:s.heap.get? env.locals=none:=Q5 c.toInCall.fresh;have ne:∀{b o},s.heap.get? b=some o→b≠env.locals:=λe z=>by rw[z,hL]at e;exact ah e
 refine X1 (id hrows) λkr hr0=>?_;refine J2 (id hm) λoi Y Y ei oq=>?_;have nb:∀b,x.h.get? b=none→G.base.get? b=none:=λb=>I.nobase;have w0:PW G env inst dx rws idx a dd es n m mm xs s₁.heap:=⟨λb o e=>ol b o (base b o e),ol _ _ u.inst,ol _ _ u.dict,qc (λb ys e=>ol _ _ (u.old _ _ e)) hk,c.toInCall.ns,hrows.imp λY e=>ol _ _ e,gQ (by rw[ei];exact ol _ _ ei) kt hm⟩
 have nd:(mm.map (·.1)).Nodup:=by obtain⟨_,_,_,_,_,_,_,_,nd⟩:=hm;exact nd
 have hno:∀b v,atKey mm dd≠some (b,v):=λb v e=>by unfold atKey at e;refine X2 (Qr.mp e) λq hq Y=>?_;refine X1 (PZ.mp (List.mem_of_find?_eq_some hq)) λj hj=>?_;have hjl:j<(ax.take i).length:=hms.1▸(PO.mp hj).1;refine J2 (hms.2 j _ (Qg hjl)) λd' a' t' h1 h2=>?_;rw[hj]at h1;replace h1:=PG h1;subst h1;have:d'=dd:=PI (List.find?_some (p:=λx:D×Addr×Value=>decide (x.1=dd)) hq);subst this;have hm':=getElem_mem hjl;have:=zL I.ok (mR 0 _ (List.mem_of_mem_take hm')) (mR 0 r (PZ.mpr ⟨_,hr⟩)) h2 rd;exact mP hnew (this▸hm')
 refine yg (d:=d) kl aok' gb hlen1 hlen2 tc.pline st (λb hb=>?_) d1 (ne hr0) (ne ei) (R5.mpr λz=>?_) w0 (hl 0 _ _ rfl rfl) (hl 1 _ _ rfl rfl) g1 g2 (by rw[lx];exact PM (Rm hi) (ag rfl)) (by rw[hms.1,lt];exact PM (Rm hi) (ag rfl)) (λb v tk e=>absurd e (hno b v)) λh' tk t1 t2 m' e hsame w'=>?_
 ·rcases hb with rfl|rfl|rfl
  ·exact⟨nb _ (jv (x:=x) (y:=x.to s) u.old hL),(ne u.inst).symm,(ne u.dict).symm⟩
  ·exact⟨nb _ (fr _ (.inr (.inl rfl))),d2,d3⟩
  ·exact⟨nb _ (fr _ (.inr (.inr (.inl rfl)))),d4,d5⟩
 ·refine X1 I.sys λo e=>?_;have:=nb _ (fr _ (.inr (.inr (.inl rfl))));rw[z,e]at this;exact qE this
 ·have hk2:∀b o,b≠rws→b≠idx→s.heap.get? b=some o→h'.get? b=some o:=λb o b1 b2 e=>(hsame b (ne e) b1 b2).trans (ol b o e);refine q _ _ ⟨λb o e=>hk2 b o (λz=>by rw[z,fr _ (.inr (.inl rfl))]at e;exact ah e) (λz=>by rw[z,fr _ (.inr (.inr (.inl rfl)))]at e;exact ah e) (u.old b o e),g.trans u.g,o.trans u.os,?_,w'.inst,w'.dict,⟨_,w'.rows,?_⟩,⟨_,w'.index,?_⟩⟩ hk2
  ·obtain⟨m0,⟨o,es,ep,e,r⟩,h⟩:=u.ns;exact aB m0 ⟨o,es,ep,hk2 _ _ d6 d7 e,r⟩ h
  ·rw[htake];exact rxs.app (.cons rv .nil)
  ·rw[htake];have:=hms.concat (a:=a) (t:=t1) rd;rw[show(List.take i ax).length=xs.length from rxs.len]at this;exact this
variable{inst dx rws idx:Addr}{s':Shared}{E:VS}{pp p:Nat→Pos}
theorem Hr{Q:FS}(kl:Kl G)(gb:jk G mg mb)(lim:G.base.NoLimit) (hlen1:mg "len"=none) (hlen2:mb "len"=some (.builtin "len")) (tc:rI G mg fI fdI p fP fdP pp) (aok:bK A (d+1)) (I:av G x) (st:Sc gz env)
 (fr:∀b,b=env.locals∨b=rws∨b=idx∨b=inst∨b=dx→x.h.get? b=none) (d1:rws≠idx) (d2:rws≠inst) (d3:rws≠dx) (d4:idx≠inst) (d5:idx≠dx) (d6:env.locals≠rws) (d7:env.locals≠idx) (d8:env.locals≠inst) (d9:env.locals≠dx) (g1:getL "rows" es=some (some (.ref rws))) (g2:getL "index" es=some (some (.ref idx))) (g3:getL "put" es=some none)
 (u:Up G x env.locals inst dx rws idx es n 0 s) (q:∀s',Up G x env.locals inst dx rws idx es n 16 s'→Q .next s'):WG G A (exec (.For (.Name "row" (p 41)) (.Name "FIRST_ROWS" (p 42)) [.Expr (.Call (.Attribute (.Name "self" (p 43)) "put" (p 44)) [.Name "row" (p 45)] [] (p 46)) (p 47)] [] (p 48)) env) Q E s:=by
 refine X2 tc.first λaF hF rF=>?_
 refine Y5 (rF x I) λY ys e ha hn Y rys=>?_;cases e;have rys:aw (RV G x) ax ys:=bP.all (G:=G) (x:=x) (l:=ax) rys;have ly:ys.length=16:=rys.len.symm;have kl':∀{y:Str}{j:Nat},bl y gz 0=some (j,.local)→env.kindOf y=some .local:=λe=>(st.kd _ _ _ e).resolve_right λq=>nomatch q.1;refine wpAny_For (RC st.kind ((st.kd 2 "FIRST_ROWS" .globalImplicit rfl).resolve_right λq=>nomatch q.1) (loadGlobal_global (mg:=mg) ?_ hF ?_) (by decide)) (λy=>rfl)
 ·rw[st.glob];refine J2 gb.mg λo es ep e r=>?_;exact tX o es ep (u.old _ _ (I.base _ _ e)) r
 have ht:aK s.heap aF ys:=u.old _ _ ha;refine wpAny_pyIter_tuple ht.isTuple ?_;have hIt:s.heap.get? s.heap.objs.size=none:=bh _;have alive:∀{b o},s.heap.get? b=some o→b≠s.heap.objs.size:=λe z=>by rw[z,hIt]at e;exact ah e
 have xIt:x.h.get? s.heap.objs.size=none:=jv (x:=x) (y:=x.to s) u.old hIt;have nL:env.locals≠s.heap.objs.size:=u.ns.elim λm h=>by obtain⟨⟨o,es,ep,e,_⟩,_⟩:=h;exact alive e
 have nR:rws≠s.heap.objs.size:=u.rows.elim λxs h=>h.1.elim λk e=>alive e;have nI:idx≠s.heap.objs.size:=u.index.elim λm h=>by obtain⟨⟨o,es,ep,e,_⟩,_⟩:=h;exact alive e
 have nF:aF≠s.heap.objs.size:=alive ht;have ni:=alive u.inst;have nd:=alive u.dict;have u0:Up G x env.locals inst dx rws idx es n 0 {s with heap:=s.heap.push {cls:=.type "tuple_iterator",data:=.fields #[.ref aF,.int 0 0]}}:=by refine u.step (It:=s.heap.objs.size) (λb o Y e=>PY _ e) rfl rfl (λys t=>by unfold aK at t;rw[hIt]at t;exact ah t) xIt ni nd nR nI ?_;obtain⟨m,⟨o,es,ep,e,r⟩,h⟩:=u.ns;exact aB m ⟨o,es,ep,PY _ e,r⟩ h
 have it0:(s.heap.push {cls:=.type "tuple_iterator",data:=.fields #[.ref aF,.int 0 0]}).IsTupleIter s.heap.objs.size aF 0:=⟨_,P2 _ rfl,rfl,rfl⟩
 generalize s.heap.push {cls:=.type "tuple_iterator",data:=.fields #[.ref aF,.int 0 0]}=h0 at u0 it0 ⊢;generalize s.heap.objs.size=It at hIt xIt nL nR nI nF ni nd it0 ⊢;have Wk:=Walks.tuple (prog:=G.prog) (w:=G.w) (A:=A) aok.handled It aF nF ys.toArray;refine codeAny_forLoop (λk s₁=>∃i,i≤16∧k=16-i∧Up G x env.locals inst dx rws idx es n i s₁∧s₁.heap.IsTupleIter It aF i) (λk s₁ hI=>?_) 16 ⟨0,Qc _,rfl,u0,it0⟩;obtain⟨i,hi,rfl,u1,it⟩:=hI;have ht1:aK s₁.heap aF ys:=u1.old _ _ ha;have nt:∀{h:Heap}{j:Nat},h.IsTupleIter It aF j→∀ys,¬aK h It ys:=λ⟨o,e,c,_⟩ ys t=>by unfold aK at t;rw[e]at t;replace t:=PG t;subst t;exact absurd c (by decide:Value.type "tuple"≠.type "tuple_iterator")
 by_cases h16:i=16
 ·subst h16;refine Wk.done s₁ _ _ ⟨by rw[P9,ly];exact it,ht1.isTuple⟩ λh' tk k=>Rk (q _ (u1.step (It:=It) (λb o nb e=>k b o (λz=>nb (PH.mp z)) e) rfl rfl (nt it) xIt ni nd nR nI ?_));obtain⟨m,⟨o,es,ep,e,r⟩,h⟩:=u1.ns;exact aB m ⟨o,es,ep,k _ _ (λz=>nL (PH.mp z)) e,r⟩ h
 ·have hlt:i<16:=lt_of_le_of_ne hi h16;refine Wk.item i s₁ _ _ (by rw[P9,ly];exact hlt) ⟨it,ht1.isTuple⟩ λw h' tk hv stt k=>?_;have hv:ys[i]?=some w:=by simpa using hv
  refine X2 (pT i hlt) λr hr Y=>?_;refine X2 (rys.get hr) λw' hw rv=>?_;rw[hv]at hw;replace hw:=PG hw;subst hw;obtain⟨m,⟨o,es',ep,eL,rL⟩,hm⟩:=u1.ns;have u2:Up G x env.locals inst dx rws idx es n i {s₁ with heap:=h',toks:=tk}:=u1.step (It:=It) (λb o nb e=>k b o (λz=>nb (PH.mp z)) e) rfl rfl (nt it) xIt ni nd nR nI ⟨m,⟨o,es',ep,k _ _ (λz=>nL (PH.mp z)) eL,rL⟩,hm⟩;refine RU (wpAny_storeName_local (s:={s₁ with heap:=h',toks:=tk}) (kl' (j:=1) rfl) ⟨o,es',ep,k _ _ (λz=>nL (PH.mp z)) eL,rL⟩ (λh3 hn3 hs3=>?_) (by rw[st.kind];rfl));have nsL:∀ys,¬aK h' env.locals ys:=λys t=>by unfold aK at t;rw[k _ _ (λz=>nL (PH.mp z)) eL]at t;replace t:=PG t;subst t;exact nomatch rL.1
  have u3:Up G x env.locals inst dx rws idx es n i {s₁ with heap:=h3,toks:=tk+1}:=u2.step (It:=env.locals) (λb o nb e=>(hs3.2 b nb).trans e) rfl rfl nsL (fr _ (.inl rfl)) d8.symm d9.symm d6.symm d7.symm ⟨_,hn3,(Qv (by decide)).trans hm⟩;have it3:h3.IsTupleIter It aF (i+1):=stt.1.imp λo e=>⟨(hs3.2 _ nL.symm).trans e.1,e.2⟩
  have v2:(if Str.ofString "row"=Str.ofString "row" then some w else m "row")=some w:=Qx rfl;refine Qh (wpAny_Expr_any (ti (G:=G) rfl rfl tc.line (wpAny_Name (Rh st.kind (kl' (j:=0) rfl) hn3 ((Qv (by decide)).trans hm) λpl=>?_) (by decide))) (by delta interactive;rw[st.kind];rfl) rfl);refine X2 tc.put.at_ λof hof hfd=>?_;have hb3:bE G.base h3:=λb o e=>u3.old b o (I.base b o e);refine method_fn (s:={s₁ with heap:=h3,toks:=tk+1}) (kl.X.keeps hb3) (ox:=⟨.ref G.CT,some dx,.plain,#[]⟩) (od:=some (PySem.W.dictOf es n)) ⟨u3.inst,rfl,rfl,u3.dict⟩ tc.put.ga tc.put.gn tc.put.find tc.put.ty (qr g3) ?_;refine RM (o:=of) (fd:=fdP) (cG (RO (wpAny_Name (Rh (s:={s₁ with heap:=h3,toks:=tk+1}) st.kind (kl' (j:=1) rfl) hn3 v2 (spliced_nil ⟨⟨hb3 _ _ hof,hfd⟩,?_⟩)) (by decide))));refine Jr (d:=d) kl gb lim hlen1 hlen2 tc aok I fr d1 d2 d3 d4 d5 d6 d7 g1 g2 hlt hr rv u3 λv s4 u4 k4=>Rk ⟨16-(i+1),Br hlt,i+1,hlt,rfl,u4,it3.imp λo e=>⟨k4 _ _ nR.symm nI.symm e.1,e.2⟩⟩
end
section
variable{G:GE}{y:Cf}{A:Around}{d:Nat}{mg mb:Str→Option Value}{pp p:Nat→Pos}
def oO(C x dx L:Addr)(h₀:Heap)(m:Str→Option Value)(r i:Addr)(c:Nat)(h:Heap):Prop:=∃g l,Mk C x dx L h₀ m g c l h∧g "rows"=some (.ref r)∧g "index"=some (.ref i)∧g "put"=none∧(r,e8 [])∈l∧(i,emptyDict)∈l
def fN(nm:Str):Prop:=Str.ofString "rows"≠nm∧Str.ofString "index"≠nm∧Str.ofString "put"≠nm
section
variable{E:VS}{s:Shared}{m:Str→Option Value}{nm:Str}{Q:FS}
theorem oO.of{g:Str→Option Value}{l l':List (Addr×Obj)}(n:fN nm) (a:g "rows"=some (.ref r)) (b:g "index"=some (.ref i)) (d:g "put"=none) (e1:(r,e8 [])∈l) (e2:(i,emptyDict)∈l) (sub:∀p∈l,p∈l') (mk:Mk C z dx L h₀ m (λy=>if y=nm then some v else g y) c l' h'):oO C z dx L h₀ m r i c h':=⟨_,_,mk,(Qv n.1).trans a,(Qv n.2.1).trans b,(Qv n.2.2).trans d,sub _ e1,sub _ e2⟩
theorem t8(X₀:G.K.In h₀)(so:gj G.K C nm)(sa:f7 env L z m)(mk:oO C z dx L h₀ m r i c s.heap)(hc:c<1000)(n:fN nm)(h:∀h' tk,oO C z dx L h₀ m r i (c+1) h'→Q .next {s with heap:=h',toks:=tk}):WG G A (exec (.Assign [.Attribute (.Name "self" p1) nm p2] (.List [] p3) pos) env) Q E s:=mk.elim λy mk=>mk.elim λy mk=>z0 X₀ so sa mk.1 hc λh' tk q=>h h' tk (.of n mk.2.1 mk.2.2.1 mk.2.2.2.1 mk.2.2.2.2.1 mk.2.2.2.2.2 (λy=>.tail _) q)
theorem Fw{k}(X₀:G.K.In h₀)(so:gj G.K C nm)(sa:f7 env L z m)(mk:oO C z dx L h₀ m r i c s.heap)(hc:c<1000)(n:fN nm)(h:∀h' tk,oO C z dx L h₀ m r i (c+1) h'→Q .next {s with heap:=h',toks:=tk}):WG G A (exec (.Assign [.Attribute (.Name "self" p1) nm p2] (.List [.Constant .none k p4] p3) pos) env) Q E s:=mk.elim λy mk=>mk.elim λy mk=>Gr X₀ so sa mk.1 hc λh' tk q=>h h' tk (.of n mk.2.1 mk.2.2.1 mk.2.2.2.1 mk.2.2.2.2.1 mk.2.2.2.2.2 (λy=>.tail _) q)
theorem zy(X₀:G.K.In h₀)(so:gj G.K C nm)(sa:f7 env L z m)(mk:oO C z dx L h₀ m r i c s.heap)(hc:c<1000)(n:fN nm)(h:∀h' tk,oO C z dx L h₀ m r i (c+1) h'→Q .next {s with heap:=h',toks:=tk}):WG G A (exec (.Assign [.Attribute (.Name "self" p1) nm p2] (.Dict [] [] p3) pos) env) Q E s:=mk.elim λy mk=>mk.elim λy mk=>yZ X₀ so sa mk.1 hc λh' tk q=>h h' tk (.of n mk.2.1 mk.2.2.1 mk.2.2.2.1 mk.2.2.2.2.1 mk.2.2.2.2.2 (λy=>.tail _) q)
theorem DL{k}(X₀:G.K.In h₀)(so:gj G.K C nm)(sa:f7 env L z m)(mk:oO C z dx L h₀ m r i c s.heap)(hc:c<1000)(n:fN nm)(h:∀h' tk,oO C z dx L h₀ m r i (c+1) h'→Q .next {s with heap:=h',toks:=tk}):WG G A (exec (.Assign [.Attribute (.Name "self" p1) nm p2] (.Constant (.int j) k p3) pos) env) Q E s:=mk.elim λy mk=>mk.elim λy mk=>pK (v:=.none) X₀ so sa mk.1 hc (λy y=>rfl) (λQ h=>wpAny_Constant_int (h _ _)) λh' tk v q=>h h' tk (.of n mk.2.1 mk.2.2.1 mk.2.2.2.1 mk.2.2.2.2.1 mk.2.2.2.2.2 (λy h=>h) q)
end
theorem Di(kl:Kl G)(gb:jk G mg mb)(lim:G.base.NoLimit) (hlen1:mg "len"=none) (hlen2:mb "len"=some (.builtin "len")) (tc:rI G mg fI fdI p fP fdP pp) (aok:bK A (d+3)):rz G A:=by
 intro x E K Q I hc k q;have X:G.K.In x.h:=kl.X.keeps λb o e=>I.base b o e;refine rM (fn:=⟨1,3,[],.open_,[]⟩) kl lim tc.mkc tc.init tc.ty tc.ok rfl (by rw[tc.names];rfl) aok I λenv s₁ m A' E' st hkd aok' g1 o1 hL sa mk0 y=>?_;rw[tc.names]at st;have so:=tc.so;refine Qh (z0 (G:=G) X (so "rows" mh) sa mk0 (by omega) λh1 tk1 mk1=>?_);generalize s₁.heap.objs.size=rw₀ at mk1;refine Qh (yZ (G:=G) (s:={s₁ with heap:=h1,toks:=tk1}) X (so "index" (mt mh)) sa mk1 (by omega) λh2 tk2 mk2=>?_);dsimp only at mk2;generalize h1.objs.size=ix₀ at mk2;have mk2:oO G.CT (x.h.objs.size+1) x.h.objs.size env.locals x.h m rw₀ ix₀ 2 h2:=⟨_,_,mk2,rfl,rfl,rfl,mt mh,.head _⟩
 refine Qh (Fw (G:=G) (s:={s₁ with heap:=h2,toks:=tk2}) X (so "decls" (mt (mt mh))) sa mk2 (ag rfl) (by delta fN;decide) λh3 tk3 mk3=>?_);refine Qh (t8 (G:=G) (s:={s₁ with heap:=h3,toks:=tk3}) X (so "bounds" (mt (mt (mt mh)))) sa mk3 (ag rfl) (by delta fN;decide) λh4 tk4 mk4=>?_);refine Qh (t8 (G:=G) (s:={s₁ with heap:=h4,toks:=tk4}) X (so "defaults" (mt (mt (mt (mt mh))))) sa mk4 (ag rfl) (by delta fN;decide) λh5 tk5 mk5=>?_);refine Qh (t8 (G:=G) (s:={s₁ with heap:=h5,toks:=tk5}) X (so "names" (mt (mt (mt (mt (mt mh)))))) sa mk5 (ag rfl) (by delta fN;decide) λh6 tk6 mk6=>?_);refine Qh (zy (G:=G) (s:={s₁ with heap:=h6,toks:=tk6}) X (so "origins" (mt (mt (mt (mt (mt (mt mh))))))) sa mk6 (ag rfl) (by delta fN;decide) λh7 tk7 mk7=>?_);refine Qh (zy (G:=G) (s:={s₁ with heap:=h7,toks:=tk7}) X (so "renamed" (mt (mt (mt (mt (mt (mt (mt mh)))))))) sa mk7 (ag rfl) (by delta fN;decide) λh8 tk8 mk8=>?_);refine Qh (DL (G:=G) (s:={s₁ with heap:=h8,toks:=tk8}) X (so "shaping" (mt (mt (mt (mt (mt (mt (mt (mt mh))))))))) sa mk8 (ag rfl) (by delta fN;decide) λh9 tk9 mk9=>?_);refine Qh (DL (G:=G) (s:={s₁ with heap:=h9,toks:=tk9}) X (so "putting" (mt (mt (mt (mt (mt (mt (mt (mt (mt mh)))))))))) sa mk9 (ag rfl) (by delta fN;decide) λh tk mk10=>?_);obtain⟨gg,ll,⟨es,n,F,N,hg,hl,hap,hne⟩,r1,r2,r3,e1,e2⟩:=mk10;have nrw:=N (rw₀,e8 []) (mt (mt e1));have nix:=N (ix₀,emptyDict) (mt (mt e2));have nx:=N _ (mt mh);have nd:=N _ mh;have arw:=hap (rw₀,e8 []) e1;have aix:=hap (ix₀,emptyDict) e2;have ne:rw₀≠ix₀:=λe=>by have a:=nrw.1;have b:=nix.1;dsimp only at a b;rw[e,b]at a;exact nomatch Qb Obj.data (PG a)
 replace r1:=(hg _).trans (Qb some r1);replace r2:=(hg _).trans (Qb some r2);replace r3:=(hg _).trans (Qb some r3);clear mk0 mk1 mk2 mk3 mk4 mk5 mk6 mk7 mk8 mk9;have lno:x.h.get? env.locals=none:=Q5 (Rm (lt_of_succ_lt hL));refine Qh (Hr (s:={s₁ with heap:=h,toks:=tk}) (x:=x) (inst:=x.h.objs.size+1) (dx:=x.h.objs.size) (rws:=rw₀) (idx:=ix₀) (es:=es) (n:=n) (d:=d) kl gb lim hlen1 hlen2 tc aok' I st (λb hb=>?_) ne arw.2 arw.1 aix.2 aix.1 nrw.2.1.symm nix.2.1.symm nx.2.1.symm nd.2.1.symm r1 r2 r3
  ⟨F.keep,g1,o1,⟨m,F.ns,sa.at_⟩,nx.1,nd.1,⟨[],⟨0,nrw.1⟩,.nil⟩,⟨[],⟨emptyDict,#[],0,nix.1,⟨rfl,rfl,rfl⟩,rfl,rfl,λy hx=>(by simp at hx),R9⟩,rfl,λn r h=>ah h⟩⟩ λs' u=>Rk ⟨rfl,?_⟩)
 ·rcases hb with rfl|rfl|rfl|rfl|rfl
  ·exact lno
  ·exact nrw.2.2
  ·exact nix.2.2
  ·exact nx.2.2
  ·exact nd.2.2
 ·refine X2 u.rows λxs ha rr=>?_;refine X2 u.index λmm hm hms=>?_;obtain⟨w',hw'⟩:∃w',w'=λb=>if b=x.h.objs.size+1∨b=x.h.objs.size then some fL.pr else if b=rw₀ then some (.rws x.T.length)else if b=ix₀ then some (.idx x.T.length)else x.w b:=⟨_,rfl⟩
  have f1:x.h.get? (x.h.objs.size+1)=none:=nx.2.2;have f2:x.h.get? x.h.objs.size=none:=nd.2.2;have f3:x.h.get? rw₀=none:=nrw.2.2;have f4:x.h.get? ix₀=none:=nix.2.2;have w1:w' (x.h.objs.size+1)=some .pr:=by rw[hw'];exact Qx (.inl rfl)
  have w2:w' x.h.objs.size=some .pr:=by rw[hw'];exact Qx (.inr rfl)
  have n3:¬(rw₀=x.h.objs.size+1∨rw₀=x.h.objs.size):=λz=>z.elim arw.2 arw.1;have n4:¬(ix₀=x.h.objs.size+1∨ix₀=x.h.objs.size):=λz=>z.elim aix.2 aix.1;have w3:w' rw₀=some (.rws x.T.length):=by rw[hw'];exact(Qv n3).trans (Qx rfl)
  have w4:w' ix₀=some (.idx x.T.length):=by rw[hw'];exact(Qv n4).trans ((Qv ne.symm).trans (Qx rfl))
  have wo:∀b,b≠x.h.objs.size+1→b≠x.h.objs.size→b≠rw₀→b≠ix₀→w' b=x.w b:=λb a1 a2 a3 a4=>by rw[hw'];exact(Qv λz=>z.elim a1 a2).trans ((Qv a3).trans (Qv a4))
  have nn:=I.marks (S':={x.S with c:=x.S.c-16,n:=x.S.n+1,late:=false}) (Ts:=[ax]) (ts:=[⟨x.h.objs.size+1,rw₀,ix₀⟩]) (w':=w') (s':=s') ⟨rfl,rfl⟩ (λb o e=>wo b (λz=>by rw[z,f1]at e;exact ah e) (λz=>by rw[z,f2]at e;exact ah e) (λz=>by rw[z,f3]at e;exact ah e) λz=>by rw[z,f4]at e;exact ah e) u.old u.g u.os (λb r e h=>?_) ?_ rfl (by rw[PX];exact Qb (· + 1) I.n) (λh=>ak h) (λR hR i j r e1 e2=>?_) λL j R t h1 h2=>?_
  ·refine q _ _ _ k nn (show AU G _ .tab x.S.n _ from⟨_,rfl,⟨x.h.objs.size+1,rw₀,ix₀⟩,?_,rfl⟩);show(x.τ++[(⟨x.h.objs.size+1,rw₀,ix₀⟩:TA)])[x.S.n]?=_;rw[I.n,← I.τlen];exact QI
  ·by_cases z1:b=x.h.objs.size+1
   ·exact aB _ (z1▸u.inst) ((λz=>nomatch (show Value.ref G.CT=.type "tuple" from z)))
   ·by_cases z2:b=x.h.objs.size
    ·exact aB _ (z2▸u.dict) ((by decide:Value.type "dict"≠.type "tuple"))
    ·by_cases z3:b=rw₀
     ·exact z3▸ha.live
     ·by_cases z4:b=ix₀
      ·obtain⟨o,es,ep,e,q,_⟩:=hm;exact aB o (z4▸e) (by rw[q.1];decide)
      ·rw[wo b z1 z2 z3 z4,I.fresh e]at h;exact ah h
  ·have:cA (x.T++[ax])=cA x.T+16:=by
    delta cA
    rw[QY,List.sum_append];rfl
   rw[this];exact Nw hc
  ·rw[PH.mp hR]at e1 e2;have h1:=(PO.mp e1).1;have h2:=(PO.mp e2).1;have key:∀i j:Nat,i<j→j<16→ax[i]?=some r→ax[j]?=some r→False:=λi j hij hj a b=>by
    refine X3 (pT j hj) λr' hr' hn y=>?_;cases b.symm.trans hr';exact mP hn (PZ.mpr ⟨i,by rw[List.getElem?_take,Qx hij];exact a⟩)
   rcases Nat.lt_trichotomy i j with h|h|h
   ·exact(key i j h h2 e1 e2).elim
   ·exact h
   ·exact(key j i h h1 e2 e1).elim
  ·cases j with
   |succ j=>exact ah h1
   |zero=>replace h1:=PG h1;subst h1;replace h2:=PG h2;subst h2;exact⟨⟨x.h.objs.size,es,n,u.inst,u.dict,⟨w1,w2⟩,r1,r2,r3⟩,⟨xs,ha,rr.imp λy y=>RV.mono L .nil⟩,⟨mm,hm,hms.mono L.T⟩,⟨w3,w4⟩,rfl,mR _⟩
end
theorem bS{P:Kk.E→Prop}(h0:P .bad){b:Bool}(h:b=true→P e):P (dS b e):=by
 cases b with
 |false=>exact h0
 |true=>exact h rfl
theorem gy{P:Kk.E→Prop}{α:Type}(h0:P .bad){x:Option α}{f:α→Kk.E}(h:∀v,x=some v→P (f v)):P (nO x f):=by
 cases x with
 |none=>exact h0
 |some v=>exact h v rfl
theorem ku{α:Type}{x:Str}{a:α}:∀{l:List (String×α)},dQ x l=some a→∃p∈l,x=Str.ofString p.1∧p.2=a:=by
 intro l;induction l with
 |nil=>exact @λh=>ah h
 |cons p l ih_=>
  exact @λh=>by
   unfold dQ at h;cases q:x==Str.ofString p.1 with
   |true=>rw[q]at h;replace h:=PG h;subst h;exact eJ p mh (eq_of_beq q) rfl
   |false=>rw[q]at h;exact(ih_ h).imp λp h=>⟨mt h.1,h.2⟩
theorem E5:∀p∈BF,Str.ofString p.1=j9 p.2:=by intro p hp;simp only[BF,P4,not_mem_nil,or_false]at hp;rcases hp with rfl|rfl|rfl<;>rfl
theorem FU:∀p∈vQ,p.1=p6 p.2:=by intro p hp;simp only[vQ,P4,not_mem_nil,or_false]at hp;rcases hp with rfl|rfl|rfl|rfl|rfl|rfl|rfl<;>rfl
theorem FP:∀p∈nS,p.2≠.isStr:=by intro p hp;simp only[nS,P4,not_mem_nil,or_false]at hp;rcases hp with rfl|rfl|rfl|rfl|rfl|rfl<;>exact λh=>nomatch h
theorem FK:∀p∈pX,p=("force","Thin.force")∨p=("fits","RefHost.fits"):=by intro p hp;simp only[pX,P4,not_mem_nil,or_false]at hp;exact hp
structure Gl (G:GE) (A:Around) (cx:Cx) (cl:Nat→List V→St→(V→St→Prop)→Prop) (mg mb:Str→Option Value):Prop where
 kl:Kl G
 kf:pC G
 gb:jk G mg mb
 consts:∀x v,cx.consts.lookup x=some v→∃w,mg x=some w∧∀x,av G x→RV G x v w
 fns:∀x k,dX x=true→g7 x cx.fns 0=some k→∃a fd,mg x=some (.ref a)∧(∃o,G.base.get? a=some o∧o.data=.func fd)∧lZ G A cl k a
 prims:∀p∈nS,mg (Str.ofString p.1)=none∧mb (Str.ofString p.1)=some (lR p.2)
 isinst:mg "isinstance"=none∧mb "isinstance"=some (.builtin "isinstance")
 str:mg "str"=none∧mb "str"=some (.type "str")
 host:∀p∈pX,∀k,g7 (Str.ofString p.2) cx.fns 0=some k→∃f fd,kA G G.CH (Str.ofString p.1) f fd∧lZ G A cl k f
 put:∃f fd,kA G G.CT "put" f fd∧Ap G A f
 tt:mg "TypeTable"=some (.ref G.CT)∧keepIn G.K (.ref G.CT)=true∧rz G A
 rh:mg "RefHost"=some (.ref G.CH)∧keepIn G.K (.ref G.CH)=true∧oX G A
section
variable{A:Around}{cl:Nat→List V→St→(V→St→Prop)→Prop}{cx:Cx}{mg mb:Str→Option Value}{sc:aI}{env:Env}{f:aI→Expr→Kk.E}{pos:Pos}
def Bo(G:GE)(A:Around)(cl:Nat→List V→St→(V→St→Prop)→Prop)(sc:aI)(env:Env)(e:Expr)(m:Kk.E):Prop:=ai G A sc env (eval e env) (ev pA cl m)∧dm G A sc env (isTrue e env (eval e env)) (ev pA cl m)
abbrev Co(G:GE)(A:Around)(cl:Nat→List V→St→(V→St→Prop)→Prop)(f:aI→Expr→Kk.E):Prop:=∀(sc:aI)(env:Env)(e:Expr),Bo G A cl sc env e (f sc e)
theorem Bo.bad:Bo G A cl sc env e .bad:=⟨aQ,Ig⟩
theorem Bo.of(he:isTrue e env (eval e env)=(do let v ← eval e env;standAt e.pos;holding [v] (PySem.truthy v)))(h:ai G A sc env (eval e env) (ev pA cl m)):Bo G A cl sc env e m:=⟨h,Cg he h⟩
theorem FY(gl:Gl G A cx cl mg mb):ai G A sc env (eval (.Name x p) env) (ev pA cl (Ar cx sc x)):=by
 delta Ar
 refine bS (P:=λm=>ai G A sc env (eval (.Name x p) env) (ev pA cl m)) aQ λhx=>?_;cases hj:bg pY sc x with
 |some j=>exact EY hj (kL hx).1 (kL hx).2
 |none=>refine bS (P:=λm=>ai G A sc env (eval (.Name x p) env) (ev pA cl m)) aQ λhg=>gy (P:=λm=>ai G A sc env (eval (.Name x p) env) (ev pA cl m)) aQ λv hv=>?_;refine X2 (gl.consts x v hv) λw h1 h2=>?_;exact Be gl.gb hg hx h1 h2
theorem Ga{k}:ai G A sc env (eval (.Constant c k p) env) (ev pA cl (Dl c)):=by
 cases (c)with
 |none=>exact lT λx E Q I h=>wpAny_Constant_none (h _ x.s.toks rfl)
 |bool b=>exact lT λx E Q I h=>wpAny_Constant_bool (h _ x.s.toks rfl)
 |int i=>exact lT λx E Q I h=>wpAny_Constant_int (h _ _ ⟨_,rfl⟩)
 |str y=>
  show ai G A sc env _ (ev pA cl (match dC y with|true=>.c (.str y.cps.toList)|false=>.bad));cases hg:dC y with
  |true=>exact lT λx E Q I h=>wpAny_Constant_str (h _ _ ⟨y,_,rfl,rfl,(gD hg).2,(gD hg).1⟩)
  |false=>exact aQ
 |_=>exact aQ
theorem IE(ih:Co G A cl f):Bo G A cl sc env (.BoolOp op es p) (AD op (es.map (f sc))):=by
 have e:AD op (es.map (f sc))=qa (LH op) (es.map (f sc)):=by cases op<;>rfl
 rw[e];by_cases h0:es=[]
 ·subst h0;exact .bad
 ·exact⟨uU es h0 λe z=>(ih sc env e).1,Fx (uS es h0 λe z=>(ih sc env e).2)⟩
theorem nG(h:(!mO b)=true):behindInMarks op b=false:=by cases b<;>first|rfl|exact ak h
theorem zk(h:Ex o=true):o=.Lt:=by induction o using CmpOp.casesOn<;>first|rfl|exact ak h
theorem BX(aok:bK A d)(ih:Co G A cl f):Bo G A cl sc env (.Compare a ops bs p) (yw f sc a ops bs):=by
 cases ops with
 |nil=>cases bs<;>exact .bad
 |cons o os=>
  cases bs with
  |nil=>exact .bad
  |cons b bs=>
   refine bS (P:=Bo G A cl sc env _) .bad λhb=>?_;cases os with
   |nil=>
    cases bs with
    |nil=>exact⟨HO aok (nG hb) (ih sc env a).1 (ih sc env b).1,HB aok (nG hb) (ih sc env a).1 (ih sc env b).1⟩
    |cons _ _=>exact .bad
   |cons o2 os=>
    cases bs with
    |nil=>exact .bad
    |cons c bs=>refine bS (P:=Bo G A cl sc env _) .bad λhc=>?_;refine bS (P:=Bo G A cl sc env _) .bad λh=>?_;have h1:=aa h;have h2:=aa h1.2;have h3:=aa h2.2;cases zk h1.1;cases zk h2.1;cases isEmpty_iff.mp h3.1;cases isEmpty_iff.mp h3.2;exact⟨HY (nG hc) (ih sc env a).1 (ih sc env b).1 (ih sc env c).1,Hm (nG hc) (ih sc env a).1 (ih sc env b).1 (ih sc env c).1⟩
theorem HN(ih:Co G A cl f):ai G A sc env (eval (.Dict ks es p) env) (ev pA cl (Hj f sc ks es)):=
 gy (P:=λm=>ai G A sc env (eval (.Dict ks es p) env) (ev pA cl m)) aQ λkk hk=>bS (P:=λm=>ai G A sc env (eval (.Dict ks es p) env) (ev pA cl m)) aQ λh=>Fp hk (PJ (aa h).2) (P6 (aa h).1) λe z=>by
  cases q:G9 e with
  |false=>exact(ih sc env e).1
  |true=>
   induction e using Expr.casesOn with
   |List es _=>
    cases es with
    |nil=>exact qU (es:=[]) (f:=f sc) rfl λe h=>az h
    |cons _ _=>exact ak q
   |_=>exact ak q
theorem Jq(kl:Kl G)(ih:Co G A cl f):ai G A sc env (eval (.Attribute o x p) env) (ev pA cl (K9 f sc o x)):=
 bS (P:=λm=>ai G A sc env (eval (.Attribute o x p) env) (ev pA cl m)) aQ λhb=>gy (P:=λm=>ai G A sc env (eval (.Attribute o x p) env) (ev pA cl m)) aQ λa ha=>by refine X3 (ku ha) λq h1 h2 h3=>?_;rw[h2,E5 q h1,h3];exact FL kl (by simpa using hb) (ih sc env o).1
theorem y8(ih:Co G A cl f):ai G A sc env (evalPart o env) (ev pA cl (BO f sc o)):=by
 cases o with
 |some a=>exact(ih sc env a).1
 |none=>exact λW x vs E K Q i k q=>by rw[evalPart_none];exact PU (q.here i.1 k rfl)
theorem E7(h:Cv s=true):∃k p3 p2,s=.UnaryOp .USub (.Constant (.int 1) k p3) p2:=by
 induction s using Expr.casesOn with
 |UnaryOp op a p2=>
  induction op using UnaryOp.casesOn with
  |USub=>
   induction a using Expr.casesOn with
   |Constant c k p3=>
    induction c using Const.casesOn with
    |int i=>exact Pd k p3 p2 (by rw[PI (show decide (i=1)=true from h)])
    |_=>exact ak h
   |_=>exact ak h
  |_=>exact ak h
 |_=>exact ak h
theorem tP{α:Type}{o:Option α}(h:o.isNone=true):o=none:=by cases o<;>first|rfl|exact ak h
theorem IH(ih:Co G A cl f):ai G A sc env (eval (.Subscript o i p) env) (ev pA cl (L7 f sc o i)):=by
 induction i using Expr.casesOn with
 |Slice lo hi st q=>
  cases st with
  |none=>exact DJ (ih sc env o).1 (y8 ih) (y8 ih)
  |some s=>refine bS (P:=λm=>ai G A sc env _ (ev pA cl m)) aQ λh=>?_;obtain⟨k,p3,p2,rfl⟩:=E7 (aa (aa h).1).1;cases tP (aa (aa h).1).2;cases tP (aa h).2;exact I9 (ih sc env o).1
 |_=>exact Hs (λz z=>rfl) (ih sc env o).1 (ih sc env _).1
theorem M8(ih:Co G A cl f):Bo G A cl sc env (.UnaryOp op a p) (NL f sc op a):=by
 induction op using UnaryOp.casesOn with
 |Not=>exact⟨Ic (ih sc env a).1,Hn (ih sc env a).2⟩
 |USub=>
  induction a using Expr.casesOn with
  |Constant c k q=>
   induction c using Const.casesOn with
   |int i=>exact .of rfl (lT λx E Q I h=>wpAny_UnaryOp (wpAny_mkInt (PySem.P.neg_int (h _ _ ⟨_,rfl⟩))))
   |_=>exact .bad
  |_=>exact .bad
 |_=>exact .bad
theorem kM(h:(!mO it)=true):∀y,foldedSetIterable it env y=pure y:=by induction it using Expr.casesOn<;>first|exact λz=>rfl|exact ak h
theorem n7{gs:List Comprehension}{csc:Scope}{P:Kk.E→Prop}(h0:P .bad)(h:∀x px it ifs caps j,gs=[⟨.Name x px,it,ifs,0⟩]→csc.kind=.function→(csc.names.map (·.1)).Nodup→(!mO it)=true→eI sc csc.names=some caps→bg cc csc.names x=some j→P (.comp caps j (f sc it) (ifs.map (f csc.names)) (f csc.names elt))):P (AM f sc elt gs csc):=by
 cases gs with
 |nil=>exact h0
 |cons g gs=>
  obtain⟨t,it,ifs,as⟩:=g;induction t using Expr.casesOn with
  |Name x px=>
   refine bS (P:=P) h0 λhb=>gy (P:=P) h0 λcaps hc=>gy (P:=P) h0 λj hj=>?_;refine U2 (aa hb) λhb hs=>?_;refine U2 (aa hb) λhb hk=>?_;refine U2 (aa hb) λhe ha=>?_;replace hk:=aa hk;have:as=0:=PI ha;subst this;cases gs with
   |cons _ _=>exact ak he
   |nil=>exact h x px it ifs caps j rfl (PI hk.1) (PI hk.2) hs hc hj
  |_=>exact h0
theorem HH(aok:bK A d)(ih:Co G A cl f):ai G A sc env (eval (.ListComp elt gs csc p) env) (ev pA cl (AM f sc elt gs csc)):=
 n7 (P:=λm=>ai G A sc env (eval (.ListComp elt gs csc p) env) (ev pA cl m)) aQ λx px it ifs caps j e hk nd hs hc hj=>by subst e;exact wH (m:=false) aok hk nd hc hj (kM hs) (ih sc env it).1 (λcenv e z=>(ih _ cenv e).2) λcenv=>(ih _ cenv elt).1
variable{n:Nat}
theorem FG(gl:Gl G A cx cl mg mb)(aok:bK A d)(ih:Co G A cl f):ai G A sc env (eval (.Call (.Name x fp) args [] p) env) (ev pA cl (Cb f cx sc x args)):=by
 have ia:∀e∈args,ai G A sc env (eval e env) (ev pA cl (f sc e)):=λe z=>(ih sc env e).1;refine bS (P:=λm=>ai G A sc env (eval (.Call (.Name x fp) args [] p) env) (ev pA cl m)) aQ λh=>?_;refine U2 (aa h) λh hp=>?_;refine U2 (aa h) λhx hg=>?_;cases hk:g7 x cx.fns 0 with
 |some k=>refine Y3 (gl.fns x k hx hk) λa fd h1 h2 h3=>?_;exact E3 gl.gb hg hx hp h1 h2 h3 ia
 |none=>
 cases hq:dQ x nS with
 |some q=>obtain⟨e,h1,rfl,rfl⟩:=ku hq;refine U2 (gl.prims e h1) λh2 h3=>?_;exact Gn aok gl.gb hg hx hp h2 h3 (FP e h1) ia
 |none=>
 cases hi:x==Str.ofString "isinstance" with
 |true=>
  replace hi:=eq_of_beq hi;subst hi;cases args with
  |nil=>exact aQ
  |cons a r=>
  cases r with
  |nil=>exact aQ
  |cons b r=>
  refine bS (P:=λm=>ai G A sc env (eval (.Call (.Name "isinstance" fp) (a::b::r) [] p) env) (ev pA cl m)) aQ λhb=>?_;refine U2 (aa hb) λhb1 hr=>?_;cases r with
  |cons _ _=>exact ak hr
  |nil=>
  induction b using Expr.casesOn with
  |Name y p2=>refine U2 (aa (show(y==Str.ofString "str" && c7 sc y)=true from hb1)) λhy hg2=>?_;replace hy:=eq_of_beq hy;subst hy;exact Ed aok gl.gb hg hg2 (iC (cX hp).1).1 gl.isinst.1 gl.isinst.2 gl.str.1 gl.str.2 (ih sc env a).1
  |_=>exact ak hb1
 |false=>
 cases ht:x==Str.ofString "TypeTable" with
 |true=>
  replace ht:=eq_of_beq ht;subst ht;refine bS (P:=λm=>ai G A sc env (eval (.Call (.Name "TypeTable" fp) args [] p) env) (ev pA cl m)) aQ λhr=>?_;cases args with
  |cons _ _=>exact ak hr
  |nil=>exact BN gl.kl gl.gb hg gl.tt.1 gl.tt.2.1 gl.tt.2.2
 |false=>
 refine bS (P:=λm=>ai G A sc env (eval (.Call (.Name x fp) args [] p) env) (ev pA cl m)) aQ λhh=>?_;replace hh:=eq_of_beq hh;subst hh;cases args with
 |nil=>exact aQ
 |cons a r=>
 refine bS (P:=λm=>ai G A sc env (eval (.Call (.Name "RefHost" fp) (a::r) [] p) env) (ev pA cl m)) aQ λhr=>?_;cases r with
 |cons _ _=>exact ak hr
 |nil=>exact yD gl.kl gl.gb hg gl.rh.1 gl.rh.2.1 gl.rh.2.2 (iC (cX hp).1).1 (ih sc env a).1
theorem Gh(gl:Gl G A cx cl mg mb)(aok:bK A d)(ih:Co G A cl f):ai G A sc env (eval (.Call (.Attribute o x apos) args [] p) env) (ev pA cl (Dr f cx sc o x args apos.endLine p.line)):=by
 have ia:∀e∈args,ai G A sc env (eval e env) (ev pA cl (f sc e)):=λe z=>(ih sc env e).1;refine bS (P:=λm=>ai G A sc env (eval (.Call (.Attribute o x apos) args [] p) env) (ev pA cl m)) aQ λh=>?_;refine U2 (aa h) λh hl=>?_;refine U2 (aa h) λhp hb=>?_;have hb:gJ o=false:=by simpa using hb
 cases hm:dQ x vQ with
 |some m=>
  obtain⟨e,h1,rfl,rfl⟩:=ku hm;rw[FU e h1];by_cases hput:e.2=.put
  ·refine Y2 gl.put λfa fd mt ho=>?_;have:=IL (pos:=p) (apos:=apos) gl.kl mt ho hb hp hl (ih sc env o).1 ia;show ai G A sc env _ (ev pA cl (.me e.2 _ _));rw[hput];exact this
  ·exact FN gl.kf aok hput hb hp hl (ih sc env o).1 ia
 |none=>refine gy (P:=λm=>ai G A sc env (eval (.Call (.Attribute o x apos) args [] p) env) (ev pA cl m)) aQ λh hh=>gy (P:=λm=>ai G A sc env (eval (.Call (.Attribute o x apos) args [] p) env) (ev pA cl m)) aQ λk hk=>?_;obtain⟨e,h1,rfl,rfl⟩:=ku hh;refine Y2 (gl.host e h1 k hk) λfa fd mt hc=>?_;exact DR gl.kl mt (by rcases FK e h1 with rfl|rfl;exact .inl rfl;exact .inr rfl) hc hb hp hl (ih sc env o).1 ia
theorem gH(gl:Gl G A cx cl mg mb)(aok:bK A d):∀n,Co G A cl (comp cx n):=by
 intro n;induction n with
 |zero=>exact λsc env e=>.bad
 |succ n ih=>
  intro sc env e;induction e using Expr.casesOn with
  |Constant c k p=>exact .of rfl Ga
  |Name x p=>exact .of rfl (FY gl)
  |BoolOp op es p=>exact IE ih
  |UnaryOp op a p=>exact M8 ih
  |IfExp c a b p=>exact⟨H5 (ih sc env c).2 (ih sc env a).1 (ih sc env b).1,IQ (ih sc env c).2 (ih sc env a).2 (ih sc env b).2⟩
  |BinOp a op b p=>exact .of rfl (gy (P:=λm=>ai G A sc env (eval (.BinOp a op b p) env) (ev pA cl m)) aQ λo ho=>HL ho (ih sc env a).1 (ih sc env b).1)
  |Compare a ops bs p=>exact BX aok ih
  |Tuple es k p=>exact .of rfl (bS (P:=λm=>ai G A sc env (eval (.Tuple es k p) env) (ev pA cl m)) aQ λh=>uV h λe z=>(ih sc env e).1)
  |List es p=>exact .of rfl (bS (P:=λm=>ai G A sc env (eval (.List es p) env) (ev pA cl m)) aQ λh=>qU h λe z=>(ih sc env e).1)
  |Dict ks es p=>exact .of rfl (HN ih)
  |Attribute o x p=>exact .of rfl (Jq gl.kl ih)
  |Subscript o i p=>exact .of rfl (IH ih)
  |ListComp elt gs csc p=>exact .of rfl (HH aok ih)
  |Call g args kw p=>
   refine .of rfl (bS (P:=λm=>ai G A sc env (eval (.Call g args kw p) env) (ev pA cl m)) aQ λh=>?_);cases kw with
   |cons _ _=>exact ak h
   |nil=>
    induction g using Expr.casesOn with
    |Name x q=>exact FG gl aok ih
    |Attribute o x q=>exact Gh gl aok ih
    |_=>exact aQ
  |_=>exact .bad
theorem p8{P:Kk.S→Prop}(h0:P .bad){b:Bool}(h:b=true→P e):P (xC b e):=by
 cases b with
 |false=>exact h0
 |true=>exact h rfl
theorem t9{P:Kk.S→Prop}{α:Type}(h0:P .bad){x:Option α}{f:α→Kk.S}(h:∀v,x=some v→P (f v)):P (AE x f):=by
 cases x with
 |none=>exact h0
 |some v=>exact h v rfl
theorem mE{c:Stmt→Kk.S}:∀(b:List Stmt),(∀s∈b,ba G A sc env (exec s env) (ex pA cl (c s)))→ba G A sc env (execs b env) (ao pA cl (b.map c)):=by
 intro b;induction b with
 |nil=>exact λz=>Hx
 |cons s r ih_=>exact λh=>Gk (h s mh) (ih_ λs hs=>h s (mt hs))
theorem LC(gl:Gl G A cx cl mg mb)(aok:bK A d)(hj:bg cc sc x=some j):ba G A sc env (exec (.Assign [.Name x p'] e pos) env) (ex pA cl (.a j (nX (comp cx n sc) x e))):=by
 have ih:=gH gl aok n;have bad:∀m:Kk.E,(m=.bad∨m=.thaw .bad)→ba G A sc env (exec (.Assign [.Name x p'] e pos) env) (ex pA cl (.a j m)):=λm h W x vs E K Q i k=>by rcases h with rfl|rfl<;>exact k.elim
 have plain:(ai G A sc env (eval e env) (ev pA cl (comp cx n sc e))→ai G A sc env (eval e env) (ev pA cl (nX (comp cx n sc) x e)))→swapsWith e (some (.Name x p')) pos.line env=pure false→ba G A sc env (exec (.Assign [.Name x p'] e pos) env) (ex pA cl (.a j (nX (comp cx n sc) x e))):=λh hs=>td hj hs (h (ih sc env e).1);induction e using Expr.casesOn with
 |ListComp elt gs csc cpos=>
  delta nX
  cases n with
  |zero=>cases (dQ x q6).isSome with
   |false=>exact bad _ (.inl rfl)
   |true=>exact bad _ (.inr rfl)
  |succ n=>
  have ih:=gH gl aok n;cases (dQ x q6).isSome with
  |false=>refine n7 (P:=λm=>ba G A sc env (exec (.Assign [.Name x p'] (.ListComp elt gs csc cpos) pos) env) (ex pA cl (.a j m))) (bad _ (.inl rfl)) λy px it ifs caps jj e hk nd hs hc hjj=>?_;subst e;exact kj (m:=false) aok hk nd hc hjj (kM hs) (ih sc env it).1 (λcenv e z=>(ih _ cenv e).2) (λcenv=>(ih _ cenv elt).1) hj
  |true=>refine n7 (P:=λm=>ba G A sc env (exec (.Assign [.Name x p'] (.ListComp elt gs csc cpos) pos) env) (ex pA cl (.a j (.thaw m)))) (bad _ (.inr rfl)) λy px it ifs caps jj e hk nd hs hc hjj=>?_;subst e;exact kj (m:=true) aok hk nd hc hjj (kM hs) (ih sc env it).1 (λcenv e z=>(ih _ cenv e).2) (λcenv=>(ih _ cenv elt).1) hj
 |SetComp _ _ _ _=>exact bad _ (.inl (by delta nX;cases (dQ x q6).isSome<;>cases n<;>rfl))
 |DictComp _ _ _ _ _=>exact bad _ (.inl (by delta nX;cases (dQ x q6).isSome<;>cases n<;>rfl))
 |List es q=>exact plain (λh=>by
  delta nX
  cases (dQ x q6).isSome with
  |false=>exact h
  |true=>exact bS (P:=λm=>ai G A sc env (eval (.List es q) env) (ev pA cl m)) aQ λh=>qU h λe z=>(ih sc env e).1) rfl
 |_=>exact plain (λh=>by delta nX;cases (dQ x q6).isSome<;>exact h) rfl
theorem ET(h:tj sc t=some j):∃x p,t=.Name x p∧bg cc sc x=some j:=by cases t<;>first|exact A4 _ _ rfl h|exact ah h
theorem CK(gl:Gl G A cx cl mg mb)(aok:bK A d):ba G A sc env (exec (.Assign [.Tuple ts k tp] e pos) env) (ex pA cl (tY (comp cx n sc) sc (.Tuple ts k tp) e)):=by
 have ih:=gH gl aok n sc env;refine t9 (P:=λm=>ba G A sc env (exec (.Assign [.Tuple ts k tp] e pos) env) (ex pA cl m)) bF λjs hjs=>?_;have plain:swapsWithSole [.Tuple ts k tp] e pos.line env=pure false→swappedStores [.Tuple ts k tp] e env=pure none→ba G A sc env (exec (.Assign [.Tuple ts k tp] e pos) env) (ex pA cl (.unpack js (comp cx n sc e))):=λh1 h2=>rZ aok hjs h1 h2 (ih e).1;induction e using Expr.casesOn with
 |Tuple es k' vp=>
  show ba G A sc env _ (ex pA cl (two (comp cx n sc) js es));cases js with
  |nil=>cases es<;>exact bF
  |cons j1 js=>
  cases js with
  |nil=>cases es with
   |nil=>exact bF
   |cons _ es=>cases es<;>exact bF
  |cons j2 js=>
  cases es with
  |nil=>cases js<;>exact bF
  |cons e1 es=>
  cases es with
  |nil=>cases js<;>exact bF
  |cons e2 es=>
  cases js with
  |cons _ _=>cases es<;>exact bF
  |nil=>
  cases es with
  |cons _ _=>exact bF
  |nil=>
   refine p8 (P:=λm=>ba G A sc env (exec (.Assign [.Tuple ts k tp] (.Tuple [e1,e2] k' vp) pos) env) (ex pA cl m)) bF λh=>?_;cases ts with
   |nil=>cases hjs
   |cons t1 ts=>
   obtain⟨x1,p1,_,_,rfl,_,h2,q1⟩:=dq hjs;cases q1;cases ts with
   |nil=>cases h2
   |cons t2 ts=>
   obtain⟨x2,p2,_,_,rfl,_,h3,q2⟩:=dq h2;cases q2;cases ts with
   |cons t3 ts=>refine e44 (dq h3) λz z z z z z z q=>?_;cases q
   |nil=>exact EG aok hjs (by simpa using (aa h).1) (aa h).2 λe z=>(ih e).1
 |_=>exact plain rfl rfl
theorem BI(gl:Gl G A cx cl mg mb)(aok:bK A d):ba G A sc env (exec (.Assign [t] e pos) env) (ex pA cl (tY (comp cx n sc) sc t e)):=by
 have ih:=gH gl aok n sc env;induction t using Expr.casesOn with
 |Name x p'=>exact t9 (P:=λm=>ba G A sc env (exec (.Assign [.Name x p'] e pos) env) (ex pA cl m)) bF λj hj=>LC gl aok hj
 |Tuple ts k tp=>exact CK gl aok
 |Subscript o i p'=>
  have main:ba G A sc env (exec (.Assign [.Subscript o i p'] e pos) env) (ex pA cl (.setItem (comp cx n sc o) (comp cx n sc i) (comp cx n sc e))):=yH (ih o).1 (ih i).1 (ih e).1 (by cases e<;>rfl);induction i using Expr.casesOn with
  |Slice _ _ _ _=>exact bF
  |_=>exact main
 |_=>exact bF
theorem Bf(gl:Gl G A cx cl mg mb)(aok:bK A d):∀n (sc:aI) (env:Env) (s:Stmt),ba G A sc env (exec s env) (ex pA cl (jo cx n sc s)):=by
 intro n;induction n with
 |zero=>exact λsc env s=>bF
 |succ n ih=>
  intro sc env s;have ie:=gH gl aok n sc env;induction s using PySem.Stmt.casesOn with
  |Assign ts e p=>
   cases ts with
   |nil=>exact bF
   |cons t r=>
    refine p8 (P:=λm=>ba G A sc env (exec (.Assign (t::r) e p) env) (ex pA cl m)) bF λh=>?_;cases r with
    |cons _ _=>exact ak h
    |nil=>exact BI gl aok
  |Expr e p=>
   have bad:comp cx n sc e=.bad→ba G A sc env (exec (.Expr e p) env) (ex pA cl (.expr (comp cx n sc e))):=λh W x vs E K Q i k=>by rw[h]at k;exact k.elim
   induction e using Expr.casesOn with
   |ListComp _ _ _ _=>exact bF
   |SetComp _ _ _ _=>exact bad (by cases n<;>rfl)
   |DictComp _ _ _ _ _=>exact bad (by cases n<;>rfl)
   |_=>exact EI rfl (ie _).1
  |If c a b p=>exact LQ (ie c).2 (mE a λs z=>ih sc env s) (mE b λs z=>ih sc env s)
  |For t it b o p=>
   refine p8 (P:=λm=>ba G A sc env (exec (.For t it b o p) env) (ex pA cl m)) bF λh=>t9 (P:=λm=>ba G A sc env (exec (.For t it b o p) env) (ex pA cl m)) bF λj hj=>?_;refine U2 (aa h) λho hs=>?_;obtain⟨x,q,rfl,hj⟩:=ET hj;cases o with
   |cons _ _=>exact ak ho
   |nil=>exact IJ aok hj (kM hs) (ie it).1 (mE b λs z=>ih sc env s)
  |While c b o p=>
   refine p8 (P:=λm=>ba G A sc env (exec (.While c b o p) env) (ex pA cl m)) bF λh=>?_;cases o with
   |cons _ _=>exact ak h
   |nil=>exact Ds (ie c).2 (mE b λs z=>ih sc env s)
  |Return e p=>
   cases e with
   |some e=>exact HC (ie e).1
   |none=>exact Gm
  |Pass p=>exact Fc
  |Continue p=>exact FT
  |_=>exact bF
end
structure Wd (G:GE) (cx:Cx) (P:List Fn) (addr:Nat→Addr) (mg mb:Str→Option Value):Prop where
 lim:G.base.NoLimit
 kl:Kl G
 kf:pC G
 gb:jk G mg mb
 consts:∀x v,cx.consts.lookup x=some v→∃w,mg x=some w∧∀x,av G x→RV G x v w
 fn:∀(k:Nat) fn,P[k]?=some fn→∃fd body dV,jf G fn (addr k) fd body dV∧fn.body=body.map (jo cx 60 fd.scope.names)
 fns:∀x k,dX x=true→g7 x cx.fns 0=some k→k<P.length∧mg x=some (.ref (addr k))
 prims:∀p∈nS,mg (Str.ofString p.1)=none∧mb (Str.ofString p.1)=some (lR p.2)
 isinst:mg "isinstance"=none∧mb "isinstance"=some (.builtin "isinstance")
 str:mg "str"=none∧mb "str"=some (.type "str")
 host:∀p∈pX,∀k,g7 (Str.ofString p.2) cx.fns 0=some k→∃fd,kA G G.CH (Str.ofString p.1) (addr k) fd
 tab:∃fI fdI p fP fdP pp,rI G mg fI fdI p fP fdP pp
 hst:∃fI fdI p,y6 G mg fI fdI p
 tt:mg "TypeTable"=some (.ref G.CT)∧keepIn G.K (.ref G.CT)=true
 rh:mg "RefHost"=some (.ref G.CH)∧keepIn G.K (.ref G.CH)=true
section
variable{cx:Cx}{addr:Nat→Addr}{mg mb:Str→Option Value}
theorem bK.less{A:Around}{e:Nat}(a:bK A d)(h:e≤d):bK A e:=⟨a.handled,Qa (Qw (QB (Nat.mul_le_mul_left 3 h) _) _) a.units,Qa (QB h _) a.depth⟩
theorem Wd.gl{A:Around}{d:Nat}{cl:Nat→List V→St→(V→St→Prop)→Prop}(wd:Wd G cx P addr mg mb)(aok:bK A (d+3))(hc:∀k,lZ G A cl k (addr k)):Gl G A cx cl mg mb:=by have len:=wd.prims ("len",.len) mh;obtain⟨fI,fdI,p,fP,fdP,pp,tc⟩:=wd.tab;refine J1 wd.hst λfH fdH ph hcl=>?_;exact {kl:=wd.kl,kf:=wd.kf,gb:=wd.gb,consts:=wd.consts,prims:=wd.prims,isinst:=wd.isinst,str:=wd.str,fns:=λx k hx hk=>(wd.fns x k hx hk).elim λh1 h2=>(wd.fn k _ (Qg h1)).elim λfd h=>h.elim λbody h=>h.elim λdV h=>⟨addr k,fd,h2,h.1.at_,hc k⟩,host:=λp hp k hk=>(wd.host p hp k hk).elim λfd m=>⟨_,fd,m,hc k⟩,put:=⟨fP,fdP,tc.put,Cn (d:=d) wd.kl wd.gb wd.lim len.1 len.2 tc.pline tc.pok rfl tc.pnames (aok.less (QB (ag rfl) _))⟩,tt:=⟨wd.tt.1,wd.tt.2,Di (d:=d) wd.kl wd.gb wd.lim len.1 len.2 tc aok⟩,rh:=⟨wd.rh.1,wd.rh.2,Ax (d:=d) wd.kl wd.gb wd.lim hcl aok⟩}
theorem AN(wd:Wd G cx P addr mg mb):∀(n:Nat)(A:Around),bK A (n+3)→∀k,lZ G A (fv pA P n) k (addr k):=by
 intro n;induction n with
 |zero=>exact λA aok k x E K Q xs us I r h=>h.elim
 |succ n ih=>intro A aok k x E K Q xs us I r h q;refine aY (x:=P[k]?) (K:=λfn=>BG (fv pA P n) fn xs x.S K) h λfn hf h=>?_;refine J2 (wd.fn k fn hf) λfd body dV ok hb=>?_;refine FF (d:=n+3) wd.lim ok aok (λenv aok'=>?_) I r h q;rw[hb];exact mE body λst z=>Bf (wd.gl aok' (ih _ aok')) aok' 60 _ env st
end
noncomputable def isTup:Value→Bool|.type s=>s == "tuple" |_=>false
noncomputable def Dv(o:Obj):Option (List Value):=match o.data with
 |.seq xs k=>match isTup o.cls&&o.dict.isNone&&o.slots.isEmpty&&beq k 0 with
  |true=>some xs.toList
  |false=>none
 |_=>none
noncomputable abbrev gr:=Addr→Option Obj
noncomputable abbrev lk(K:Frag):gr:=λa=>K.lookup a
noncomputable def vJ(K:gr):Value→Option (List Value)
 |.ref a=>(K a).bind Dv
 |_=>none
noncomputable def Nc:Value→Option Int|.int i _=>some i|_=>none
noncomputable def Hf:Value→Option Str|.str x _=>some x|_=>none
noncomputable def Hg:Value→Bool|.none=>true|_=>false
mutual
noncomputable def Ky(K:gr):V→Value→Bool
 |.nul,w=>Hg w
 |.int i,w=>(Nc w).any λj=>decide (i=j)
 |.str s,w=>(Hf w).any λx=>cj x.cps.toList s&&dC x
 |.tp l,w=>(vJ K w).any λxs=>ble l.length aD&&qJ K l xs
 |.bool _,_=>false
 |.ls _,_=>false
 |.rng _,_=>false
 |.id _ _,_=>false
 |.hd _ _,_=>false
noncomputable def qJ(K:gr):List V→List Value→Bool
 |[],xs=>xs.isEmpty
 |v::l,xs=>match xs with|[]=>false|x::xs=>Ky K v x&&qJ K l xs
end
theorem CY(h:Dv o=some xs):o={cls:=.type "tuple",data:=.seq xs.toArray}:=by
 obtain⟨c,d,da,sl⟩:=o;induction da using Data.casesOn with
 |seq ys k=>
  have h:(match isTup c&&d.isNone&&sl.isEmpty&&beq k 0 with|true=>some ys.toList|false=>none)=some xs:=h;cases q:isTup c&&d.isNone&&sl.isEmpty&&beq k 0 with
  |false=>rw[q]at h;exact ah h
  |true=>
   rw[q]at h;replace h:=PG h;subst h;refine U2 (aa q) λq q4=>?_;refine U2 (aa q) λq q3=>?_;refine U2 (aa q) λq1 q2=>?_;cases tP q2;have q3:sl=#[]:=Array.isEmpty_iff.mp q3;have q4:k=0:=PJ q4;subst q3 q4;induction c using Value.casesOn with
   |type s=>have:=eq_of_beq (show(s == "tuple")=true from q1);subst this;rfl
   |_=>exact ak q1
 |_=>exact ah h
theorem qY{K:gr}(h:vJ K w=some xs):∃a,w=.ref a∧K a=some {cls:=.type "tuple",data:=.seq xs.toArray}:=by
 induction w using Value.casesOn with
 |ref a=>refine X2 (Qm.mp h) λo h1 h2=>?_;exact aB a rfl (CY h2▸h1)
 |_=>exact ah h
theorem vU{K:Frag}(I:av G x)(X:K.In x.h):(∀v w,Ky (lk K) v w=true→RV G x v w)∧∀l ws,qJ (lk K) l ws=true→bP G x l ws:=by
 refine V.ind (λw h=>?_) (λz w h=>ak h) (λi w h=>?_) (λs w h=>?_) (λl ih w h=>?_) (λz z w h=>ak h) (λz w h=>ak h) (λz z z w h=>ak h) (λz z w h=>ak h) (λws h=>?_) (λv l ih ihs ws h=>?_)
 ·induction w using Value.casesOn<;>first|exact rfl|exact ak h
 ·refine X2 (bA h) λj h1 h2=>?_;induction w using Value.casesOn<;>first|((replace h1:=PG h1;subst h1);exact⟨_,by rw (config:={}) [PI h2]⟩)|exact ah h1
 ·refine X2 (bA h) λy h1 h2=>?_;refine U2 (aa h2) λh2 h3=>?_;have e:=bk.mp h2;induction w using Value.casesOn<;>first|(cases (h1);exact ke y _ rfl e (e▸(gD h3).2) ((gD h3).1))|exact ah h1
 ·refine X2 (bA h) λxs h1 h2=>?_;refine U2 (aa h2) λh2 h3=>?_;obtain⟨a,rfl,ha⟩:=qY h1;have ha:aK x.h a xs:=X a _ ha;exact qL a xs rfl ha (I.tp ha) (P6 h2) (ih xs h3)
 ·cases ws<;>first|exact rfl|exact ak h
 ·cases ws with
  |nil=>exact ak h
  |cons w ws=>exact lb w ws rfl (ih w (aa h).1) (ihs ws (aa h).2)
noncomputable def JZ(o:Obj):Option FuncData:=match o.data with|.func fd=>some fd|_=>none
noncomputable def jS(K:gr)(a:Addr):Option FuncData:=(K a).bind JZ
noncomputable abbrev Hh:=Arguments×List Stmt×Scope
noncomputable def dF:List Nat→List Stmt→Option Hh
 |[],_=>none
 |i::r,l=>match l[i]? with
  |some (.FunctionDef _ a b _ _ _ s _ _ _)=>some (a,b,s)
  |some (.ClassDef _ _ _ b _ _ _ _ _ _ _)=>dF r b
  |_=>none
noncomputable def G2:Option Addr→Value|none=>.none|some a=>.ref a
noncomputable abbrev EH:=(Arguments×FuncBody×Scope)×Value×Value×Addr×Addr×List (Str×Addr)
noncomputable def pB(fd:FuncData):EH:=((fd.params,fd.body,fd.scope),fd.defaults,fd.kwdefaults,fd.globals,fd.builtins,fd.closure)
noncomputable def o6(d:Option Addr)(x:Hh):EH:=((x.1,.stmts x.2.1,x.2.2),G2 d,.none,mainGlobals,builtinsNs,[])
noncomputable def LW(d:Option Addr)(x:Hh)(o:FuncData):FuncData:=⟨o.name,o.qualname,x.1,.stmts x.2.1,x.2.2,mainGlobals,[],G2 d,.none,o.doc,o.pyModule,o.annotations,o.code,o.closureTuple,builtinsNs⟩
noncomputable def Jz(v:EH)(o:FuncData):FuncData:=⟨o.name,o.qualname,v.1.1,v.1.2.1,v.1.2.2,v.2.2.2.1,v.2.2.2.2.2,v.2.1,v.2.2.1,o.doc,o.pyModule,o.annotations,o.code,o.closureTuple,v.2.2.2.2.1⟩
theorem LN(h:pB fd=o6 d x):fd=LW d x fd:=(Qb (λv=>Jz v fd) h:Jz (pB fd) fd=Jz (o6 d x) fd)
noncomputable def vW:NameKind→Bool|.free=>true|_=>false
noncomputable def xH:List Str→Bool
 |[]=>true
 |x::l=>!l.any (λy=>cj y.cps.toList x.cps.toList)&&xH l
noncomputable def tq(fn:Fn)(x:Hh):Bool:=decide (x.2.2.kind=.function) && !x.2.2.isCoroutine && !x.2.2.isGenerator&&beq fn.slots x.2.2.names.length&&ble fn.params fn.slots&&xH (x.2.2.names.map (·.1))&&(x.2.2.names.take fn.params).all (λp=>cc p.2)&&x.2.2.names.all λp=>!vW p.2
noncomputable def GD:Value→Option Addr|.ref a=>some a|_=>none
noncomputable def Dh(o:Obj):Option Str:=match o.data with|.fields vs=>(vs[1]?).bind Hf|_=>none
noncomputable def vF(K:gr)(fd:FuncData):Bool:=(((GD fd.code).bind K).bind Dh).any λq=>q==fd.qualname
noncomputable def BH(K:gr)(fd:FuncData):Option (List Value):=match Hg fd.defaults with|true=>some []|false=>vJ K fd.defaults
noncomputable def gO(f:Nat→Value):Nat→Nat→List Value
 |0,_=>[]
 |n+1,i=>f i::gO f n (i+1)
noncomputable abbrev xu:=Fn×Addr×List Nat×Option Addr
noncomputable def kX(d:Option Addr)(g:Nat→Value)(k:Nat):Frag:=match d with|none=>[]|some a=>[(a,{cls:=.type "tuple",data:=.seq (gO g k 0).toArray})]
noncomputable def pF(l:List Stmt)(T:Setting)(f g:Nat→Value)(o:FuncData)(t:xu):Option (List (Option (List (Str×Value)))):=(dF t.2.2.1 l).map λx=>(List.range (t.1.dflts.length+1)).map λi=>peek (kX t.2.2.2 g t.1.dflts.length) T (PySem.bindArgs (LW t.2.2.2 x o) ⟨gO f (t.1.params-i) 0,[]⟩)
noncomputable def mj(l:List Stmt)(f g:Nat→Value)(t:xu):Option (List (Option (List (Str×Value)))):=(dF t.2.2.1 l).map λx=>(List.range (t.1.dflts.length+1)).map λi=>some (((x.2.2.names.take t.1.params).map (·.1)).zip (gO f (t.1.params-i) 0++(gO g t.1.dflts.length 0).drop (t.1.params-i+t.1.dflts.length-t.1.params)))
structure ES (l:List Stmt) (K:gr) (tab:List xu):Prop where
 view:tab.map (λt=>(jS K t.2.1).map pB)=tab.map λt=>(dF t.2.2.1 l).map (o6 t.2.2.2)
 code:(tab.all λt=>(jS K t.2.1).any (vF K))=true
 dfl:(tab.all λt=>(jS K t.2.1).any λfd=>(BH K fd).any λdV=>qJ K t.1.dflts dV)=true
structure Bi (l:List Stmt) (tab:List xu):Prop where
 shape:(tab.all λt=>(dF t.2.2.1 l).any (tq t.1))=true
 binds:∀T f g o,tab.map (pF l T f g o)=tab.map (mj l f g)
theorem yS:∀(ws:List Value)(i:Nat)(f:Nat→Value),(∀(j:Nat) w,ws[j]?=some w→f (i+j)=w)→gO f ws.length i=ws:=by
 intro ws;induction ws with
 |nil=>exact λz z z=>rfl
 |cons w ws ih_=>
  exact λi f h=>by show f i::gO f ws.length (i+1)=_;rw[show f i=w from h 0 w rfl,ih_ (i+1) f λj w e=>by rw[Nat.add_right_comm];exact h (j+1) w e]
theorem r9{α β:Type}{l:List α}{f g:α→β}(h:l.map f=l.map g){k:Nat}{a:α}(e:l[k]?=some a):f a=g a:=by
 have:(l.map f)[k]?=(l.map g)[k]?:=by rw[h]
 rw[QQ,QQ,e]at this;exact PG this
section
variable{G:GE}{fn:Fn}{a:Addr}
theorem IP{K:gr}(h:jS K a=some fd):∃o,K a=some o∧o.data=.func fd:=by
 refine X2 (Qm.mp h) λo h1 h2=>?_;refine aB o h1 ?_;unfold JZ at h2;split at h2
 ·rename_i h;cases (h2);exact h
 ·cases h2
theorem Iv{K:Frag}(X:K.In h)(hc:vF (lk K) fd=true):h.CodeRec fd.code fd.qualname:=by
 refine X2 (bA hc) λq h1 h2=>?_;cases eq_of_beq h2;refine X2 (Qm.mp h1) λo h1 h2=>?_;refine X2 (Qm.mp h1) λc h3 h4=>?_;have hcd:fd.code=.ref c:=by
  induction e:fd.code using Value.casesOn with
  |ref b=>rw[e]at h3;replace h3:=PG h3;subst h3;rfl
  |_=>rw[e]at h3;exact ah h3
 unfold Dh at h2;split at h2
 ·rename_i vs hvs;obtain⟨w,h5,h6⟩:=Qm.mp h2;induction w using Value.casesOn<;>first|(cases h6;exact⟨c,o,vs,_,hcd,X c o h4,hvs,h5⟩)|cases h6
 ·cases h2
theorem w6{K:gr}:∀{l:List V}{ws:List Value},qJ K l ws=true→l.length=ws.length
 |[],[],_=>rfl
 |[],_::_,h=>ak h
 |_::_,[],h=>ak h
 |_::_,_::_,h=>Qb (· + 1) (w6 (aa h).2)
theorem Ge:∀{l:List Str},xH l=true→l.Nodup:=by
 intro l;induction l with
 |nil=>exact @λz=>.nil
 |cons x l ih_=>
  exact @λh=>by refine U2 (aa h) λh1 h2=>?_;refine .cons (λy hy e=>?_) (ih_ h2);subst e;rw[QA.mpr ⟨x,hy,bk.mpr rfl⟩]at h1;exact ak h1
structure zp (fn:Fn) (sc:Scope):Prop where
 kind:sc.kind=.function
 co:sc.isCoroutine=false
 gen:sc.isGenerator=false
 slots:fn.slots=sc.names.length
 par:fn.params≤fn.slots
 nd:(sc.names.map (·.1)).Nodup
 own:((sc.names.take fn.params).all λp=>cc p.2)=true
 nofree:(sc.names.all λp=>!vW p.2)=true
theorem Ey(h:tq fn x=true):zp fn x.2.2:=by have a7:=aa h;have a6:=aa a7.1;have a5:=aa a6.1;have a4:=aa a5.1;have a3:=aa a4.1;have a2:=aa a3.1;have a1:=aa a2.1;exact⟨PI a1.1,(Qo _).mp a1.2,(Qo _).mp a2.2,PJ a3.2,P6 a4.2,Ge a5.2,a6.2,a7.2⟩
theorem zp.kinds(S:zp fn sc)(i:Nat)(y:Str)(k:NameKind)(e:sc.names[i]?=some (y,k))(lt:i<fn.params):k=.local∨k=.cell:=by have:=P5.mp S.own (y,k) (PZ.mpr ⟨i,by rw[List.getElem?_take_of_lt lt];exact e⟩);cases k<;>first|exact .inl rfl|exact .inr rfl|exact ak this
theorem zp.free(S:zp fn sc)(y:Str)(k:NameKind)(hm:(y,k)∈sc.names)(e:k=.free):False:=by subst e;exact nomatch P5.mp S.nofree (y,.free) hm
theorem o4{ws:List Value}{n:Nat}(h:n=ws.length):gO (λj=>ws.getD j .none) n 0=ws:=by subst h;exact yS ws 0 _ λj w e=>by rw[Nat.zero_add,Ru,e];rfl
theorem MZ{h:Heap}{d:Option Addr}{g:Nat→Value} (q:∀a,d=some a→h.get? a=some {cls:=.type "tuple",data:=.seq (gO g k 0).toArray}):(kX d g k).In h:=by
 cases d with
 |none=>exact λz z h=>ah h
 |some b=>
  intro c o' e;have e:(match c==b with|true=>some _|false=>none)=some o':=e;cases r:c==b with
  |false=>rw[r]at e;exact ah e
  |true=>rw[r]at e;replace e:=PG e;subst e;cases eq_of_beq r;exact q _ rfl
theorem Fv{a:Addr}{fd:FuncData}{dV ws:List Value}{s:Shared}(hx:dF path l=some x)(eX:fd=LW d x fd)(ld:fn.dflts.length=dV.length)(bd:∀T f g,pF l T f g fd (fn,a,path,d)=mj l f g (fn,a,path,d))(kx:(kX d (λj=>dV.getD j .none) fn.dflts.length).In s.heap)(l1:ws.length≤fn.params)(l2:fn.params≤ws.length+dV.length) :
 BindsTo s fd ⟨ws,[]⟩ (((fd.scope.names.take fn.params).map (·.1)).zip (ws++dV.drop (ws.length+dV.length-fn.params))):=by
 refine kp_binds kx λT=>?_;have hi:fn.params-ws.length<fn.dflts.length+1:=by rw[ld];omega
 have:=bd T (λj=>ws.getD j .none) λj=>dV.getD j .none;unfold pF mj at this;rw[hx]at this;have:=r9 (PG this) (k:=fn.params-ws.length) (a:=fn.params-ws.length) (List.getElem?_range hi);dsimp only at this;rw[Nat.sub_sub_self l1,o4 rfl,← eX,o4 ld,show x.2.2=fd.scope by rw[eX];rfl,ld]at this;exact ld▸this
theorem zS{l:List Stmt}{tab:List xu}(X:G.K.In G.base)(R:ES l (lk G.K) tab)(W:Bi l tab){k:Nat}{path:List Nat}{d:Option Addr}(ht:tab[k]?=some (fn,a,path,d)):∃fd dV x,dF path l=some x∧fd.scope=x.2.2∧fn.dflts.length=dV.length∧jf G fn a fd x.2.1 dV:=by
 have mem:=PZ.mpr ⟨k,ht⟩;have hv:=r9 R.view ht;refine X2 (bA (P5.mp W.shape _ mem)) λx hx h1=>?_;rw[hx]at hv;refine X2 (Qr.mp hv) λfd hf hv=>?_;have eX:=LN hv;have hc:=P5.mp R.code _ mem;have hd:=P5.mp R.dfl _ mem;have hf:jS (lk G.K) a=some fd:=hf;dsimp only at hc hd;rw[hf]at hc hd;refine X2 (bA (show(BH (lk G.K) fd).any _=true from hd)) λdV hdv hd=>?_;have ld:=w6 hd;refine X2 (IP hf) λo ho hod=>?_;have eS:fd.scope=x.2.2:=by rw[eX];rfl
 have S:zp fn fd.scope:=eS▸Ey h1;refine BC fd dV x hx eS ld ⟨⟨o,X a o ho,hod⟩,Iv X hc,by rw[eX];rfl,S.kind,S.co,S.gen,by rw[eX];rfl,by rw[eX];rfl,by rw[eX];rfl,S.slots,S.par,S.nd,S.kinds,S.free,λy I=>bP.all ((vU I (X.keeps λb o e=>I.base b o e)).2 _ _ hd),λws s kp l1 l2=>Fv hx eX ld (λT f g=>r9 (W.binds T f g fd) ht) (MZ λb e=>?_) l1 l2⟩;rw[o4 ld];subst e;rw[eX]at hdv;have hdv:vJ (lk G.K) (.ref b)=some dV:=hdv;refine X2 (qY hdv) λb' e1 e2=>?_;cases e1;exact kp _ _ (X _ _ e2)
theorem vR{K:Frag}{a:Addr}{m:Str→Option Value}(X:K.In h)(n:h.Ns a m)(e:nsIn K a x=some r):m x=r:=by
 refine J4 n λo es ep ho hd _ hf=>?_;induction o using PySem.Obj.casesOn with
 |mk c d t s=>
  cases hd;unfold nsIn at e;cases hK:K.lookup a with
  |none=>rw[hK]at e;exact ah e
  |some ob=>
   have:=X a _ hK;rw[ho]at this;replace this:=PG this;subst this;rw[hK]at e;dsimp only at e;rw[← hf x];delta nsFind findBy
   split at e
   ·rename_i e' hfind;replace e:=PG e;subst e;rw[Array.find?_toList]at hfind;rw[hfind];rfl
   ·rename_i hfind;rw[Array.find?_toList]at hfind;rw[hfind];split at e
    ·exact ah e
    ·replace e:=PG e;subst e;rfl
noncomputable def fW(K:Frag)(L:gr)(p:Str×V):Bool:=((nsIn K mainGlobals p.1).bind id).any (Ky L p.2)
theorem ng{mg:Str→Option Value}(X:G.K.In G.base)(n:G.base.Ns mainGlobals mg)(e:fW G.K (lk G.K) p=true):∃w,mg p.1=some w∧∀x,av G x→RV G x p.2 w:=by refine X2 (bA e) λw h1 h2=>?_;refine X2 (Qm.mp h1) λr h3 h4=>?_;exact aB w ((vR X n h3).trans h4) (λx I=>(vU I (X.keeps λb o e=>I.base b o e)).1 _ _ h2)
theorem C9:∀{l:List (Str×V)},l.lookup x=some v→(x,v)∈l:=by
 intro l;induction l with
 |nil=>exact @λh=>ah h
 |cons p r ih_=>
  exact @λh=>by
   rw[RB]at h;cases e:x==p.1 with
   |true=>rw[e]at h;replace h:=PG h;subst h;rw[eq_of_beq e];exact .head _
   |false=>rw[e]at h;exact mt (ih_ h)
theorem ER:∀{l:List Str}{n k:Nat},g7 x l n=some k→n≤k∧l[k-n]?=some x:=by
 intro l;induction l with
 |nil=>exact @λz z h=>ah h
 |cons y r ih_=>
  exact @λn k h=>by
   unfold g7 at h;cases e:x==y with
   |true=>rw[e]at h;replace h:=PG h;subst h;rw[sub_self,eq_of_beq e];exact⟨Qi _,rfl⟩
   |false=>rw[e]at h;refine U2 (ih_ h) λh1 h2=>?_;refine⟨Nat.le_of_succ_le h1,?_⟩;rw[show k-n=(k-(n+1))+1 from Fh h1];exact h2
noncomputable def jd(K:Frag)(x:Str)(a:Addr):Bool:=(((nsIn K mainGlobals x).bind id).bind GD).any (beq a)
theorem pL{mg:Str→Option Value}(X:G.K.In G.base)(n:G.base.Ns mainGlobals mg)(e:jd G.K x a=true):mg x=some (.ref a):=by
 refine X2 (bA e) λb h1 h2=>?_;cases PJ h2;refine X2 (Qm.mp h1) λw h3 h4=>?_;refine X2 (Qm.mp h3) λr h5 h6=>?_;have:r=some (.ref a):=by
  have:w=.ref a:=by induction w using Value.casesOn<;>first|((replace h4:=PG h4;subst h4);rfl)|exact ah h4
  exact this▸h6
 exact(vR X n h5).trans this
end
noncomputable def gC:Str:=Str.ofString "KEY_FAMILIES"
noncomputable def jt:List (List Nat):=[[57],[58],[59],[60],[61],[63],[64],[65],[66],[67],[68],[69],[71],[72],[73],[74],[75],[78],[79],[87],[88],[89],[90],[93],[94],[95],[96],[97],[98],[99],[100],[101],[102],[103],[104],[105],[106],[109],[110],[111],[112],[113],[114],[115],[116],[117],[130],[131],[132],[133],[134],[135],[136],[137],[138],[139],[143],[144],[145],[146],[147],[149],[150],[153],[158],[159],[160],[161],[162],[163],[164],[165],[166],[167],[168],[169],[170],[171],[172],[173],[174],[175],[176],[177],[178],[125,1],[126,1]]
noncomputable def Nv(a:Addr):Option Addr:=[(159,152),(167,160),(184,177),(438,431)].lookup a
noncomputable def eK:List xu:=(prog.zip (c9.zip jt)).map λp=>(p.1,p.2.1,p.2.2,Nv p.2.1)
structure jT (l:List Stmt) (K:Frag):Prop where
 fns:ES l (lk K) eK
 consts:(cx.consts.all λp=>p.1==gC||fW K (lk K) p)=true
 refs:((cx.fns.zip c9).all λp=>!dX p.1||jd K p.1 p.2)=true
structure vP (l:List Stmt):Prop where
 fns:Bi l eK
 bodies:eK.map (λt=>(dF t.2.2.1 l).map λx=>x.2.1.map (jo cx 60 x.2.2.names))=eK.map λt=>some t.1.body
section
variable{G:GE}{mg:Str→Option Value}
theorem zR{k:Nat}(h:k<87):c9[k]?=some (c9.getD k 0):=by have:k<c9.length:=h;rw[Qg this,Ru,Qg this];rfl
theorem yi(F:jT l G.K)(W:vP l)(X:G.K.In G.base)(e:prog[k]?=some fn):∃fd body dV,jf G fn (c9.getD k 0) fd body dV∧fn.body=body.map (jo cx 60 fd.scope.names):=by
 have lt:k<87:=(PO.mp e).1;have hp:jt[k]?=some (jt.getD k []):=by have:k<jt.length:=lt;rw[Qg this,Ru,Qg this];rfl
 have hz:eK[k]?=some (fn,c9.getD k 0,jt.getD k [],Nv (c9.getD k 0)):=by
  delta eK
  have h2:(c9.zip jt)[k]?=some (c9.getD k 0,jt.getD k []):=Rx.mpr ⟨zR lt,hp⟩;have h3:(prog.zip (c9.zip jt))[k]?=some (fn,c9.getD k 0,jt.getD k []):=Rx.mpr ⟨e,h2⟩;rw[QQ,h3];rfl
 refine J4 (zS X F.fns W.fns hz) λfd dV x hx es _ ok=>?_;have hb:=r9 W.bodies hz;rw[hx]at hb;exact tX fd _ dV ok (es▸(PG hb).symm)
theorem DQ(F:jT l G.K)(X:G.K.In G.base)(g:G.base.Ns mainGlobals mg)(hx:dX x=true)(e:g7 x cx.fns 0=some k):k<prog.length∧mg x=some (.ref (c9.getD k 0)):=by have h:=(ER e).2;have lt:k<87:=(PO.mp h).1;have hz:(cx.fns.zip c9)[k]?=some (x,c9.getD k 0):=Rx.mpr ⟨h,zR lt⟩;have:=P5.mp F.refs _ (PZ.mpr ⟨k,hz⟩);rw[hx]at this;exact⟨lt,pL X g this⟩
theorem yM(F:jT l G.K)(X:G.K.In G.base)(g:G.base.Ns mainGlobals mg)(hf:jd G.K gC G.KF=true)(x:Str)(v:V)(e:cx.consts.lookup x=some v):∃w,mg x=some w∧∀x,av G x→RV G x v w:=by
 have:=P5.mp F.consts _ (C9 e);cases q:x==gC with
 |true=>
  replace q:=eq_of_beq q;subst q;have e':cx.consts.lookup gC=some (.hd .fd 0):=by rfl
  cases e'.symm.trans e;exact aB _ (pL X g hf) (λx I=>⟨_,rfl,rfl⟩)
 |false=>have this:(x==gC||fW G.K (lk G.K) (x,v))=true:=this;rw[q]at this;exact ng (p:=(x,v)) X g this
end
noncomputable abbrev qK(p:Nat→Pos):List Stmt:=[
 .Assign [.Attribute (.Name "self" (p 0)) "tab" (p 1)] (.Name "tab" (p 2)) (p 3),
 .Assign [.Attribute (.Name "self" (p 4)) "deep" (p 5)] (.Constant (.int 0) 0 (p 6)) (p 7),
 .Assign [.Attribute (.Name "self" (p 8)) "most_rounds" (p 9)] (.Name "MOST_ROUNDS" (p 10)) (p 11),
 .Assign [.Attribute (.Name "self" (p 12)) "most_deep" (p 13)] (.Name "MOST_SHAPES" (p 14)) (p 15),
 .Assign [.Attribute (.Name "self" (p 16)) "lib" (p 17)] (.Constant .none 0 (p 18)) (p 19)]
noncomputable def gh(l:List (Nat×Nat×Nat×Nat))(i:Nat):Pos:=match l[i]? with|some p=>⟨p.1,p.2.1,p.2.2.1,p.2.2.2⟩|none=>⟨0,0,0,0⟩
noncomputable def Aq:List (Nat×Nat×Nat×Nat):=[(74,8,74,12),(74,8,74,17),(74,20,74,22),(74,8,74,22),(75,8,75,12),(75,8,75,18),(75,21,75,23),(75,8,75,23),(76,8,76,12),(76,8,76,18),(76,22,76,26),(76,21,76,27),(76,8,76,27),(77,8,77,12),(77,8,77,19),(77,22,77,24),(77,8,77,24),(78,8,78,12),(78,8,78,21),(78,24,78,26),(78,8,78,26),(79,8,79,12),(79,8,79,18),(79,21,79,23),(79,8,79,23),(80,8,80,12),(80,8,80,20),(80,23,80,25),(80,8,80,25),(81,8,81,12),(81,8,81,20),(81,23,81,25),(81,8,81,25),(82,8,82,12),(82,8,82,20),(82,23,82,24),(82,8,82,24),(83,8,83,12),(83,8,83,20),(83,23,83,24),(83,8,83,24),(84,12,84,15),(84,19,84,29),(85,12,85,16),(85,12,85,20),(85,21,85,24),(85,12,85,25),(85,12,85,25),(84,8,85,25)]
noncomputable def BV:List (Nat×Nat×Nat×Nat):=[(0,0,0,0),(91,11,91,14),(91,18,91,22),(91,18,91,28),(91,11,91,28),(92,19,92,23),(92,19,92,29),(92,30,92,33),(92,19,92,34),(92,12,92,34),(91,8,92,34),(93,8,93,9),(93,12,93,15),(93,16,93,20),(93,16,93,25),(93,12,93,26),(93,8,93,26),(94,8,94,24),(94,25,94,28),(94,8,94,29),(94,8,94,12),(94,8,94,17),(94,8,94,29),(95,8,95,12),(95,8,95,18),(95,19,95,22),(95,8,95,23),(95,26,95,27),(95,8,95,27),(96,15,96,16),(96,8,96,16)]
noncomputable def Bw:List (Nat×Nat×Nat×Nat):=[(494,8,494,12),(494,8,494,16),(494,19,494,22),(494,8,494,22),(495,8,495,12),(495,8,495,17),(495,20,495,21),(495,8,495,21),(496,8,496,12),(496,8,496,24),(496,27,496,38),(496,8,496,38),(497,8,497,12),(497,8,497,22),(497,25,497,36),(497,8,497,36),(498,8,498,12),(498,8,498,16),(498,19,498,23),(498,8,498,23)]
noncomputable def gp:List xu:=[(⟨1,3,[],.open_,[]⟩,123,[56,0],none),(⟨2,4,[],.open_,[]⟩,137,[56,2],none),(⟨2,4,[],.open_,[]⟩,527,[125,0],none)]
noncomputable def Bx:List (Addr×String):=[(140,"__getattribute__"),(140,"__getattr__"),(140,"__setattr__"),(140,"__init__"),(140,"put"),(140,"rows"),(140,"index"),(691,"__getattribute__"),(691,"__getattr__"),(691,"__setattr__"),(691,"__init__"),(691,"force"),(691,"fits"),(691,"tab")]
noncomputable def Dn:Option (Option Value):=some (some (.builtin "object.__getattribute__"))
noncomputable def CP:Option (Option Value):=some (some (.builtin "object.__setattr__"))
noncomputable def Bt:List String:=["rows","index","decls","bounds","defaults","names","origins","renamed","shaping","putting"]
noncomputable def BP:List String:=["tab","deep","most_rounds","most_deep","lib"]
noncomputable def tH:List String:=["len","sorted","tuple","all","any","range","isinstance","str"]
noncomputable def tN:List (Int×Tok×Int×Tok):=[(3,329,6,369),(4,331,5,367),(5,333,4,365),(6,335,1,359),(7,337,2,361),(10,343,7,371)]
noncomputable def b6(s:String):Str:=Str.ofString s
structure BW (l:List Stmt):Prop where
 fns:Bi l gp
 stm:gp.map (λt=>(dF t.2.2.1 l).map λx=>(x.2.1,x.2.2.names))=[some (mX (gh Aq),gz),some (jH (gh BV),fF),some (qK (gh Bw),ja)]
structure mw (l:List Stmt) (K:Frag):Prop where
 finds:Bx.map (λq=>PySem.W.findIn K (.ref q.1) (b6 q.2))=[Dn,some none,CP,some (some (.ref 123)),some (some (.ref 137)),some none,some none,Dn,some none,CP,some (some (.ref 527)),some (some (.ref 534)),some (some (.ref 681)),some none]
 bools:[plainGet K 140 "rows",plainGet K 140 "index",plainGet K 691 "tab",hasDictIn K 140,hasDictIn K 691,plainOver K 140,plainOver K 691,makesIn K 140,makesIn K 691,keepIn K (.ref 140),keepIn K (.ref 691),jd K gC 109,jd K (b6 "TypeTable") 140,jd K (b6 "RefHost") 691,jd K (b6 "law") 944,fW K (lk K) (b6 "FIRST_ROWS",.tp ax),fW K (lk K) (b6 "MOST_ROUNDS",.int 200),fW K (lk K) (b6 "MOST_SHAPES",.int 40),(K.lookup sysModules).isSome]=List.replicate 19 true
 tt:Bt.map (λx=>takerIn K 140 (b6 x))=Bt.map λ_=>some none
 th:BP.map (λx=>takerIn K 691 (b6 x))=BP.map λ_=>some none
 types:[123,137,527,534,681].map (λa=>typeIn K (.ref a))=List.replicate 5 (some (.type "function"))
 fns3:ES l (lk K) gp
 fam:K.lookup 109=some (PySem.W.dictOf (tN.map λe=>⟨e.1,.int e.1 e.2.1,.int e.2.2.1 e.2.2.2⟩) 6)
 absent:tH.map (λx=>nsIn K mainGlobals (b6 x))=List.replicate 8 (some none)
theorem Ie:tH.map (λx=>bootBuiltins (b6 x))=[some (.builtin "len"),some (.builtin "sorted"),some (.type "tuple"),some (.builtin "all"),some (.builtin "any"),some (.type "range"),some (.builtin "isinstance"),some (.type "str")]:=by kernel_rfl
theorem kS{α:Type}{l m:List α}{a b:α}(i:Nat)(h:l=m)(ha:l[i]?=some a)(hb:m[i]?=some b):a=b:=by subst h;exact PG (ha.symm.trans hb)
section
variable{G:GE}{mg mb:Str→Option Value}
theorem vd{L:List String}(F:mw l G.K) (h1:PySem.W.findIn G.K (.ref C) "__setattr__"=CP) (h2:plainOver G.K C=true) (h3:hasDictIn G.K C=true) (h:L.map (λx=>takerIn G.K C (b6 x))=L.map λz=>some none):∀nm∈L,gj G.K C (Str.ofString nm):=λnm hm=>⟨h1,h2,QE.mp h nm hm,h3⟩
theorem Ik(F:mw l G.K)(X:G.K.In G.base)(e:G.KF=109):pC G:=by
 refine⟨⟨tN.map λe=>(.int e.1,.int e.2.2.1 e.2.2.2),⟨_,_,_,e▸X _ _ F.fam,⟨rfl,rfl,rfl⟩,rfl,λe he=>?_,?_,by
  show((tN.map (·.1)).map D.int).Nodup;exact Rp.mpr ((by decide:(tN.map (·.1)).Pairwise (·≠·)).imp λh e=>h (by cases e;rfl))⟩,?_⟩,by rw[e];rfl⟩
 ·simp only[tN,List.mem_toArray,Q4,List.map_nil,P4,not_mem_nil,or_false]at he;rcases he with rfl|rfl|rfl|rfl|rfl|rfl<;>exact aB (.int _) (PL ⟨_,rfl⟩) rfl
 ·repeat' first|exact .nil|refine .cons (PL ⟨_,rfl⟩) rfl ?_
 ·repeat' first|exact .nil|refine .cons ?_
theorem Mh(FA:jT l G.K)(WA:vP l)(WB:BW l)(F:mw l G.K)(X:G.K.In G.base)(g:G.base.Ns mainGlobals mg)(b:G.base.Ns builtinsNs mb)(nl:G.base.NoLimit) (hb:∀x:Str,x≠"__name__"→mb x=bootBuiltins x) (eT:G.CT=140) (eH:G.CH=691) (eF:G.KF=109):Wd G cx prog (λk=>c9.getD k 0) mg mb:=by
 have find:=λ(i:Nat){a c:Option (Option Value)}(ha:(Bx.map (λq=>PySem.W.findIn G.K (.ref q.1) (b6 q.2)))[i]?=some a) hb=>kS (b:=c) i F.finds ha hb;have bool:=λ(i:Nat){a:Bool} ha hb=>kS (a:=a) (b:=true) i F.bools ha hb;have gone:=λ(i:Nat){a:Option (Option Value)}(ha:(tH.map (λx=>nsIn G.K mainGlobals (b6 x)))[i]?=some a) hb=>kS (b:=some none) i F.absent ha hb;have boot:=λ(i:Nat){a c:Option Value}(ha:(tH.map (λx=>bootBuiltins (b6 x)))[i]?=some a) hb=>kS (b:=c) i Ie ha hb;have ty:=λ(i:Nat){a:Option Value}(ha:([123,137,527,534,681].map (λa=>typeIn G.K (.ref a)))[i]?=some a) hb=>kS (b:=some (.type "function")) i F.types ha hb;have prim:∀(i:Nat)(x:String)(c:Value),tH[i]?=some x→b6 x≠"__name__"→bootBuiltins (b6 x)=some c→mg (Str.ofString x)=none∧mb (Str.ofString x)=some c:=λi x c hx hn hc=>⟨vR X g (gone i (by rw[QQ,hx];rfl) (by
  have:i<8:=(PO.mp hx).1;rw[List.getElem?_replicate,Qx this])),(hb _ hn).trans hc⟩
 have met:∀{k:Nat}{fn:Fn}{a:Addr}{path:List Nat}{body:List Stmt}{nms:aI},gp[k]?=some (fn,a,path,none)→fn.dflts=[]→[some (mX (gh Aq),gz),some (jH (gh BV),fF),some (qK (gh Bw),ja)][k]?=some (some (body,nms))→∃fd,fd.scope.names=nms∧jf G fn a fd body []:=λ{k fn a path body nms} ht hd hb=>by refine J4 (zS X F.fns3 WB.fns ht) λfd dV x hx es ld ok=>?_;have:=kS k WB.stm (by rw (config:={}) [QQ,ht];rfl) hb;have this:(dF path l).map (λx=>(x.2.1,x.2.2.names))=some (body,nms):=this;rw[hx]at this;cases this;rw[hd]at ld;cases List.length_eq_zero_iff.mp ld.symm;exact aB fd (by rw[es]) ok
 refine X2 (met (k:=0) rfl rfl rfl) λfdI nI aJ=>?_;refine X2 (met (k:=1) rfl rfl rfl) λfdP nP br=>?_;refine X2 (met (k:=2) rfl rfl rfl) λfdH nH okH=>?_;have mth:∀{C f:Addr}{nm:Str}{fd:FuncData},PySem.W.findIn G.K (.ref C) "__getattribute__"=Dn→PySem.W.findIn G.K (.ref C) "__getattr__"=some none→PySem.W.findIn G.K (.ref C) nm=some (some (.ref f))→typeIn G.K (.ref f)=some (.type "function")→(∃o,G.base.get? f=some o∧o.data=.func fd)→kA G C nm f fd:=λh1 h2 h3 h4 h5=>⟨h1,h2,h3,h4,h5⟩
 have gaT:=find 0 rfl rfl;have gnT:=find 1 rfl rfl;have gaH:=find 7 rfl rfl;have gnH:=find 8 rfl rfl;have at_:∀{k:Nat}{fn:Fn},prog[k]?=some fn→∃fd o,G.base.get? (c9.getD k 0)=some o∧o.data=.func fd:=λe=>(yi FA WA X e).elim λfd h=>h.elim λz h=>h.elim λz h=>⟨fd,h.1.at_⟩
 refine X2 (ng (p:=(b6 "MOST_ROUNDS",.int 200)) X g (bool 16 rfl rfl)) λwr hwr z=>?_;refine X2 (ng (p:=(b6 "MOST_SHAPES",.int 40)) X g (bool 17 rfl rfl)) λws hws z=>?_;have first:∃a,mg "FIRST_ROWS"=some (.ref a)∧∀x,av G x→RV G x (.tp ax) (.ref a):=by have e:=bool 15 rfl rfl;refine X2 (ng (p:=(b6 "FIRST_ROWS",.tp ax)) X g e) λw h1 h2=>?_;refine X2 (bA e) λw' h3 h4=>?_;refine X2 (Qm.mp h3) λr h5 h6=>?_;refine X2 (bA h4) λxs h7 z=>?_;obtain⟨a,rfl,_⟩:=qY h7;have hm:mg (b6 "FIRST_ROWS")=some (.ref a):=(vR X g h5).trans h6;cases h1.symm.trans hm;exact aB a hm h2
 refine {lim:=nl,kl:=⟨X,?_,?_,?_⟩,kf:=Ik F X eF,gb:=⟨g,b⟩,consts:=yM FA X g (eF▸bool 11 rfl rfl),fn:=λk fn e=>yi FA WA X e,fns:=λx k hx e=>DQ FA X g hx e,prims:=?_,isinst:=prim 6 _ _ rfl (by decide) (boot 6 rfl rfl),str:=prim 7 _ _ rfl (by decide) (boot 7 rfl rfl),host:=?_,tab:=?_,hst:=?_,tt:=?_,rh:=?_}
 ·exact eT▸⟨bool 0 rfl rfl,bool 3 rfl rfl,none,find 5 rfl rfl,rfl⟩
 ·exact eT▸⟨bool 1 rfl rfl,bool 3 rfl rfl,none,find 6 rfl rfl,rfl⟩
 ·exact eH▸⟨bool 2 rfl rfl,bool 4 rfl rfl,none,find 13 rfl rfl,rfl⟩
 ·intro p hp;simp only[nS,P4,not_mem_nil,or_false]at hp;rcases hp with rfl|rfl|rfl|rfl|rfl|rfl
  ·exact prim 0 _ _ rfl (by decide) (boot 0 rfl rfl)
  ·exact prim 1 _ _ rfl (by decide) (boot 1 rfl rfl)
  ·exact prim 2 _ _ rfl (by decide) (boot 2 rfl rfl)
  ·exact prim 3 _ _ rfl (by decide) (boot 3 rfl rfl)
  ·exact prim 4 _ _ rfl (by decide) (boot 4 rfl rfl)
  ·exact prim 5 _ _ rfl (by decide) (boot 5 rfl rfl)
 ·intro p hp k e;simp only[pX,P4,not_mem_nil,or_false]at hp;rcases hp with rfl|rfl
  ·cases (show g7 "Thin.force" cx.fns 0=some 85 by rfl).symm.trans e;refine X1 (at_ (k:=85) rfl) λfd h=>?_;exact⟨fd,eH▸mth gaH gnH (find 11 rfl rfl) (ty 3 rfl rfl) h⟩
  ·cases (show g7 "RefHost.fits" cx.fns 0=some 86 by rfl).symm.trans e;refine X1 (at_ (k:=86) rfl) λfd h=>?_;exact⟨fd,eH▸mth gaH gnH (find 12 rfl rfl) (ty 4 rfl rfl) h⟩
 ·exact⟨123,fdI,gh Aq,137,fdP,gh BV,eT▸bool 7 rfl rfl,eT▸find 3 rfl rfl,ty 0 rfl rfl,aJ,nI,eT▸vd F (find 2 rfl rfl) (bool 5 rfl rfl) (bool 3 rfl rfl) F.tt,eT▸mth gaT gnT (find 4 rfl rfl) (ty 1 rfl rfl) br.at_,br,nP,first,rfl,rfl⟩
 ·exact⟨527,fdH,gh Bw,eH▸bool 8 rfl rfl,eH▸find 10 rfl rfl,ty 2 rfl rfl,okH,nH,eH▸vd F (find 9 rfl rfl) (bool 6 rfl rfl) (bool 4 rfl rfl) F.th,⟨_,hwr⟩,⟨_,hws⟩⟩
 ·exact eT▸⟨pL X g (bool 12 rfl rfl),bool 9 rfl rfl⟩
 ·exact eH▸⟨pL X g (bool 13 rfl rfl),bool 10 rfl rfl⟩
variable{w:World}{s:Shared}
theorem sH:∀{vs:List Value}{ns:List Int},IntsAre vs ns→aw (RV G x) (ns.map V.int) vs
 |_,_,.nil=>.nil
 |_,_,.cons _ _ r=>.cons ⟨_,rfl⟩ (sH r)
theorem B0{x:Cf}{ns:List Int}(h:aN x.h a vs)(hn:x.w a=none)(hl:ns.length≤63)(hI:IntsAre vs ns):RV G x (.ls (ns.map V.int)) (.ref a):=(⟨a,vs,rfl,h,hn,by rw[PS];exact PM hl (ag rfl),bP.of (sH hI)⟩:AP x (bP G x (ns.map V.int)) (ns.map V.int) (.ref a))
theorem Cu:bK callerA 63:=⟨rfl,ag rfl,ag rfl⟩
theorem FX{K:Frag}{ns:List Int}(FA:jT l K)(F:mw l K)(WA:vP l)(WB:BW l)(X:K.In s.heap)(g:s.heap.Ns mainGlobals mg)(b:s.heap.Ns builtinsNs mb)(nl:s.heap.NoLimit) (hb:∀x:Str,x≠"__name__"→mb x=bootBuiltins x) (hlaw:mg "law"=some (.ref fa)) (hlen:ns.length≤63) (hI:IntsAre vs ns) (ha:s.heap.get? a=some {cls:=.type "list",data:=.seq vs.toArray})
 (hrun:fv pA prog 60 84 [.ls (ns.map V.int)] ⟨130000,0,false,[],[]⟩ λv z=>v=.bool true) :
 wpAny (model p w) callerA (PySem.call (.ref fa) [.ref a]) (λv s'=>v=.bool true∧(∀b o,s.heap.get? b=some o→s'.heap.get? b=some o)∧s'.os=s.os∧s'.gens=s.gens) (λz z=>False) s:=by
 have wd:Wd ⟨p,w,K,s.heap,140,691,109⟩ cx prog (λk=>c9.getD k 0) mg mb:=Mh FA WA WB F X g b nl hb rfl rfl rfl;have e:=pL (G:=⟨p,w,K,s.heap,140,691,109⟩) X g (kS (b:=true) 14 F.bools rfl rfl);cases hlaw.symm.trans e;refine X1 (Q0.mp (kS (b:=true) 18 F.bools rfl rfl)) λo1 h1=>?_;have I:av ⟨p,w,K,s.heap,140,691,109⟩ ⟨⟨130000,0,false,[],[]⟩,[],[],[],λz=>none,s⟩:=⟨λz z h=>h,λz z z=>rfl,⟨o1,X _ _ h1⟩,λz z h=>(ah h),rfl,λz z z h=>(ah h),rfl,λz z z h=>(ah h),λz z h=>(ah h),rfl,(ag rfl:0+130000≤aD),λh=>(ak h),λz h=>(az h)⟩
 refine AN wd 60 callerA Cu 84 ⟨⟨130000,0,false,[],[]⟩,[],[],[],λz=>none,s⟩ _ _ _ _ [.ref a] I (.cons (B0 ⟨0,ha⟩ rfl hlen hI) .nil) hrun λv y u hv nx hr=>?_;subst hv;exact⟨hr,nx.inv.base,nx.le.os,nx.le.gens⟩
end
end Kk
namespace Kk
variable{K:KP}
section
variable{r:V}{α:Type}{clo:Nat→List V→St→(V→St→Option V)→Option V}{clp:Nat→List V→St→(V→St→Prop)→Prop}
abbrev Im{α:Type}(Ko:α→St→Option V)(Kp:α→St→Prop)(r:V):Prop:=∀v S,Ko v S=some r→Kp v S
theorem b8{Ko:α→Option V}{Kp:α→Prop}(h:aq oA x Ko=some r)(f:∀v,Ko v=some r→Kp v):aq pA x Kp:=by
 cases x with
 |none=>exact ah h
 |some v=>exact f v h
theorem k8{Kp:Prop}(h:iff oA b Ko=some r)(f:Ko=some r→Kp):iff pA b Kp:=by
 cases b with
 |false=>exact ah h
 |true=>exact f h
theorem uv:∀{l:List (Option V)},same l=some r→∀a∈l,a=some r:=by
 intro l;induction l with
 |nil=>exact @λh=>ah h
 |cons a l ih_=>
  exact @λh=>by
   refine X2 (Qm.mp (show a.bind (λv=>match l.all λb=>b.any (V.beq v)with|true=>some v|false=>none)=some r from h)) λv h1 h2=>?_;cases q:l.all λb=>b.any (V.beq v)with
   |false=>rw[q]at h2;exact ah h2
   |true=>
    rw[q]at h2;replace h2:=PG h2;subst h2;intro b hb;rcases P4.mp hb with rfl|hb
    ·exact h1
    ·refine X2 (bA (P5.mp q b hb)) λw h3 h4=>?_;rw[h3,iJ h4]
theorem rJ{x:V}:∀(a b:List V),a++x::b∈yt x (a++b)
 |[],[]=>.head _
 |[],_::_=>.head _
 |_::a,b=>mt (Qd.mpr ⟨_,rJ a b,rfl⟩)
theorem vi:∀{l l':List V},l'.Perm l→l'∈vL l
 |[],l',p=>by rw[perm_nil.mp p];exact .head _
 |x::l,l',p=>by obtain⟨a,b,rfl⟩:=List.append_of_mem (p.mem_iff.mpr mh:x∈l');have:(a++b).Perm l:=(List.perm_cons x).mp (List.perm_middle.symm.trans p);exact Qz.mpr ⟨_,vi this,rJ a b⟩
theorem LO{o:cF}{Ko:V→St→Option V}{Kp:KP}(h:o.run oA Ko=some r)(q:Im Ko Kp r):o.run pA Kp:=by
 cases o with
 |bad=>exact ah h
 |ret v S=>exact q v S h
 |two v w S=>have h:same [Ko v S,Ko w S]=some r:=h;exact⟨q v S (uv h _ mh),q w S (uv h _ (mt mh))⟩
 |perm l S=>have h:same ((vL l).map λl'=>Ko (.ls l') {S with o:=(l,l')::S.o})=some r:=h;exact λl' p z=>q _ _ (uv h _ (Qd.mpr ⟨l',vi p,rfl⟩))
theorem Au{ok:St→Bool}{co:au→St→(Bool→St→Option V)→Option V}{cp:au→St→(Bool→St→Prop)→Prop}{eo:au→St→(V→St→Option V)→Option V}{ep:au→St→(V→St→Prop)→Prop}
 (hc:∀vs S Ko Kp,Im Ko Kp r→co vs S Ko=some r→cp vs S Kp) (he:∀vs S Ko Kp,Im Ko Kp r→eo vs S Ko=some r→ep vs S Kp):∀l vs S Ko Kp,Im Ko Kp r→dv oA ok co eo j l vs S Ko=some r→dv pA ok cp ep j l vs S Kp
 |[],vs,S,Ko,Kp,q,h=>k8 h λh=>q _ _ h
 |x::xs,vs,S,Ko,Kp,q,h=>k8 h λh=>hc _ _ _ _ (λb S h=>by
  cases b with
  |true=>exact he _ _ _ _ (λy S h=>Au hc he xs _ _ _ _ (λr S h=>q _ _ h) h) h
  |false=>exact Au hc he xs _ _ _ _ q h) h
theorem IA(hcl:∀f xs S Ko Kp,Im Ko Kp r→clo f xs S Ko=some r→clp f xs S Kp):(∀e vs S Ko Kp,Im Ko Kp r→ev oA clo e vs S Ko=some r→ev pA clp e vs S Kp)∧∀l,(∀vs S Ko Kp,Im Ko Kp r→kG oA clo l vs S Ko=some r→kG pA clp l vs S Kp)∧∀vs S Ko Kp,Im Ko Kp r→gS oA clo l vs S Ko=some r→gS pA clp l vs S Kp:=by
 let P (e:E):Prop:=∀vs S Ko Kp,Im Ko Kp r→ev oA clo e vs S Ko=some r→ev pA clp e vs S Kp
 let Q (l:List E):Prop:=(∀vs S Ko Kp,Im Ko Kp r→kG oA clo l vs S Ko=some r→kG pA clp l vs S Kp)∧∀vs S Ko Kp,Im Ko Kp r→gS oA clo l vs S Ko=some r→gS pA clp l vs S Kp
 have var:∀j,P (.v j):=λj vs S Ko Kp q h=>b8 h λv h=>q v S h;have c:∀v,P (.c v):=λv vs S Ko Kp q h=>q v S h;have tup:∀l,Q l→P (.tp l):=λl ih vs S Ko Kp q h=>ih.1 vs S _ _ (λxs S h=>q _ _ h) h;have list:∀m l,Q l→P (.list m l):=λm l ih vs S Ko Kp q h=>ih.1 vs S _ _ (λxs S h=>by cases m<;>exact q _ _ h) h;have dict:∀ks l,Q l→P (.dict ks l):=λks l ih vs S Ko Kp q h=>ih.1 vs S _ _ (λxs S h=>b8 h λd h=>q _ _ h) h;have and:∀x y,P x→P y→P (.and x y):=λx y ix iy vs S Ko Kp q h=>ix vs S _ _ (λv S h=>b8 h λb h=>by
  cases b with
  |true=>exact iy vs S _ _ q h
  |false=>exact q v S h) h
 have or:∀x y,P x→P y→P (.or x y):=λx y ix iy vs S Ko Kp q h=>ix vs S _ _ (λv S h=>b8 h λb h=>by
  cases b with
  |true=>exact q v S h
  |false=>exact iy vs S _ _ q h) h
 have not:∀x,P x→P (.not x):=λx ix vs S Ko Kp q h=>ix vs S _ _ (λv S h=>b8 h λb h=>q _ _ h) h;have ite:∀x y z,P x→P y→P z→P (.it x y z):=λx y z ix iy iz vs S Ko Kp q h=>ix vs S _ _ (λv S h=>b8 h λb h=>by
  cases b with
  |true=>exact iy vs S _ _ q h
  |false=>exact iz vs S _ _ q h) h
 have bin:∀o x y,P x→P y→P (.bin o x y):=λo x y ix iy vs S Ko Kp q h=>ix vs S _ _ (λv S h=>iy vs S _ _ (λw S h=>b8 h λr h=>q _ _ h) h) h;have cmp:∀o x y,P x→P y→P (.k o x y):=λo x y ix iy vs S Ko Kp q h=>ix vs S _ _ (λv S h=>iy vs S _ _ (λw S h=>b8 h λr h=>q _ _ h) h) h;have lt3:∀x y z,P x→P y→P z→P (.lt3 x y z):=λx y z ix iy iz vs S Ko Kp q h=>ix vs S _ _ (λv S h=>iy vs S _ _ (λw S h=>b8 h λb h=>by
  cases b with
  |true=>exact iz vs S _ _ (λu S h=>b8 h λb h=>q _ _ h) h
  |false=>exact q _ _ h) h) h
 have call:∀f l,Q l→P (.cl f l):=λf l ih vs S Ko Kp q h=>ih.1 vs S _ _ (λxs S h=>hcl f xs S _ _ q h) h;have prim:∀p l,Q l→P (.p p l):=λp l ih vs S Ko Kp q h=>ih.1 vs S _ _ (λxs S h=>b8 h λx h=>LO h q) h;have meth:∀m o l,P o→Q l→P (.me m o l):=λm o l io ih vs S Ko Kp q h=>io vs S _ _ (λx S h=>k8 h λh=>ih.1 vs S _ _ (λxs S h=>LO h q) h) h;have hostm:∀f o l,P o→Q l→P (.hostm f o l):=λf o l io ih vs S Ko Kp q h=>io vs S _ _ (λx S h=>k8 h λh=>ih.1 vs S _ _ (λxs S h=>hcl f _ S _ _ q h) h) h;have attr:∀a o,P o→P (.attr a o):=λa o io vs S Ko Kp q h=>io vs S _ _ (λx S h=>b8 h λr h=>q _ _ h) h;have sub:∀o i,P o→P i→P (.sb o i):=λo i io ii vs S Ko Kp q h=>io vs S _ _ (λx S h=>ii vs S _ _ (λy S h=>b8 h λr h=>q _ _ h) h) h;have slice:∀o a b,P o→P a→P b→P (.slice o a b):=λo a b io ia ib vs S Ko Kp q h=>io vs S _ _ (λx S h=>ia vs S _ _ (λy S h=>ib vs S _ _ (λz S h=>b8 h λr h=>q _ _ h) h) h) h;have rev:∀o,P o→P (.rev o):=λo io vs S Ko Kp q h=>io vs S _ _ (λx S h=>b8 h λr h=>q _ _ h) h;have comp:∀caps j it conds elt,P it→Q conds→P elt→P (.comp caps j it conds elt):=λcaps j it conds elt ii ic ie vs S Ko Kp q h=>ii vs S _ _ (λv S h=>b8 h λl h=>Au ic.2 ie _ _ _ _ _ (λr S h=>q _ _ h) h) h;have thaw:∀e,P e→P (.thaw e):=λe ie vs S Ko Kp q h=>ie vs S _ _ (λv S h=>b8 h λl h=>q _ _ h) h;have newTab:P .newTab:=λvs S Ko Kp q h=>by
  have h:(match ble 16 S.c with|true=>Ko (.hd .tab S.n) {S with c:=S.c-16,n:=S.n+1,late:=false}|false=>none)=some r:=h;show(match ble 16 S.c with|true=>Kp (.hd .tab S.n) {S with c:=S.c-16,n:=S.n+1,late:=false}|false=>False);cases e:ble 16 S.c with
  |true=>rw[e]at h;exact q _ _ h
  |false=>rw[e]at h;exact ah h
 have newHost:∀t,P t→P (.newHost t):=λt it vs S Ko Kp q h=>it vs S _ _ (λv S h=>b8 h λc h=>by obtain⟨c,n⟩:=c;cases c<;>first|exact q _ _ h|exact ah h) h
 have bad:P .bad:=λvs S Ko Kp q h=>ah h;have nil:Q []:=⟨λvs S Ko Kp q h=>q _ _ h,λvs S Ko Kp q h=>q _ _ h⟩
 have cons:∀e l,P e→Q l→Q (e::l):=λe l ie il=>⟨λvs S Ko Kp q h=>ie vs S _ _ (λx S h=>il.1 vs S _ _ (λr S h=>q _ _ h) h) h,λvs S Ko Kp q h=>ie vs S _ _ (λx S h=>b8 h λb h=>by
  cases b with
  |true=>exact il.2 vs S _ _ q h
  |false=>exact q _ _ h) h⟩
 exact⟨@E.rec P Q var c tup list dict and or not ite bin cmp lt3 call prim meth hostm attr sub slice rev comp thaw newTab newHost bad nil cons,@E.rec_1 P Q var c tup list dict and or not ite bin cmp lt3 call prim meth hostm attr sub slice rev comp thaw newTab newHost bad nil cons⟩
abbrev uN(Ko:Fl→au→St→Option V)(Kp:KF)(r:V):Prop:=∀f vs S,Ko f vs S=some r→Kp f vs S
theorem F9{ok:St→Bool}{bo:au→St→(Fl→au→St→Option V)→Option V}{bp:au→St→(Fl→au→St→Prop)→Prop}(hb:∀vs S Ko Kp,uN Ko Kp r→bo vs S Ko=some r→bp vs S Kp):∀l vs S Ko Kp,uN Ko Kp r→bW oA ok bo j l vs S Ko=some r→bW pA ok bp j l vs S Kp
 |[],vs,S,Ko,Kp,q,h=>k8 h λh=>q _ _ _ h
 |x::xs,vs,S,Ko,Kp,q,h=>k8 h λh=>hb _ _ _ _ (λf vs S h=>by
  induction f using Fl.casesOn with
  |ret v=>exact q _ _ _ h
  |next=>exact F9 hb xs _ _ _ _ q h
  |cont=>exact F9 hb xs _ _ _ _ q h) h
theorem xe{co:au→St→(Bool→St→Option V)→Option V}{cp:au→St→(Bool→St→Prop)→Prop}{bo:au→St→(Fl→au→St→Option V)→Option V}{bp:au→St→(Fl→au→St→Prop)→Prop}(hc:∀vs S Ko Kp,Im Ko Kp r→co vs S Ko=some r→cp vs S Kp)(hb:∀vs S Ko Kp,uN Ko Kp r→bo vs S Ko=some r→bp vs S Kp):∀n vs S Ko Kp,uN Ko Kp r→jQ oA co bo n vs S Ko=some r→jQ pA cp bp n vs S Kp
 |0,vs,S,Ko,Kp,q,h=>ah h
 |n+1,vs,S,Ko,Kp,q,h=>hc _ _ _ _ (λb S h=>by
  cases b with
  |false=>exact q _ _ _ h
  |true=>exact hb _ _ _ _ (λf vs S h=>by
   induction f using Fl.casesOn with
   |ret v=>exact q _ _ _ h
   |next=>exact xe hc hb n _ _ _ _ q h
   |cont=>exact xe hc hb n _ _ _ _ q h) h) h
theorem tS(hcl:∀f xs S Ko Kp,Im Ko Kp r→clo f xs S Ko=some r→clp f xs S Kp):(∀s vs S Ko Kp,uN Ko Kp r→ex oA clo s vs S Ko=some r→ex pA clp s vs S Kp)∧∀l vs S Ko Kp,uN Ko Kp r→ao oA clo l vs S Ko=some r→ao pA clp l vs S Kp:=by
 let P (s:S):Prop:=∀vs S Ko Kp,uN Ko Kp r→ex oA clo s vs S Ko=some r→ex pA clp s vs S Kp
 let Q (l:List S):Prop:=∀vs S Ko Kp,uN Ko Kp r→ao oA clo l vs S Ko=some r→ao pA clp l vs S Kp
 have ev:=λe=>(IA hcl).1 e;have assign:∀j e,P (.a j e):=λj e vs S Ko Kp q h=>ev e vs S _ _ (λv S h=>q _ _ _ h) h;have unpack:∀js e,P (.unpack js e):=λjs e vs S Ko Kp q h=>ev e vs S _ _ (λv S h=>b8 h λl h=>b8 h λvs h=>q _ _ _ h) h;have pair:∀j1 j2 e1 e2,P (.pair j1 j2 e1 e2):=λj1 j2 e1 e2 vs S Ko Kp q h=>ev e1 vs S _ _ (λv S h=>ev e2 vs S _ _ (λw S h=>q _ _ _ h) h) h;have setItem:∀o i v,P (.setItem o i v):=λo i v vs S Ko Kp q h=>ev v vs S _ _ (λx S h=>ev o vs S _ _ (λy S h=>ev i vs S _ _ (λz S h=>b8 h λS h=>q _ _ _ h) h) h) h;have expr:∀e,P (.expr e):=λe vs S Ko Kp q h=>ev e vs S _ _ (λv S h=>q _ _ _ h) h;have ite:∀c a b,Q a→Q b→P (.it c a b):=λc a b ia ib vs S Ko Kp q h=>ev c vs S _ _ (λv S h=>b8 h λb h=>by
  cases b with
  |true=>exact ia vs S _ _ q h
  |false=>exact ib vs S _ _ q h) h
 have for_:∀j it b,Q b→P (.for_ j it b):=λj it b ib vs S Ko Kp q h=>ev it vs S _ _ (λv S h=>b8 h λl h=>F9 ib _ _ _ _ _ q h) h;have while_:∀c b,Q b→P (.while_ c b):=λc b ib vs S Ko Kp q h=>xe (co:=λvs S k=>Kk.ev oA clo c vs S λv S=>aq oA (truthy S v) λb=>k b S) (cp:=λvs S k=>Kk.ev pA clp c vs S λv S=>aq pA (truthy S v) λb=>k b S) (λvs S Ko Kp q h=>ev c vs S _ _ (λv S h=>b8 h λb h=>q _ _ h) h) ib _ _ _ _ _ q h;have ret:∀e,P (.ret e):=λe vs S Ko Kp q h=>ev e vs S _ _ (λv S h=>q _ _ _ h) h;have pass:P .pass:=λvs S Ko Kp q h=>q _ _ _ h;have cont:P .cont:=λvs S Ko Kp q h=>q _ _ _ h;have bad:P .bad:=λvs S Ko Kp q h=>ah h;have nil:Q []:=λvs S Ko Kp q h=>q _ _ _ h;have cons:∀s l,P s→Q l→Q (s::l):=λs l is il vs S Ko Kp q h=>is vs S _ _ (λf vs S h=>by
  induction f using Fl.casesOn with
  |next=>exact il vs S _ _ q h
  |cont=>exact q _ _ _ h
  |ret v=>exact q _ _ _ h) h
 exact⟨@S.rec P Q assign unpack pair setItem expr ite for_ while_ ret pass cont bad nil cons,@S.rec_1 P Q assign unpack pair setItem expr ite for_ while_ ret pass cont bad nil cons⟩
theorem A8{P:List Fn}(i:Nat):∀n f xs S Ko Kp,Im Ko Kp r→fv oA P n f xs S Ko=some r→fv pA P (i+n) f xs S Kp
 |0,f,xs,S,Ko,Kp,q,h=>ah h
 |n+1,f,xs,S,Ko,Kp,q,h=>by
  have ih:=tS (A8 (P:=P) i n);refine b8 (x:=P[f]?) h λfn h=>?_;cases hm:fn.mode with
  |own c s=>rw[hm]at h;exact k8 h λh=>b8 h λx h=>b8 h λvs h=>ih.2 _ _ _ _ _ (λfl vs S' h=>k8 h λh=>b8 h λv h=>q _ _ h) h
  |open_=>rw[hm]at h;exact b8 h λvs h=>ih.2 _ _ _ _ _ (λfl vs S' h=>q _ _ h) h
  |late=>rw[hm]at h;exact b8 h λvs h=>ih.2 _ _ _ _ _ (λfl vs S' h=>q _ _ h) h
end
noncomputable def A(k:Nat)(w:Bool)(i:Nat):V:=
 let ob (l:List V) (c:Nat):V:=.id k (.tp [.int 8,.tp [.tp l],.tp [],.tp [],.tp [],.tp [],.int c])
 let st (s:List Nat) (c:Nat):V:=.id k (.tp [.int 3,.str s,.int c])
 let en (d:Int) (s:Nat) (v:V) (c:Nat):V:=.id k (.tp [.int 5,.int d,.str [s],v,.int c])
 let e:Int:=match k with|0=>1|_=>5
 let f:Int:=match k with|0=>4|_=>2
 let p (s:Nat) (t:V):List V:=[.str [s],t,.int 0,.int 0]
 let nu (n:Int) (c:Nat):V:=.id k (.tp [.int 4,.int n,.int c])
 let ab:List V:=match w with|true=>[st [98] 0,st [97] 0]|false=>[st [97] 0,st [98] 0]
 ([nu 0 0,en e 65 (.int 0) 0,en e 66 (.str [97]) 0,en f 65 (.int 0) 0,ob (p 107 (en e 66 (.str [97]) 0)) 0,ob (p 107 (.id k (.tp [.int 6,.tp ab]))) 0,
  ob (p 107 (st [97] 0)) 0,ob (p 107 (st [98] 0)) 0,ob (p 112 (nu 7 0)) 0,st [97] 0,st [98] 0,st [] 0,
  .int 8,.int 5,.int 7,.int 10,.int 6,.int 9,.int 4,.int 1,.int 3,.int 11,nu 0 1,en e 65 (.int 0) 1,ob (p 107 (st [97] 0)) 1,st [97] 1,.int 15]:List V).getD i .nul
noncomputable abbrev Pt:=List Nat
noncomputable def PV(k:Nat)(w:Bool)(p:Pt):V:=match p with
 |[]=>.nul
 |i::r=>match r with
  |[]=>A k w i
  |_::_=>.id k (.tp [.int 7,.tp (p.map (A k w))])
noncomputable def KV(k:Nat)(w:Bool)(M:List Pt):V:=match M with
 |[]=>.int 2
 |p::r=>match r with
  |[]=>PV k w p
  |_::_=>match decide (M=[[12],[17]])with
   |true=>.int 12
   |false=>.id k (.tp [.int 6,.tp (M.map (PV k w))])
noncomputable def W4:List (Nat×Bool):=[(0,false),(0,true),(1,false),(1,true)]
noncomputable def bQ:List Nat:=List.range 27
theorem C3{k:Nat}{w:Bool}(hk:k<2):(k,w)∈W4:=by
 match k,hk with
 |0,_=>cases w<;>decide
 |1,_=>cases w<;>decide
theorem fJ{i:Nat}(hi:i<27):i∈bQ:=QM.mpr hi
theorem n6{f:Nat→Bool→Nat→Bool}(h:(W4.all λp=>bQ.all λi=>f p.1 p.2 i)=true){k:Nat}{i:Nat}(hk:k<2)(hi:i<27):f k w i=true:=P5.mp (P5.mp h _ (C3 (w:=w) hk)) i (fJ hi)
theorem aO{f:Nat→Bool}(h:(bQ.all f)=true){i:Nat}(hi:i<27):f i=true:=P5.mp h i (fJ hi)
theorem uY{α:Type}{f g:Nat→Bool→Nat→α}(h:W4.map (λp=>bQ.map λi=>f p.1 p.2 i)=W4.map λp=>bQ.map λi=>g p.1 p.2 i){k:Nat}{i:Nat}(hk:k<2)(hi:i<27):f k w i=g k w i:=QE.mp (QE.mp h _ (C3 (w:=w) hk)) i (fJ hi)
section
variable{k m c n f c0:Nat}
noncomputable abbrev Cl:=Nat→List V→St→(V→St→Prop)→Prop
theorem zE:∃f:Nat→Cl,f=fv pA prog:=⟨_,rfl⟩
noncomputable def call:Nat→Cl:=zE.choose
theorem gx:call=fv pA prog:=by delta call;exact zE.choose_spec
theorem Gf{S':St}:(S'.n=m∧V.free (ar S' v)=true∧K (ar S' v) ⟨c-c0,m,l,h,iG s S'.o o⟩)=iff pA (beq S'.n (m)) (aq pA (gE S' v) λv=>K v ⟨c-c0,m,l,h,iG s S'.o o⟩):=by
 delta gE
 cases hb:beq S'.n (m)with
 |false=>exact propext ⟨λq=>(by rw[q.1,RA]at hb;exact eg hb),λq=>q.elim⟩
 |true=>
  have:=PJ hb;cases V.free (ar S' v)with
  |false=>exact propext ⟨λq=>(nomatch q.2.1),λq=>q.elim⟩
  |true=>exact propext ⟨λq=>q.2.2,λq=>⟨this,rfl,q⟩⟩
theorem own(e:prog[f]?=some fn)(hm:fn.mode=.own c0 s)(hc:c0≤c)(hf:V.freeL xs=true)(hb:bindArgs fn xs=some vs)(q:ao pA (call n) fn.body vs ⟨c0,m,l,[],o⟩ λfl z S'=>S'.n=m∧V.free (ar S' fl.val)=true∧K (ar S' fl.val) ⟨c-c0,m,l,h,iG s S'.o o⟩):call (n+1) f xs ⟨c,m,l,h,o⟩ K:=by rw[gx]at q ⊢;have e1:(λ(fl:Fl)(_:au)(S':St)=>S'.n=m∧V.free (ar S' fl.val)=true∧K (ar S' fl.val) ⟨c-c0,m,l,h,iG s S'.o o⟩)=_:=funext λfl=>funext λz=>funext λS'=>Gf;rw[e1]at q;show aq pA prog[f]? _;rw[e];show(match fn.mode with|.own c0 s=>_|.open_=>_|.late=>_);rw[hm];show iff pA (ble c0 c) (aq pA (match V.freeL xs with|true=>some (xs,h)|false=>_) λx=>_);rw[hf,RS hc];show aq pA (bindArgs fn xs) λvs=>_;rw[hb];exact q
noncomputable def qV(fn:Fn)(c0:Nat)(xs:List V)(m:Nat)(l:Bool)(o:List (List V×List V)):Option V:=(bindArgs fn xs).bind λvs=>ao oA (fv oA prog 12) fn.body vs ⟨c0,m,l,[],o⟩ λfl _ S'=>iff oA (beq S'.n (m)) (gE S' fl.val)
noncomputable abbrev jB(fn:Fn)(c0:Nat)(xs:List V)(k:Nat)(l:Bool)(o:List (List V×List V)):Option V:=qV fn c0 xs (k+1) l o
theorem run(e:prog[f]?=some fn)(hm:fn.mode=.own c0 false)(hf:V.freeL xs=true)(hr:qV fn c0 xs m l o=some r)(hc:c0≤c)(q:K r ⟨c-c0,m,l,h,o⟩):call (n+13) f xs ⟨c,m,l,h,o⟩ K:=by refine X2 (Qm.mp hr) λvs hb hr=>?_;refine own (n:=n+12) e hm hc hf hb ?_;rw[gx];refine(tS (r:=r) (A8 (P:=prog) n 12)).2 _ _ _ _ _ (λfl vs S' h'=>?_) hr;have e1:=Gf (m:=m) (c:=c) (c0:=c0) (l:=l) (h:=h) (o:=o) (S':=S') (s:=false) (v:=fl.val) (K:=K);refine e1.mpr (k8 (Ko:=gE S' fl.val) h' λh'=>?_);rw[h'];exact q
theorem ji{S:St}(e:prog[f]?=some fn)(hm:fn.mode=.open_)(hb:bindArgs fn xs=some vs)(q:ao pA (call n) fn.body vs S λfl _ S=>K fl.val S):call (n+1) f xs S K:=by rw[gx]at q ⊢;show aq pA prog[f]? _;rw[e];show(match fn.mode with|.own c0 s=>_|.open_=>_|.late=>_);rw[hm];show aq pA (bindArgs fn xs) λvs=>_;rw[hb];exact q
theorem b4{i:Nat}(hk:k<2)(hi:i<27):V.free (A k w i)=true:=n6 (f:=λk w i=>V.free (A k w i)) (by decide +kernel) hk hi
theorem fV{g:Nat→Bool→Nat→V}{i:Nat}(e:prog[f]?=some fn)(hm:fn.mode=.own c0 false)(he:W4.map (λp=>bQ.map λi=>jB fn c0 [.hd .tab p.1,A p.1 p.2 i] p.1 l o)=W4.map λp=>bQ.map λi=>some (g p.1 p.2 i))(hk:k<2)(hi:i<27)(hc:c0≤c)(q:K (g k w i) ⟨c-c0,k+1,l,h,o⟩):call (n+13) f [.hd .tab k,A k w i] ⟨c,k+1,l,h,o⟩ K:=run e hm (by show(V.free (A k w i)&&true)=true;rw[b4 hk hi];rfl) (uY (f:=λk w i=>jB fn c0 [.hd .tab k,A k w i] k l o) (g:=λk w i=>some (g k w i)) he hk hi) hc q
end
abbrev br(p:Pt):Prop:=p≠[]∧∀i∈p,i<27∧i≠19
noncomputable def sI(v:V):Option (List V):=v.asId.bind λx=>x.2.asTup.bind λl=>match l with
 |[]=>none
 |c::r=>match V.beq c (.int 7)with
  |true=>(iZ r).bind V.asTup
  |false=>none
noncomputable def xU(k:Nat)(w:Bool)(v:V):Nat:=(dc v (bQ.map (A k w)) 0).getD 0
noncomputable def uP(k:Nat)(w:Bool)(v:V):Pt:=match sI v with
 |some l=>l.map (xU k w)
 |none=>[xU k w v]
section
variable{k n:Nat}{p q:Pt}{D M:List Pt}
theorem gW{i:Nat}(hk:k<2)(hi:i<27):(sI (A k w i)).isNone=true∧beq (xU k w (A k w i)) i=true∧V.key k (A k w i)=true:=by have:=n6 (f:=λk w i=>(sI (A k w i)).isNone&&(beq (xU k w (A k w i)) i&&V.key k (A k w i))) (by decide +kernel) (w:=w) hk hi;exact⟨(aa this).1,aa (aa this).2⟩
theorem Am(hk:k<2)(hp:br p):uP k w (PV k w p)=p:=by
 match p,hp with
 |[i],hp=>refine U3 (gW (w:=w) hk (hp.2 i mh).1) λh1 h2 z=>?_;show(match sI (A k w i)with|some l=>l.map (xU k w)|none=>[xU k w (A k w i)])=_;rw[QS.mp h1,← PJ h2];exact Qb (λj=>[j]) (PJ (by rw[PJ h2];exact h2))
 |i::j::p,hp=>show((i::j::p).map (A k w)).map (xU k w)=i::j::p;rw[QR];exact(map_congr_left λa ha=>PJ (gW (w:=w) hk (hp.2 a ha).1).2.1).trans (List.map_id _)
theorem tg(hk:k<2)(hp:br p)(hq:br q)(e:PV k w p=PV k w q):p=q:=by rw[← Am (w:=w) hk hp,e,Am hk hq]
theorem Dz(hk:k<2)(hp:br p)(hq:br q):V.beq (PV k w p) (PV k w q)=decide (p=q):=by
 by_cases e:p=q
 ·rw[PL e,e];exact fE.1 _
 ·rw[PQ e];exact iQ.mpr λh=>e (tg hk hp hq h)
theorem xR(hk:k<2)(hp:br p):V.key k (PV k w p)=true:=by
 match p,hp with
 |[i],hp=>exact(gW (w:=w) hk (hp.2 i mh).1).2.2
 |i::j::p,hp=>exact RA k
noncomputable def dk(k:Nat)(w:Bool)(D:List Pt):List (V×V):=D.map λp=>(PV k w p,.int 1)
noncomputable def tC(k:Nat)(w:Bool)(D:List Pt)(x:V):Bool:=D.any λp=>V.beq (PV k w p) x
noncomputable def g8(D:List Pt)(p:Pt):List Pt:=match decide (p∈D)with|true=>D|false=>D++[p]
abbrev aH(D:List Pt):Prop:=∀p∈D,br p
theorem Ih(hk:k<2)(hD:aH D)(hp:br p):tC k w D (PV k w p)=decide (p∈D):=by rw[P7,Qp,tC,QA];exact⟨λ⟨q,hq,e⟩=>tg hk (hD q hq) hp (iJ e)▸hq,λh=>⟨p,h,fE.1 _⟩⟩
theorem zF:∀D:List Pt,(aC x (dk k w D)).isSome=tC k w D x
 |[]=>rfl
 |p::D=>by
  show(match V.beq (PV k w p) x with|true=>some _|false=>aC x (dk k w D)).isSome=(V.beq (PV k w p) x||tC k w D x);cases V.beq (PV k w p) x with
  |true=>rfl
  |false=>exact zF D
theorem Du(hk:k<2)(hp:br p):∀D:List Pt,aH D→cP (PV k w p) (.int 1) (dk k w D)=dk k w (g8 D p)
 |[],_=>rfl
 |q::D,hD=>by
  show(match V.beq (PV k w q) (PV k w p)with|true=>_::dk k w D|false=>_::cP (PV k w p) (.int 1) (dk k w D))=_;rw[Dz hk (hD q mh) hp,Du hk hp D λq h=>hD q (mt h)];delta g8
  by_cases e:q=p
  ·rw[PL e,PL (e▸.head _:p∈q::D)];rfl
  ·rw[PQ e,show decide (p∈q::D)=decide (p∈D)from decide_eq_decide.mpr ⟨λh=>(P4.mp h).resolve_left λh=>e h.symm,.tail _⟩];cases decide (p∈D)<;>rfl
theorem zW(hk:k<2)(hD:aH D)(hx:V.key k x=true):bf k x (dk k w D)=true:=by
 delta bf dk
 rw[hx,all_map];exact P5.mpr λp hp=>xR hk (hD p hp)
theorem Bh(hk:k<2)(hD:aH D)(hx:V.key k x=true){S:St}(h:S.h[0]?=some (.dict (dk k w D)))(hn:S.n=k+1):bX S x (.hd .ref 0)=some (tC k w D x):=by
 delta bX dictAt bu bT
 simp only[V.asTup,h,V.asHdl,Option.bind,hn,Nat.add_sub_cancel,zW hk hD hx,zF]
theorem tu(hk:k<2)(hD:aH D)(hp:br p)(hl:D.length<64):dp (.hd .ref 0) (PV k w p) (.int 1) ⟨c,k+1,l,[.dict (dk k w D)],o⟩=some ⟨c,k+1,l,[.dict (dk k w (g8 D p))],o⟩:=by show(match bf k (PV k w p) (dk k w D)&&decide ((dk k w D).length<aD)with|true=>some (St.set _ 0 (.dict (cP (PV k w p) (.int 1) (dk k w D))))|false=>none)=_;rw[zW hk hD (xR hk hp),Du hk hp D hD,PL (show(dk k w D).length<aD by rw[dk,PS];exact Q8 hl (ag rfl))];rfl
theorem iv:q∈g8 D p↔q∈D∨q=p:=by
 delta g8
 by_cases h:p∈D
 ·rw[PL h];exact⟨.inl,λe=>e.elim id λe=>e▸h⟩
 ·rw[PQ h];exact Qe.trans (RK PH)
theorem l4:(g8 D p).length≤D.length+1:=by
 delta g8
 cases decide (p∈D)with
 |true=>exact le_succ _
 |false=>exact le_of_eq (PX ..)
theorem pv(h:D.Nodup):(g8 D p).Nodup:=by
 delta g8
 by_cases e:p∈D
 ·rw[PL e];exact h
 ·rw[PQ e];exact nodup_append.mpr ⟨h,Qu _ _,λa ha b hb=>λz=>e (PH.mp hb▸z▸ha)⟩
noncomputable def jY(D M:List Pt):List Pt:=M.foldl g8 D
theorem jU:∀{M D:List Pt},q∈jY D M↔q∈D∨q∈M
 |[],D=>⟨.inl,λh=>h.resolve_right λh=>az h⟩
 |p::M,D=>(jU (M:=M)).trans ((or_congr_left iv).trans (or_assoc.trans (RK P4.symm)))
theorem mT:∀{M D:List Pt},(jY D M).length≤D.length+M.length
 |[],D=>Qi _
 |p::M,D=>PM (mT (M:=M)) (PM (Qw l4 _) (by rw[Qf];omega))
theorem sh:∀{M D:List Pt},D.Nodup→(jY D M).Nodup
 |[],D,h=>h
 |p::M,D,h=>sh (M:=M) (pv h)
theorem kz(h:V.free x=true):V.freeL [x]=true:=by show(V.free x&&true)=true;rw[h];rfl
theorem gf(hy:V.free y=true)(h:V.free x=true):V.freeL [y,x]=true:=by show(V.free y&&V.freeL [x])=true;rw[hy,kz h];rfl
theorem gF(hy:V.free y=true)(h:V.free x=true)(hz:V.free z=true):V.freeL [y,x,z]=true:=by show(V.free y&&V.freeL [x,z])=true;rw[hy,gf h hz];rfl
theorem qh(hk:k<2):∀{p:Pt},(∀i∈p,i<27∧i≠19)→V.freeL (p.map (A k w))=true:=by
 intro p;induction p with
 |nil=>exact @λz=>rfl
 |cons i p ih_=>exact @λhp=>QL.mpr ⟨b4 hk (hp i mh).1,ih_ λj h=>hp j (mt h)⟩
theorem rV(hk:k<2)(hp:br p):V.free (PV k w p)=true:=by
 match p,hp with
 |[i],hp=>exact b4 hk (hp.2 i mh).1
 |i::j::p,hp=>rfl
theorem LM(hk:k<2):∀{M:List Pt},aH M→V.freeL (M.map (PV k w))=true:=by
 intro M;induction M with
 |nil=>exact @λz=>rfl
 |cons p M ih_=>exact @λhM=>QL.mpr ⟨rV hk (hM p mh),ih_ λq h=>hM q (mt h)⟩
theorem cv(hk:k<2)(hM:aH M):V.free (KV k w M)=true:=by
 match M,hM with
 |[],_=>rfl
 |[p],hM=>exact rV hk (hM p mh)
 |p::q::M,hM=>show V.free (match decide (p::q::M=[[12],[17]])with|true=>.int 12|false=>_)=true;cases decide (p::q::M=[[12],[17]])<;>rfl
theorem zf{i:Nat}(hk:k<2)(hi:i<27)(q:K (.tp [A k w i]) ⟨c,k+1,l,h,o⟩):call (n+13) 5 [.hd .tab k,A k w i] ⟨c,k+1,l,h,o⟩ K:=fV (g:=λk w i=>.tp [A k w i]) rfl rfl (by kernel_rfl) hk hi (Qc _) q
theorem HP(hk:k<2)(hp:br p)(q:K (.tp [PV k w p]) ⟨c,k+1,l,h,o⟩):call (n+13) 5 [.hd .tab k,PV k w p] ⟨c,k+1,l,h,o⟩ K:=by
 match p,hp with
 |[i],hp=>exact zf hk (hp.2 i mh).1 q
 |i::j::p,hp=>
  refine own rfl rfl (Qc _) (by rfl) rfl ?_;have f:V.free (.tp [PV k w (i::j::p)])=true:=by rfl
  match k,hk with
  |0,_=>exact⟨rfl,f,q⟩
  |1,_=>exact⟨rfl,f,q⟩
theorem cO(hk:k<2)(hM:aH M)(q:K (.tp (M.map (PV k w))) ⟨c,k+1,l,h,o⟩):call (n+13) 5 [.hd .tab k,KV k w M] ⟨c,k+1,l,h,o⟩ K:=by
 match M,hM with
 |[],_=>exact own rfl rfl (Qc _) rfl rfl ⟨rfl,rfl,q⟩
 |[p],hM=>exact HP hk (hM p mh) q
 |p::q'::M,hM=>
  have f:=cv (w:=w) hk hM;have g:V.free (.tp ((p::q'::M).map (PV k w)))=true:=LM hk hM;refine own rfl rfl (Qc _) (gf rfl f) rfl ?_;delta KV
  by_cases e:p::q'::M=[[12],[17]]
  ·simp only[PL e];rw[e]at q;match k,hk with
   |0,_=>exact⟨rfl,rfl,q⟩
   |1,_=>exact⟨rfl,rfl,q⟩
  ·simp only[PQ e];match k,hk with
   |0,_=>exact⟨rfl,g,q⟩
   |1,_=>exact⟨rfl,g,q⟩
end
noncomputable def cH(i:Nat):Option Nat:=([none,none,none,none,none,none,none,none,none,none,none,none,none,none,none,none,none,none,none,none,none,none,some 0,some 1,some 6,some 9,some 17]:List (Option Nat)).getD i none
noncomputable def cZ(i:Nat):Option Nat:=([some 14,some 14,some 16,some 14,none,none,none,none,none,some 16,some 16,some 16,none,none,none,none,none,none,none,none,none,none,some 14,some 14,none,some 16,none]:List (Option Nat)).getD i none
noncomputable def Eg(f:Nat→Option Nat)(p:Pt):Option Pt:=match p with
 |[]=>none
 |i::r=>match r with
  |[]=>(f i).map λj=>[j]
  |_::_=>none
noncomputable abbrev jW:=Eg cH
noncomputable abbrev CI:=Eg cZ
noncomputable def ov(k:Nat)(w:Bool)(x:Option Pt):V:=match x with|some p=>PV k w p|none=>.int (-1)
noncomputable def fx(D:List Pt)(x:Option Pt):Bool:=match x with|some p=>decide (p∈D)|none=>false
noncomputable def pJ(k:Nat)(w:Bool)(p:Pt):V:=(bU k (PV k w p)).getD .nul
theorem aR{α:Type}{x:Option α}{v:α}{K:α→Prop}(h:x=some v)(q:K v):aq pA x K:=by rw[h];exact q
theorem Jv{x:Option Bool}{K:Bool→Prop}(h:x=some b)(t:b=true→K true)(f:b=false→K false):aq pA x K:=by
 rw[h];cases b with
 |true=>exact t rfl
 |false=>exact f rfl
section
variable{k n:Nat}{l:Bool}{p:Pt}{D:List Pt}
theorem A3{i:Nat}(hi:i<27)(e:cH i=some j∨cZ i=some j):j<27∧j≠19:=by
 have:=aO (f:=λi=>(cH i).all (λj=>decide (j<27∧j≠19))&&(cZ i).all λj=>decide (j<27∧j≠19)) (by decide +kernel) hi;rcases e with e|e
 ·have:=(aa this).1;rw[e]at this;exact PI this
 ·have:=(aa this).2;rw[e]at this;exact PI this
theorem G1{f:Nat→Option Nat}(hf:f=cH∨f=cZ)(hp:br p)(e:Eg f p=some q):br q:=by
 match p,hp with
 |[i],hp=>refine X2 (Qr.mp (show(f i).map (λj=>[j])=some q from e)) λj h1 h2=>?_;have:=A3 (hp.2 i mh).1 (j:=j) (by rcases hf with rfl|rfl;exact .inl h1;exact .inr h1);rw[← h2];exact⟨λh=>(nomatch h),λa ha=>(PH.mp ha).symm▸this⟩
 |_::_::_,_=>exact ah e
theorem AW(hk:k<2)(hp:br p)(hj:(W4.all λp=>bQ.all λi=>beq i 19 || !(V.beq (A p.1 p.2 i) (.int j)))=true):V.beq (PV k w p) (.int j)=false:=by
 match p,hp with
 |[i],hp=>
  have:=n6 (f:=λk w i=>beq i 19 || !(V.beq (A k w i) (.int j))) hj (w:=w) hk (hp.2 i mh).1;rcases QW.mp this with h|h
  ·exact absurd (PJ h) (hp.2 i mh).2
  ·exact(Qo _).mp h
 |_::_::_,_=>rfl
theorem Af(hk:k<2)(hD:aH D)(hj:(W4.all λp=>bQ.all λi=>beq i 19 || !(V.beq (A p.1 p.2 i) (.int j)))=true):tC k w D (.int j)=false:=Qj.mpr λh=>(QA.mp h).elim λp h=>by rw[AW hk (hD p h.1) hj]at h;cases h.2
theorem A5{z:Option Pt}(hk:k<2)(hD:aH D)(hz:∀p,z=some p→br p):bX ⟨c,k+1,l,[.dict (dk k w D)],o⟩ (ov k w z) (.hd .ref 0)=some (fx D z):=by
 cases z with
 |none=>rw[Bh hk hD (x:=ov k w none) rfl rfl rfl];exact Qb some (Af hk hD (by decide +kernel))
 |some p=>rw[Bh hk hD (x:=ov k w (some p)) (xR hk (hz p rfl)) rfl rfl];exact Qb some (Ih hk hD (hz p rfl))
theorem AG(hk:k<2)(hp:br p):bU k (PV k w p)=some (pJ k w p)∧V.free (pJ k w p)=true:=by
 match p,hp with
 |[i],hp=>have:=n6 (f:=λk w i=>(bU k (A k w i)).isSome&&V.free ((bU k (A k w i)).getD .nul)) (by decide +kernel) (w:=w) hk (hp.2 i mh).1;refine X1 (Q0.mp (aa this).1) λr hr=>?_;exact⟨by show bU k (A k w i)=some ((bU k (A k w i)).getD .nul);rw[hr];rfl,(aa this).2⟩
 |i::j::p,hp=>
  match k,hk with
  |0,h=>exact⟨rfl,(show(V.freeL ((i::j::p).map (A _ w))&&true)=true by rw[qh h hp.2];rfl)⟩
  |1,h=>exact⟨rfl,(show(V.freeL ((i::j::p).map (A _ w))&&true)=true by rw[qh h hp.2];rfl)⟩
theorem HK(hk:k<2)(hp:br p)(q:K (ov k w (CI p)) ⟨c,k+1,l,h,o⟩):call (n+13) 6 [pJ k w p] ⟨c,k+1,l,h,o⟩ K:=by
 match p,hp with
 |[i],hp=>exact run (c0:=0) (r:=ov k w (CI [i])) rfl rfl (kz (AG hk hp).2) (uY (f:=λk w i=>jB lV 0 [pJ k w [i]] k l o) (g:=λk w i=>some (ov k w (CI [i]))) (by kernel_rfl) hk (hp.2 i mh).1) (Qc _) q
 |i::j::p,hp=>
  refine own rfl rfl (Qc _) (kz (AG hk hp).2) rfl ?_;match k,hk with
  |0,_=>exact⟨rfl,rfl,q⟩
  |1,_=>exact⟨rfl,rfl,q⟩
theorem D0(hk:k<2)(hp:br p)(q:∀z,z=jW p∨(l=false∧z=none)→K (ov k w z) ⟨c,k+1,l,h,o⟩):call (n+13) 7 [.hd .tab k,PV k w p] ⟨c,k+1,l,h,o⟩ K:=by
 match p,hp with
 |[i],hp=>
  have hi:=(hp.2 i mh).1;cases l with
  |true=>exact fV (g:=λk w i=>ov k w (jW [i])) rfl rfl (by kernel_rfl) hk hi (Qc _) (q _ (.inl rfl))
  |false=>
   have fr:=b4 (w:=w) hk hi;cases hb:ble 22 i&&blt i 26 with
   |false=>have e:=uY (f:=λk w i=>match ble 22 i&&blt i 26 with|true=>none|false=>jB lJ 0 [.hd .tab k,A k w i] k false o) (g:=λk w i=>match ble 22 i&&blt i 26 with|true=>none|false=>some (ov k w (jW [i]))) (by kernel_rfl) (w:=w) hk hi;simp only[hb]at e;exact run rfl rfl (gf rfl fr) e (Qc _) (q _ (.inl rfl))
   |true=>
    refine own rfl rfl (Qc _) (gf rfl fr) rfl ?_;have:i=22∨i=23∨i=24∨i=25:=(by decide:∀i,i<27→(ble 22 i&&blt i 26)=true→i=22∨i=23∨i=24∨i=25) i hi hb;have two:∀{P:Option Pt→Prop},(∀z,z=jW [i]∨(false=false∧z=none)→P z)→P (jW [i])∧P none:=λq=>⟨q _ (.inl rfl),q _ (.inr ⟨rfl,rfl⟩)⟩
    refine U2 (two q) λq1 q2=>?_;rcases this with rfl|rfl|rfl|rfl<;>match k,hk with
    |0,_=>exact⟨⟨rfl,rfl,q1⟩,⟨rfl,rfl,q2⟩⟩
    |1,_=>exact⟨⟨rfl,rfl,q1⟩,⟨rfl,rfl,q2⟩⟩
 |i::j::p,hp=>
  refine own rfl rfl (Qc _) rfl rfl ?_;match k,hk with
  |0,_=>exact⟨rfl,rfl,q none (.inl rfl)⟩
  |1,_=>exact⟨rfl,rfl,q none (.inl rfl)⟩
end
noncomputable def aX(D:List Pt):List Pt:=match decide ([12]∈D)&&(decide ([17]∈D)||decide ([26]∈D))with|true=>g8 (g8 D [12]) [17]|false=>D
theorem kZ{S:St}{K:Bool→Prop}(h:bX S x d=some b)(q:K b):aq pA (bX S x d) K:=aR h q
theorem Bk{S:St}{K:Bool→Prop}(h:bX S x d=some b)(t:b=true→K true)(f:b=false→K false):aq pA (bX S x d) K:=Jv h t f
theorem Mf{K:V→Prop}(h:bU k t=some r)(q:K r):aq pA (bU k t) K:=aR h q
theorem Ba{S:St}{K:Bool→Prop}(h:bX S x d=some b)(q:K (!b)):aq pA ((bX S x d).map (!·)) K:=by rw[h];exact q
section
variable{k n:Nat}{l:Bool}{p:Pt}{D:List Pt}
theorem cb{i:Nat}(h:i<27∧i≠19):br [i]:=⟨λh=>(nomatch h),λz hj=>(PH.mp hj).symm▸h⟩
theorem La{i:Nat}(hk:k<2)(hD:aH D)(hi:i<27∧i≠19):bX ⟨c,k+1,l,[.dict (dk k w D)],o⟩ (A k w i) (.hd .ref 0)=some (decide ([i]∈D)):=A5 (z:=some [i]) hk hD λp e=>by replace e:=PG e;subst e;exact cb hi
theorem DH{j:Int}(hk:k<2)(hD:aH D)(h16:j<16)(hj:(W4.all λp=>bQ.all λi=>beq i 19 || !(V.beq (A p.1 p.2 i) (.int j)))=true):bX ⟨c,k+1,l,[.dict (dk k w D)],o⟩ (.int j) (.hd .ref 0)=some false:=by rw[Bh hk hD (x:=.int j) (by show(false||decide (j<16))=true;rw[PL h16];rfl) rfl rfl,Af hk hD hj]
theorem Kf(hk:k<2)(hD:aH D)(q:K (.int (-1)) ⟨c,k+1,l,[.dict (dk k w D)],o⟩):call (n+1) 10 [.hd .ref 0] ⟨c,k+1,l,[.dict (dk k w D)],o⟩ K:=by have e:=λj h h'=>DH (c:=c) (w:=w) (l:=l) (o:=o) (j:=j) hk hD h h';refine ji (vs:=(some (.hd .ref 0)::z4)) rfl rfl rfl ?_;refine kZ (e 0 (by decide) (by decide +kernel)) ?_;refine kZ (e 13 (by decide) (by decide +kernel)) ?_;refine kZ (e 1 (by decide) (by decide +kernel)) ?_;exact q
theorem IW(hk:k<2)(hD:aH D)(hl:D.length<62)(q:K .nul ⟨c,k+1,l,[.dict (dk k w (aX D))],o⟩):call (n+1) 8 [.hd .ref 0] ⟨c,k+1,l,[.dict (dk k w D)],o⟩ K:=by
 have e:=λi hi=>La (c:=c) (w:=w) (l:=l) (o:=o) (i:=i) hk hD hi;refine ji (vs:=(some (.hd .ref 0)::z4)) rfl rfl rfl ?_;unfold aX at q;refine Bk (e 12 (by decide)) (λh1=>?_) λh1=>?_
 ·rw[h1]at q;have set:(decide ([17]∈D)||decide ([26]∈D))=true→ao pA (call n) [.setItem (.v 0) (.i 8) (.i 1),.setItem (.v 0) (.i 9) (.i 1)] (some (.hd .ref 0)::z4) ⟨c,k+1,l,[.dict (dk k w D)],o⟩ λfl _ S=>K fl.val S:=λh=>by
   rw[h]at q;refine aR (tu hk hD (cb (i:=12) (by decide)) (Q8 hl (ag rfl))) ?_;refine aR (tu hk (λp hp=>(iv.mp hp).elim (hD p) λe=>e▸cb (by decide)) (cb (i:=17) (by decide)) (Qa l4 (Nat.succ_lt_succ (Q8 hl (ag rfl))))) ?_;exact q
  refine Bk (e 17 (by decide)) (λh2=>set (by rw[h2];rfl)) λh2=>?_;refine Bk (e 26 (by decide)) (λh3=>set (by rw[h3,h2];rfl)) λh3=>?_;rw[h2,h3]at q;exact q
 ·rw[h1]at q;refine kZ (DH hk hD (j:=14) (by decide) (by decide +kernel)) ?_;exact q
theorem IY(hk:k<2)(hD:aH D)(hp:br p)(ht:l=true∨fx D (jW p)=false)(q:K (.bool (!fx D (jW p) && !fx D (CI p))) ⟨c,k+1,l,[.dict (dk k w D)],o⟩):call (n+14) 9 [.hd .tab k,.hd .ref 0,PV k w p] ⟨c,k+1,l,[.dict (dk k w D)],o⟩ K:=by
 refine ji (vs:=[some (.hd .tab k),some (.hd .ref 0),some (PV k w p),none,none]) rfl rfl rfl ?_;refine D0 hk hp λz hz=>?_;have hz':fx D z=fx D (jW p)∧∀p,z=some p→br p:=by
  rcases hz with rfl|⟨rfl,rfl⟩
  ·exact⟨rfl,λp e=>G1 (.inl rfl) hp e⟩
  ·exact⟨(ht.resolve_left λh=>ak h).symm,λp e=>ah e⟩
 refine Bk (A5 hk hD hz'.2) (λe=>?_) λe=>?_
 ·rw[← hz'.1,e]at q;exact q
 ·rw[← hz'.1,e]at q;refine Mf (AG hk hp).1 ?_;refine HK hk hp ?_;refine Ba (A5 hk hD λp e=>G1 (.inr rfl) hp e) ?_;exact q
end
section
variable{α:Type}{ok:St→Bool}{S:St}{vs:au}{g f:α→V}{b:α→Bool}{K:List V→St→Prop}
theorem Nr{cond:au→St→(Bool→St→Prop)→Prop}{el:au→St→(V→St→Prop)→Prop}(hok:ok S=true):∀(L:List α)(vs':au)(K:List V→St→Prop),(∀z,vs'.set j z=vs.set j z)→(∀a∈L,∀K:Bool→St→Prop,K (b a) S→cond (vs.set j (some (g a))) S K)→(∀a∈L,b a=true→∀K:V→St→Prop,K (f a) S→el (vs.set j (some (g a))) S K)→K ((L.filter b).map f) S→dv pA ok cond el j (L.map g) vs' S K:=by
 intro L;induction L with
 |nil=>
  exact λy K y y y q=>by show iff pA (ok S) _;rw[hok];exact q
 |cons a L ih_=>
  exact λvs' K hv hc he q=>by
   show iff pA (ok S) _;rw[hok];show cond (vs'.set j (some (g a))) S _;rw[hv];refine hc a mh _ ?_;have go:=λK=>ih_ (vs.set j (some (g a))) K (λz=>List.set_set ..) (λa h=>hc a (mt h)) λa h=>he a (mt h);cases h:b a with
   |true=>exact he a mh h _ (go _ (by rw[Ra h]at q;exact q))
   |false=>exact go _ (by rw[Rb (by rw[h];decide)]at q;exact q)
theorem eO{L:List α}(hok:ok S=true)(hc:∀a∈L,∀K:V→St→Prop,K (.bool (b a)) S→ev pA cl e (vs.set j (some (g a))) S K)(he:∀a∈L,b a=true→∀K:V→St→Prop,K (f a) S→ev pA cl elt (vs.set j (some (g a))) S K)(q:K ((L.filter b).map f) S):dv pA ok (gS pA cl [e]) (ev pA cl elt) j (L.map g) vs S K:=
 Nr hok L vs K (λz=>rfl) (λa h K q=>hc a h _ (by
  show aq pA (some (b a)) _;cases h:b a<;>rw[h]at q<;>exact q)) he q
theorem dw{L:List α}(hok:ok S=true)(he:∀a∈L,∀K:V→St→Prop,K (f a) S→ev pA cl elt (vs.set j (some (g a))) S K)(q:K (L.map f) S):dv pA ok (gS pA cl []) (ev pA cl elt) j (L.map g) vs S K:=Nr (b:=λz=>true) hok L vs K (λz=>rfl) (λa h K q=>q) (λa h z=>he a h) (by rw[filter_eq_self.mpr λz z=>rfl];exact q)
end
section
variable{k n:Nat}{D M:List Pt}
noncomputable abbrev fk(Ms:List (List Pt))(D:List Pt):List Pt:=Ms.foldl jY D
noncomputable def bH(J:List Pt)(p:Pt):Bool:=!fx J (jW p) && !fx J (CI p)
def NH(k:Nat)(w:Bool)(o:List (List V×List V))(J l':List Pt)(o':List (List V×List V)):Prop:=l'.Perm J∧(J≠[]→(∀x∈o,x.1=J.map (PV k w)→x.2=l'.map (PV k w))∧o'=(J.map (PV k w),l'.map (PV k w))::o)
theorem Gb{ok:St→Bool}(hk:k<2)(hok:∀S,ok S=true){K:KF}:∀(M D:List Pt)(x4:Option V),aH M→aH D→D.length+M.length<62→(∀x4,K .next (some (.hd .tab k)::some us::some (.hd .ref 0)::some x3::x4::oa) ⟨c,k+1,l,[.dict (dk k w (jY D M))],o⟩)→bW pA ok (ao pA cl [.setItem (.v 2) (.v 4) (.i 1)]) 4 (M.map (PV k w)) (some (.hd .tab k)::some us::some (.hd .ref 0)::some x3::x4::oa) ⟨c,k+1,l,[.dict (dk k w D)],o⟩ K:=by
 intro M;induction M with
 |nil=>
  exact λD x4 _ _ _ q=>by show iff pA (ok _) _;rw[hok];exact q x4
 |cons p M ih_=>
  exact λD x4 hM hD hl q=>by show iff pA (ok _) _;rw[hok];rw[Qf]at hl;refine aR (tu hk hD (hM p mh) (by omega)) ?_;exact ih_ (g8 D p) _ (λq h=>hM q (mt h)) (λq h=>(iv.mp h).elim (hD q) λe=>e▸hM p mh) (by have:=l4 (D:=D) (p:=p);exact uy hl this) q
noncomputable def dr(Ms:List (List Pt)):Nat:=(Ms.map List.length).sum
theorem pS:∀{Ms:List (List Pt)}{D:List Pt},(∀M∈Ms,aH M)→aH D→aH (fk Ms D)
 |[],_,_,h=>h
 |M::Ms,D,hM,h=>pS (Ms:=Ms) (λM h=>hM M (mt h)) λp hp=>(jU.mp hp).elim (h p) (hM M mh p)
theorem qf:∀{Ms:List (List Pt)}{D:List Pt},(fk Ms D).length≤D.length+dr Ms
 |[],_=>Qi _
 |M::Ms,D=>PM (qf (Ms:=Ms)) (by have:=mT (M:=M) (D:=D);show _≤D.length+(M.length+dr Ms);exact KS this)
theorem Ff{ok:St→Bool}(hk:k<2)(hok:∀S,ok S=true){K:KF}:∀(Ms:List (List Pt))(D:List Pt)(x3 x4:Option V),(∀M∈Ms,aH M)→aH D→D.length+dr Ms<62→(∀x3 x4,K .next (some (.hd .tab k)::some us::some (.hd .ref 0)::x3::x4::oa) ⟨c,k+1,l,[.dict (dk k w (fk Ms D))],o⟩)→bW pA ok (ao pA (call (n+13)) [.for_ 4 (.cl 5 [.v 0,.v 3]) [.setItem (.v 2) (.v 4) (.i 1)]]) 3 (Ms.map (KV k w)) (some (.hd .tab k)::some us::some (.hd .ref 0)::x3::x4::oa) ⟨c,k+1,l,[.dict (dk k w D)],o⟩ K:=by
 intro Ms;induction Ms with
 |nil=>
  exact λD x3 x4 z z z q=>by show iff pA (ok _) _;rw[hok];exact q x3 x4
 |cons M Ms ih_=>
  exact λD x3 x4 hM hD hl q=>by show iff pA (ok _) _;rw[hok];have hl:D.length+(M.length+dr Ms)<62:=hl;refine cO hk (hM M mh) ?_;refine Gb hk (λz=>rfl) M D x4 (hM M mh) hD (Bp hl) λx4=>?_;exact ih_ (jY D M) _ x4 (λM h=>hM M (mt h)) (λp hp=>(jU.mp hp).elim (hD p) (hM M mh p)) (by have:=mT (M:=M) (D:=D);exact OU hl this) q
theorem qg(hk:k<2)(hp:br p):(PV k w p).asStr=none∧cQ k (PV k w p)=true∧V.dat true true k (PV k w p) 4=true:=by
 match p,hp with
 |[i],hp=>have:=n6 (f:=λk w i=>(A k w i).asStr.isNone&&(cQ k (A k w i)&&V.dat true true k (A k w i) 4)) (by decide +kernel) (w:=w) hk (hp.2 i mh).1;exact⟨QS.mp (aa this).1,aa (aa this).2⟩
 |i::j::p,hp=>exact⟨rfl,RA k,RA k⟩
theorem zT:∀D:List Pt,(dk k w D).map (·.1)=D.map (PV k w)
 |[]=>rfl
 |p::D=>Qb (_ :: ·) (zT D)
theorem Aj(hk:k<2)(hD:aH D)(hl:D.length<64)(q:∀l' o',NH k w o D l' o'→K (.ls (l'.map (PV k w))) ⟨c,k+1,l,[.dict (dk k w D)],o'⟩):(eD .sorted (.hd .ref 0) ⟨c,k+1,l,[.dict (dk k w D)],o⟩).run pA K:=by
 show(eG ((dk k w D).map (·.1)) _).run pA K;rw[zT];delta eG
 rw[PS,PL hl];cases D with
 |nil=>exact q [] o ⟨.refl _,λh=>absurd rfl h⟩
 |cons p D=>
  have e1:cK ((p::D).map (PV k w))=none:=by show(PV k w p).asStr.bind _=none;rw[(qg hk (hD p mh)).1];rfl
  have e2:((p::D).map (PV k w)).all (cQ (k+1-1))=true:=by rw[all_map];exact P5.mpr λp hp=>(qg hk (hD p hp)).2.1
  show(match cK ((p::D).map (PV k w))with|some ss=>_|none=>match((p::D).map (PV k w)).all (cQ (k+1-1))with|true=>cF.perm _ _|false=>.bad).run pA K;rw[e1,e2];intro l' hp ho;refine X2 (iT hp) λl2 e h2=>?_;rw[← e];exact q l2 _ ⟨h2,λz=>⟨λx hx e1=>(ho x hx e1).trans e.symm,rfl⟩⟩
theorem M9(hk:k<2):∀{M:List Pt},aH M→V.datL true true k (M.map (PV k w)) 4=true:=by
 intro M;induction M with
 |nil=>exact @λz=>rfl
 |cons p M ih_=>exact @λhM=>QL.mpr ⟨(qg hk (hM p mh)).2.2,ih_ λq h=>hM q (mt h)⟩
theorem Mj(hk:k<2)(hR:aH R):dc (.tp [.int 6,.tp (R.map (PV k w))]) ax 0=match decide (R=[[12],[17]])with|true=>some 12|false=>none:=by
 have e:V.beqL [.int 8,.int 9] (R.map (PV k w))=decide (R=[[12],[17]]):=by
  by_cases e:R=[[12],[17]]
  ·rw[PL e,e];rfl
  ·rw[PQ e];refine Qj.mpr λh=>e ?_;replace h:=Aa h;have o12:br [12]:=cb (by decide);have o17:br [17]:=cb (by decide);match R,hR,h with
   |[],_,h=>cases h
   |[_],_,h=>injection h with _ h;cases h
   |_::_::_::_,_,h=>injection h with _ h;injection h with _ h;cases h
   |[a,b],hR,h=>injection h with h1 h2;injection h2 with h2;rw[tg hk (hR a mh) o12 h1.symm,tg hk (hR b (mt mh)) o17 h2.symm]
 show(match V.beqL [.int 8,.int 9] (R.map (PV k w))&&true with|true=>some 12|false=>none)=_;rw[e];cases decide (R=[[12],[17]])<;>rfl
theorem NR(hk:k<2)(hR:aH R)(h2:2≤R.length)(q:∀c',K (KV k w R) ⟨c',k+1,l,h,o⟩):(lI k (.tp [.int 6,.tp (R.map (PV k w))]) ⟨1,k+1,l,h,o⟩).run pA K:=by
 delta lI
 rw[show fS k (.tp [.int 6,.tp (R.map (PV k w))])=true from show(V.datL true true k (R.map (PV k w)) 4&&true)=true by rw[M9 hk hR];rfl,Mj hk hR];have kn:dG ⟨1,k+1,l,h,o⟩ k (.tp [.int 6,.tp (R.map (PV k w))])=false:=by
  delta dG
  rw[show(dc (.tp [.int 6,.tp (R.map (PV k w))]) (dM k) 0).isSome=false by match k,hk with|0,_=>rfl|1,_=>rfl,Bool.and_false]
 have e:KV k w R=match decide (R=[[12],[17]])with|true=>.int 12|false=>.id k (.tp [.int 6,.tp (R.map (PV k w))]):=by
  match R,h2 with
  |p::p'::R,_=>rfl
 rw[e]at q;cases hd:decide (R=[[12],[17]])with
 |true=>rw[hd]at q;exact q 1
 |false=>rw[hd]at q;show cF.run pA (match dG _ k _ with|true=>_|false=>_) K;rw[kn];exact q 0
variable{c:Nat}{l:Bool}{p:Pt}{us:V}
theorem wm{S:St}{K:Bool→Prop}(h:cq S a b=some r)(q:K r):aq pA (cq S a b) K:=aR h q
theorem Ld{K:Bool→Prop}(h:qq a b=some r)(q:K r):aq pA (qq a b) K:=aR h q
theorem Ov{S:St}{K:Bool→Prop}(h:truthy S v=some r)(q:K r):aq pA (truthy S v) K:=aR h q
theorem dA{S:St}{K:KF}(h:∀K':V→St→Prop,K' (.bool false) S→ev pA cl e vs S K')(q:ao pA cl ss vs S K):ao pA cl (.it e a []::ss) vs S K:=h _ q
theorem vN{P:Prop}[Decidable P]{S:St}(h:¬P)(q:K (.bool false) S):K (.bool (decide P)) S:=by rw[PQ h];exact q
theorem Mm{P:Prop}[Decidable P]{S:St}(h:P)(q:K (.bool true) S):K (.bool (decide P)) S:=by rw[PL h];exact q
theorem KC{S:St}{i j:Int}{b:Bool}(h:decide (i=j)=b):cq S (.int i) (.int j)=some b:=by rw[← h];rfl
theorem lt_int{i j:Int}{b:Bool}(h:decide (i<j)=b):qq (.int i) (.int j)=some b:=by rw[← h];rfl
noncomputable def gP(v:V):Bool:=match v with|.id _ _=>true|.int _=>true|_=>false
theorem bJ{S:St}(h:gP v=true):ar S v=v:=by cases v<;>first|rfl|exact ak h
theorem l7(hk:k<2)(hp:br p):gP (PV k w p)=true:=by
 match p,hp with
 |[i],hp=>exact n6 (f:=λk w i=>gP (A k w i)) (by decide +kernel) hk (hp.2 i mh).1
 |i::j::p,hp=>rfl
theorem mF(hk:k<2)(hR:aH R):gP (KV k w R)=true:=by
 match R,hR with
 |[],_=>rfl
 |[p],hR=>exact l7 hk (hR p mh)
 |p::p'::R,hR=>show gP (match decide _ with|true=>_|false=>_)=true;cases decide (p::p'::R=[[12],[17]])<;>rfl
theorem A1(hD:aH D):aH (aX D):=by
 delta aX
 cases decide ([12]∈D)&&(decide ([17]∈D)||decide ([26]∈D))with
 |true=>exact λp hp=>(iv.mp hp).elim (λh=>(iv.mp h).elim (hD p) λe=>e▸cb (by decide)) λe=>e▸cb (by decide)
 |false=>exact hD
theorem sx:(aX D).length≤D.length+2:=by
 delta aX
 cases decide ([12]∈D)&&(decide ([17]∈D)||decide ([26]∈D))with
 |true=>exact PM l4 (Rn l4)
 |false=>exact QH ..
noncomputable abbrev JM(Ms:List (List Pt)):List Pt:=aX (fk Ms [])
theorem rm{Ms:List (List Pt)}(hk:k<2)(hM:∀M∈Ms,aH M)(hl:dr Ms<62)(hu:us=.ls (Ms.map (KV k w))∨us=.tp (Ms.map (KV k w)))(ht:l=true∨∀p∈JM Ms,fx (JM Ms) (jW p)=false)(hc:1≤c)(q:∀l' o',NH k w o (JM Ms) l' o'→K (KV k w (l'.filter (bH (JM Ms)))) ⟨c-1,k+1,l,h,o'⟩):call (n+15) 11 [.hd .tab k,us] ⟨c,k+1,l,h,o⟩ K:=by
 have fr:V.freeL (Ms.map (KV k w))=true:=by
  clear q ht hl hu;induction Ms with
  |nil=>rfl
  |cons M Ms ih=>exact QL.mpr ⟨cv hk (hM M mh),ih λM h=>hM M (mt h)⟩
 have it:∀S,dY S us=some (Ms.map (KV k w),none):=λS=>by rcases hu with rfl|rfl<;>rfl
 have hG:aH (fk Ms []):=pS hM λz h=>az h;have gl:(fk Ms []).length<62:=Qa qf (by show 0+dr Ms<62;exact q8 hl);have hJ:=A1 hG;have jl:(JM Ms).length<64:=Qa sx (bc (bb gl rfl));refine own (vs:=(some (.hd .tab k)::some us::PA)) rfl rfl hc (gf rfl (by rcases hu with rfl|rfl<;>exact fr)) rfl ?_;refine aR (it _) ?_;refine Ff hk (λz=>rfl) Ms [] none none hM (λz h=>az h) (by show 0+dr Ms<62;exact q8 hl) λx3 x4=>?_;refine Kf hk hG ?_;refine IW hk hG gl ?_;refine Aj hk hJ jl λl' o' hs=>?_;have hl':aH l':=λp hp=>hJ p (hs.1.mem_iff.mp hp);refine eO (cl:=call (n+14)) (vs:=[none,none,none,some (.hd .ref 0),some (.hd .tab k)]) (g:=PV k w) (f:=PV k w) (b:=bH (JM Ms)) (S:=⟨1,k+1,l,[.dict (dk k w (JM Ms))],o'⟩) rfl (λp hp K q=>IY hk hJ (hl' p hp) (ht.imp_right λh=>h p (hs.1.mem_iff.mp hp)) q) (λp z z K q=>q) ?_;have hR:aH (l'.filter (bH (JM Ms))):=λp hp=>hl' p ((P8.mp hp).1);have hz:(l'.filter (bH (JM Ms))).length<64:=Qa (QG ..) (hs.1.length_eq▸jl);replace q:=q l' o' hs;generalize l'.filter (bH (JM Ms))=R at hR hz q;have done:∀S':St,S'.n=k+1→S'.o=o'→S'.n=k+1∧V.free (ar S' (KV k w R))=true∧K (ar S' (KV k w R)) ⟨c-1,k+1,l,h,S'.o⟩:=λS' hn ho=>by rw[bJ (mF hk hR),ho];exact⟨hn,cv hk hR,q⟩
 match R,hR,hz,done with
 |[],_,_,done=>exact done _ rfl rfl
 |[p],hR,_,done=>exact done _ rfl rfl
 |p::p'::R,hR,hz,done=>have ln:((p::p'::R).map (PV k w)).length=(p::p'::R).length:=PS ..;refine dA (λK' q=>q) ?_;refine dA (λK' q=>vN (P:=(((((p::p'::R).map (PV k w)).length:Nat):Int)=1)) (λh=>by rw[ln]at h;simp only[Qf]at h;omega) q) ?_;refine dA (λK' q=>vN (P:=((400:Int)<((((p::p'::R).map (PV k w)).length:Nat):Int))) (λh=>by rw[ln]at h;omega) q) ?_;exact NR hk hR (QV ..) λc'=>done _ rfl rfl
variable{ss:List S}{S:St}{K:KF}
abbrev c6(cl:Cl)(e:E)(vs:au)(S:St)(r:Bool):Prop:=∀K':V→St→Prop,K' (.bool r) S→ev pA cl e vs S K'
theorem bz(h:c6 cl e vs S r)(t:r=true→ao pA cl a vs S λf vs S=>match f with|.next=>ao pA cl ss vs S K|.cont=>K .cont vs S|.ret v=>K (.ret v) vs S)(f:r=false→ao pA cl ss vs S K):ao pA cl (.it e a []::ss) vs S K:=h _ (by cases r with|true=>exact t rfl|false=>exact f rfl)
theorem kR(h:c6 cl e vs S r)(q:K (.ret (.bool r)) vs S):ao pA cl (.ret e::ss) vs S K:=h _ q
theorem b7(h1:c6 cl x vs S r1)(h2:c6 cl y vs S r2):c6 cl (.or x y) vs S (r1||r2):=λK' q=>h1 _ (by cases r1 with|true=>exact q|false=>exact h2 K' q)
theorem bG(h1:c6 cl x vs S r1)(h2:c6 cl y vs S r2):c6 cl (.and x y) vs S (r1&&r2):=λK' q=>h1 _ (by cases r1 with|true=>exact h2 K' q|false=>exact q)
end
section
variable{k n:Nat}{S:St}
theorem wt(hn:S.n=k+1)(ha:V.dat true false k a 7=true)(hb:V.dat true false k b 7=true)(fa:gP a=true)(fb:gP b=true):cq S a b=some (V.beq a b):=by
 delta cq iB
 rw[bJ fa,bJ fb,hn];show(match(_||(V.dat true false k a 8&&true)&&(V.dat true false k b 8&&true))with|true=>_|false=>_)=_;have e:∀{v:V},gP v=true→V.dat true false k v 7=true→V.dat true false k v 8=true:=λ{v} h1 h2=>by cases v<;>first|exact h2|exact ak h1
 rw[e fa ha,e fb hb,show(true&&true&&(true&&true))=true from rfl,RP]
theorem vD(hk:k<2)(hp:br p):V.dat true false k (PV k w p) 7=true:=by
 match p,hp with
 |[i],hp=>exact n6 (f:=λk w i=>V.dat true false k (A k w i) 7) (by decide +kernel) hk (hp.2 i mh).1
 |i::j::p,hp=>exact RA k
theorem OV(hk:k<2)(hn:S.n=k+1)(hp:br p)(hq:br q):cq S (PV k w p) (PV k w q)=some (decide (p=q)):=by rw[wt hn (vD hk hp) (vD hk hq) (l7 hk hp) (l7 hk hq),Dz hk hp hq]
noncomputable def fam(i:Nat):Nat:=([2,2,1,2,7,7,7,7,7,1,1,1,3,4,2,7,1,3,5,0,6,7,2,2,7,1,3]:List Nat).getD i 0
noncomputable def un(i:Nat):Bool:=!([4,5,6,7,8,14,15,16,19,20,21,24]:List Nat).contains i
theorem dT{i:Nat}(hk:k<2)(hi:i<27)(q:K (.int (fam i:Nat)) ⟨c,k+1,l,h,o⟩):call (n+13) 17 [.hd .tab k,A k w i] ⟨c,k+1,l,h,o⟩ K:=fV (g:=λk w i=>.int (fam i:Nat)) rfl rfl (by kernel_rfl) hk hi (Qc _) q
theorem zw{i:Nat}(hk:k<2)(hi:i<27)(q:K (.bool (un i)) ⟨c,k+1,l,h,o⟩):call (n+13) 13 [.hd .tab k,A k w i] ⟨c,k+1,l,h,o⟩ K:=fV (g:=λk w i=>.bool (un i)) rfl rfl (by kernel_rfl) hk hi (Qc _) q
noncomputable def vM(i j:Nat):Bool:=decide (i=7)&&([4,6,24]:List Nat).contains j||decide (j=7)&&([4,6,24]:List Nat).contains i
noncomputable def lO(i:Nat):Bool:=([4,5,6,7,8,15,24]:List Nat).contains i
theorem E1{i j:Nat}(hk:k<2)(hi:i<27)(hj:j<27)(si:lO i=true)(sj:lO j=true)(q:K (.bool (vM i j)) ⟨c,k+1,true,h,o⟩):call (n+13) 24 [.hd .tab k,A k w i,A k w j] ⟨c,k+1,true,h,o⟩ K:=by have e:=uY (f:=λk w i=>([4,5,6,7,8,15,24]:List Nat).map λj=>match lO i with|true=>jB mf 0 [.hd .tab k,A k w i,A k w j] k true o|false=>none) (g:=λk w i=>([4,5,6,7,8,15,24]:List Nat).map λj=>match lO i with|true=>some (.bool (vM i j))|false=>none) (by kernel_rfl) (w:=w) hk hi;replace e:=QE.mp e j (PR.mp sj);simp only[si]at e;exact run rfl rfl (gF rfl (b4 hk hi) (b4 hk hj)) e (Qc _) q
theorem of_eq{b b':Bool}(e:b=b')(q:K (.bool b') S):K (.bool b) S:=by rw[e];exact q
noncomputable def nul(f:Nat):Bool:=beq f 4||(beq f 5||beq f 6)
theorem CB(q:K (.bool (nul f)) ⟨c,k+1,l,h,o⟩):call (n+13) 18 [.int (f:Nat)] ⟨c,k+1,l,h,o⟩ K:=by
 refine own (vs:=(some (.int (f:Nat))::z3)) rfl rfl (Qc _) rfl rfl ?_;have e:∀j:Nat,decide ((f:Int)=(j:Int))=beq f j:=λj=>by rw[P7,Qp,Sa];exact ofNat_inj
 have y:∀{cl:Cl}{S:St}(i:Int)(j:Nat),i=j→c6 cl (.k .eq (.v 0) (.c (.int i))) (some (.int (f:Nat))::z3) S (beq f j):=λ{cl S} i j hi K' q=>of_eq (b:=decide ((f:Int)=i)) (hi▸e j) q;refine kR (b7 (y 4 4 rfl) (b7 (y 5 5 rfl) (y 6 6 rfl))) ?_;exact⟨rfl,rfl,q⟩
noncomputable def mn(f g:Nat):Nat:=match beq f 5&&beq g 6 with|true=>1|false=>match beq f 6&&beq g 5 with|true=>2|false=>0
noncomputable def mv(i j:Nat):Nat:=match !beq (fam i) (fam j)with|true=>0|false=>match un i&&un j with|true=>0|false=>match beq i 16||beq i 14 with|true=>2|false=>match beq j 16||beq j 14 with|true=>1|false=>3
noncomputable def mo(i j:Nat):Nat:=match beq i 21 with|true=>2|false=>match beq j 21 with|true=>1|false=>match !beq (fam i) (fam j)with|true=>(match beq i 15||beq j 15 with|true=>0|false=>3)|false=>match vM i j with|true=>0|false=>3
noncomputable def oN(z:Option Nat)(j:Nat):Bool:=match z with|some i=>beq i j|none=>false
noncomputable def mc(i j:Nat):Nat:=match beq i j||oN (cH j) i with|true=>1|false=>match oN (cH i) j with|true=>2|false=>match beq (fam i) 0||beq (fam j) 0 with|true=>3|false=>match nul (fam i)||nul (fam j)with|true=>mn (fam i) (fam j)|false=>match beq (fam i) 7||beq (fam j) 7 with|true=>mo i j|false=>mv i j
end
section
variable{ss:List S}{S:St}{K:KF}
abbrev Gv(cl:Cl)(e:E)(vs:au)(S:St)(v:V):Prop:=∀K':V→St→Prop,K' v S→ev pA cl e vs S K'
theorem aM(ha:Gv cl ea vs S x)(hb:Gv cl eb vs S y)(he:cq S x y=some r):c6 cl (.k .eq ea eb) vs S r:=λK' q=>ha _ (hb _ (wm he q))
theorem ka(ha:Gv cl ea vs S x)(hb:Gv cl eb vs S y)(he:cq S x y=some r):c6 cl (.k .ne ea eb) vs S (!r):=λK' q=>ha _ (hb _ (aR (x:=(cq S x y).map (!·)) (by rw[he];rfl) q))
theorem ey{x y:E}(h:c6 cl e vs S r)(ha:r=true→Gv cl x vs S v)(hb:r=false→Gv cl y vs S v):Gv cl (.it e x y) vs S v:=λK' q=>h _ (by cases r with|true=>exact ha rfl K' q|false=>exact hb rfl K' q)
theorem ay(h:Gv cl e vs S v)(q:ao pA cl ss (vs.set j (some v)) S K):ao pA cl (.a j e::ss) vs S K:=h _ q
theorem gY(h:Gv cl e vs S v)(q:K (.ret v) vs S):ao pA cl (.ret e::ss) vs S K:=h _ q
theorem bZ{f g:Nat}:cq S (.int (f:Nat)) (.int (g:Nat))=some (beq f g):=KC (by rw[P7,Qp,Sa];exact ofNat_inj)
end
section
variable{k n:Nat}{S:St}{i j:Nat}
abbrev aJ(i:Nat):Prop:=i<27∧i≠19
theorem je(hk:k<2)(hn:S.n=k+1)(hi:aJ i)(hj:aJ j):cq S (A k w i) (A k w j)=some (beq i j):=by have:=OV (p:=[i]) (q:=[j]) (w:=w) hk hn (cb hi) (cb hj);rw[show decide ([i]=[j])=beq i j by rw[P7,Qp,Sa];exact⟨λh=>by injection h,λh=>h▸rfl⟩]at this;exact this
theorem G3{z:Option Nat}(hk:k<2)(hn:S.n=k+1)(hz:∀i,z=some i→aJ i)(hj:aJ j):cq S (ov k w (z.map λi=>[i])) (A k w j)=some (oN z j):=by
 cases z with
 |some i=>exact je hk hn (hz i rfl) hj
 |none=>
  rw[show ov k w (none.map λi=>[i])=.int (-1)from rfl,wt (k:=k) (a:=.int (-1)) (b:=A k w j) hn rfl (vD (p:=[j]) hk (cb hj)) rfl (l7 (p:=[j]) hk (cb hj))];exact Qb some (iQ.mpr λe=>by have:=AW (w:=w) (j:=-1) hk (cb hj) (by decide +kernel);rw[show PV k w [j]=A k w j from rfl,← e]at this;exact eg this)
theorem Ee(hk:k<2)(hi:aJ i)(q:K (ov k w ((cH i).map λi=>[i])) ⟨c,k+1,true,h,o⟩):call (n+13) 7 [.hd .tab k,A k w i] ⟨c,k+1,true,h,o⟩ K:=D0 (p:=[i]) hk (cb hi) λz hz=>by
 rcases hz with rfl|hz
 ·exact q
 ·cases hz.1
theorem Hi(hk:k<2)(hi:i<27)(hj:j<27):V.freeL [.hd .tab k,A k w i,A k w j,.int a,.int b]=true:=by show(V.free (A k w i)&&(V.free (A k w j)&&true))=true;rw[b4 hk hi,b4 hk hj];rfl
theorem Me{f g:Nat}(hk:k<2)(fs:V.free s=true)(ft:V.free t=true)(hf:f<27)(hg:g<8)(q:K (.int (mn f g:Nat)) ⟨c,k+1,l,h,o⟩):call (n+13) 25 [s,t,.int (f:Nat),.int (g:Nat)] ⟨c,k+1,l,h,o⟩ K:=have e:=uY (f:=λk z f=>(List.range 8).map λg=>jB mx 0 [s,t,.int (f:Nat),.int (g:Nat)] k l o) (g:=λz z f=>(List.range 8).map λg=>some (.int (mn f g:Nat))) (by kernel_rfl) (w:=false) hk hf;run rfl rfl (by show(V.free s&&(V.free t&&true))=true;rw[fs,ft];rfl) (QE.mp e g (QM.mpr hg)) (Qc _) q
theorem Mu(hk:k<2)(hi:aJ i)(hj:aJ j)(q:K (.int (mv i j:Nat)) ⟨c,k+1,true,h,o⟩):call (n+14) 26 [.hd .tab k,A k w i,A k w j,.int (fam i:Nat),.int (fam j:Nat)] ⟨c,k+1,true,h,o⟩ K:=by
 refine own (vs:=(some (.hd .tab k)::some (A k w i)::some (A k w j)::some (.int (fam i:Nat))::some (.int (fam j:Nat))::z7)) rfl rfl (Qc _) (Hi hk hi.1 hj.1) rfl ?_;unfold mv at q;refine bz (ka ae ae bZ) (λe=>?_) λe=>?_
 ·rw[e]at q;exact⟨rfl,rfl,q⟩
 rw[e]at q;refine bz (bG (λK q=>zw hk hi.1 q) (λK q=>zw hk hj.1 q)) (λe=>?_) λe=>?_
 ·rw[e]at q;exact⟨rfl,rfl,q⟩
 rw[e]at q;refine bz (b7 (aM (y:=A k w 16) ae ae (je hk rfl hi (by decide))) (aM (y:=A k w 14) ae ae (je hk rfl hi (by decide)))) (λe=>?_) λe=>?_
 ·rw[e]at q;exact⟨rfl,rfl,q⟩
 rw[e]at q;refine bz (b7 (aM (y:=A k w 16) ae ae (je hk rfl hj (by decide))) (aM (y:=A k w 14) ae ae (je hk rfl hj (by decide)))) (λe=>?_) λe=>?_
 ·rw[e]at q;exact⟨rfl,rfl,q⟩
 rw[e]at q;exact⟨rfl,rfl,q⟩
theorem Dm(hi:i<27):fam i<8:=PI (aO (f:=λi=>decide (fam i<8)) (by decide +kernel) hi)
theorem u7(hi:i<27)(h7:beq (fam i) 7=true)(h1:beq i 21=false):lO i=true:=by have:=aO (f:=λi=>!beq (fam i) 7||beq i 21||lO i) (by decide +kernel) hi;rw[h7,h1]at this;exact this
theorem ME(hk:k<2)(hi:aJ i)(hj:aJ j)(h7:(beq (fam i) 7||beq (fam j) 7)=true)(q:K (.int (mo i j:Nat)) ⟨c,k+1,true,h,o⟩):call (n+14) 27 [.hd .tab k,A k w i,A k w j,.int (fam i:Nat),.int (fam j:Nat)] ⟨c,k+1,true,h,o⟩ K:=by
 refine own (vs:=(some (.hd .tab k)::some (A k w i)::some (A k w j)::some (.int (fam i:Nat))::some (.int (fam j:Nat))::z7)) rfl rfl (Qc _) (Hi hk hi.1 hj.1) rfl ?_;unfold mo at q;refine bz (aM (y:=A k w 21) ae ae (je hk rfl hi (by decide))) (λe=>?_) λe1=>?_
 ·rw[e]at q;exact⟨rfl,rfl,q⟩
 rw[e1]at q;refine bz (aM (y:=A k w 21) ae ae (je hk rfl hj (by decide))) (λe=>?_) λe2=>?_
 ·rw[e]at q;exact⟨rfl,rfl,q⟩
 rw[e2]at q;refine bz (ka ae ae bZ) (λe3=>?_) λe3=>?_
 ·rw[e3]at q;exact gY (v:=.int ((match beq i 15||beq j 15 with|true=>0|false=>3:Nat):Nat)) (ey (b7 (aM (y:=A k w 15) ae ae (je hk rfl hi (by decide))) (aM (y:=A k w 15) ae ae (je hk rfl hj (by decide)))) (λe K q=>by rw[e]at q;exact q) λe K q=>by rw[e]at q;exact q) ⟨rfl,rfl,q⟩
 rw[e3]at q;have ef:=PJ ((RQ _).mp e3);have h7':beq (fam i) 7=true:=by rw[← ef,Bool.or_self]at h7;exact h7
 exact gY (v:=.int ((match vM i j with|true=>0|false=>3:Nat):Nat)) (ey (λK q=>E1 hk hi.1 hj.1 (u7 hi.1 h7' e1) (u7 hj.1 (ef▸h7') e2) q) (λe K q=>by rw[e]at q;exact q) λe K q=>by rw[e]at q;exact q) ⟨rfl,rfl,q⟩
theorem Mn(hk:k<2)(hi:aJ i)(hj:aJ j)(q:K (.int (mc i j:Nat)) ⟨c,k+1,true,h,o⟩):call (n+15) 28 [.hd .tab k,A k w i,A k w j] ⟨c,k+1,true,h,o⟩ K:=by
 refine own (vs:=(some (.hd .tab k)::some (A k w i)::some (A k w j)::CD)) rfl rfl (Qc _) (gF rfl (b4 hk hi.1) (b4 hk hj.1)) rfl ?_;unfold mc at q;have tk:∀{i j},i<27→cH i=some j→aJ j:=λh e=>A3 h (.inl e);refine bz (b7 (aM ae ae (je hk rfl hi hj)) (aM (λK q=>Ee hk hj q) ae (G3 hk rfl (λi=>tk hj.1) hi))) (λe=>?_) λe=>?_
 ·rw[e]at q;exact⟨rfl,rfl,q⟩
 rw[e]at q;refine bz (aM (λK q=>Ee hk hi q) ae (G3 hk rfl (λi=>tk hi.1) hj)) (λe=>?_) λe=>?_
 ·rw[e]at q;exact⟨rfl,rfl,q⟩
 rw[e]at q;refine ay (λK q=>dT hk hi.1 q) (ay (λK q=>dT hk hj.1 q) ?_);refine bz (b7 (aM (y:=.int ((0:Nat):Int)) ae ae bZ) (aM (y:=.int ((0:Nat):Int)) ae ae bZ)) (λe=>?_) λe=>?_
 ·rw[e]at q;exact⟨rfl,rfl,q⟩
 rw[e]at q;refine bz (b7 (λK q=>CB q) (λK q=>CB q)) (λe=>?_) λe=>?_
 ·rw[e]at q;exact gY (λK q=>Me hk (b4 hk hi.1) (b4 hk hj.1) (Q8 (Dm hi.1) (ag rfl)) (Dm hj.1) q) ⟨rfl,rfl,q⟩
 rw[e]at q;refine bz (b7 (aM (y:=.int ((7:Nat):Int)) ae ae bZ) (aM (y:=.int ((7:Nat):Int)) ae ae bZ)) (λe=>?_) λe=>?_
 ·rw[e]at q;exact gY (λK q=>ME hk hi hj e q) ⟨rfl,rfl,q⟩
 rw[e]at q;exact gY (λK q=>Mu hk hi hj q) ⟨rfl,rfl,q⟩
end
noncomputable def xS(i:Nat):Nat:=match beq i 24 with|true=>6|false=>i
noncomputable def ou(i:Nat):Nat:=(cH i).getD i
noncomputable def mem(p:Pt):Pt:=match p with|[]=>[]|i::r=>match r with|[]=>[xS i]|_::_=>p
noncomputable def kY(j:Nat):Pt→Bool→Pt→Option (Bool×Pt)
 |[],b,out=>some (b,out)
 |i::L,b,out=>match beq (mc i j) 0 with
  |true=>none
  |false=>kY j L (match beq (mc i j) 1 with|true=>true|false=>b) (match beq (mc i j) 2 with|true=>out|false=>out++[i])
noncomputable def k6(kept:Pt)(j:Nat):Option Pt:=(kY j kept false []).map λx=>match x.1 with|true=>x.2|false=>x.2++[j]
noncomputable def ir:Pt→Pt→Option Pt
 |kept,[]=>some kept
 |kept,j::ts=>(k6 kept j).bind λr=>ir r ts
noncomputable def rC(r:Pt):Pt:=match r with|[]=>[]|i::t=>match t with|[]=>[i]|_::_=>(i::t).map ou
theorem pU{r:Pt}(h:2≤r.length):rC r=r.map ou:=by
 match r,h with
 |i::j::t,_=>rfl
noncomputable def bO(p q:Pt):Option Pt:=(ir (mem p) (mem q)).map rC
noncomputable def Om(k:Nat)(w:Bool)(x:Option Pt):V:=match x with|some r=>.ls (r.map (A k w))|none=>.nul
section
variable{S:St}{K:KF}
theorem p9(ho:Gv cl eo vs S (.hd .ref i))(hi:S.h[i]?=some (.list L))(he:Gv cl e vs S v)(hl:L.length<aD)(q:ao pA cl ss vs (S.set i (.list (L++[v]))) K):ao pA cl (.expr (.me .append eo [e])::ss) vs S K:=by
 refine ho _ ?_;have e1:bI S (.hd .ref i)=some (i,L):=by delta bI;simp only[V.asHdl,Option.bind,hi]
 show iff pA (bI S (.hd .ref i)).isSome _;rw[e1];refine he _ ?_;show(ct (bI S (.hd .ref i)) _).run pA _;rw[e1];show(eM (decide (L.length<aD)) _).run pA _;rw[PL hl];exact q
end
section
variable{k n c:Nat}{S:St}{i:Nat}
noncomputable abbrev Et:List Kk.S:=[.a 6 (.cl 28 [.v 0,.v 5,.v 2]),.it (.k .eq (.v 6) (.i 0)) [.ret (.c .nul)] [],.it (.k .eq (.v 6) (.i 1)) [.a 4 (.c (.bool true))] [],.it (.k .ne (.v 6) (.i 2)) [.expr (.me .append (.v 3) [.v 5])] []]
abbrev aA(p:Pt):Prop:=∀i∈p,aJ i
theorem gc(hp:br p):br (mem p):=by
 match p,hp with
 |[i],hp=>exact cb (by have:=hp.2 i mh;show aJ (xS i);delta xS;cases beq i 24 with|true=>exact(show aJ 6 by decide)|false=>exact this)
 |_::_::_,hp=>exact hp
theorem sW(hk:k<2)(hp:br p)(q:K (.tp ((mem p).map (A k w))) ⟨c,k+1,true,h,o⟩):call (n+13) 30 [.hd .tab k,PV k w p] ⟨c,k+1,true,h,o⟩ K:=by
 match p,hp with
 |[i],hp=>exact fV (g:=λk w i=>.tp [A k w (xS i)]) rfl rfl (by kernel_rfl) hk (hp.2 i mh).1 (Qc _) q
 |i::j::p,hp=>
  have f:V.free (.tp ((i::j::p).map (A k w)))=true:=qh hk hp.2;refine own rfl rfl (Qc _) rfl rfl ?_;match k,hk with
  |0,_=>exact⟨rfl,f,q⟩
  |1,_=>exact⟨rfl,f,q⟩
theorem EA{kp:V}{ok:St→Bool}{K:KF}(hk:k<2)(hok:∀S,ok S=true)(hj:aJ j):∀(L:Pt)(b:Bool)(out:Pt)(x5 x6:Option V),aA L→out.length+L.length<100→(kY j L b out=none→∀vs h,K (.ret .nul) vs ⟨c,k+1,true,h,o⟩)→(∀b' out',kY j L b out=some (b',out')→∀x5 x6,K .next (some (.hd .tab k)::some kp::some (A k w j)::some (.hd .ref 0)::some (.bool b')::x5::x6::z4) ⟨c,k+1,true,[.list (out'.map (A k w))],o⟩)→
 bW pA ok (ao pA (call (n+15)) Et) 5 (L.map (A k w)) (some (.hd .tab k)::some kp::some (A k w j)::some (.hd .ref 0)::some (.bool b)::x5::x6::z4) ⟨c,k+1,true,[.list (out.map (A k w))],o⟩ K:=by
 intro L;induction L with
 |nil=>
  exact λb out x5 x6 _ _ _ qs=>by show iff pA (ok _) _;rw[hok];exact qs b out rfl x5 x6
 |cons i L ih_=>
  exact λb out x5 x6 hL hl qn qs=>by
   show iff pA (ok _) _;rw[hok];have hi:=hL i mh;rw[Qf]at hl;unfold kY at qn qs;refine ay (λK q=>Mn hk hi hj q) ?_;refine bz (aM (y:=.int ((0:Nat):Int)) ae ae bZ) (λe=>?_) λe=>?_
   ·rw[e]at qn;exact qn rfl _ _
   rw[e]at qn qs;have ih:=λb out h=>ih_ b out (some (A k w i)) (some (.int (mc i j:Nat))) (λj h=>hL j (mt h)) h;have last:∀b1,(match beq (mc i j) 1 with|true=>true|false=>b)=b1→ao pA (call (n+15)) [.it (.k .ne (.v 6) (.i 2)) [.expr (.me .append (.v 3) [.v 5])] []] (some (.hd .tab k)::some kp::some (A k w j)::some (.hd .ref 0)::some (.bool b1)::some (A k w i)::some (.int (mc i j:Nat))::z4) ⟨c,k+1,true,[.list (out.map (A k w))],o⟩ λf vs S=>match f with|.ret v=>K (.ret v) vs S|.next=>bW pA ok (ao pA (call (n+15)) Et) 5 (L.map (A k w)) vs S K|.cont=>bW pA ok (ao pA (call (n+15)) Et) 5 (L.map (A k w)) vs S K:=λb1 e1=>by
    subst e1;refine bz (ka (y:=.int ((2:Nat):Int)) ae ae bZ) (λe=>?_) λe=>?_
    ·replace e:=(Qo _).mp e;rw[e]at qn qs;refine p9 ae rfl ae (by rw[PS];exact Q8 (lg hl:out.length<100) (ag rfl)) ?_;rw[show(out.map (A k w))++[A k w i]=(out++[i]).map (A k w)by rw[QY];rfl];exact ih _ _ (by rw[PX];show out.length+1+L.length<100;exact tK hl) qn qs
    ·replace e:=(RQ _).mp e;rw[e]at qn qs;exact ih _ _ (Bp hl) qn qs
   refine bz (aM (y:=.int ((1:Nat):Int)) ae ae bZ) (λe=>?_) λe=>?_
   ·exact last true (by rw[e])
   ·exact last b (by rw[e])
variable{q r:Pt}
theorem zd{j:Nat}:∀{L out:Pt}{b b':Bool}{r:Pt},kY j L b out=some (b',r)→(aA L→aA out→aA r)∧r.length≤out.length+L.length∧((b=true→out≠[])→b'=true→r≠[])
 |[],out,b,b',r,e=>by cases e;exact⟨λz h=>h,Qi _,id⟩
 |i::L,out,b,b',r,e=>by
  unfold kY at e;cases h0:beq (mc i j) 0 with
  |true=>rw[h0]at e;exact ah e
  |false=>
   rw[h0]at e;refine U3 (zd (L:=L) e) λh1 h2 h3=>?_;clear e;cases h2':beq (mc i j) 2 with
   |true=>
    rw[h2']at h1 h2 h3;have ne:beq (mc i j) 1=false:=by rw[PJ h2'];rfl
    rw[ne]at h3;exact⟨λa=>h1 λi h=>a i (mt h),PM h2 (QB (le_succ _) _),h3⟩
   |false=>rw[h2']at h1 h2 h3;refine⟨λa b=>h1 (λi h=>a i (mt h)) λx hx=>(Qe.mp hx).elim (b x) λh=>PH.mp h▸a i mh,?_,λz=>h3 λz h=>nomatch (List.append_eq_nil_iff.mp h).2⟩;rw[PX]at h2;exact PM h2 (show out.length+1+L.length≤out.length+(L.length+1)by omega)
theorem lK{p r:Pt}{j:Nat}(hp:aA p)(hj:aJ j)(e:k6 p j=some r):br r∧r.length≤p.length+1:=by
 obtain⟨⟨b,s⟩,e,e'⟩:=Qr.mp e;refine U3 (zd e) λh1 h2 h3=>?_;have hs:=h1 hp λz h=>az h;rw[List.length_nil,Nat.zero_add]at h2;cases b with
 |true=>rw[← e'];exact⟨⟨h3 (λh=>ak h) rfl,hs⟩,le_succ_of_le h2⟩
 |false=>rw[← e'];exact⟨⟨λh=>(nomatch (List.append_eq_nil_iff.mp h).2),λx hx=>(Qe.mp hx).elim (hs x) λh=>PH.mp h▸hj⟩,(PX ..).symm▸Rn h2⟩
theorem p7:∀{q p r:Pt},br p→aA q→ir p q=some r→br r∧r.length≤p.length+q.length:=by
 intro q;induction q with
 |nil=>exact @λp r hp _ e=>by replace e:=PG e;subst e;exact⟨hp,Qi _⟩
 |cons j q ih_=>
  exact @λp r hp hq e=>by refine X2 (Qm.mp (show(k6 p j).bind (λr=>ir r q)=some r from e)) λs e1 e2=>?_;refine U2 (lK hp.2 (hq j mh) e1) λh1 h2=>?_;refine U2 (ih_ h1 (λi h=>hq i (mt h)) e2) λh3 h4=>?_;exact⟨h3,PM h4 (by rw[Qf];exact NX h2)⟩
theorem qW(hk:k<2)(hp:aA p):V.free (.ls (p.map (A k w)))=true:=qh hk hp
theorem Cr(hk:k<2)(hp:aA p)(hj:aJ j)(hl:p.length<100)(q:K (Om k w (k6 p j)) ⟨c,k+1,true,h,o⟩):call (n+16) 29 [.hd .tab k,.ls (p.map (A k w)),A k w j] ⟨c,k+1,true,h,o⟩ K:=by
 refine own (vs:=(some (.hd .tab k)::some (.ls (p.map (A k w)))::some (A k w j)::z8)) rfl rfl (Qc _) (gF rfl (qW hk hp) (b4 hk hj.1)) rfl ?_;have hr:∀r,k6 p j=some r→aA r∧r.length<100+1:=λr e=>⟨(lK hp hj e).1.2,Qa (lK hp hj e).2 (Nat.succ_lt_succ hl)⟩
 unfold k6 at q hr;refine EA hk (λz=>rfl) hj p false [] none none hp (by show 0+p.length<100;exact q8 hl) (λe vs h=>?_) λb r e x5 x6=>?_
 ·rw[e]at q;exact⟨rfl,rfl,q⟩
 ·rw[e]at q hr;cases b with
  |true=>exact⟨rfl,qW hk (hr r rfl).1,q⟩
  |false=>
   have len:(r.map (A k w)).length<aD:=by have:=(hr (r++[j]) rfl).2;rw[PX]at this;rw[PS];exact Q8 (lt_of_succ_lt this) (ag rfl)
   refine bz (cl:=call (n+15)) (r:=true) (λK q=>q) (λz=>p9 (i:=0) (L:=r.map (A k w)) (v:=A k w j) ae rfl ae len ?_) (λh=>eg h);have q:K (.ls ((r++[j]).map (A k w))) ⟨c,k+1,true,h,o⟩:=q;have f:=qW (w:=w) hk (hr (r++[j]) rfl).1;rw[QY]at q f;exact⟨rfl,f,q⟩
end
section
variable{S:St}{K:KF}
theorem dE{L:List V}(h:Gv cl e vs S v)(hi:dY S v=some (L,none))(q:bW pA (λz=>true) (ao pA cl body) j L vs S λf vs S=>match f with|.next=>ao pA cl ss vs S K|.cont=>K .cont vs S|.ret v=>K (.ret v) vs S):ao pA cl (.for_ j e body::ss) vs S K:=h _ (aR hi q)
end
section
variable{k n c:Nat}{p q r:Pt}{i:Nat}
noncomputable def cy(x:Option Pt):List Pt:=match x with|some p=>[p]|none=>[]
noncomputable abbrev Pq:List Kk.S:=[.a 4 (.cl 29 [.v 0,.v 4,.v 3]),.it (.k .is_ (.v 4) (.c .nul)) [.ret (.i 2)] []]
theorem HW{K:KF}(hk:k<2):∀(q p:Pt)(x3:Option V),br p→aA q→p.length+q.length<100→(ir p q=none→∀vs S,S.n=k+1→K (.ret (.int 2)) vs S)→(∀r,ir p q=some r→∀x3,K .next (some (.hd .tab k)::some s::some t::x3::some (.ls (r.map (A k w)))::z6) ⟨c,k+1,true,[],o⟩)→
 bW pA (λz=>true) (ao pA (call (n+17)) Pq) 3 (q.map (A k w)) (some (.hd .tab k)::some s::some t::x3::some (.ls (p.map (A k w)))::z6) ⟨c,k+1,true,[],o⟩ K:=by
 intro q;induction q with
 |nil=>exact λp x3 z z z z qs=>qs p rfl x3
 |cons j q ih_=>
  exact λp x3 hp hq hl qn qs=>by
   have hj:=hq j mh;unfold ir at qn qs;rw[Qf]at hl;refine ay (λK q=>Cr hk hp.2 hj (lg hl) q) ?_;cases e:k6 p j with
   |none=>rw[e]at qn;exact qn rfl _ _ rfl
   |some r=>rw[e]at qn qs;refine U2 (lK hp.2 hj e) λh1 h2=>?_;refine dA (λK q=>q) ?_;exact ih_ r _ h1 (λi h=>hq i (mt h)) (uy hl h2) qn qs
theorem JQ(hk:k<2)(hi:aJ i)(q:K (A k w (ou i)) ⟨c,k+1,true,h,o⟩):call (n+13) 15 [.hd .tab k,A k w i] ⟨c,k+1,true,h,o⟩ K:=fV (g:=λk w i=>A k w (ou i)) rfl rfl (by kernel_rfl) hk hi.1 (Qc _) q
theorem Gx(hi:aJ i):aJ (ou i):=by
 delta ou
 cases e:cH i with
 |none=>exact hi
 |some j=>exact A3 hi.1 (.inl e)
theorem N9(hk:k<2):∀{p:Pt},aA p→V.datL true true k (p.map (A k w)) 4=true:=by
 intro p;induction p with
 |nil=>exact @λz=>rfl
 |cons i p ih_=>exact @λhp=>QL.mpr ⟨(qg (p:=[i]) hk (cb (hp i mh))).2.2,ih_ λj h=>hp j (mt h)⟩
theorem O3(hk:k<2)(hr:aA r)(h2:2≤r.length)(q:∀c',K (PV k w r) ⟨c',k+1,l,h,o⟩):(lI k (.tp [.int 7,.tp (r.map (A k w))]) ⟨1,k+1,l,h,o⟩).run pA K:=by
 delta lI
 rw[show fS k (.tp [.int 7,.tp (r.map (A k w))])=true from show(V.datL true true k (r.map (A k w)) 4&&true)=true by rw[N9 hk hr];rfl];have kn:dG ⟨1,k+1,l,h,o⟩ k (.tp [.int 7,.tp (r.map (A k w))])=false:=by
  delta dG
  rw[show(dc (.tp [.int 7,.tp (r.map (A k w))]) (dM k) 0).isSome=false by match k,hk with|0,_=>rfl|1,_=>rfl,Bool.and_false]
 show cF.run pA (match dG _ k _ with|true=>_|false=>_) K;rw[kn];match r,h2,q with
 |i::j::r,_,q=>exact q 0
theorem Hp(hk:k<2)(hp:br p)(hq:br q)(hl:p.length+q.length<90)(hc:1≤c)(Q:K (KV k w (cy (bO p q))) ⟨c-1,k+1,true,h,o⟩):call (n+18) 31 [.hd .tab k,PV k w p,PV k w q] ⟨c,k+1,true,h,o⟩ K:=by
 have mp:=gc hp;have mq:=gc hq;have ml:∀{p:Pt},br p→(mem p).length≤p.length:=λ{p} h=>by
  match p,h with
  |[i],_=>exact Qi _
  |_::_::_,_=>exact Qi _
 refine own (vs:=(some (.hd .tab k)::some (PV k w p)::some (PV k w q)::z8)) rfl rfl hc (gF rfl (rV hk hp) (rV hk hq)) rfl ?_;refine ay (v:=.ls ((mem p).map (A k w))) (λK q=>sW hk hp (aR rfl (dw (cl:=call (n+17)) (vs:=[none,none]) (g:=A k w) (f:=A k w) rfl (λz z z q=>q) q))) ?_;refine dE (λK q=>sW hk hq q) rfl ?_;unfold bO at Q;refine HW hk (mem q) (mem p) none mp mq.2 (Qa (Q2 (ml hp) (ml hq)) (Q8 hl (ag rfl))) (λe vs S hn=>?_) λr e x3=>?_
 ·rw[e]at Q;exact⟨hn,rfl,Q⟩
 ·rw[e]at Q;refine U2 (p7 mp mq.2 e) λhr hlr=>?_;have done:∀(x:Pt),br x→K (PV k w x) ⟨c-1,k+1,true,h,o⟩→∀S':St,S'.n=k+1→S'.n=k+1∧V.free (ar S' (PV k w x))=true∧K (ar S' (PV k w x)) ⟨c-1,k+1,true,h,o⟩:=λx hx Q S' hn=>by
   rw[bJ (l7 hk hx)];exact⟨hn,rV hk hx,Q⟩
  by_cases h2:2≤r.length
  ·have ln:(r.map (A k w)).length=r.length:=PS ..;have rg:aA (r.map ou):=λx hx=>by
    refine X2 (Qd.mp hx) λy hy e=>?_;exact e▸Gx (hr.2 y hy)
   have Q:K (PV k w (rC r)) ⟨c-1,k+1,true,h,o⟩:=Q;rw[pU h2]at Q;refine dA (λK' q=>vN (P:=((((r.map (A k w)).length:Nat):Int)=1)) (λh=>by rw[ln]at h;omega) q) ?_;refine dw (cl:=call (n+17)) (j:=1) (elt:=.cl 15 [.v 3,.v 1]) (ok:=λz=>true) (S:=⟨1,k+1,true,[],o⟩) (vs:=[none,none,none,some (.hd .tab k)]) (g:=A k w) (f:=λi=>A k w (ou i)) (L:=r) rfl (λi hi K q=>JQ hk (hr.2 i hi) q) ?_;rw[show r.map (λi=>A k w (ou i))=(r.map ou).map (A k w)by rw[QR];rfl];exact O3 hk rg (by rw[PS];exact h2) λc'=>done _ ⟨λh=>by rw[List.map_eq_nil_iff]at h;exact hr.1 h,rg⟩ Q _ rfl
  ·match r,hr,h2,Q with
   |[i],hr,_,Q=>exact done [i] hr Q _ rfl
   |_::_::_,_,h2,_=>exact absurd (QV ..) h2
variable{l:Bool}{D M G:List Pt}{us:V}
def a8(G:List Pt)(p:Pt):Prop:=p∈aX G∧bH (aX G) p=true
theorem aV:p∈aX G↔p∈G∨(p=[12]∨p=[17])∧[12]∈G∧([17]∈G∨[26]∈G):=by
 delta aX
 by_cases h:[12]∈G∧([17]∈G∨[26]∈G)
 ·rw[show(decide ([12]∈G)&&(decide ([17]∈G)||decide ([26]∈G)))=true by simpa using h];exact(iv.trans (or_congr_left iv)).trans (or_assoc.trans (RK ⟨λa=>⟨a,h⟩,λa=>a.1⟩))
 ·rw[show(decide ([12]∈G)&&(decide ([17]∈G)||decide ([26]∈G)))=false from Qj.mpr λa=>h (by simpa using a)];exact⟨.inl,λa=>a.resolve_right λa=>h a.2⟩
theorem pd(h:∀p,p∈D↔p∈G):fx D z=fx G z:=by
 cases z with
 |none=>rfl
 |some p=>exact decide_eq_decide.mpr (h p)
theorem jx(h:∀p,p∈D↔p∈G):bH D p=bH G p:=by delta bH;rw[pd h,pd h]
theorem cg(h:∀p,p∈D↔p∈G):a8 D p↔a8 G p:=by
 have e:∀p,p∈aX D↔p∈aX G:=λp=>by rw[aV,aV,h,h,h,h]
 delta a8
 rw[e,jx e]
theorem zz:p∈fk Ms D↔p∈D∨p∈Ms.flatten:=by
 induction Ms generalizing D with
 |nil=>exact⟨.inl,λh=>h.resolve_right λh=>az h⟩
 |cons M Ms ih=>exact(ih (D:=jY D M)).trans ((or_congr_left jU).trans (or_assoc.trans (RK Qe.symm)))
theorem u6(h:D.Nodup):(fk Ms D).Nodup:=by
 induction Ms generalizing D with
 |nil=>exact h
 |cons M Ms ih=>exact ih (sh h)
theorem xO(h:D.Nodup):(aX D).Nodup:=by
 delta aX
 cases decide ([12]∈D)&&(decide ([17]∈D)||decide ([26]∈D))with
 |true=>exact pv (pv h)
 |false=>exact h
theorem rH:p∈JM Ms↔p∈aX Ms.flatten:=by rw[aV,aV];have e:∀p,p∈fk Ms []↔p∈Ms.flatten:=λp=>zz.trans ⟨λh=>h.resolve_left λh=>(az h),.inr⟩;rw[e,e,e,e]
theorem fA{Ms:List (List Pt)}(hk:k<2)(hM:∀M∈Ms,aH M)(hl:dr Ms<62)(hu:us=.ls (Ms.map (KV k w))∨us=.tp (Ms.map (KV k w)))(ht:l=true∨∀p,p∈aX Ms.flatten→fx (aX Ms.flatten) (jW p)=false)(hc:1≤c)(q:∀Z o',Z.Nodup→aH Z→(∀p,p∈Z↔a8 Ms.flatten p)→K (KV k w Z) ⟨c-1,k+1,l,h,o'⟩):call (n+15) 11 [.hd .tab k,us] ⟨c,k+1,l,h,o⟩ K:=by refine rm hk hM hl hu (ht.imp_right λh p hp=>(pd λp=>rH).trans (h p (rH.mp hp))) hc λl' o' hs=>?_;have hJ:aH (JM Ms):=A1 (pS hM λz h=>az h);refine q _ o' ((hs.1.nodup_iff.mpr (xO (u6 R9))).filter _) (λp hp=>hJ p (hs.1.mem_iff.mp (P8.mp hp).1)) λp=>?_;rw[P8,hs.1.mem_iff,rH,jx λp=>rH];exact RX
end
section
variable{S:St}{K:KF}
abbrev Gc(cl:Cl)(e:E)(vs:au)(S:St)(v:V)(S':St):Prop:=∀K':V→St→Prop,K' v S'→ev pA cl e vs S K'
theorem e6(h:Gc cl e vs S v S')(q:ao pA cl ss (vs.set j (some v)) S' K):ao pA cl (.a j e::ss) vs S K:=h _ q
theorem LS(h1:Gv cl e1 vs S v1)(h2:Gv cl e2 vs S v2)(q:ao pA cl ss ((vs.set j1 (some v1)).set j2 (some v2)) S K):ao pA cl (.pair j1 j2 e1 e2::ss) vs S K:=h1 _ (h2 _ q)
end
noncomputable def jI(v:V):Option (List V):=match V.beq v (.int 2)with
 |true=>some []
 |false=>match V.beq v (.int 12)with
  |true=>some [.int 8,.int 9]
  |false=>v.asId.bind λx=>x.2.asTup.bind λl=>match l with
   |[]=>none
   |c::r=>match V.beq c (.int 6)with
    |true=>(iZ r).bind V.asTup
    |false=>none
noncomputable def NQ(k:Nat)(w:Bool)(v:V):List Pt:=match jI v with
 |some l=>l.map (uP k w)
 |none=>[uP k w v]
noncomputable abbrev aS:List Pt:=[[19]]
abbrev aE(P:List Pt):Prop:=aH P∨P=aS
section
variable{k n c:Nat}{p q:Pt}{D R:List Pt}{i:Nat}{S:St}
theorem Lx(hk:k<2)(hi:i<27):jI (A k w i)=none:=by have:=n6 (f:=λk w i=>(jI (A k w i)).isNone) (by decide +kernel) (w:=w) hk hi;exact QS.mp this
theorem Lh(hk:k<2)(hP:aH P):(P.map (PV k w)).map (uP k w)=P:=by rw[QR];exact(map_congr_left λp hp=>Am (w:=w) hk (hP p hp)).trans (List.map_id _)
theorem Lv(hk:k<2)(hP:aE P):NQ k w (KV k w P)=P:=by
 rcases hP with hP|rfl
 ·match P,hP with
  |[],_=>rfl
  |[p],hP=>
   have e:jI (PV k w p)=none:=by
    match p,hP p mh with
    |[i],hp=>exact Lx hk (hp.2 i mh).1
    |_::_::_,_=>rfl
   show(match jI (PV k w p)with|some l=>l.map (uP k w)|none=>[uP k w (PV k w p)])=_;rw[e];exact Qb (λp=>[p]) (Am hk (hP p mh))
  |p::p'::P,hP=>
   show NQ k w (match decide (p::p'::P=[[12],[17]])with|true=>.int 12|false=>_)=_;by_cases e:p::p'::P=[[12],[17]]
   ·rw[PL e];rw[e]at hP ⊢;exact Lh (w:=w) hk hP
   ·rw[PQ e];exact Lh hk hP
 ·show(match jI (A k w 19)with|some l=>l.map (uP k w)|none=>[uP k w (A k w 19)])=_;rw[Lx hk (ag rfl)];match k,hk with
  |0,_=>cases w<;>rfl
  |1,_=>cases w<;>rfl
theorem hE(hk:k<2)(hP:aE P):gP (KV k w P)=true:=hP.elim (mF hk) λe=>e▸rfl
theorem b0(hk:k<2)(hP:aE P):V.free (KV k w P)=true:=hP.elim (cv hk) λe=>e▸rfl
theorem Bg(hk:k<2)(hP:aE P):V.dat true false k (KV k w P) 7=true:=by
 rcases hP with hP|rfl
 ·match P,hP with
  |[],_=>rfl
  |[p],hP=>exact vD hk (hP p mh)
  |p::p'::P,hP=>
   show V.dat true false k (match decide (p::p'::P=[[12],[17]])with|true=>.int 12|false=>_) 7=true;cases decide (p::p'::P=[[12],[17]])with
   |true=>rfl
   |false=>exact RA k
 ·rfl
theorem AV(hk:k<2)(hP:aE P)(hR:aE R):V.beq (KV k w P) (KV k w R)=decide (P=R):=by
 by_cases e:P=R
 ·rw[PL e,e];exact fE.1 _
 ·rw[PQ e];exact iQ.mpr λh=>e (by rw[← Lv (w:=w) hk hP,h,Lv hk hR])
theorem jZ(hk:k<2)(hn:S.n=k+1)(hP:aE P)(hR:aE R):cq S (KV k w P) (KV k w R)=some (decide (P=R)):=by rw[wt hn (Bg hk hP) (Bg hk hR) (hE hk hP) (hE hk hR),AV hk hP hR]
theorem jz:aE []:=.inl λz h=>az h
noncomputable def ip(p:Pt)(R:List Pt):List (List Pt):=R.map λq=>cy (bO p q)
noncomputable def de(P R:List Pt):List (List Pt):=P.flatMap λp=>ip p R
abbrev kN(p:Pt):Prop:=p.length<30
theorem m9(hp:br p)(hq:br q):aH (cy (bO p q)):=by
 delta bO
 cases e:ir (mem p) (mem q)with
 |none=>exact λz h=>az h
 |some r=>
  refine U2 (p7 (gc hp) (gc hq).2 e) λhr z=>?_;intro x hx;rw[PH.mp (show x∈[rC r]from hx)];by_cases h2:2≤r.length
  ·rw[pU h2];exact⟨λh=>hr.1 (List.map_eq_nil_iff.mp h),λx hx=>by refine X2 (Qd.mp hx) λy hy e=>?_;exact e▸Gx (hr.2 y hy)⟩
  ·match r,hr,h2 with
   |[i],hr,_=>exact hr
   |_::_::_,_,h2=>exact absurd (QV ..) h2
theorem jF(x:Option Pt):(cy x).length≤1:=by
 cases x with
 |none=>exact Qc _
 |some p=>exact Qi _
noncomputable abbrev Gu:List Kk.S:=[.a 9 (.cl 31 [.v 0,.v 7,.v 8]),.it (.k .ne (.v 9) (.i 2)) [.setItem (.v 3) (.v 9) (.i 1)] [],.it (.and (.v 6) (.k .gt (.p .len [.v 3]) (.i 200))) [.bad] []]
noncomputable abbrev Cq(k:Nat)(s t:V)(a b:V)(cr:Bool)(x7 x8 x9:Option V):au:=(some (.hd .tab k)::some s::some t::some (.hd .ref 0)::some a::some b::some (.bool cr)::x7::x8::x9::z9)
theorem MU{p:Pt}{K:KF}(hk:k<2)(hp:br p)(sp:kN p):∀(R D:List Pt)(c:Nat)(x8 x9:Option V),aH R→(∀q∈R,kN q)→aH D→D.length+R.length<62→R.length≤c→(∀x8 x9,K .next (Cq k s t a b cr (some (PV k w p)) x8 x9) ⟨c-R.length,k+1,true,[.dict (dk k w (fk (ip p R) D))],o⟩)→
 bW pA (λz=>true) (ao pA (call (n+18)) Gu) 8 (R.map (PV k w)) (Cq k s t a b cr (some (PV k w p)) x8 x9) ⟨c,k+1,true,[.dict (dk k w D)],o⟩ K:=by
 intro R;induction R with
 |nil=>exact λD c x8 x9 z z z z z q=>q x8 x9
 |cons r R ih_=>
  exact λD c x8 x9 hR sR hD hl hc q=>by
   rw[Qf]at hl hc;have hr:=hR r mh;have sr:=sR r mh;refine e6 (λK q=>Hp hk hp hr (by omega) (xW hc) q) ?_;have hm:=m9 hp hr;have hD':aH (jY D (cy (bO p r))):=λp hp=>(jU.mp hp).elim (hD p) (hm p);have lD':(jY D (cy (bO p r))).length≤D.length+1:=PM mT (QB (jF _) _);have rest:ao pA (call (n+18)) [.it (.and (.v 6) (.k .gt (.p .len [.v 3]) (.i 200))) [.bad] []] (Cq k s t a b cr (some (PV k w p)) (some (PV k w r)) (some (KV k w (cy (bO p r))))) ⟨c-1,k+1,true,[.dict (dk k w (jY D (cy (bO p r))))],o⟩ λf vs S=>match f with|.ret v=>K (.ret v) vs S|.next=>bW pA (λz=>true) (ao pA (call (n+18)) Gu) 8 (R.map (PV k w)) vs S K|.cont=>bW pA (λz=>true) (ao pA (call (n+18)) Gu) 8 (R.map (PV k w)) vs S K:=by refine bz (r:=cr&&false) (bG ae λK' q=>vN (P:=((200:Int)<(((dk k w (jY D (cy (bO p r)))).length:Nat):Int))) (λh=>by rw[dk,PS]at h;omega) q) (λe=>by rw[Bool.and_false]at e;exact ak e) λz=>?_;refine ih_ _ (c-1) _ _ (λq h=>hR q (mt h)) (λq h=>sR q (mt h)) hD' (uy hl lD') (xI hc) λx8 x9=>?_;rw[sub_sub,RJ 1];exact q x8 x9
   refine bz (ka (y:=KV k w []) ae ae (jZ hk rfl (.inl hm) jz)) (λe=>?_) λe=>?_
   ·cases em:bO p r with
    |none=>rw[em]at e;exact ak e
    |some m=>rw[em]at hm rest;exact aR (tu hk hD (hm m mh) (by omega)) rest
   ·cases em:bO p r with
    |none=>rw[em]at rest;exact rest
    |some m=>rw[em]at e;exact eg e
end
def M2(P R Z:List Pt):Prop:=(P=R∨R=aS)∧Z=P∨(P≠R∧R≠aS)∧(P=aS∧Z=R∨P≠aS∧Z.Nodup∧aH Z∧∀p,p∈Z↔a8 (de P R).flatten p)
section
variable{k n c:Nat}{p q:Pt}{D P:List Pt}
theorem Jk{K:KF}(hk:k<2)(hR:aH R)(sR:∀q∈R,kN q):∀(P D:List Pt)(c:Nat)(x7 x8 x9:Option V),aH P→(∀q∈P,kN q)→aH D→D.length+P.length*R.length<62→P.length*R.length≤c→(∀x7 x8 x9 c',c-P.length*R.length≤c'→K .next (Cq k s t a (.tp (R.map (PV k w))) cr x7 x8 x9) ⟨c',k+1,true,[.dict (dk k w (fk (de P R) D))],o⟩)→
 bW pA (λz=>true) (ao pA (call (n+18)) [.for_ 8 (.v 5) Gu]) 7 (P.map (PV k w)) (Cq k s t a (.tp (R.map (PV k w))) cr x7 x8 x9) ⟨c,k+1,true,[.dict (dk k w D)],o⟩ K:=by
 intro P;induction P with
 |nil=>exact λD c x7 x8 x9 z z z z z q=>q x7 x8 x9 c (sub_le ..)
 |cons p P ih_=>
  exact λD c x7 x8 x9 hP sP hD hl hc q=>by
   rw[Qf,R6]at hl hc;have hp:=hP p mh;refine dE (L:=R.map (PV k w)) (λK q=>q) rfl ?_;refine MU hk hp (sP p mh) R D c x8 x9 hR sR hD (by omega) (xW hc) λx8 x9=>?_;have lD:(fk (ip p R) D).length≤D.length+R.length:=by
    have:=qf (Ms:=ip p R) (D:=D);have e:∀R:List Pt,dr (ip p R)≤R.length:=λR=>by
     induction R with
     |nil=>exact Qi _
     |cons r R ih=>exact PM (Q2 (jF (bO p r)) ih) (le_of_eq (RJ ..))
    have:=e R;omega
   refine ih_ _ _ _ _ _ (λq h=>hP q (mt h)) (λq h=>sP q (mt h)) (pS (λM hM=>by refine X2 (Qd.mp hM) λr hr e=>?_;exact e▸m9 hp (hR r hr)) hD) (uy hl lD) (xI hc) λx7 x8 x9 c' h'=>?_;have e:fk (de (p::P) R) D=fk (de P R) (fk (ip p R) D):=List.foldl_append ..;rw[e]at q;exact q _ _ _ _ (by rw[Qf,R6];exact tQ h')
theorem Nb(hk:k<2)(hP:aE P)(hR:aE R)(sP:∀p∈P,kN p)(sR:∀p∈R,kN p)(hl:P.length*R.length≤60)(hc:61≤c)(q:∀Z,M2 P R Z→K (KV k w Z) ⟨c-61,k+1,true,h,o⟩):call (n+20) 32 [.hd .tab k,KV k w P,KV k w R] ⟨c,k+1,true,h,o⟩ K:=by
 refine own (vs:=(some (.hd .tab k)::some (KV k w P)::some (KV k w R)::NM)) rfl rfl hc (gF rfl (b0 hk hP) (b0 hk hR)) rfl ?_;have done:∀Z,aE Z→M2 P R Z→∀S':St,S'.n=k+1→S'.n=k+1∧V.free (ar S' (KV k w Z))=true∧K (ar S' (KV k w Z)) ⟨c-61,k+1,true,h,o⟩:=λZ hZ hm S' hn=>by rw[bJ (hE hk hZ)];exact⟨hn,b0 hk hZ,q Z hm⟩
 refine bz (b7 (aM ae ae (jZ hk rfl hP hR)) (aM (y:=KV k w aS) ae ae (jZ hk rfl hR (.inr rfl)))) (λe=>?_) λe1=>?_
 ·exact done P hP (.inl ⟨by simpa using e,rfl⟩) _ rfl
 have e1:P≠R∧R≠aS:=by simpa using e1
 refine bz (aM (y:=KV k w aS) ae ae (jZ hk rfl hP (.inr rfl))) (λe=>?_) λe2=>?_
 ·exact done R hR (.inr ⟨e1,.inl ⟨PI e,rfl⟩⟩) _ rfl
 replace e2:=QC e2;have hP:=hP.resolve_right e2;have hR:=hR.resolve_right e1.2;refine e6 (v:=.hd .ref 0) (S':=⟨61,k+1,true,[.dict []],o⟩) ae ?_;refine LS (λK q=>cO hk hP q) (λK q=>cO hk hR q) ?_;refine ay (v:=.bool (decide ((1:Int)<(((P.map (PV k w)).length:Nat):Int))&&decide ((1:Int)<(((R.map (PV k w)).length:Nat):Int)))) (bG ae ae) ?_;refine dE (L:=P.map (PV k w)) ae rfl ?_;refine Jk hk hR sR P [] 61 none none none hP sP (λz h=>az h) (by show 0+_<62;omega) (L9 hl rfl) λx7 x8 x9 c' h'=>?_;have hG:aH (fk (de P R) []):=pS (λM hM=>by refine X2 (Qz.mp hM) λp hp hM=>?_;refine X2 (Qd.mp hM) λr hr e=>?_;exact e▸m9 (hP p hp) (hR r hr)) λz h=>az h
 have lG:(fk (de P R) []).length≤P.length*R.length:=by
  have:=qf (Ms:=de P R) (D:=[]);have e:∀R:List Pt,∀p,dr (ip p R)≤R.length:=λR p=>by
   induction R with
   |nil=>exact Qi _
   |cons r R ih=>exact PM (Q2 (jF (bO p r)) ih) (le_of_eq (RJ ..))
  have e2:∀P:List Pt,dr (de P R)≤P.length*R.length:=λP=>by
   induction P with
   |nil=>exact Qc _
   |cons p P ih=>
    have:=e R p;have a:dr (de (p::P) R)=dr (ip p R)+dr (de P R):=by show(((ip p R)++de P R).map List.length).sum=_;rw[QY,List.sum_append];rfl
    rw[a,Qf,R6];exact ug this ih
  have:=e2 P;exact PM ‹(fk (de P R) []).length≤0+dr (de P R)› (by omega)
 refine Aj hk hG (by omega) λl' o' hs=>?_;have hl':aH l':=λp hp=>hG p (hs.1.mem_iff.mp hp);have e1':(l'.map λp=>[p]).map (KV k w)=l'.map (PV k w):=by rw[QR];rfl
 have fl:(l'.map λp=>[p]).flatten=l':=by
  clear e1' hs hl' q done;induction l' with
  |nil=>rfl
  |cons p l ih=>exact Qb (p :: ·) ih
 have sl:dr (l'.map λp=>[p])=l'.length:=by
  clear e1' hs hl' q done fl;induction l' with
  |nil=>rfl
  |cons p l ih=>exact(Qb (1 + ·) ih).trans (RJ ..)
 refine fA (Ms:=l'.map λp=>[p]) hk (λM hM=>by refine X2 (Qd.mp hM) λp hp e=>?_;exact e▸λq hq=>PH.mp hq▸hl' p hp) (by rw[sl,hs.1.length_eq];omega) (.inl (by rw (config:={}) [e1'])) (.inl rfl) (NY h' hl rfl) λZ o'' nZ hZ mZ=>?_;refine done Z (.inl hZ) (.inr ⟨e1,.inr ⟨e2,nZ,hZ,λp=>?_⟩⟩) _ rfl;rw[mZ,fl];exact cg λp=>hs.1.mem_iff.trans (zz.trans ⟨λh=>h.resolve_left λh=>(az h),.inr⟩)
end
def IM:List (List Pt)→List Pt→List (List Pt)→List Pt→Prop
 |_,X,[],Z=>Z=X
 |pre,X,P::r,Z=>(P∈pre∧IM (pre++[P]) X r Z)∨(P∉pre∧∃Y,M2 X P Y∧IM (pre++[P]) Y r Z)
section
variable{k n c:Nat}{p:Pt}{P:List Pt}{S:St}
theorem BB{j:Int}(hk:k<2)(hP:aE P)(hj:j=0∨j=13):V.beq (KV k w P) (.int j)=false:=by
 rcases hP with hP|rfl
 ·match P,hP with
  |[],_=>rcases hj with rfl|rfl<;>rfl
  |[p],hP=>rcases hj with rfl|rfl<;>exact AW hk (hP p mh) (by decide +kernel)
  |p::p'::P,hP=>show V.beq (match decide (p::p'::P=[[12],[17]])with|true=>.int 12|false=>_) _=false;cases decide (p::p'::P=[[12],[17]])<;>rcases hj with rfl|rfl<;>rfl
 ·rcases hj with rfl|rfl<;>rfl
theorem sG{L:List V}(hn:S.n=k+1)(hx:V.dat true false k x 8=true)(hL:∀y∈L,V.dat true false k y 8=true):bX S x (.tp L)=some (L.any λy=>V.beq y x):=by
 have e:V.datL true false k L 8=true:=by
  clear hx;induction L with
  |nil=>rfl
  |cons y L ih=>exact QL.mpr ⟨hL y mh,ih λz h=>hL z (mt h)⟩
 show(match iB (S.n-1) [x] L with|true=>_|false=>none)=_;delta iB
 rw[hn];show(match(_||(V.dat true false k x 8&&true)&&V.datL true false k L 8)with|true=>_|false=>none)=_;rw[hx,e,show(true&&true&&true)=true from rfl,RP]
theorem pI(hk:k<2)(hP:aE P):V.dat true false k (KV k w P) 8=true:=by have h1:=Bg (w:=w) hk hP;have h2:=hE (w:=w) hk hP;cases e:KV k w P<;>rw[e]at h1 h2<;>first|exact h1|exact ak h2
theorem AB{Ps:List (List Pt)}(hk:k<2)(hn:S.n=k+1)(hP:aE P)(hs:∀P∈Ps,aE P):bX S (KV k w P) (.tp (Ps.map (KV k w)))=some (decide (P∈Ps)):=by
 rw (config:={}) [sG hn (pI hk hP) λy hy=>by refine X2 (Qd.mp hy) λR hR e=>?_;exact e▸pI hk (hs R hR)];refine Qb some ?_;rw[P7,Qp,any_map,QA];exact⟨λ⟨R,hR,e⟩=>by replace e:=PI ((AV hk (hs R hR) hP).symm.trans e);exact e▸hR,λh=>⟨P,h,fE.1 _⟩⟩
theorem zO{j:Int}{Ps:List (List Pt)}(hk:k<2)(hn:S.n=k+1)(hj:j=0∨j=13)(hs:∀P∈Ps,aE P):bX S (.int j) (.tp (Ps.map (KV k w)))=some false:=by rw (config:={}) [sG hn (by rcases hj with rfl|rfl<;>rfl) λy hy=>by refine X2 (Qd.mp hy) λR hR e=>?_;exact e▸pI hk (hs R hR)];refine Qb some (Qj.mpr λh=>?_);rw[any_map,QA]at h;refine X2 h λR hR e=>?_;have e:V.beq (KV k w R) (.int j)=true:=e;rw[BB hk (hs R hR) hj]at e;exact ak e
noncomputable abbrev PF:List Kk.S:=[.it (.k .notin (.sb (.v 1) (.v 4)) (.slice (.v 1) (.c .nul) (.v 4))) [.a 3 (.cl 32 [.v 0,.v 3,.sb (.v 1) (.v 4)])] []]
noncomputable abbrev AQ(k:Nat)(t:V)(x2:Option V)(x3:V)(x4:Option V):au:=(some (.hd .tab k)::some t::x2::some x3::x4::z7)
theorem jK{i:Int}{pre:List (List Pt)}{K:KF}(hk:k<2)(hX:aE X)(hP:aE P)(hs:∀P∈pre,aE P)(h1:∀S,bV S (.tp L) (.int i)=some (KV k w P))(h2:L.take (bM L.length i)=pre.map (KV k w))(hm:P∉pre→X.length*P.length≤60∧(∀p∈X,kN p)∧∀p∈P,kN p)(hc:61≤c)(q1:P∈pre→K .next (AQ k (.tp L) x2 (KV k w X) (some (.int i))) ⟨c,k+1,true,[],o⟩)(q2:P∉pre→∀Y,M2 X P Y→K .next (AQ k (.tp L) x2 (KV k w Y) (some (.int i))) ⟨c-61,k+1,true,[],o⟩) :
 ao pA (call (n+20)) PF (AQ k (.tp L) x2 (KV k w X) (some (.int i))) ⟨c,k+1,true,[],o⟩ K:=by
 refine bz (r:=!decide (P∈pre)) (λK' q=>aR (h1 _) (Ba (d:=.tp (L.take (bM L.length i))) (by rw[h2];exact AB hk rfl hP hs) q)) (λe=>?_) λe=>?_
 ·have e:P∉pre:=by simpa using e
  refine U3 (hm e) λm1 m2 m3=>?_;refine aR (h1 _) ?_;exact Nb hk hX hP m2 m3 m1 hc λY hY=>q2 e Y hY
 ·exact q1 (by simpa using e)
theorem km(hP:aE P)(hR:aE R)(m:M2 P R Z):aE Z:=by
 rcases m with⟨_,rfl⟩|⟨_,⟨_,rfl⟩|⟨_,_,h,_⟩⟩
 ·exact hP
 ·exact hR
 ·exact .inl h
end
def IN(Ps:List (List Pt))(Z:List Pt):Prop:=[]∈Ps∧Z=[]∨[]∉Ps∧IM [] aS Ps Z
abbrev BZ(X P:List Pt):Prop:=X.length*P.length≤60∧(∀p∈X,kN p)∧∀p∈P,kN p
section
variable{k n c:Nat}{p:Pt}{P:List Pt}{i:Nat}{S:St}
theorem xG{Ps:List (List Pt)}{K:KF}(hk:k<2)(hs:∀P∈Ps,aE P)(q1:[]∈Ps→∀vs,K (.ret (KV k w [])) vs ⟨c,k+1,true,[],o⟩)(q2:[]∉Ps→ao pA cl ss (AQ k (.tp (Ps.map (KV k w))) (some (.int 13)) (KV k w aS) none) ⟨c,k+1,true,[],o⟩ K):ao pA cl (.for_ 2 (.tp [.i 2,.i 0,.i 13]) [.it (.k .in_ (.v 2) (.v 1)) [.ret (.v 2)] []] :: .a 3 (.i 1)::ss) (some (.hd .tab k)::some (.tp (Ps.map (KV k w)))::xf) ⟨c,k+1,true,[],o⟩ K:=by refine dE (L:=[.int 2,.int 0,.int 13]) ae rfl ?_;refine bz (r:=decide ([]∈Ps)) (λK' q=>kZ (AB (P:=[]) hk rfl jz hs) q) (λe=>q1 (PI e) _) λe=>?_;refine dA (λK' q=>kZ (zO hk rfl (.inl rfl) hs) q) ?_;refine dA (λK' q=>kZ (zO hk rfl (.inr rfl) hs) q) ?_;exact q2 (QC e)
theorem CR{P:List Pt}(h:P.length≤60)(s:∀p∈P,kN p):BZ aS P:=⟨by show 1*_≤60;omega,λp hp=>PH.mp hp▸(ag rfl:kN [19]),s⟩
theorem j5(hY:M2 aS P Y):P=Y:=Eq.symm<|by
 rcases hY with⟨h1,h2⟩|⟨_,⟨_,h⟩|⟨h,_⟩⟩
 ·exact h1.elim (λe=>h2.trans e) λe=>h2.trans e.symm
 ·exact h
 ·exact absurd rfl h
theorem kD(hk:k<2)(hP:aE P)(hR:aE R)(h1:P.length≤60)(h2:BZ P R)(hc:200≤c)(q:∀Z,IN [P,R] Z→K (KV k w Z) ⟨c-200,k+1,true,h,o⟩):call (n+21) 33 [.hd .tab k,.tp [KV k w P,KV k w R]] ⟨c,k+1,true,h,o⟩ K:=by
 have hs:∀Q∈[P,R],aE Q:=λQ hQ=>by
  rcases P4.mp hQ with rfl|hQ
  ·exact hP
  ·exact PH.mp hQ▸hR
 refine own (vs:=(some (.hd .tab k)::some (.tp ([P,R].map (KV k w)))::xf)) rfl rfl hc (by show(V.free (KV k w P)&&(V.free (KV k w R)&&true)&&true)=true;rw[b0 hk hP,b0 hk hR];rfl) rfl ?_;have done:∀Z,aE Z→IN [P,R] Z→∀S':St,S'.n=k+1→S'.n=k+1∧V.free (ar S' (KV k w Z))=true∧K (ar S' (KV k w Z)) ⟨c-200,k+1,true,h,o⟩:=λZ hZ hm S' hn=>by rw[bJ (hE hk hZ)];exact⟨hn,b0 hk hZ,q Z hm⟩
 refine xG hk hs (λe vs=>done [] jz (.inl ⟨e,rfl⟩) _ rfl) λe=>?_;refine dE (L:=[.int 0,.int 1]) ae rfl ?_;refine jK (L:=[P,R].map (KV k w)) (i:=0) (c:=200) (X:=aS) (P:=P) (pre:=[]) hk (.inr rfl) hP (λz h=>az h) (λz=>rfl) rfl (λz=>CR h1 h2.2.1) (ag rfl) (λh=>az h) λz Y hY=>?_;have eY:=j5 hY;subst eY;refine jK (L:=[P,R].map (KV k w)) (i:=1) (c:=200-61) (X:=P) (P:=R) (pre:=[P]) hk hP hR (λQ h=>PH.mp h▸hP) (λz=>rfl) rfl (λz=>h2) (ag rfl) (λh=>?_) λh Z hZ=>?_
 ·exact done P hP (.inr ⟨e,.inr ⟨λh=>(az h),P,hY,.inl ⟨h,rfl⟩⟩⟩) _ rfl
 ·exact done Z (km hP hR hZ) (.inr ⟨e,.inr ⟨λh=>(az h),P,hY,.inr ⟨h,Z,hZ,rfl⟩⟩⟩) _ rfl
theorem C1(hk:k<2)(hP:aE P)(hR:aE R)(hT:aE T)(h1:P.length≤60)(h2:BZ P R)(h3:∀Y,Y=P∨M2 P R Y→BZ Y T)(hc:200≤c)(q:∀Z,IN [P,R,T] Z→K (KV k w Z) ⟨c-200,k+1,true,h,o⟩):call (n+21) 33 [.hd .tab k,.tp [KV k w P,KV k w R,KV k w T]] ⟨c,k+1,true,h,o⟩ K:=by
 have hs:∀Q∈[P,R,T],aE Q:=λQ hQ=>by
  rcases P4.mp hQ with rfl|hQ
  ·exact hP
  rcases P4.mp hQ with rfl|hQ
  ·exact hR
  ·exact PH.mp hQ▸hT
 refine own (vs:=(some (.hd .tab k)::some (.tp ([P,R,T].map (KV k w)))::xf)) rfl rfl hc (by show(V.free (KV k w P)&&(V.free (KV k w R)&&(V.free (KV k w T)&&true))&&true)=true;rw[b0 hk hP,b0 hk hR,b0 hk hT];rfl) rfl ?_;have done:∀Z,aE Z→IN [P,R,T] Z→∀S':St,S'.n=k+1→S'.n=k+1∧V.free (ar S' (KV k w Z))=true∧K (ar S' (KV k w Z)) ⟨c-200,k+1,true,h,o⟩:=λZ hZ hm S' hn=>by rw[bJ (hE hk hZ)];exact⟨hn,b0 hk hZ,q Z hm⟩
 refine xG hk hs (λe vs=>done [] jz (.inl ⟨e,rfl⟩) _ rfl) λe=>?_;refine dE (L:=[.int 0,.int 1,.int 2]) ae rfl ?_;refine jK (L:=[P,R,T].map (KV k w)) (i:=0) (c:=200) (X:=aS) (P:=P) (pre:=[]) hk (.inr rfl) hP (λz h=>az h) (λz=>rfl) rfl (λz=>CR h1 h2.2.1) (ag rfl) (λh=>az h) λz Y hY=>?_;have eY:=j5 hY;subst eY;have h0:([]:List Pt)∉[P,R,T]:=e;have i1:∀{Z},IM [P] P [R,T] Z→IN [P,R,T] Z:=λh=>.inr ⟨h0,.inr ⟨λh=>(az h),P,hY,h⟩⟩;have s2:∀Q∈[P,R],aE Q:=λQ hQ=>hs Q ((P4.mp hQ).elim (λe=>e▸.head _) λh=>PH.mp h▸mt mh);refine jK (L:=[P,R,T].map (KV k w)) (i:=1) (c:=200-61) (X:=P) (P:=R) (pre:=[P]) hk hP hR (λQ h=>PH.mp h▸hP) (λz=>rfl) rfl (λz=>h2) (ag rfl) (λh=>?_) λh Y hY=>?_
 ·refine jK (L:=[P,R,T].map (KV k w)) (i:=2) (c:=200-61) (X:=P) (P:=T) (pre:=[P,R]) hk hP hT s2 (λz=>rfl) rfl (λz=>h3 P (.inl rfl)) (ag rfl) (λh'=>?_) λh' Z hZ=>?_
  ·exact done P hP (i1 (.inl ⟨h,.inl ⟨h',rfl⟩⟩)) _ rfl
  ·exact done Z (km hP hT hZ) (i1 (.inl ⟨h,.inr ⟨h',Z,hZ,rfl⟩⟩)) _ rfl
 ·have oY:=km hP hR hY;refine jK (L:=[P,R,T].map (KV k w)) (i:=2) (c:=200-61-61) (X:=Y) (P:=T) (pre:=[P,R]) hk oY hT s2 (λz=>rfl) rfl (λz=>h3 Y (.inr hY)) (ag rfl) (λh'=>?_) λh' Z hZ=>?_
  ·exact done Y oY (i1 (.inr ⟨h,Y,hY,.inl ⟨h',rfl⟩⟩)) _ rfl
  ·exact done Z (km oY hT hZ) (i1 (.inr ⟨h,Y,hY,.inr ⟨h',Z,hZ,rfl⟩⟩)) _ rfl
end
noncomputable def jn(i:Nat):V:=
 let n (f v:Int):V:=.tp [.int f,.int v]
 let s (v:List Nat):V:=.tp [.int 1,.str v]
 let z:V:=.tp []
 ([n 2 0,n 2 0,s [97],n 2 0,z,z,z,z,z,s [97],s [98],s [],n 3 0,n 4 0,z,z,z,n 3 1,n 5 0,z,z,z,n 2 0,n 2 0,z,s [97],n 3 1]:List V).getD i .nul
noncomputable def KW(i j:Nat):Bool:=V.beq (jn i) (jn j)
noncomputable def qC(i:Nat):Bool:=V.beq (jn i) (.tp [])
noncomputable def cL(i j:Nat):Bool:=match beq (fam i) 0||beq (fam j) 0 with|true=>true|false=>match beq (fam i) (fam j)with|true=>qC i||(qC j||KW i j)|false=>match nul (fam i)&&nul (fam j)with|true=>!(beq (fam i) 4||(beq (fam j) 4||false))|false=>false
section
variable{k n:Nat}{i j f g:Nat}{S:St}
theorem mQ(hk:k<2)(hi:i<27)(q:K (jn i) ⟨c,k+1,l,h,o⟩):call (n+13) 46 [.hd .tab k,A k w i] ⟨c,k+1,l,h,o⟩ K:=fV (g:=λk w i=>jn i) rfl rfl (by kernel_rfl) hk hi (Qc _) q
theorem Df{a b:V}(ha:a.asTup.isSome=true)(hb:b.asTup.isSome=true)(da:∀k,V.dat false false k a 8=true)(db:∀k,V.dat false false k b 8=true):cq S a b=some (V.beq a b):=by
 have fr:∀{v:V},v.asTup.isSome=true→ar S v=v:=λ{v} h=>by cases v<;>first|rfl|exact ak h
 delta cq iB
 rw[fr ha,fr hb];show(match((V.dat false false _ a 8&&true)&&(V.dat false false _ b 8&&true)||_)with|true=>_|false=>_)=_;rw[da,db];rfl
theorem xK(hi:i<27):(jn i).asTup.isSome=true:=aO (f:=λi=>(jn i).asTup.isSome) (by decide +kernel) hi
theorem xm(hi:i<27)(k:Nat):V.dat false false k (jn i) 8=true:=by
 have:bQ.map (λi=>V.dat false false k (jn i) 8)=bQ.map λz=>true:=by rfl
 exact QE.mp this i (fJ hi)
theorem GN(hi:i<27)(hj:j<27):cq S (jn i) (jn j)=some (KW i j):=Df (xK hi) (xK hj) (xm hi) (xm hj)
theorem rU(hi:i<27):cq S (jn i) (.tp [])=some (qC i):=Df (xK hi) rfl (xm hi) λz=>rfl
theorem fz{i:Nat}:decide (((i:Nat):Int)=(f:Int))=beq f i:=by rw[P7,Qp,Sa,ofNat_inj];exact eq_comm
theorem sC:bX S (.int (f:Nat)) (.tp [.int 4,.int 5,.int 6])=some (nul f):=Qb some (by
 show(decide (((4:Nat):Int)=(f:Int))||(decide (((5:Nat):Int)=(f:Int))||(decide (((6:Nat):Int)=(f:Int))||false)))=_;rw[fz,fz,fz,RR];rfl)
theorem I6:bX S (.int 4) (.tp [.int (f:Nat),.int (g:Nat)])=some (beq f 4||(beq g 4||false)):=Qb some (by
 show(decide ((f:Int)=((4:Nat):Int))||(decide ((g:Int)=((4:Nat):Int))||false))=_;rw[fz,fz,show ∀a,beq 4 a=beq a 4 from λa=>by rw[P7,Sa,Sa];exact eq_comm,show ∀a,beq 4 a=beq a 4 from λa=>by rw[P7,Sa,Sa];exact eq_comm])
theorem bw{r:Bool}(ha:Gv cl ea vs S x)(hb:Gv cl eb vs S y)(he:bX S x y=some r):c6 cl (.k .in_ ea eb) vs S r:=λK' q=>ha _ (hb _ (kZ he q))
theorem ju{r:Bool}(ha:Gv cl ea vs S x)(hb:Gv cl eb vs S y)(he:bX S x y=some r):c6 cl (.k .notin ea eb) vs S (!r):=λK' q=>ha _ (hb _ (Ba he q))
theorem Ak(hk:k<2)(hi:aJ i)(hj:aJ j)(q:K (.bool (cL i j)) ⟨c,k+1,true,h,o⟩):call (n+14) 47 [.hd .tab k,A k w i,A k w j,.bool true] ⟨c,k+1,true,h,o⟩ K:=by
 refine own (vs:=(some (.hd .tab k)::some (A k w i)::some (A k w j)::some (.bool true)::xf)) rfl rfl (Qc _) (by show(V.free (A k w i)&&(V.free (A k w j)&&true))=true;rw[b4 hk hi.1,b4 hk hj.1];rfl) rfl ?_;unfold cL at q;refine ay (λK q=>dT hk hi.1 q) (ay (λK q=>dT hk hj.1 q) ?_);refine bz (b7 (aM (y:=.int ((0:Nat):Int)) ae ae bZ) (aM (y:=.int ((0:Nat):Int)) ae ae bZ)) (λe=>?_) λe=>?_
 ·rw[e]at q;exact⟨rfl,rfl,q⟩
 rw[e]at q;refine bz (aM ae ae bZ) (λe=>?_) λe=>?_
 ·rw[e]at q;refine ay (λK q=>mQ hk hi.1 q) (ay (λK q=>mQ hk hj.1 q) ?_);exact kR (b7 (aM ae ae (rU hi.1)) (b7 (aM ae ae (rU hj.1)) (aM ae ae (GN hi.1 hj.1)))) ⟨rfl,rfl,q⟩
 rw[e]at q;refine bz (bG (bw ae ae sC) (bw ae ae sC)) (λe=>?_) λe=>?_
 ·rw[e]at q;exact kR (r:=false||_) (b7 ae (ju ae ae I6)) ⟨rfl,rfl,q⟩
 ·rw[e]at q;exact⟨rfl,rfl,q⟩
end
noncomputable def nv(i j:Nat):Bool:=!beq i j&&(bO [i] [j]).isNone
noncomputable def JU(f:Nat):Bool:=beq f 1||(beq f 2||(beq f 3||false))
noncomputable def cw(i j:Nat):Bool:=match beq (fam i) 7&&beq (fam j) 7 with|true=>!nv i j|false=>match beq (fam i) 7 && !beq (fam j) 0 with|true=>beq i 21&&JU (fam j)|false=>match beq (fam j) 7 && !beq (fam i) 0 with|true=>beq j 21&&JU (fam i)|false=>cL i j
section
variable{k n c:Nat}{p:Pt}{i j f:Nat}{S:St}
theorem xP(hk:k<2)(hi:aJ i)(q:K (.bool (beq i 21)) ⟨c,k+1,true,h,o⟩):call (n+13) 58 [.hd .tab k,A k w i] ⟨c,k+1,true,h,o⟩ K:=fV (g:=λk w i=>.bool (beq i 19||beq i 21)) rfl rfl (by kernel_rfl) hk hi.1 (Qc _) (by rw[show beq i 19=false from Qj.mpr λh=>hi.2 (PJ h)];exact q)
noncomputable def uO(i:Nat):List Nat:=match i with|4=>[7]|6=>[7]|24=>[7]|7=>[4,6,24]|_=>[]
theorem zI(hk:k<2)(hi:i<27)(hf:j∈uO i)(hc:100≤c)(q:K (.bool false) ⟨c-100,k+1,true,h,o⟩):call (n+13) 86 [.hd .host k,A k w i,A k w j] ⟨c,k+1,true,h,o⟩ K:=by
 have e:=uY (f:=λk w i=>(uO i).map λj=>jB lY 100 [.hd .host k,A k w i,A k w j] k true o) (g:=λk w i=>(uO i).map λj=>some (.bool false)) (by kernel_rfl) (w:=w) hk hi;have hj:j<27:=by have:=aO (f:=λi=>(uO i).all λj=>decide (j<27)) (by decide +kernel) hi;exact PI (P5.mp this j hf)
 exact run rfl rfl (gF rfl (b4 hk hi) (b4 hk hj)) (QE.mp e j hf) hc q
theorem Lw(hi:i<27)(hj:j<27)(h:nv i j=true)(fi:beq (fam i) 7=true)(fj:beq (fam j) 7=true):j∈uO i∧i∈uO j:=by have:=aO (aO (f:=λi=>bQ.all λj=>!(nv i j&&(beq (fam i) 7&&beq (fam j) 7))||decide (j∈uO i∧i∈uO j)) (by decide +kernel) hi) hj;rw[h,fi,fj]at this;exact PI this
theorem Hw(hp:br p):a8 [p] q↔q=p:=by
 have tw:∀i:Nat,i<27→cH i≠some i∧cZ i≠some i:=λi hi=>PI (aO (f:=λi=>decide (cH i≠some i∧cZ i≠some i)) (by decide +kernel) hi);have ej:∀q,q∈aX [p]↔q∈[p]:=λq=>by rw[aV];refine⟨λh=>h.resolve_right λh=>?_,.inl⟩;have h1:=PH.mp h.2.1;rcases h.2.2 with h2|h2<;>have h2:=PH.mp h2<;>rw[← h1]at h2<;>cases h2
 delta a8
 rw[ej,PH];refine⟨λh=>h.1,λh=>⟨h,?_⟩⟩;subst h;rw[jx ej];have no:∀f:Nat→Option Nat,(∀i,i<27→f i≠some i)→fx [q] (Eg f q)=false:=λf hf=>by
  match q,hp with
  |[i],hp=>
   show fx [[i]] ((f i).map λj=>[j])=false;cases e:f i with
   |none=>rfl
   |some j=>refine PQ λh=>?_;replace h:=PH.mp h;injection h with h;exact hf i (hp.2 i mh).1 (h▸e)
  |_::_::_,_=>rfl
 delta bH
 rw[no cH λi hi=>(tw i hi).1,no cZ λi hi=>(tw i hi).2];rfl
theorem Dj(hi:aJ i)(hj:aJ j)(z:IN [[[i]],[[j]]] Z):(i=j∧Z=[[i]])∨(i≠j∧Z.Nodup∧∀p,p∈Z↔p∈cy (bO [i] [j])):=by
 have ni:[[i]]≠aS:=λh=>hi.2 (by injection h with h;injection h);have nj:[[j]]≠aS:=λh=>hj.2 (by injection h with h;injection h);have ij:([[j]]:List Pt)=[[i]]↔i=j:=⟨λh=>by injection h with h;injection h with h;exact h.symm,λh=>h▸rfl⟩
 rcases z with⟨h,_⟩|⟨_,h⟩
 ·exact absurd h (by simp)
 rcases h with⟨h,_⟩|⟨_,Y,hY,h⟩
 ·exact az h
 have:=j5 hY;subst this;rcases h with⟨h,z⟩|⟨h,Y,hY,z⟩
 ·exact .inl ⟨ij.mp (PH.mp h),z⟩
 ·replace e:=λe=>h (PH.mpr (ij.mpr e));subst z;rcases hY with⟨h1,_⟩|⟨_,⟨h1,_⟩|⟨_,nZ,_,hm⟩⟩
  ·exact absurd h1 λh1=>h1.elim (λh1=>e (ij.mp h1.symm)) nj
  ·exact absurd h1 ni
  ·refine .inr ⟨e,nZ,λp=>(hm p).trans ?_⟩;show a8 (cy (bO [i] [j])++[]) p↔_;rw[Qy];cases em:bO [i] [j]with
   |none=>exact⟨λh=>(aV.mp h.1).elim id λh=>(nomatch h.2.1),λh=>(az h)⟩
   |some m=>have:=m9 (cb hi) (cb hj);rw[em]at this;exact(Hw (this m mh)).trans PH.symm
theorem CC:bX S (.int (f:Nat)) (.tp [.int 1,.int 2,.int 3])=some (JU f):=Qb some (by
 show(decide (((1:Nat):Int)=(f:Int))||(decide (((2:Nat):Int)=(f:Int))||(decide (((3:Nat):Int)=(f:Int))||false)))=_;rw[fz,fz,fz];rfl)
theorem EF(hk:k<2)(hi:aJ i)(hj:aJ j)(hc:900≤c)(q:K (.bool (cw i j)) ⟨c-900,k+1,true,h,o⟩):call (n+24) 59 [.hd .host k,A k w i,A k w j,.bool true] ⟨c,k+1,true,h,o⟩ K:=by
 refine own (vs:=(some (.hd .host k)::some (A k w i)::some (A k w j)::some (.bool true)::CD)) rfl rfl hc (by show(V.free (A k w i)&&(V.free (A k w j)&&true))=true;rw[b4 hk hi.1,b4 hk hj.1];rfl) rfl ?_;unfold cw at q;refine ay (v:=.hd .tab k) ae (ay (λK q=>dT hk hi.1 q) (ay (λK q=>dT hk hj.1 q) ?_));refine bz (bG (aM (y:=.int ((7:Nat):Int)) ae ae bZ) (aM (y:=.int ((7:Nat):Int)) ae ae bZ)) (λe=>?_) λe=>?_
 ·rw[e]at q;refine kD hk (P:=[[i]]) (R:=[[j]]) (.inl λp hp=>PH.mp hp▸cb hi) (.inl λp hp=>PH.mp hp▸cb hj) (show 1≤60 from ag rfl) ⟨show 1*1≤60 from ag rfl,λp hp=>PH.mp hp▸(ag rfl:1<30),λp hp=>PH.mp hp▸(ag rfl:1<30)⟩ (ag rfl) λZ hZ=>?_;have hz:aE Z∧(Z=[]↔nv i j=true):=by
   delta nv
   rcases Dj hi hj hZ with⟨rfl,rfl⟩|⟨ne,_,hm⟩
   ·rw[RA];exact⟨.inl λp hp=>PH.mp hp▸cb hi,λh=>(nomatch h),λh=>ak h⟩
   ·rw[show beq i j=false from Qj.mpr λh=>ne (PJ h)];have:=m9 (cb hi) (cb hj);refine⟨.inl λp hp=>this p ((hm p).mp hp),?_⟩;cases em:bO [i] [j]with
    |none=>
     rw[em]at hm;refine⟨λY=>rfl,λY=>?_⟩;cases Z with
     |nil=>rfl
     |cons z Z=>exact nomatch (hm z).mp mh
    |some m=>rw[em]at hm;refine⟨λh=>?_,λh=>ak h⟩;subst h;exact nomatch (hm m).mpr mh
  refine aR (x:=(cq _ (KV k w Z) (KV k w [])).map (!·)) (by rw (config:={}) [jZ hk rfl hz.1 jz];rfl) ?_;cases en:nv i j with
  |false=>rw[en]at q hz;rw[PQ λh=>nomatch hz.2.mp h];exact⟨rfl,rfl,q⟩
  |true=>rw[en]at q hz;rw[PL (hz.2.mpr rfl)];refine U2 (Lw hi.1 hj.1 en (aa e).1 (aa e).2) λf1 f2=>?_;refine zI hk hi.1 f1 (ag rfl) ?_;refine zI hk hj.1 f2 (ag rfl) ?_;exact⟨rfl,rfl,q⟩
 rw[e]at q;refine bz (bG (aM (y:=.int ((7:Nat):Int)) ae ae bZ) (ka (y:=.int ((0:Nat):Int)) ae ae bZ)) (λe=>?_) λe=>?_
 ·rw[e]at q;exact kR (bG (λK q=>xP hk hi q) (bw ae ae CC)) ⟨rfl,rfl,q⟩
 rw[e]at q;refine bz (bG (aM (y:=.int ((7:Nat):Int)) ae ae bZ) (ka (y:=.int ((0:Nat):Int)) ae ae bZ)) (λe=>?_) λe=>?_
 ·rw[e]at q;exact kR (bG (λK q=>xP hk hj q) (bw ae ae CC)) ⟨rfl,rfl,q⟩
 rw[e]at q;exact kR (λK q=>Ak hk hi hj q) ⟨rfl,rfl,q⟩
end
noncomputable def gN(i:Nat):Nat:=([4,5,5,5,8,8,8,8,8,3,3,3,2,1,1,1,1,2,1,1,1,8,4,5,8,3,2]:List Nat).getD i 0
noncomputable abbrev af(H:List Nat):List Pt:=H.map λi=>[i]
theorem iX{S:St}(h:c6 cl x vs S false):c6 cl (.and x y) vs S false:=λK' q=>h _ q
theorem nE{α:Type}{b:α→Bool}:∀H:List α,gK (H.map λj=>.bool (b j))=some (H.map b)
 |[]=>rfl
 |j::H=>by show(gK (H.map λj=>.bool (b j))).map (b j :: ·)=_;rw[nE H];rfl
theorem o9{α:Type}{b:α→Bool}{H:List α}{S:St}(q:K (.bool (H.all b)) S):(eD .all (.ls (H.map λj=>.bool (b j))) S).run pA K:=by show cF.run pA (iH ((gK (H.map λj=>.bool (b j))).map λl=>.bool (l.all (·))) S) K;rw[nE,← show(H.map b).all (·)=H.all b from all_map ..]at *;exact q
theorem B7{α:Type}{b:α→Bool}{H:List α}{S:St}(q:K (.bool (H.any b)) S):(eD .any (.ls (H.map λj=>.bool (b j))) S).run pA K:=by show cF.run pA (iH ((gK (H.map λj=>.bool (b j))).map λl=>.bool (l.any (·))) S) K;rw[nE,← show(H.map b).any (·)=H.any b from any_map ..]at *;exact q
section
variable{k n c:Nat}{p:Pt}{Z:List Pt}{us:V}{i j:Nat}{H:List Nat}
theorem GB(hk:k<2)(hi:i<27)(q:K (.int (gN i:Nat)) ⟨c,k+1,l,h,o⟩):call (n+13) 0 [.hd .tab k,A k w i] ⟨c,k+1,l,h,o⟩ K:=fV (g:=λk w i=>.int (gN i:Nat)) rfl rfl (by kernel_rfl) hk hi (Qc _) q
theorem AZ(hi:i<27):gN i<9:=PI (aO (f:=λi=>decide (gN i<9)) (by decide +kernel) hi)
theorem Ka(hi:aJ i):beq (fam i) 0=false:=by have:=aO (f:=λi=>beq i 19 || !beq (fam i) 0) (by decide +kernel) hi.1;rw[show beq i 19=false from Qj.mpr λh=>hi.2 (PJ h)]at this;exact(Qo _).mp this
theorem bq(h:aA H):aH (af H):=λp hp=>by refine X2 (Qd.mp hp) λi hi e=>?_;exact e▸cb (h i hi)
theorem gV(H:List Nat):(af H).map (PV k w)=H.map (A k w):=by rw[QR];rfl
theorem aL:[i]∈af H↔i∈H:=⟨λh=>by refine X2 (Qd.mp h) λj hj e=>?_;injection e with e;exact e▸hj,λh=>Qd.mpr ⟨i,h,rfl⟩⟩
theorem zX(hk:k<2)(hH:aA H)(hl:H.length<60)(hu:us=.ls (H.map (A k w)))(hc:1≤c)(q:∀Z o',Z.Nodup→aH Z→(∀p,p∈Z↔a8 (af H) p)→K (KV k w Z) ⟨c-1,k+1,true,h,o'⟩):call (n+15) 11 [.hd .tab k,us] ⟨c,k+1,true,h,o⟩ K:=by
 have e:((af H).map λp=>[p]).flatten=af H:=by
  clear q hl hu hH;induction H with
  |nil=>rfl
  |cons p l ih=>exact Qb ([p] :: ·) ih
 have sl:dr ((af H).map λp=>[p])=H.length:=by
  clear q hl hu hH e;induction H with
  |nil=>rfl
  |cons p l ih=>exact(Qb (1 + ·) ih).trans (RJ ..)
 refine fA (Ms:=(af H).map λp=>[p]) hk (λM hM=>by refine X2 (Qd.mp hM) λp hp e=>?_;exact e▸λq hq=>PH.mp hq▸bq hH p hp) (by rw[sl];exact bb hl rfl) (.inl (by rw[hu,QR,← gV H];rfl)) (.inl rfl) hc λZ o' nZ hZ mZ=>q Z o' nZ hZ λp=>?_;rw[mZ,e]
noncomputable def qI(i:Nat)(H:List Nat):Bool:=decide ([[i]]∈[[[16]],[[14]]])&&H.all λj=>beq (fam j) (fam i) && !qC j
def pD(i:Nat)(H:List Nat)(Z:List Pt):Prop:=Z.Nodup∧match qI i H with|true=>∀p,p∈Z↔a8 (af H) p|false=>Z=[[i]]
theorem yv(hk:k<2)(hi:aJ i)(hH:aA H)(hl:H.length<60)(hc:210≤c)(q:∀Z,aH Z→pD i H Z→K (KV k w Z) ⟨c-210,k+1,true,h,o⟩):call (n+16) 49 [.hd .tab k,A k w i,.ls (H.map (A k w))] ⟨c,k+1,true,h,o⟩ K:=by
 refine own (vs:=(some (.hd .tab k)::some (A k w i)::some (.ls (H.map (A k w)))::xf)) rfl rfl hc (gF rfl (b4 hk hi.1) (qh hk hH)) rfl ?_;have done:∀Z,aH Z→pD i H Z→∀S':St,S'.n=k+1→S'.n=k+1∧V.free (ar S' (KV k w Z))=true∧K (ar S' (KV k w Z)) ⟨c-210,k+1,true,h,o⟩:=λZ hZ hm S' hn=>by rw[bJ (mF hk hZ)];exact⟨hn,cv hk hZ,q Z hZ hm⟩
 unfold pD at done;have oi:aH [[i]]:=λp hp=>PH.mp hp▸cb hi;refine ay (λK q=>dT hk hi.1 q) ?_;have rest:qI i H=false→ao pA (call (n+15)) (uG.body.drop 2) (some (.hd .tab k)::some (A k w i)::some (.ls (H.map (A k w)))::some (.int (fam i:Nat))::z9) ⟨210,k+1,true,[],o⟩ λfl _ S'=>S'.n=k+1∧V.free (ar S' fl.val)=true∧K (ar S' fl.val) ⟨c-210,k+1,true,h,iG false S'.o o⟩:=λe=>by rw[e]at done;refine dA (iX (by rw[← Ka hi];exact aM (y:=.int ((0:Nat):Int)) ae ae bZ)) ?_;exact done [[i]] oi ⟨Qu _ _,rfl⟩ _ rfl
 unfold qI at done rest;refine bz (b7 (bw (x:=KV k w [[i]]) (y:=.tp ([[[16]],[[14]]].map (KV k w))) ae ae (AB hk rfl (.inl oi) λP hP=>?_)) (aM (y:=.int ((18:Nat):Int)) (λK q=>GB hk hi.1 q) ae bZ)) (λe=>?_) λe=>?_
 ·rcases P4.mp hP with rfl|hP
  ·exact .inl λp hp=>PH.mp hp▸cb (by decide)
  ·exact PH.mp hP▸.inl λp hp=>PH.mp hp▸cb (by decide)
 ·rw[show beq (gN i) 18=false from Qj.mpr λh=>by have:=AZ hi.1;rw[PJ h]at this;exact absurd this (by decide),RR]at e;rw[e]at done rest;refine bz (r:=H.all λj=>beq (fam j) (fam i) && !qC j) (λK' q=>dw (cl:=call (n+15)) (vs:=[none,none,none,none,some (.int (fam i:Nat)),some (.hd .tab k)]) (g:=A k w) (f:=λj=>.bool (beq (fam j) (fam i) && !qC j)) rfl (λj hj=>bG (aM (λK q=>dT hk (hH j hj).1 q) ae bZ) (ka (λK q=>mQ hk (hH j hj).1 q) ae (rU (hH j hj).1))) (o9 q)) (λe=>?_) λe=>?_
  ·rw[e]at done;exact zX hk hH hl rfl (ag rfl) λZ o' nZ hZ mZ=>done Z hZ ⟨nZ,mZ⟩ _ rfl
  ·rw[e]at rest;exact rest rfl
 ·rw[show beq (gN i) 18=false from Qj.mpr λh=>by have:=AZ hi.1;rw[PJ h]at this;exact absurd this (by decide),RR]at e;rw[e]at rest;exact rest rfl
end
theorem cV{α:Type}[BEq α][LawfulBEq α]{l m:List α}(h:l.Nodup)(hs:∀x∈l,x∈m):l.length≤m.length:=by
 induction l generalizing m with
 |nil=>exact Qc _
 |cons x xs ih=>rw[RN]at h;have hx:=hs x mh;have h1:=ih (m:=m.erase x) h.2 λy hy=>(List.mem_erase_of_ne (show y≠x from λe=>h.1 (e▸hy))).mpr (hs y (mt hy));rw[List.length_erase_of_mem hx]at h1;exact PM (Rn h1) (le_of_eq (Nat.sub_add_cancel (List.length_pos_of_mem hx)))
def j3{α:Type}(P:α→List Pt→Prop):List α→List (List Pt)→Prop
 |[],Zs=>Zs=[]
 |a::L,Zs=>∃Z Zs',Zs=Z::Zs'∧aH Z∧P a Z∧j3 P L Zs'
section
variable{α:Type}{d:Nat}{vs:au}{g f:α→V}{b:α→Bool}
noncomputable abbrev sk(k:Nat)(h:List O)(o:List (List V×List V))(c:Nat):St:=⟨c,k+1,true,h,o⟩
theorem Pn:∀(L:List α)(vs':au)(c:Nat)(K:List V→St→Prop),(∀z,vs'.set j z=vs.set j z)→L.length*d≤c→(∀a∈L,∀c,d≤c→∀K:V→St→Prop,K (.bool (b a)) (sk k h o (c-d))→ev pA cl e (vs.set j (some (g a))) (sk k h o c) K)→(∀a∈L,∀c,∀K:V→St→Prop,K (f a) (sk k h o c)→ev pA cl elt (vs.set j (some (g a))) (sk k h o c) K)→(∀c',c-L.length*d≤c'→K ((L.filter b).map f) (sk k h o c'))→dv pA (λy=>true) (gS pA cl [e]) (ev pA cl elt) j (L.map g) vs' (sk k h o c) K:=by
 intro L;induction L with
 |nil=>exact λy c K y y y y q=>q c (sub_le ..)
 |cons a L ih_=>
  exact λvs' c K hv hc h1 h2 q=>by
   rw[Qf,R6]at hc q;show ev pA cl e (vs'.set j (some (g a))) _ _;rw[hv];have go:=λK=>ih_ (vs.set j (some (g a))) (c-d) K (λz=>List.set_set ..) (xI hc) (λa h=>h1 a (mt h)) λa h=>h2 a (mt h);refine h1 a mh c (xW hc) _ ?_;cases e:b a with
   |true=>exact h2 a mh _ _ (go _ λc' hc'=>by have:=q c' (tQ hc');rw[Ra e]at this;exact this)
   |false=>exact go _ λc' hc'=>by have:=q c' (tQ hc');rw[Rb (by rw[e];decide)]at this;exact this
theorem JA{P:α→List Pt→Prop}:∀(L:List α)(vs':au)(c:Nat)(K:List V→St→Prop),(∀z,vs'.set j z=vs.set j z)→L.length*d≤c→(∀a∈L,∀c,d≤c→∀K:V→St→Prop,(∀Z,aH Z→P a Z→K (KV k w Z) (sk k h o (c-d)))→ev pA cl elt (vs.set j (some (g a))) (sk k h o c) K)→(∀c' Zs,c-L.length*d≤c'→j3 P L Zs→K (Zs.map (KV k w)) (sk k h o c'))→dv pA (λy=>true) (gS pA cl []) (ev pA cl elt) j (L.map g) vs' (sk k h o c) K:=by
 intro L;induction L with
 |nil=>exact λy c K y y y q=>q c [] (sub_le ..) rfl
 |cons a L ih_=>
  exact λvs' c K hv hc h1 q=>by rw[Qf,R6]at hc q;show ev pA cl elt (vs'.set j (some (g a))) _ _;rw[hv];refine h1 a mh c (xW hc) _ λZ hZ pZ=>?_;exact ih_ (vs.set j (some (g a))) (c-d) _ (λz=>List.set_set ..) (xI hc) (λa h=>h1 a (mt h)) λc' Zs hc' r=>q c' (Z::Zs) (tQ hc') ⟨Z,Zs,rfl,hZ,pZ,r⟩
end
noncomputable def cT(i:Nat):Bool:=!beq (fam i) 7 && !beq (fam i) 0
theorem j3.ok{α:Type}{P:α→List Pt→Prop}:∀{L:List α}{Zs:List (List Pt)},j3 P L Zs→∀Z∈Zs,aH Z
 |[],_,r,Z,h=>by cases (show _=[]from r);exact az h
 |a::L,_,⟨Z,Zs,e,o,_,r⟩,Z',h=>by subst e;exact(P4.mp h).elim (λe=>e▸o) (r.ok Z')
theorem j3.mem{α:Type}{P:α→List Pt→Prop}{Q:α→Pt→Prop}{p:Pt}(hQ:∀a Z,P a Z→(p∈Z↔Q a p)):∀{L:List α}{Zs:List (List Pt)},j3 P L Zs→(p∈Zs.flatten↔∃a∈L,Q a p)
 |[],_,r=>by cases (show _=[]from r);exact⟨λh=>(az h),λ⟨_,h,_⟩=>(az h)⟩
 |a::L,_,⟨Z,Zs,e,_,pZ,r⟩=>by subst e;rw[List.flatten_cons,Qe,hQ a Z pZ,r.mem hQ];exact⟨λh=>h.elim (λh=>⟨a,.head _,h⟩) λ⟨b,h,q⟩=>⟨b,mt h,q⟩,λ⟨b,h,q⟩=>(P4.mp h).elim (λe=>.inl (e▸q)) λh=>.inr ⟨b,h,q⟩⟩
theorem j3.sum{α:Type}{P:α→List Pt→Prop}{m:Nat}(hP:∀a Z,P a Z→Z.length≤m):∀{L:List α}{Zs:List (List Pt)},j3 P L Zs→dr Zs≤L.length*m
 |[],_,r=>by cases (show _=[]from r);exact Qc _
 |a::L,_,⟨Z,Zs,e,_,pZ,r⟩=>by subst e;have:=r.sum hP;have:=hP a Z pZ;rw[Qf,R6];show Z.length+dr Zs≤_;omega
section
variable{k n c:Nat}{p:Pt}{Z:List Pt}{j:Nat}{H:List Nat}
theorem Ke(hk:k<2)(hi:aJ i)(q:K (.bool (cT i)) ⟨c,k+1,true,h,o⟩):call (n+13) 56 [.hd .tab k,A k w i] ⟨c,k+1,true,h,o⟩ K:=fV (g:=λk w i=>.bool (cT i)) rfl rfl (by kernel_rfl) hk hi.1 (Qc _) q
noncomputable def xB(i:Nat)(H:List Nat):Bool:=beq (fam i) 7&&H.all cT
def C7(i:Nat)(L:List Nat)(Z:List Pt):Prop:=Z.Nodup∧match L.filter (cw i)with
 |[]=>Z=[]
 |H=>match xB i H with
  |true=>∀p,p∈Z↔a8 (H.flatMap λj=>cy (bO [i] [j])) p
  |false=>pD i H Z
theorem MQ(h7:beq (fam i) 7=true)(hj:cT j=true):i≠j:=λe=>by subst e;unfold cT at hj;rw[h7]at hj;exact ak hj
theorem Kw(hk:k<2)(hi:aJ i)(hL:aA L)(hl:L.length≤3)(hc:9000≤c)(q:∀Z,aH Z→C7 i L Z→K (KV k w Z) ⟨c-9000,k+1,true,h,o⟩):call (n+25) 61 [.hd .host k,A k w i,KV k w (af L),.bool true] ⟨c,k+1,true,h,o⟩ K:=by
 have oL:=bq hL;refine own (vs:=(some (.hd .host k)::some (A k w i)::some (KV k w (af L))::some (.bool true)::z9)) rfl rfl hc (by show(V.free (A k w i)&&(V.free (KV k w (af L))&&true))=true;rw[b4 hk hi.1,cv hk oL];rfl) rfl ?_;have done:∀Z,aH Z→C7 i L Z→∀S':St,S'.n=k+1→S'.n=k+1∧V.free (ar S' (KV k w Z))=true∧K (ar S' (KV k w Z)) ⟨c-9000,k+1,true,h,o⟩:=λZ hZ hm S' hn=>by rw[bJ (mF hk hZ)];exact⟨hn,cv hk hZ,q Z hZ hm⟩
 unfold C7 at done;refine ay (v:=.hd .tab k) ae ?_;refine cO hk oL ?_;rw[gV];refine Pn (d:=900) (cl:=call (n+24)) (vs:=[none,none,none,some (.hd .host k),some (A k w i),some (.bool true)]) (g:=A k w) (f:=A k w) (b:=cw i) L _ 9000 _ (λz=>rfl) (BL hl rfl) (λj hj c hc K q=>EF hk hi (hL j hj) hc q) (λz z z z q=>q) λc' hc'=>?_;have hH:aA (L.filter (cw i)):=λj hj=>hL j (P8.mp hj).1;have lH:(L.filter (cw i)).length≤3:=PM (QG ..) hl;generalize L.filter (cw i)=H at hH lH done;match H,hH,lH,done with
 |[],_,_,done=>exact done [] (λz h=>az h) ⟨R9,rfl⟩ _ rfl
 |a::H,hH,lH,done=>
  refine dA (λK' q=>q) ?_;generalize eH:a::H=H' at hH lH;have done:∀Z,aH Z→(Z.Nodup∧match xB i H' with|true=>∀p,p∈Z↔a8 (H'.flatMap λj=>cy (bO [i] [j])) p|false=>pD i H' Z)→∀S':St,S'.n=k+1→S'.n=k+1∧V.free (ar S' (KV k w Z))=true∧K (ar S' (KV k w Z)) ⟨c-9000,k+1,true,h,o⟩:=by rw[← eH];exact done
  unfold xB at done;refine bz (bG (aM (y:=.int ((7:Nat):Int)) (λK q=>dT hk hi.1 q) ae bZ) (λK' q=>dw (cl:=call (n+24)) (j:=1) (elt:=.cl 56 [.v 3,.v 1]) (ok:=λz=>true) (S:=⟨c',k+1,true,[],o⟩) (vs:=[none,none,none,some (.hd .tab k)]) (g:=A k w) (f:=λj=>.bool (cT j)) rfl (λj hj K q=>Ke hk (hH j hj) q) (o9 q))) (λe=>?_) λe=>?_
  ·rw[e]at done;have e7:=(aa e).1;have eP:=P5.mp (aa e).2;have oi:∀i,aJ i→aE [[i]]:=λi hi=>.inl λp hp=>PH.mp hp▸cb hi;have si:∀i,∀p∈([[i]]:List Pt),kN p:=λi p hp=>PH.mp hp▸(ag rfl:1<30);refine JA (P:=λj Z=>Z.Nodup∧∀p,p∈Z↔p∈cy (bO [i] [j])) (d:=200) (cl:=call (n+24)) (w:=w) (j:=1) (elt:=.cl 33 [.v 4,.tp [.v 3,.v 1]]) (vs:=[none,none,none,some (A k w i),some (.hd .tab k)]) (g:=A k w) H' _ c' _ (λz=>rfl) (PM (BL (m:=600) lH rfl) (w9 hc' hl rfl)) (λj hj c hc K q=>kD hk (P:=[[i]]) (R:=[[j]]) (oi i hi) (oi j (hH j hj)) (show 1≤60 from ag rfl) ⟨show 1*1≤60 from ag rfl,si i,si j⟩ hc λZ hZ=>?_) λc2 Zs hc2 r=>?_
   ·rcases Dj hi (hH j hj) hZ with⟨e,_⟩|⟨_,nZ,hm⟩
    ·exact absurd e (MQ e7 (eP j hj))
    ·exact q Z (λp hp=>m9 (cb hi) (cb (hH j hj)) p ((hm p).mp hp)) ⟨nZ,hm⟩
   ·refine fA (Ms:=Zs) hk r.ok ?_ (.inl rfl) (.inl rfl) (KO hc2 (PM (A6 (m:=601) lH rfl) (w9 hc' hl rfl))) λZ o' nZ hZ mZ=>done Z hZ ⟨nZ,λp=>(mZ p).trans (cg λp=>?_)⟩ _ rfl
    ·have:=r.sum (m:=1) λj Z h=>PM (cV h.1 λp hp=>(h.2 p).mp hp) (jF _);omega
    ·rw[r.mem (Q:=λj p=>p∈cy (bO [i] [j])) λj Z h=>h.2 p];exact Qz.symm
  ·rw[e]at done;exact yv hk hi hH (Qa lH (ag rfl)) (w9 hc' hl rfl) λZ hZ mZ=>done Z hZ ⟨mZ.1,mZ⟩ _ rfl
variable{i:Nat}
theorem zB(e:prog[f]?=some fn)(hm:fn.mode=.own c0 s)(hx:V.freeL xs=true)(q:call (n+1) f [.hd .tab k,.ls xs] ⟨c,k+1,l,[.gone],o⟩ K):call (n+1) f [.hd .tab k,.hd .ref 0] ⟨c,k+1,l,[.list xs],o⟩ K:=by
 have e1:gk ⟨c,k+1,l,[.gone],o⟩ [.hd .tab k,.ls xs]=some ([.hd .tab k,.ls xs],[.gone]):=by show(match V.freeL [.hd .tab k,.ls xs]with|true=>_|false=>_)=_;rw[gf (x:=.ls xs) rfl hx]
 have e2:gk ⟨c,k+1,l,[.list xs],o⟩ [.hd .tab k,.hd .ref 0]=some ([.hd .tab k,.ls xs],[.gone]):=by show(match V.freeL [.hd .tab k,.ls xs]with|true=>_|false=>_)=_;rw[gf (x:=.ls xs) rfl hx];rfl
 rw[gx]at q ⊢;unfold fv at q ⊢;rw[e]at q ⊢;have q:(match fn.mode with|.own c0 s=>_|.open_=>_|.late=>_):=q;show(match fn.mode with|.own c0 s=>_|.open_=>_|.late=>_);rw[hm]at q ⊢;show iff pA (ble c0 c) (aq pA (gk ⟨c,k+1,l,[.list xs],o⟩ [.hd .tab k,.hd .ref 0]) λx=>_);have q:iff pA (ble c0 c) (aq pA (gk ⟨c,k+1,l,[.gone],o⟩ [.hd .tab k,.ls xs]) λx=>_):=q;rw[e2];rw[e1]at q;exact q
theorem EK(hk:k<2)(hi:i<27)(q:K (.bool (cT i)) ⟨c,k+1,true,h,o⟩):call (n+13) 56 [.hd .tab k,A k w i] ⟨c,k+1,true,h,o⟩ K:=fV (g:=λk w i=>.bool (cT i)) rfl rfl (by kernel_rfl) hk hi (Qc _) q
abbrev okN(L:List Nat):Prop:=aA L∨L=[19]
theorem qO(hL:okN L):∀i∈L,i<27:=λi hi=>hL.elim (λh=>(h i hi).1) λe=>by rw[e]at hi;exact PH.mp hi▸(ag rfl)
theorem oU(hL:okN L):aE (af L):=hL.imp bq λe=>by rw[e];rfl
theorem zH(hk:k<2)(hL:okN L)(q:K (.tp (L.map (A k w))) ⟨c,k+1,l,h,o⟩):call (n+13) 5 [.hd .tab k,KV k w (af L)] ⟨c,k+1,l,h,o⟩ K:=by
 rcases hL with h|rfl
 ·exact cO hk (bq h) (by rw[gV];exact q)
 ·exact zf hk (ag rfl) q
theorem sF(hk:k<2)(hL:okN L)(q:K (.bool (L.all cT)) ⟨c,k+1,true,h,o⟩):call (n+14) 57 [.hd .tab k,KV k w (af L)] ⟨c,k+1,true,h,o⟩ K:=by refine own (vs:=[some (.hd .tab k),some (KV k w (af L)),none,none]) rfl rfl (Qc _) (gf rfl (b0 hk (oU hL))) rfl ?_;refine zH hk hL ?_;refine dw (cl:=call (n+13)) (j:=1) (elt:=.cl 56 [.v 3,.v 1]) (ok:=λz=>true) (S:=⟨0,k+1,true,[],o⟩) (vs:=[none,none,none,some (.hd .tab k)]) (g:=A k w) (f:=λj=>.bool (cT j)) rfl (λj hj K q=>EK hk (qO hL j hj) q) (o9 ?_);exact⟨rfl,rfl,q⟩
theorem Gw(hk:k<2)(hL:okN L)(hne:L≠[])(q:K (.bool (L.all λi=>nul (fam i))) ⟨c,k+1,true,h,o⟩):call (n+14) 48 [.hd .tab k,KV k w (af L)] ⟨c,k+1,true,h,o⟩ K:=by refine own (vs:=(some (.hd .tab k)::some (KV k w (af L))::z4)) rfl rfl (Qc _) (gf rfl (b0 hk (oU hL))) rfl ?_;refine ay (λK q=>zH hk hL q) ?_;refine kR (r:=true&&_) (bG (λK' q=>Mm (P:=(0:Int)<(((L.map (A k w)).length:Nat):Int)) (by rw[PS];exact Int.natCast_pos.mpr (List.length_pos_iff.mpr hne)) q) λK' q=>dw (cl:=call (n+13)) (j:=1) (ok:=λz=>true) (S:=⟨0,k+1,true,[],o⟩) (vs:=[none,none,none,none,some (.hd .tab k)]) (g:=A k w) (f:=λj=>.bool (nul (fam j))) rfl (λj hj=>bw (λK q=>dT hk (qO hL j hj) q) ae sC) (o9 q)) ?_;exact⟨rfl,rfl,q⟩
end
section
variable{S:St}{K:KF}
theorem oS(h:c6 cl e vs S r)(t:r=true→ao pA cl a vs S λf vs S=>match f with|.next=>ao pA cl ss vs S K|.cont=>K .cont vs S|.ret v=>K (.ret v) vs S)(f:r=false→ao pA cl b vs S λf vs S=>match f with|.next=>ao pA cl ss vs S K|.cont=>K .cont vs S|.ret v=>K (.ret v) vs S):ao pA cl (.it e a b::ss) vs S K:=h _ (by cases r with|true=>exact t rfl|false=>exact f rfl)
end
section
variable{k n c:Nat}{p:Pt}{Z:List Pt}{i:Nat}{S:St}{H L:List Nat}
noncomputable abbrev st(k:Nat)(w:Bool)(o:List (List V×List V))(c:Nat)(out:List Nat):St:=⟨c,k+1,true,[.list (out.map (A k w))],o⟩
noncomputable def Dw(b:Bool)(out:List Nat)(i:Nat):List Nat:=match b with|true=>out++[i]|false=>out
theorem fl{V:au→Prop}{b:Nat→Bool}{K:KF}:∀(L out:List Nat)(vs:au),(∀i∈L,∀vs out,V vs→out.length<60→∀K:Fl→au→St→Prop,(∀vs',V vs'→K .next vs' (st k w o c (Dw (b i) out i)))→ao pA cl body (vs.set j (some (A k w i))) (st k w o c out) K)→V vs→out.length+L.length<60→(∀vs',V vs'→K .next vs' (st k w o c (out++L.filter b)))→bW pA (λz=>true) (ao pA cl body) j (L.map (A k w)) vs (st k w o c out) K:=by
 intro L;induction L with
 |nil=>exact λout vs z hv z q=>q vs hv |> λq=>by rw[List.filter_nil,Qy]at q;exact q
 |cons i L ih_=>
  exact λout vs hb hv hl q=>by
   rw[Qf]at hl;refine hb i mh vs out hv (lg hl) _ λvs' hv'=>?_;have lA:(Dw (b i) out i).length≤out.length+1:=by
    delta Dw
    cases b i with
    |true=>exact le_of_eq (PX ..)
    |false=>exact le_succ _
   refine ih_ _ vs' (λi h=>hb i (mt h)) hv' (uy hl lA) λvs2 hv2=>?_;have e:Dw (b i) out i++L.filter b=out++(i::L).filter b:=by
    delta Dw
    cases e:b i with
    |true=>rw[Ra e,QK];rfl
    |false=>rw[Rb (by rw[e];decide)]
   rw[e];exact q vs2 hv2
theorem Al{K:KF}(ho:Gv cl eo vs (st k w o c out) (.hd .ref 0))(he:Gv cl e vs (st k w o c out) (A k w i))(hl:out.length<60)(q:ao pA cl ss vs (st k w o c (out++[i])) K):ao pA cl (.expr (.me .append eo [e])::ss) vs (st k w o c out) K:=by
 refine p9 (i:=0) ho rfl he (by rw[PS];exact Q8 hl (ag rfl)) ?_;have e:out.map (A k w)++[A k w i]=(out++[i]).map (A k w):=by rw[QY];rfl
 rw[e];exact q
theorem mY(hk:k<2)(hn:S.n=k+1)(hP:aE P):bX S (KV k w P) (.tp [.int 0,.int 13])=some false∧bX S (KV k w P) (.tp [.int 0,.int 13,.int 1])=some (decide (P=aS)):=by
 have h0:=iQ.mpr (iQ.mp (BB (w:=w) hk hP (.inl rfl))).symm;have h13:=iQ.mpr (iQ.mp (BB (w:=w) hk hP (.inr rfl))).symm;have h1:V.beq (.int 1) (KV k w P)=decide (P=aS):=by rw[show V.int 1=KV k w aS from rfl,AV hk (.inr rfl) hP];exact decide_eq_decide.mpr eq_comm
 have d:∀y∈[V.int 0,.int 13,.int 1],V.dat true false k y 8=true:=λy hy=>by
  rcases P4.mp hy with rfl|hy
  ·rfl
  rcases P4.mp hy with rfl|hy
  ·rfl
  ·rw[PH.mp hy];rfl
 constructor
 ·rw[sG hn (pI hk hP) λy hy=>d y ((P4.mp hy).elim (λe=>e▸.head _) λhy=>PH.mp hy▸mt mh)];show some (V.beq (.int 0) (KV k w P)||(V.beq (.int 13) (KV k w P)||false))=_;rw[h0,h13];rfl
 ·rw[sG hn (pI hk hP) d];show some (V.beq (.int 0) (KV k w P)||(V.beq (.int 13) (KV k w P)||(V.beq (.int 1) (KV k w P)||false)))=_;rw (config:={}) [h0,h13,h1,RR];rfl
theorem K8(hk:k<2)(hi:aJ i)(hn:nul (fam i)=false)(q:K (.bool false) ⟨c,k+1,true,h,o⟩):call (n+13) 36 [.hd .tab k,A k w i] ⟨c,k+1,true,h,o⟩ K:=fV (g:=λk w i=>.bool (nul (fam i)||beq i 19)) rfl rfl (by kernel_rfl) hk hi.1 (Qc _) (by rw[hn,show beq i 19=false from Qj.mpr λh=>hi.2 (PJ h)];exact q)
theorem tR(hk:k<2)(hH:aA H)(hl:H.length<60)(hc:1≤c)(q:∀Z o',Z.Nodup→aH Z→(∀p,p∈Z↔a8 (af H) p)→K (KV k w Z) ⟨c-1,k+1,true,[.gone],o'⟩):call (n+15) 11 [.hd .tab k,.hd .ref 0] (st k w o c H) K:=zB rfl rfl (qh hk hH) (zX hk hH hl rfl hc q)
theorem ED(hk:k<2)(hL:aA L)(h1:aA L1)(hl:L.length<50)(hne:af L≠aS)(hc:3000≤c)(q:∀Z,Z.Nodup→aH Z→(∀p,p∈Z↔a8 (af (L.filter λi=>nul (fam i)&&L1.any (cL i))) p)→K (KV k w Z) ⟨c-3000,k+1,true,h,o⟩):call (n+16) 51 [.hd .tab k,KV k w (af L),KV k w (af L1),.bool true] ⟨c,k+1,true,h,o⟩ K:=by
 refine own (vs:=(some (.hd .tab k)::some (KV k w (af L))::some (KV k w (af L1))::some (.bool true)::NG)) rfl rfl hc (by show(V.free (KV k w (af L))&&(V.free (KV k w (af L1))&&true))=true;rw[cv hk (bq hL),cv hk (bq h1)];rfl) rfl ?_;refine dA (λK q=>q) ?_;refine dA (aM (y:=KV k w aS) ae ae (by rw[jZ hk rfl (.inl (bq hL)) (.inr rfl),PQ hne])) ?_;refine e6 (v:=.hd .ref 0) (S':=st k w o 3000 []) ae ?_;refine dE (L:=L.map (A k w)) (λK q=>cO hk (bq hL) (by rw[gV];exact q)) rfl ?_;refine fl (b:=λi=>nul (fam i)&&L1.any (cL i)) (V:=λvs=>∃x5,vs=(some (.hd .tab k)::some (KV k w (af L))::some (KV k w (af L1))::some (.bool true)::some (.hd .ref 0)::x5::oa)) L [] _ (λi hi vs out hv lo K q=>?_) ⟨none,rfl⟩ (by show 0+_<60;exact q8 (bb hl rfl)) λvs hv=>?_
 ·obtain⟨x5,rfl⟩:=hv;have oi:=hL i hi;replace q:=q _ ⟨some (A k w i),rfl⟩;refine oS (bw (λK q=>dT hk oi.1 q) ae sC) (λe=>?_) λe=>?_
  ·rw[e,Q6]at q;refine bz (r:=L1.any (cL i)) (λK q=>cO hk (bq h1) (by
    rw[gV];exact dw (cl:=call (n+15)) (j:=1) (elt:=.cl 47 [.v 5,.v 3,.v 1,.v 4]) (ok:=λz=>true) (S:=st k w o 3000 out) (vs:=[none,none,none,some (A k w i),some (.bool true),some (.hd .tab k)]) (g:=A k w) (f:=λj=>.bool (cL i j)) rfl (λj hj K q=>Ak hk oi (h1 j hj) q) (B7 q))) (λe=>?_) λe=>?_
   ·rw[e]at q;exact Al ae ae lo q
   ·rw[e]at q;exact q
  ·rw[e,Bool.false_and]at q;refine oS (bw (x:=KV k w [[i]]) ae ae (mY hk rfl (.inl λp hp=>PH.mp hp▸cb oi)).1) (λe=>ak e) λz=>?_;exact dA (λK q=>K8 hk oi e q) q
 ·obtain⟨x5,rfl⟩:=hv;have hF:aA (L.filter λi=>nul (fam i)&&L1.any (cL i)):=λi hi=>hL i (P8.mp hi).1;refine tR hk hF (Qa (QG ..) (bb hl rfl)) (ag rfl) λZ o' nZ hZ mZ=>?_;show _∧V.free (ar _ (KV k w Z))=true∧K (ar _ (KV k w Z)) _;rw[bJ (mF hk hZ)];exact⟨rfl,cv hk hZ,q Z nZ hZ mZ⟩
end
theorem Hk{S:St}{K:V→Prop}(h:bV S x y=some v)(q:K v):aq pA (bV S x y) K:=aR h q
theorem vS{S:St}(h:c6 cl e vs S r):c6 cl (.not e) vs S (!r):=λK' q=>h _ q
section
variable{k n c:Nat}{p:Pt}{Z:List Pt}{i j f:Nat}{S:St}
noncomputable def sf(i j:Nat):Bool:=(beq (fam j) 4||(beq (fam j) 5||false))&&beq (fam i) (fam j)
noncomputable def c8(i j:Nat):Bool:=!KW i j&&(!sf i j && !(beq i 20&&beq j 18))
theorem KD(hj:j<27)(hu:un j=true):bV S (jn j) (.int 0)=some (.int (fam j:Nat)):=by
 have e:bQ.map (λj=>match un j with|true=>bV S (jn j) (.int 0)|false=>none)=bQ.map λj=>match un j with|true=>some (.int (fam j:Nat))|false=>none:=by rfl
 replace e:=QE.mp e j (fJ hj);rw[hu]at e;exact e
theorem Mb:bX S (.int (f:Nat)) (.tp [.int 4,.int 5])=some (beq f 4||(beq f 5||false)):=Qb some (by
 show(decide (((4:Nat):Int)=(f:Int))||(decide (((5:Nat):Int)=(f:Int))||false))=_;rw[fz,fz])
theorem Dx(hj:aJ j):qC j=!un j:=by have:=aO (f:=λj=>beq j 19||(qC j == !un j)) (by decide +kernel) hj.1;rw[show beq j 19=false from Qj.mpr λh=>hj.2 (PJ h)]at this;exact eq_of_beq this
noncomputable abbrev Bm(k:Nat)(t u v:V)(x4 x5 x6:Option V):au:=(some (.hd .tab k)::some t::some u::some v::x4::x5::x6::oa)
theorem cW{c0:Nat}(hk:k<2)(hZ:aE Z)(S':St)(hn:S'.n=k+1)(q:K (KV k w Z) ⟨c-c0,k+1,true,h,o⟩):S'.n=k+1∧V.free (ar S' (KV k w Z))=true∧K (ar S' (KV k w Z)) ⟨c-c0,k+1,true,h,o⟩:=by rw[bJ (hE hk hZ)];exact⟨hn,b0 hk hZ,q⟩
theorem y7(hk:k<2)(hL:aA L)(hj:aJ j)(hu:un j=true)(hl:L.length<50)(hne:af L≠aS)(hc:1≤c)(q:∀Z,Z.Nodup→aH Z→(∀p,p∈Z↔a8 (af (L.filter λi=>c8 i j)) p)→K (KV k w Z) ⟨c-1,k+1,true,h,o⟩):call (n+16) 54 [.hd .tab k,KV k w (af L),A k w j] ⟨c,k+1,true,h,o⟩ K:=by
 refine own (vs:=Bm k (KV k w (af L)) (A k w j) .nul none none none |>.set 3 none) rfl rfl hc (gF rfl (cv hk (bq hL)) (b4 hk hj.1)) rfl ?_;refine ay (λK q=>mQ hk hj.1 q) ?_;refine dA (aM ae ae (by rw[rU hj.1,Dx hj,hu];rfl)) ?_;refine dA (iX (aM (y:=KV k w aS) ae ae (by rw[jZ hk rfl (.inl (bq hL)) (.inr rfl),PQ hne]))) ?_;refine e6 (v:=.hd .ref 0) (S':=st k w o 1 []) ae ?_;refine dE (L:=L.map (A k w)) (λK q=>cO hk (bq hL) (by rw[gV];exact q)) rfl ?_;refine fl (b:=λi=>c8 i j) (V:=λvs=>∃x5 x6,vs=Bm k (KV k w (af L)) (A k w j) (jn j) (some (.hd .ref 0)) x5 x6) L [] _ (λi hi vs out hv lo K q=>?_) ⟨none,none,rfl⟩ (by show 0+_<60;exact q8 (bb hl rfl)) λvs hv=>?_
 ·obtain⟨x5,x6,rfl⟩:=hv;have oi:=hL i hi;replace q:=q _ ⟨some (A k w i),some (.bool (sf i j)),rfl⟩;have g0:∀{cl:Cl}{vs:au}{S:St},(vs[3]?).join=some (jn j)→Gv cl (.sb (.v 3) (.i 0)) vs S (.int (fam j:Nat)):=λhv K q=>by
   show aq pA _ _;rw[hv];exact Hk (KD hj.1 hu) q
  refine ay (v:=.bool (sf i j)) (bG (bw (g0 rfl) ae Mb) (aM (λK q=>dT hk oi.1 q) (g0 rfl) bZ)) ?_;refine bz (r:=c8 i j) (bG (ka (λK q=>mQ hk oi.1 q) ae (GN oi.1 hj.1)) (bG ae (vS (bG (aM (y:=A k w 20) ae ae (je hk rfl oi (by decide))) (aM (y:=A k w 18) ae ae (je hk rfl hj (by decide))))))) (λe=>?_) λe=>?_
  ·rw[e]at q;exact Al ae ae lo q
  ·rw[e]at q;exact q
 ·obtain⟨x5,x6,rfl⟩:=hv;have hF:aA (L.filter λi=>c8 i j):=λi hi=>hL i (P8.mp hi).1;refine tR hk hF (Qa (QG ..) (bb hl rfl)) (ag rfl) λZ o' nZ hZ mZ=>?_;exact cW hk (.inl hZ) _ rfl (q Z nZ hZ mZ)
variable{H L:List Nat}
noncomputable def ot(j:Nat):Nat:=match beq j 18 with|true=>13|false=>18
theorem FZ(hk:k<2)(hj:j=13∨j=18)(hc:1≤c)(q:∀Z,Z.Nodup→aH Z→(∀p,p∈Z↔a8 (af [21,ot j]) p)→K (KV k w Z) ⟨c-1,k+1,true,h,o⟩):call (n+16) 54 [.hd .tab k,KV k w aS,A k w j] ⟨c,k+1,true,h,o⟩ K:=by
 have oj:aJ j:=by rcases hj with rfl|rfl<;>decide
 have oo:aJ (ot j):=by rcases hj with rfl|rfl<;>decide
 refine own (vs:=Bm k (KV k w aS) (A k w j) .nul none none none |>.set 3 none) rfl rfl hc (gF rfl rfl (b4 hk oj.1)) rfl ?_;refine ay (λK q=>mQ hk oj.1 q) ?_;have fin:call (n+15) 11 [.hd .tab k,.tp [A k w 21,A k w (ot j)]] ⟨1,k+1,true,[],o⟩ λv S'=>S'.n=k+1∧V.free (ar S' v)=true∧K (ar S' v) ⟨c-1,k+1,true,h,o⟩:=by
  refine fA (Ms:=[[[21]],[[ot j]]]) hk (λM hM=>?_) (show 2<62 from ag rfl) (.inr rfl) (.inl rfl) (ag rfl) λZ o' nZ hZ mZ=>cW hk (.inl hZ) _ rfl (q Z nZ hZ mZ);rcases P4.mp hM with rfl|hM
  ·exact λp hp=>PH.mp hp▸cb (by decide)
  ·exact PH.mp hM▸λp hp=>PH.mp hp▸cb oo
 rcases hj with rfl|rfl
 ·exact fin
 ·exact fin
theorem Fi(hk:k<2)(hP:aH P)(h2:2≤P.length)(q:K (.tp []) ⟨c,k+1,true,h,o⟩):call (n+13) 46 [.hd .tab k,KV k w P] ⟨c,k+1,true,h,o⟩ K:=by
 refine own (vs:=(some (.hd .tab k)::some (KV k w P)::xf)) rfl rfl (Qc _) (gf rfl (cv hk hP)) rfl ?_;match P,h2 with
 |p::p'::P,_=>
  delta KV
  dsimp only;cases decide (p::p'::P=[[12],[17]])with
  |true=>
   match k,hk with
   |0,_=>exact⟨rfl,rfl,q⟩
   |1,_=>exact⟨rfl,rfl,q⟩
  |false=>
   match k,hk with
   |0,_=>exact⟨rfl,rfl,q⟩
   |1,_=>exact⟨rfl,rfl,q⟩
theorem Ew(hk:k<2)(hT:aE T)(hP:aH P)(hpv:∀K':V→St→Prop,K' (.tp []) ⟨1,k+1,true,[],o⟩→call (n+15) 46 [.hd .tab k,KV k w P] ⟨1,k+1,true,[],o⟩ K')(hc:1≤c)(q:K (KV k w T) ⟨c-1,k+1,true,h,o⟩):call (n+16) 54 [.hd .tab k,KV k w T,KV k w P] ⟨c,k+1,true,h,o⟩ K:=by refine own (vs:=Bm k (KV k w T) (KV k w P) .nul none none none |>.set 3 none) rfl rfl hc (gF rfl (b0 hk hT) (cv hk hP)) rfl ?_;refine ay hpv ?_;exact cW hk hT _ rfl q
theorem rP{Q:List Pt→Prop}(hk:k<2)(hT:aE T)(hP:aH P)(hPu:P≠aS)(hc:10000≤c)(h54:∀K':V→St→Prop,(∀Z,aE Z→Q Z→K' (KV k w Z) ⟨10000-1,k+1,true,[],o⟩)→call (n+16) 54 [.hd .tab k,KV k w T,KV k w P] ⟨10000,k+1,true,[],o⟩ K')(q:∀Z,aE Z→Q Z→K (KV k w Z) ⟨c-10000,k+1,true,h,o⟩):call (n+17) 55 [.hd .tab k,KV k w T,KV k w P,.bool false,.bool true] ⟨c,k+1,true,h,o⟩ K:=by refine own (vs:=(some (.hd .tab k)::some (KV k w T)::some (KV k w P)::some (.bool false)::some (.bool true)::z7)) rfl rfl hc (by show(V.free (KV k w T)&&(V.free (KV k w P)&&true))=true;rw[b0 hk hT,cv hk hP];rfl) rfl ?_;refine dA (b7 (r1:=false) (r2:=false) (bw ae ae (mY hk rfl hT).1) (bw ae ae (by rw[(mY hk rfl (.inl hP)).2,PQ hPu]))) ?_;exact h54 _ λZ hZ mZ=>cW hk hZ _ rfl (q Z hZ mZ)
theorem Ai(h:∀p∈Z,∃i,p=[i]∧aJ i):∃L,Z=af L∧aA L:=by
 induction Z with
 |nil=>exact aB [] rfl (λz h=>az h)
 |cons p Z ih=>refine X2 (ih λp hp=>h p (mt hp)) λL e oL=>?_;refine X2 (h p mh) λi e' oi=>?_;exact aB (i::L) (by rw[e,e'];rfl) (λj hj=>(P4.mp hj).elim (λe=>e▸oi) (oL j))
theorem sE(hL:aA L)(hp:a8 (af L) p):∃i,p=[i]∧aJ i:=by
 rcases aV.mp hp.1 with h|⟨h|h,_⟩
 ·refine X2 (Qd.mp h) λi hi e=>?_;exact aB i e.symm (hL i hi)
 ·exact aB 12 h (by decide)
 ·exact aB 17 h (by decide)
theorem Kx(hk:k<2)(hT:aE T)(hj:aJ j)(hc:20000≤c)(h55:∀K':V→St→Prop,(∀L,aA L→L.length<60→(∀p,p∈af L↔a8 (af H) p)→K' (KV k w (af L)) ⟨20000-10000,k+1,true,[],o⟩)→call (n+17) 55 [.hd .tab k,KV k w T,A k w j,.bool false,.bool true] ⟨20000,k+1,true,[],o⟩ K')(q:∀Z,Z.Nodup→aH Z→(∀p,p∈Z↔∃L,(∀p,p∈af L↔a8 (af H) p)∧a8 (af L) p)→K (KV k w Z) ⟨c-20000,k+1,true,h,o⟩):call (n+18) 62 [.hd .host k,KV k w T,A k w j] ⟨c,k+1,true,h,o⟩ K:=by
 refine own (vs:=(some (.hd .host k)::some (KV k w T)::some (A k w j)::oa)) rfl rfl hc (gF rfl (b0 hk hT) (b4 hk hj.1)) rfl ?_;refine ay (v:=.hd .tab k) ae ?_;refine h55 _ λL hL lL mL=>?_;refine e6 (v:=.hd .ref 0) (S':=st k w o (20000-10000) []) ae ?_;refine dE (L:=L.map (A k w)) (λK q=>cO hk (bq hL) (by rw[gV];exact q)) rfl ?_;refine fl (b:=λz=>true) (V:=λvs=>∃x6,vs=(some (.hd .host k)::some (KV k w T)::some (A k w j)::some (.hd .tab k)::some (KV k w (af L))::some (.hd .ref 0)::x6::z8)) L [] _ (λi hi vs out hv lo K q=>?_) ⟨none,rfl⟩ (by show 0+_<60;exact q8 lL) λvs hv=>?_
 ·obtain⟨x6,rfl⟩:=hv;have oi:=hL i hi;have e:∀{S:St},bX S (.int (gN i:Nat)) (.tp [.int 10,.int 15,.int 16])=some false:=λ{S}=>Qb some (by
   show(decide (((10:Nat):Int)=((gN i:Nat):Int))||(decide (((15:Nat):Int)=((gN i:Nat):Int))||(decide (((16:Nat):Int)=((gN i:Nat):Int))||false)))=_;have:=AZ oi.1;rw[fz,fz,fz,show beq (gN i) 10=false from Qj.mpr λh=>by rw[PJ h]at this;exact absurd this (by decide),show beq (gN i) 15=false from Qj.mpr λh=>by rw[PJ h]at this;exact absurd this (by decide),show beq (gN i) 16=false from Qj.mpr λh=>by rw[PJ h]at this;exact absurd this (by decide)];rfl)
  refine dA (iX (bw (λK q=>GB hk oi.1 q) ae e)) ?_;exact Al ae ae lo (q _ ⟨some (A k w i),rfl⟩)
 ·obtain⟨x6,rfl⟩:=hv;rw[filter_eq_self.mpr λz z=>rfl];refine tR hk hL lL (ag rfl) λZ o' nZ hZ mZ=>?_;exact cW hk (.inl hZ) _ rfl (q Z nZ hZ λp=>(mZ p).trans ⟨λh=>⟨L,mL,h⟩,λ⟨L',m',h⟩=>(cg λp=>(mL p).trans (m' p).symm).mpr h⟩)
end
theorem Mx{S:St}(h:c6 cl x vs S true):c6 cl (.or x y) vs S true:=λK' q=>h _ q
section
variable{k n c:Nat}{p r:Pt}{Z:List Pt}{i j:Nat}{H L:List Nat}
theorem mS{v:V}(hk:k<2)(hT:aE T)(q:K (KV k w T) ⟨c,k+1,true,h,o⟩):call (n+1) 85 [.hd .host k,KV k w T] ⟨c,k+1,true,h,o⟩ K:=by refine own (vs:=[some (.hd .host k),some (KV k w T)]) rfl rfl (Qc _) (gf rfl (b0 hk hT)) rfl ?_;exact cW (c0:=0) hk hT _ rfl q
noncomputable abbrev Pl(k:Nat)(s t:V)(y b:Bool):au:=(some (.hd .host k)::some s::some t::some (.bool y)::some (.bool true)::some (.hd .tab k)::some (.bool b)::Nl)
theorem wx(hk:k<2)(h0:okN L0)(h1:okN L1)(hc:50000≤c)(q:ao pA (call (n+25)) (iq.body.drop 4) (Pl k (KV k w (af L0)) (KV k w (af L1)) y (L0.all cT&&L1.all cT)) ⟨50000,k+1,true,[],o⟩ λfl _ S'=>S'.n=k+1∧V.free (ar S' fl.val)=true∧K (ar S' fl.val) ⟨c-50000,k+1,true,h,iG false S'.o o⟩):call (n+26) 63 [.hd .host k,KV k w (af L0),KV k w (af L1),.bool y,.bool true] ⟨c,k+1,true,h,o⟩ K:=by have u0:=oU h0;have u1:=oU h1;refine own (vs:=(some (.hd .host k)::some (KV k w (af L0))::some (KV k w (af L1))::some (.bool y)::some (.bool true)::CD)) rfl rfl hc (by show(V.free (KV k w (af L0))&&(V.free (KV k w (af L1))&&true))=true;rw[b0 hk u0,b0 hk u1];rfl) rfl ?_;refine ay (v:=.hd .tab k) ae ?_;refine ay (λK q=>mS (v:=.nul) hk u0 q) ?_;refine ay (λK q=>mS (v:=.nul) hk u1 q) ?_;exact ay (v:=.bool (L0.all cT&&L1.all cT)) (bG (λK q=>sF hk h0 q) (λK q=>sF hk h1 q)) q
def yu(L0 L1:List Nat)(Z:List Pt):Prop:=Z.Nodup∧match L1 with
 |[]=>Z=af L0
 |j::r=>match r with
  |[]=>match un j with
   |false=>Z=af L0
   |true=>match decide (j=13∨j=18)with
    |true=>∀p,p∈Z↔∃L,(∀p,p∈af L↔a8 (af (match decide (L0=[19])with|true=>[21,ot j]|false=>L0.filter λi=>c8 i j)) p)∧a8 (af L) p
    |false=>L0≠[19]→∀p,p∈Z↔a8 (af (L0.filter λi=>c8 i j)) p
  |_::_=>Z=af L0
theorem bR(e:af L=af H):L=H:=by
 induction L generalizing H with
 |nil=>cases H with|nil=>rfl|cons _ _=>cases e
 |cons i L ih=>cases H with
  |nil=>cases e
  |cons j H=>injection e with e1 e2;injection e1 with e1;rw[e1,ih e2]
theorem za{Z:List Pt}(hn:Z.Nodup)(m:∀p,p∈Z↔a8 (af H) p):Z.Nodup∧Z.length≤H.length+2:=by refine⟨hn,PM (cV hn λp hp=>((m p).mp hp).1) ?_⟩;exact PM sx (by rw[PS];exact Qi _)
theorem ky(h:L.Nodup):(af L).Nodup:=List.Pairwise.map _ (λa b h e=>h (by injection e)) h
theorem Mo(hk:k<2)(h0:okN L0)(d0:L0.Nodup)(l0:L0.length≤3)(h1:aA L1)(hne:L1≠[])(hu:L0=[19]→∀j,L1=[j]→un j=true→j=13∨j=18)(hc:50000≤c)(q:∀Z,aE Z→yu L0 L1 Z→K (KV k w Z) ⟨c-50000,k+1,true,h,o⟩):call (n+26) 63 [.hd .host k,KV k w (af L0),KV k w (af L1),.bool false,.bool true] ⟨c,k+1,true,h,o⟩ K:=by
 refine wx hk h0 (.inl h1) hc ?_;have u0:=oU h0;have o1:=bq h1;have n1:af L1≠aS:=λe=>by have:=bR (H:=[19]) e;rw[this]at h1;exact(h1 19 mh).2 rfl
 have done:∀Z,aE Z→yu L0 L1 Z→∀S':St,S'.n=k+1→S'.n=k+1∧V.free (ar S' (KV k w Z))=true∧K (ar S' (KV k w Z)) ⟨c-50000,k+1,true,h,o⟩:=λZ hZ mZ S' hn=>cW hk hZ S' hn (q Z hZ mZ);have ps:∀P∈([[[18]],[[13]]]:List (List Pt)),aE P:=λP hP=>by
  rcases P4.mp hP with rfl|hP
  ·exact .inl λp hp=>PH.mp hp▸cb (by decide)
  ·exact PH.mp hP▸.inl λp hp=>PH.mp hp▸cb (by decide)
 refine bz (r:=decide (af L1∈([[[18]],[[13]]]:List (List Pt)))) (bG (r1:=true) ae (bG (r1:=true) ae (bw ae ae (AB hk rfl (.inl o1) ps)))) (λe=>?_) λe=>?_
 ·obtain⟨j,rfl,hj⟩:∃j,L1=[j]∧(j=13∨j=18):=by
   rcases P4.mp (PI e)with e|e
   ·exact aB 18 (bR (H:=[18]) e) (.inr rfl)
   ·exact aB 13 (bR (H:=[13]) (PH.mp e)) (.inl rfl)
  have oj:=h1 j mh;have uj:un j=true:=by rcases hj with rfl|rfl<;>rfl
  have done:∀Z,Z.Nodup→aH Z→(∀p,p∈Z↔∃L,(∀p,p∈af L↔a8 (af (match decide (L0=[19])with|true=>[21,ot j]|false=>L0.filter λi=>c8 i j)) p)∧a8 (af L) p)→∀S':St,S'.n=k+1→S'.n=k+1∧V.free (ar S' (KV k w Z))=true∧K (ar S' (KV k w Z)) ⟨c-50000,k+1,true,h,o⟩:=λZ nZ hZ mZ=>done Z (.inl hZ) (by
   delta yu
   dsimp only;rw[uj,PL hj];exact⟨nZ,mZ⟩)
  have fin:∀(H:List Nat) Z,aA H→H.length≤3→Z.Nodup→aH Z→(∀p,p∈Z↔a8 (af H) p)→∃L,Z=af L∧aA L∧L.length<60:=λH Z hH lH nZ hZ mZ=>by refine X2 (Ai λp hp=>sE hH ((mZ p).mp hp)) λL e oL=>?_;have:=(za nZ mZ).2;rw[e,PS]at this;exact eJ L e oL (by omega)
  refine Kx (T:=af L0) (j:=j) hk u0 oj (ag rfl) (λK' q=>?_) λZ nZ hZ mZ=>done Z nZ hZ mZ _ rfl;by_cases e0:L0=[19]
  ·subst e0;exact rP (Q:=λZ=>Z.Nodup∧aH Z∧∀p,p∈Z↔a8 (af [21,ot j]) p) hk u0 o1 n1 (ag rfl) (λK' q=>FZ hk hj (ag rfl) λZ nZ hZ mZ=>q Z (.inl hZ) ⟨nZ,hZ,mZ⟩) λZ z hm=>by obtain⟨L,rfl,oL,lL⟩:=fin [21,ot j] Z (λi hi=>by rcases hj with rfl|rfl<;>(rcases P4.mp hi with rfl|hi;decide;exact PH.mp hi▸(by decide))) (show 2≤3 from ag rfl) hm.1 hm.2.1 hm.2.2;exact q L oL lL hm.2.2
  ·have h0:=h0.resolve_right e0;rw[PQ e0]at q;have ne:af L0≠aS:=λe=>e0 (bR (H:=[19]) e);exact rP (Q:=λZ=>Z.Nodup∧aH Z∧∀p,p∈Z↔a8 (af (L0.filter λi=>c8 i j)) p) hk u0 o1 n1 (ag rfl) (λK' q=>y7 hk h0 oj uj (by omega) ne (ag rfl) λZ nZ hZ mZ=>q Z (.inl hZ) ⟨nZ,hZ,mZ⟩) λZ z hm=>by obtain⟨L,rfl,oL,lL⟩:=fin (L0.filter λi=>c8 i j) Z (λi hi=>h0 i (P8.mp hi).1) (PM (QG ..) l0) hm.1 hm.2.1 hm.2.2;exact q L oL lL hm.2.2
 refine bz (r:=true) (by rw[← RP (L0.all cT&&L1.all cT)];exact b7 ae (Mx λz q=>q)) (λz=>?_) λe=>eg e;replace e:=QC e;have lift:(∀K':V→St→Prop,K' (.tp []) ⟨1,k+1,true,[],o⟩→call (n+23) 46 [.hd .tab k,KV k w (af L1)] ⟨1,k+1,true,[],o⟩ K')→yu L0 L1 (af L0)→call (n+25) 55 [.hd .tab k,KV k w (af L0),KV k w (af L1),.bool false,.bool true] ⟨50000,k+1,true,[],o⟩ λv S'=>S'.n=k+1∧V.free (ar S' v)=true∧K (ar S' v) ⟨c-50000,k+1,true,h,o⟩:=λhpv hs=>rP (n:=n+8) (Q:=λZ=>Z=af L0) hk u0 o1 n1 (ag rfl) (λK' q=>Ew (n:=n+8) hk u0 o1 hpv (ag rfl) (q _ u0 rfl)) λZ hZ e=>by subst e;exact done _ hZ hs _ rfl
 match L1,h1,hne,hu,o1,n1,done,lift,e with
 |[],_,hne,_,_,_,_,_,_=>exact absurd rfl hne
 |[j],h1,_,hu,o1,n1,done,lift,e=>
  have oj:=h1 j mh;cases uj:un j with
  |false=>refine lift (λK' q=>mQ hk oj.1 ?_) (by delta yu;dsimp only;rw[uj];exact⟨ky d0,rfl⟩);have:=Dx oj;rw[uj]at this;rw[iJ this];exact q
  |true=>
   have hj:¬(j=13∨j=18):=λhj=>e (by rcases hj with rfl|rfl;exact mt mh;exact .head _);have e0:L0≠[19]:=λe0=>hj (hu e0 j rfl uj);have h0:=h0.resolve_right e0;refine rP (n:=n+8) (Q:=λZ=>Z.Nodup∧∀p,p∈Z↔a8 (af (L0.filter λi=>c8 i j)) p) hk u0 o1 n1 (ag rfl) (λK' q=>y7 (n:=n+8) hk h0 oj uj (by omega) (λe=>e0 (bR (H:=[19]) e)) (ag rfl) λZ nZ hZ mZ=>q Z (.inl hZ) ⟨nZ,mZ⟩) λZ hZ hm=>done Z hZ ?_ _ rfl;delta yu
   dsimp only;rw[uj,PQ hj];exact⟨hm.1,λz=>hm.2⟩
 |i::j::L1,h1,_,_,o1,_,_,lift,_=>exact lift (λK' q=>Fi hk o1 (QV ..) q) ⟨ky d0,rfl⟩
variable{f g:Nat}{S:St}
noncomputable def kg(f:Nat)(L:List Nat):Bool:=L.any λj=>beq (fam j) f
theorem um(hi:((f:Nat):Int)=g):bX S (.int g) (.ls (L.map λj=>.int (fam j:Nat)))=some (kg f L):=by
 have d:V.datL false false (S.n-1) (L.map λj=>.int (fam j:Nat)) 8=true:=by
  induction L with
  |nil=>rfl
  |cons j L ih=>exact ih
 show(match((V.datL false false (S.n-1) [.int g] 8&&V.datL false false (S.n-1) (L.map λj=>.int (fam j:Nat)) 8)||_)with|true=>some _|false=>none)=_;rw[d];refine Qb some ?_;rw[any_map];delta kg
 refine Qb (L.any ·) (funext λj=>?_);rw[← hi];show decide (((fam j:Nat):Int)=((f:Nat):Int))=_;rw[fz,P7,Sa,Sa];exact eq_comm
noncomputable def k7(L1:List Nat):List Pt:=match kg 6 L1 with
 |true=>aS
 |false=>match kg 7 L1 with
  |true=>(match(L1.all λj=>beq (fam j) 7) && !(L1.any λj=>beq j 21)with|true=>[[15]]|false=>aS)
  |false=>af L1
theorem Lu(h1:aA L1):kg 0 L1=false:=Qj.mpr λh=>(QA.mp h).elim λj h=>by rw[Ka (h1 j h.1)]at h;cases h.2
theorem I4(hk:k<2)(hi:aJ i)(q:K (.bool (beq i 21)) ⟨c,k+1,true,h,o⟩):call (n+13) 43 [.hd .tab k,A k w i] ⟨c,k+1,true,h,o⟩ K:=fV (g:=λk w i=>.bool (beq i 19||beq i 21)) rfl rfl (by kernel_rfl) hk hi.1 (Qc _) (by rw[show beq i 19=false from Qj.mpr λh=>hi.2 (PJ h)];exact q)
theorem IV(hk:k<2)(h1:aA L1)(hc:1≤c)(q:aE (k7 L1)→K (KV k w (k7 L1)) ⟨c-1,k+1,true,h,o⟩):call (n+14) 52 [.hd .tab k,KV k w (af L1),.bool true] ⟨c,k+1,true,h,o⟩ K:=by
 have o1:=bq h1;refine own (vs:=(some (.hd .tab k)::some (KV k w (af L1))::some (.bool true)::NG)) rfl rfl hc (by show(V.free (KV k w (af L1))&&true)=true;rw[cv hk o1];rfl) rfl ?_;have done:∀Z,aE Z→Z=k7 L1→∀S':St,S'.n=k+1→S'.n=k+1∧V.free (ar S' (KV k w Z))=true∧K (ar S' (KV k w Z)) ⟨c-1,k+1,true,h,o⟩:=λZ hZ e S' hn=>cW hk hZ S' hn (by subst e;exact q hZ);unfold k7 at done;refine dA (iX λz q=>q) ?_;refine ay (v:=.ls (L1.map λj=>.int (fam j:Nat))) (λK q=>cO hk o1 (by
  rw[gV];exact dw (cl:=call (n+13)) (j:=1) (elt:=.cl 17 [.v 3,.v 1]) (ok:=λz=>true) (S:=⟨1,k+1,true,[],o⟩) (vs:=[none,none,none,some (.hd .tab k)]) (g:=A k w) (f:=λj=>.int (fam j:Nat)) rfl (λj hj K q=>dT hk (h1 j hj).1 q) q)) ?_
 refine bz (b7 (r1:=false) ae (b7 (bw ae ae (um (f:=0) rfl)) (bw ae ae (um (f:=6) rfl)))) (λe=>?_) λe=>?_
 ·rw[Lu h1,QF,QF]at e;rw[e]at done;exact done aS (.inr rfl) rfl _ rfl
 rw[Lu h1,QF,QF]at e;rw[e]at done;refine bz (bw ae ae (um (f:=7) rfl)) (λe=>?_) λe=>?_
 ·rw[e]at done;refine ay (v:=.bool (L1.all λj=>beq (fam j) 7)) (λK q=>dw (cl:=call (n+13)) (j:=1) (elt:=.k .eq (.v 1) (.i 7)) (ok:=λz=>true) (S:=⟨1,k+1,true,[],o⟩) (vs:=[none,none,none]) (g:=λj=>V.int (fam j:Nat)) (f:=λj=>.bool (beq (fam j) 7)) rfl (λj hj=>aM (y:=.int ((7:Nat):Int)) ae ae bZ) (o9 q)) ?_;refine bz (bG ae (vS (r:=L1.any λj=>beq j 21) λK q=>cO hk o1 (by
   rw[gV];exact dw (cl:=call (n+13)) (j:=1) (elt:=.cl 43 [.v 3,.v 1]) (ok:=λz=>true) (S:=⟨1,k+1,true,[],o⟩) (vs:=[none,none,none,some (.hd .tab k)]) (g:=A k w) (f:=λj=>.bool (beq j 21)) rfl (λj hj K q=>I4 hk (h1 j hj) q) (B7 q)))) (λe=>?_) λe=>?_
  ·rw[e]at done;exact done [[15]] (.inl λp hp=>PH.mp hp▸cb (by decide)) rfl _ rfl
  ·rw[e]at done;exact done aS (.inr rfl) rfl _ rfl
 ·rw[e]at done;exact done (af L1) (.inl o1) rfl _ rfl
end
section
variable{S:St}{K:KF}{v:V}
theorem L6(h:Gv cl e vs S v)(ht:truthy S v=some r)(t:r=true→ao pA cl a vs S λf vs S=>match f with|.next=>ao pA cl ss vs S K|.cont=>K .cont vs S|.ret v=>K (.ret v) vs S)(f:r=false→ao pA cl ss vs S K):ao pA cl (.it e a []::ss) vs S K:=h _ (Ov ht (by cases r with|true=>exact t rfl|false=>exact f rfl))
theorem iO(hi:S.h[i]?=some (.list L)):bI S (.hd .ref i)=some (i,L):=by delta bI;simp only[V.asHdl,Option.bind,hi]
theorem Lk(ho:Gv cl eo vs S (.hd .ref i))(hi:S.h[i]?=some (.list L))(q:ev pA cl e vs S λv S'=>(pV (.hd .ref i) [v] S').run pA λz S''=>ao pA cl ss vs S'' K):ao pA cl (.expr (.me .append eo [e])::ss) vs S K:=by refine ho _ ?_;show iff pA (bI S (.hd .ref i)).isSome _;rw[iO hi];exact q
theorem Jb{K:KP}(hi:S.h[i]?=some (.list L))(hl:L.length<aD)(q:K .nul (S.set i (.list (L++[v])))):(pV (.hd .ref i) [v] S).run pA K:=by show(ct (bI S (.hd .ref i)) _).run pA _;rw[iO hi];show(eM (decide (L.length<aD)) _).run pA _;rw[PL hl];exact q
end
section
variable{k n c:Nat}{i:Nat}{S:St}{H L:List Nat}
noncomputable def pb(L1:List Nat)(i:Nat):Bool:=!((L1.filter (cL i)).map (A 0 false)).isEmpty
noncomputable abbrev NA:List Kk.S:=[.a 6 (.comp [none,none,none,some 5,some 3,some 0] 1 (.cl 5 [.v 0,.v 2]) [.cl 47 [.v 5,.v 3,.v 1,.v 4]] (.v 1)),.it (.v 6) [.expr (.me .append (.v 4) [.cl 49 [.v 0,.v 5,.v 6]])] []]
noncomputable abbrev NP(k:Nat)(s t:V)(x5 x6:Option V):au:=(some (.hd .tab k)::some s::some t::some (.bool true)::some (.hd .ref 0)::x5::x6::z7)
theorem HR{K:KF}(hk:k<2)(h1:aA L1)(l1:L1.length<60):∀(L:List Nat)(Zs:List (List Pt))(c:Nat)(x5 x6:Option V),aA L→Zs.length+L.length<60→L.length*210≤c→(∀c' Zs' x5 x6,c-L.length*210≤c'→j3 (λi Z=>pD i (L1.filter (cL i)) Z) (L.filter (pb L1)) Zs'→K .next (NP k s (KV k w (af L1)) x5 x6) ⟨c',k+1,true,[.list ((Zs++Zs').map (KV k w))],o⟩)→bW pA (λz=>true) (ao pA (call (n+16)) NA) 5 (L.map (A k w)) (NP k s (KV k w (af L1)) x5 x6) ⟨c,k+1,true,[.list (Zs.map (KV k w))],o⟩ K:=by
 intro L;induction L with
 |nil=>
  exact λZs c x5 x6 z z z q=>by have:=q c [] x5 x6 (sub_le ..) rfl;rw[Qy]at this;exact this
 |cons i L ih_=>
  exact λZs c x5 x6 hL hl hc q=>by
   rw[Qf]at hl hc q;rw[R6]at hc q;have oi:=hL i mh;have hH:aA (L1.filter (cL i)):=λj hj=>h1 j (P8.mp hj).1;have lH:(L1.filter (cL i)).length<60:=Qa (QG ..) l1;refine ay (v:=.ls ((L1.filter (cL i)).map (A k w))) (λK q=>cO hk (bq h1) (by
    rw[gV];exact eO (cl:=call (n+16)) (j:=1) (e:=.cl 47 [.v 5,.v 3,.v 1,.v 4]) (elt:=.v 1) (ok:=λz=>true) (S:=⟨c,k+1,true,[.list (Zs.map (KV k w))],o⟩) (vs:=[none,none,none,some (A k w i),some (.bool true),some (.hd .tab k)]) (g:=A k w) (f:=A k w) (b:=cL i) rfl (λj hj K q=>Ak hk oi (h1 j hj) q) (λz z z z q=>q) q)) ?_
   have hb:pb L1 i=!((L1.filter (cL i)).map (A k w)).isEmpty:=by
    delta pb
    cases L1.filter (cL i)<;>rfl
   cases e:pb L1 i with
   |true=>
    rw[Ra e]at q;rw[hb]at e;refine L6 (v:=.ls ((L1.filter (cL i)).map (A k w))) (r:=true) ae (Qb some e) (λz=>?_) λe=>eg e;refine Lk (i:=0) (L:=Zs.map (KV k w)) ae rfl ?_;refine yv hk oi hH lH (xW hc) λZ hZ mZ=>?_;refine Jb (i:=0) (L:=Zs.map (KV k w)) rfl (by rw[PS];exact Q8 (lg hl:Zs.length<60) (ag rfl)) ?_;have e2:Zs.map (KV k w)++[KV k w Z]=(Zs++[Z]).map (KV k w):=by rw[QY];rfl
    show bW pA (λz=>true) (ao pA (call (n+16)) NA) 5 (L.map (A k w)) _ ⟨c-210,k+1,true,[.list (Zs.map (KV k w)++[KV k w Z])],o⟩ K;rw[e2];refine ih_ _ (c-210) _ _ (λi h=>hL i (mt h)) (by rw[PX];show Zs.length+1+L.length<60;exact tK hl) (xI hc) λc' Zs' x5 x6 hc' r=>?_;have:=q c' (Z::Zs') x5 x6 (tQ hc') ⟨Z,Zs',rfl,hZ,mZ,r⟩;rw[QK];exact this
   |false=>rw[Rb (by rw[e];decide)]at q;rw[hb]at e;refine L6 (v:=.ls ((L1.filter (cL i)).map (A k w))) (r:=false) ae (Qb some e) (λe=>ak e) λz=>?_;exact ih_ Zs c _ _ (λi h=>hL i (mt h)) (Bp hl) (uu hc) λc' Zs' x5 x6 hc' r=>q c' Zs' x5 x6 (OM hc') r
theorem zb(hH:H.length≤3)(m:pD i H Z):Z.length≤5:=by
 refine U2 m λnZ m=>?_;cases e:qI i H with
 |true=>rw[e]at m;have:=(za nZ m).2;exact OY this hH rfl
 |false=>rw[e]at m;subst m;exact(ag rfl:1≤5)
end
def Nf(L:List Nat):Prop:=∀p,a8 (af L) p↔p∈af L
noncomputable def cB(i:Nat)(H:List Nat):Bool:=(beq i 14||beq i 16)&&H.all un||beq i 21&&H.all cT
noncomputable def oc(L1:List Nat)(i:Nat):List Pt:=match L1.filter (cw i)with
 |[]=>[]
 |H=>match cB i H with|true=>af H|false=>[[i]]
noncomputable def NF(i j:Nat):Bool:=beq i 19||(beq j 19||((!(beq (fam i) 7&&(cw i j&&cT j))||(beq i 21&&decide (bO [i] [j]=some [j])))&&((!((beq i 14||beq i 16)&&cw i j)||((beq (fam j) (fam i) && !qC j)==un j))&&((!(cT i&&cT j)||(cL i j==cw i j))&&(!nul (fam j)||(cw i j==(nul (fam i)&&cL i j)))))))
section
variable{p:Pt}{i j:Nat}{H:List Nat}
theorem lP(hi:aJ i):beq i 19=false:=Qj.mpr λh=>hi.2 (PJ h)
theorem m6(hi:aJ i)(hj:aJ j):(beq (fam i) 7=true→cw i j=true→cT j=true→i=21∧bO [i] [j]=some [j])∧((beq i 14||beq i 16)=true→cw i j=true→(beq (fam j) (fam i) && !qC j)=un j)∧(cT i=true→cT j=true→cL i j=cw i j)∧(nul (fam j)=true→cw i j=(nul (fam i)&&cL i j)):=by
 have:=aO (aO (f:=λi=>bQ.all λj=>NF i j) (by decide +kernel) hi.1) hj.1;unfold NF at this;rw[lP hi,lP hj,QF,QF]at this;obtain⟨h1,h2⟩:=aa this;obtain⟨h2,h3⟩:=aa h2;obtain⟨h3,h4⟩:=aa h3;refine⟨λa b c=>?_,λa b=>?_,λa b=>?_,λa=>?_⟩
 ·rw[a,b,c]at h1;exact⟨PJ (aa h1).1,PI (aa h1).2⟩
 ·rw[a,b]at h2;exact eq_of_beq h2
 ·rw[a,b]at h3;exact eq_of_beq h3
 ·rw[a]at h4;exact eq_of_beq h4
theorem my(n:Nf L)(h:∀i∈H,i∈L):a8 (af H) p↔p∈af H:=by
 have s:∀p,p∈af H→p∈af L:=λp hp=>by refine X2 (Qd.mp hp) λi hi e=>?_;exact Qd.mpr ⟨i,h i hi,e⟩
 have sj:∀p,p∈aX (af H)→p∈aX (af L):=λp hp=>aV.mpr ((aV.mp hp).imp (s p) λh=>⟨h.1,s _ h.2.1,h.2.2.imp (s _) (s _)⟩);have jL:∀p,p∈aX (af H)→p∈af H:=λp hp=>(aV.mp hp).elim id λ⟨e,h1,h2⟩=>by
  have no:[26]∉af H:=λh=>by have k:=((n _).mpr (s _ h)).2;have t:[17]∈aX (af L):=aV.mpr (.inr ⟨.inr rfl,s _ h1,.inr (s _ h)⟩);unfold bH at k;rw[show fx (aX (af L)) (jW [26])=true from PL t]at k;cases k
  rcases e with rfl|rfl
  ·exact h1
  ·exact h2.resolve_right no
 refine⟨λh=>jL p h.1,λhp=>⟨aV.mpr (.inl hp),?_⟩⟩;have k:=((n p).mpr (s p hp)).2;have le:∀z,fx (aX (af L)) z=false→fx (aX (af H)) z=false:=λz hz=>by
  cases z with
  |none=>rfl
  |some q=>exact PQ λh=>QC hz (sj q h)
 refine U2 (aa k) λk1 k2=>?_;delta bH
 rw[le _ ((Qo _).mp k1),le _ ((Qo _).mp k2)];rfl
theorem Hc(hi:aJ i)(hH:∀j∈H,aJ j∧cw i j=true)(h21:(beq i 21&&H.all cT)=false):qI i H=cB i H:=by
 delta qI cB
 rw[h21,RR];have e:decide ([[i]]∈([[[16]],[[14]]]:List (List Pt)))=(beq i 14||beq i 16):=by
  rw[P7,Qp,or_eq_true,Sa,Sa];constructor
  ·intro h;rcases P4.mp h with h|h
   ·injection h with h;injection h with h;exact .inr h
   ·replace h:=PH.mp h;injection h with h;injection h with h;exact .inl h
  ·rintro (rfl|rfl)
   ·exact mt mh
   ·exact .head _
 rw[e];cases ei:beq i 14||beq i 16 with
 |false=>rfl
 |true=>
  rw[Q6,Q6];clear h21;induction H with
  |nil=>rfl
  |cons j H ih=>rw[List.all_cons,List.all_cons,(m6 hi (hH j mh).1).2.1 ei (hH j mh).2,ih λj h=>hH j (mt h)]
theorem zA(n:Nf L1)(h:∀i∈H,i∈L1)(m:pD i H Z):p∈Z↔p∈match qI i H with|true=>af H|false=>[[i]]:=by
 refine U2 m λz m=>?_;cases e:qI i H with
 |true=>rw[e]at m;exact(m p).trans (my n h)
 |false=>rw[e]at m;subst m;exact RX
theorem H3(n:Nf L1)(hi:aJ i)(h1:aA L1)(m:C7 i L1 Z):p∈Z↔p∈oc L1 i:=by
 refine U2 m λz m=>?_;have hH:∀j∈L1.filter (cw i),aJ j∧cw i j=true:=λj hj=>⟨h1 j (P8.mp hj).1,(P8.mp hj).2⟩
 have hs:∀j∈L1.filter (cw i),j∈L1:=λj hj=>(P8.mp hj).1;delta oc
 generalize L1.filter (cw i)=H at m hH hs;cases H with
 |nil=>rw[show Z=[]from m]
 |cons a H=>
  have m:(match xB i (a::H)with|true=>∀p,p∈Z↔a8 ((a::H).flatMap λj=>cy (bO [i] [j])) p|false=>pD i (a::H) Z):=m;show _↔p∈match cB i (a::H)with|true=>af (a::H)|false=>[[i]]
  generalize e':a::H=H' at m hH hs;cases e:xB i H' with
  |true=>
   rw[e]at m;refine U2 (aa e) λe7 eP=>?_;have f:=λj hj=>(m6 hi (hH j hj).1).1 e7 (hH j hj).2 (P5.mp eP j hj);have i21:i=21:=(f a (by rw[← e'];exact .head _)).1;have c:cB i H'=true:=by delta cB;rw[eP,i21,show(beq 21 21&&true)=true from rfl,RP]
   rw[c];have fm:H'.flatMap (λj=>cy (bO [i] [j]))=af H':=by
    clear e' m hs hH e eP c;induction H' with
    |nil=>rfl
    |cons b H' ih=>rw[QJ,ih λj h=>f j (mt h),(f b mh).2];rfl
   rw[fm]at m;exact(m p).trans (my n hs)
  |false=>
   rw[e]at m;have h21:(beq i 21&&H'.all cT)=false:=Qj.mpr λh=>by refine U2 (aa h) λh1 h2=>?_;have:=PJ h1;subst this;unfold xB at e;rw[h2]at e;exact eg e
   rw[← Hc hi hH h21];exact zA n hs m
variable{k n c:Nat}{Z:List Pt}{L1:List Nat}
def xT(L0 L1:List Nat)(Z:List Pt):Prop:=Z.Nodup∧match decide (L0=[19])with
 |true=>Z=k7 L1
 |false=>∀p,p∈Z↔a8 (L0.flatMap (oc L1)) p
theorem zK(h:aA L):L≠[19]:=λe=>by subst e;exact(h 19 mh).2 rfl
theorem nU(h:aA L):af L≠aS:=λe=>zK h (bR (H:=[19]) e)
theorem eQ{α:Type}{f g:α→Bool}{L:List α}(h:∀i∈L,f i=g i):L.filter f=L.filter g:=List.filter_congr h
theorem Lp(n:Nf L1)(h0:aA L0)(h1:aA L1)(p0:L0.all cT=true)(p1:L1.all cT=true)(r:j3 (λi Z=>pD i (L1.filter (cL i)) Z) (L0.filter (pb L1)) Zs):p∈Zs.flatten↔p∈L0.flatMap (oc L1):=by
 have hs:∀i,∀j∈L1.filter (cL i),j∈L1:=λi j hj=>(P8.mp hj).1;rw[r.mem (Q:=λi p=>p∈match qI i (L1.filter (cL i))with|true=>af (L1.filter (cL i))|false=>[[i]]) λi Z m=>zA n (hs i) m,Qz];have key:∀i∈L0,(pb L1 i=true∧p∈match qI i (L1.filter (cL i))with|true=>af (L1.filter (cL i))|false=>[[i]])↔p∈oc L1 i:=λi hi=>by
  have oi:=h0 i hi;have pi:=P5.mp p0 i hi;have e:L1.filter (cL i)=L1.filter (cw i):=eQ λj hj=>(m6 oi (h1 j hj)).2.2.1 pi (P5.mp p1 j hj);have h21:∀H:List Nat,(beq i 21&&H.all cT)=false:=λH=>Qj.mpr λh=>by have:=PJ (aa h).1;subst this;exact ak pi
  have hH:∀j∈L1.filter (cw i),aJ j∧cw i j=true:=λj hj=>⟨h1 j (P8.mp hj).1,(P8.mp hj).2⟩
  delta pb oc
  rw[e,Hc oi hH (h21 _)];cases L1.filter (cw i)with
  |nil=>exact⟨λh=>(nomatch h.1),λh=>(az h)⟩
  |cons a H=>exact⟨λh=>h.2,λh=>⟨rfl,h⟩⟩
 constructor
 ·rintro ⟨i,hi,h⟩;refine U2 (P8.mp hi) λa b=>?_;exact aB i a ((key i a).mp ⟨b,h⟩)
 ·rintro ⟨i,hi,h⟩;have:=(key i hi).mpr h;exact aB i (P8.mpr ⟨hi,this.1⟩) this.2
theorem LU(h0:aA L0)(h1:aA L1)(n1:(L1.all λj=>nul (fam j))=true):p∈af (L0.filter λi=>nul (fam i)&&L1.any (cL i))↔p∈L0.flatMap (oc L1):=by
 rw[Qd,Qz];have key:∀i∈L0,((nul (fam i)&&L1.any (cL i))=true∧[i]=p)↔p∈oc L1 i:=λi hi=>by
  have oi:=h0 i hi;have e:L1.filter (cw i)=L1.filter λj=>nul (fam i)&&cL i j:=eQ λj hj=>(m6 oi (h1 j hj)).2.2.2 (P5.mp n1 j hj);have c:∀H,nul (fam i)=true→cB i H=false:=λH hn=>by
   have:=aO (f:=λi=>!nul (fam i)||(!(beq i 14||beq i 16) && !beq i 21)) (by decide +kernel) oi.1;rw[hn]at this;refine U2 (aa this) λa b=>?_;delta cB
   rw[(Qo _).mp a,(Qo _).mp b];rfl
  delta oc
  rw[e];cases hn:nul (fam i)with
  |false=>rw[show L1.filter (λj=>false&&cL i j)=[]from filter_eq_nil_iff.mpr λj _ h=>by exact ak h];exact⟨λh=>(nomatch h.1),λh=>(az h)⟩
  |true=>
   have e2:(L1.filter λj=>true&&cL i j)=L1.filter (cL i):=rfl;rw[e2,Q6,QA];cases ef:L1.filter (cL i)with
   |nil=>exact⟨λ⟨⟨j,hj,h⟩,_⟩=>(by have:=P8.mpr ⟨hj,h⟩; rw[ef]at this;exact az this),λh=>(az h)⟩
   |cons a H=>
    have ha:=P8.mp (ef▸List.Mem.head _:a∈L1.filter (cL i));show _↔p∈match cB i (a::H)with|true=>af (a::H)|false=>[[i]]
    rw[c _ hn];exact⟨λh=>h.2▸.head _,λh=>⟨⟨a,ha.1,ha.2⟩,(PH.mp h).symm⟩⟩
 exact⟨λ⟨i,hi,e⟩=>have a:=P8.mp hi;⟨i,a.1,(key i a.1).mp ⟨a.2,e⟩⟩,λ⟨i,hi,h⟩=>have a:=(key i hi).mpr h;⟨i,P8.mpr ⟨hi,a.1⟩,a.2⟩⟩
theorem AS(d:L1.Nodup):(k7 L1).Nodup:=by
 delta k7
 cases kg 6 L1 with
 |true=>exact Qu _ _
 |false=>cases kg 7 L1 with
  |true=>cases (L1.all λj=>beq (fam j) 7) && !(L1.any λj=>beq j 21)<;>exact Qu _ _
  |false=>exact ky d
theorem Jt(hk:k<2)(h0:okN L0)(l0:L0.length≤3)(h1:aA L1)(l1:L1.length≤3)(hne:L1≠[])(n1:Nf L1)(d1:L1.Nodup)(hp:L0≠[19]→(L0.all cT&&L1.all cT)=true∨(L1.all λj=>nul (fam j))=true)(hc:5000≤c)(q:∀Z,aE Z→xT L0 L1 Z→K (KV k w Z) ⟨c-5000,k+1,true,h,o⟩):call (n+17) 53 [.hd .tab k,KV k w (af L0),KV k w (af L1),.bool true] ⟨c,k+1,true,h,o⟩ K:=by
 have u0:=oU h0;have o1:=bq h1;refine own (vs:=(some (.hd .tab k)::some (KV k w (af L0))::some (KV k w (af L1))::some (.bool true)::xf)) rfl rfl hc (by show(V.free (KV k w (af L0))&&(V.free (KV k w (af L1))&&true))=true;rw[b0 hk u0,cv hk o1];rfl) rfl ?_;have done:∀Z,aE Z→xT L0 L1 Z→∀S':St,S'.n=k+1→S'.n=k+1∧V.free (ar S' (KV k w Z))=true∧K (ar S' (KV k w Z)) ⟨c-5000,k+1,true,h,o⟩:=λZ hZ mZ S' hn=>cW hk hZ S' hn (q Z hZ mZ);unfold xT at done;refine bz (aM (y:=KV k w aS) ae ae (jZ hk rfl u0 (.inr rfl))) (λe=>?_) λe=>?_
 ·replace e:=bR (H:=[19]) (PI e);rw[PL e]at done;exact IV (n:=n+2) hk h1 (ag rfl) λhZ=>done _ hZ ⟨AS d1,rfl⟩ _ rfl
 have e0:L0≠[19]:=λe'=>QC e (by rw[e'];rfl);rw[PQ e0]at done;have h0:=h0.resolve_right e0;refine bz (λK q=>Gw (n:=n+2) hk (.inl h1) hne q) (λe=>?_) λe=>?_
 ·exact ED hk h0 h1 (by omega) (nU h0) (ag rfl) λZ nZ hZ mZ=>done Z (.inl hZ) ⟨nZ,λp=>(mZ p).trans (cg λp=>LU h0 h1 e)⟩ _ rfl
 refine U2 (aa ((hp e0).resolve_right λh=>by rw[e]at h;exact ak h)) λp0 p1=>?_;refine e6 (v:=.hd .ref 0) (S':=⟨5000,k+1,true,[.list (([]:List (List Pt)).map (KV k w))],o⟩) ae ?_;refine dE (L:=L0.map (A k w)) (λK q=>cO hk (bq h0) (by rw[gV];exact q)) rfl ?_;refine HR hk h1 (by omega) L0 [] 5000 none none h0 (by show 0+_<60;omega) (BL l0 rfl) λc' Zs x5 x6 hc' r=>?_;refine zB rfl rfl (by
  have:=r.ok;rw[nil_append];clear r;induction Zs with
  |nil=>rfl
  |cons Z Zs ih=>exact QL.mpr ⟨cv hk (this Z mh),ih λZ h=>this Z (mt h)⟩) ?_
 refine fA (Ms:=Zs) hk r.ok ?_ (.inl rfl) (.inl rfl) (w9 hc' l0 rfl) λZ o' nZ hZ mZ=>done Z (.inl hZ) ⟨nZ,λp=>(mZ p).trans (cg λp=>Lp n1 h0 h1 p0 p1 r)⟩ _ rfl;have:=r.sum (m:=5) λi Z m=>zb (PM (QG ..) l1) m;have:=QG (pb L1) L0;omega
theorem IB(hk:k<2)(h0:okN L0)(l0:L0.length≤3)(h1:aA L1)(l1:L1.length≤3)(hne:L1≠[])(n1:Nf L1)(d1:L1.Nodup)(hp:L0≠[19]→(L0.all cT&&L1.all cT)=true∨(L1.all λj=>nul (fam j))=true)(hc:10000≤c)(q:∀Z,aE Z→xT L0 L1 Z→K (KV k w Z) ⟨c-10000,k+1,true,h,o⟩):call (n+18) 55 [.hd .tab k,KV k w (af L0),KV k w (af L1),.bool true,.bool true] ⟨c,k+1,true,h,o⟩ K:=by have u0:=oU h0;have o1:=bq h1;refine own (vs:=(some (.hd .tab k)::some (KV k w (af L0))::some (KV k w (af L1))::some (.bool true)::some (.bool true)::z7)) rfl rfl hc (by show(V.free (KV k w (af L0))&&(V.free (KV k w (af L1))&&true))=true;rw[b0 hk u0,cv hk o1];rfl) rfl ?_;refine dA (b7 (r1:=false) (r2:=false) (bw ae ae (mY hk rfl u0).1) (bw ae ae (by rw[(mY hk rfl (.inl o1)).2,PQ (nU h1)]))) ?_;exact Jt hk h0 l0 h1 l1 hne n1 d1 hp (ag rfl) λZ hZ mZ=>cW hk hZ _ rfl (q Z hZ mZ)
theorem JO(hk:k<2)(h0:okN L0)(l0:L0.length≤3)(h1:aA L1)(l1:L1.length≤3)(hne:L1≠[])(n1:Nf L1)(d1:L1.Nodup)(hc:50000≤c)(q:∀Z,aE Z→xT L0 L1 Z→K (KV k w Z) ⟨c-50000,k+1,true,h,o⟩):call (n+27) 63 [.hd .host k,KV k w (af L0),KV k w (af L1),.bool true,.bool true] ⟨c,k+1,true,h,o⟩ K:=by
 refine wx (n:=n+1) hk h0 (.inl h1) hc ?_;have u0:=oU h0;have o1:=bq h1;refine dA (iX λz q=>q) ?_;refine bz (b7 ae (b7 (r1:=false) ae (b7 (aM (y:=KV k w aS) ae ae (jZ hk rfl u0 (.inr rfl))) (λK q=>Gw (n:=n+12) hk (.inl h1) hne q)))) (λe=>?_) λe=>?_
 ·refine IB (n:=n+8) hk h0 l0 h1 l1 hne n1 d1 (λe0=>?_) (ag rfl) λZ hZ mZ=>cW hk hZ _ rfl (q Z hZ mZ);rw[PQ λe':af L0=aS=>e0 (bR (H:=[19]) e'),QF,QF]at e;exact QW.mp e
 have e0:L0≠[19]:=λe'=>by subst e';rw[show decide (af [19]=aS)=true from rfl,Bool.true_or,RP,RP]at e;exact eg e
 have h0:=h0.resolve_right e0;refine dA (b7 (r1:=false) (r2:=false) (bw ae ae (mY hk rfl u0).1) (bw ae ae (by rw[(mY hk rfl (.inl o1)).2,PQ (nU h1)]))) ?_;refine cO (n:=n+13) hk (bq h0) ?_;rw[gV];refine JA (P:=λi Z=>aJ i∧C7 i L1 Z) (d:=9000) (cl:=call (n+26)) (w:=w) (j:=1) (elt:=.cl 61 [.v 3,.v 1,.v 4,.v 5]) (vs:=[none,none,none,some (.hd .host k),some (KV k w (af L1)),some (.bool true)]) (g:=A k w) L0 _ 50000 _ (λz=>rfl) (BL l0 rfl) (λi hi c hc K q=>Kw (n:=n+1) hk (h0 i hi) h1 l1 hc λZ hZ m=>q Z hZ ⟨h0 i hi,m⟩) λc' Zs hc' r=>?_;refine fA (n:=n+11) (Ms:=Zs) hk r.ok ?_ (.inl rfl) (.inl rfl) (w9 hc' l0 rfl) λZ o' nZ hZ mZ=>cW hk (.inl hZ) _ rfl (q Z (.inl hZ) ?_)
 ·have:=r.sum (m:=5) λi Z m=>?_
  ·omega
  refine U3 m λz nZ m=>?_;have le:(L1.filter (cw i)).length≤3:=PM (QG ..) l1;generalize L1.filter (cw i)=H at m le;cases H with
  |nil=>rw[show Z=[]from m];exact Qc _
  |cons a H=>
   have m:(match xB i (a::H)with|true=>∀p,p∈Z↔a8 ((a::H).flatMap λj=>cy (bO [i] [j])) p|false=>pD i (a::H) Z):=m;cases e:xB i (a::H)with
   |true=>
    rw[e]at m;refine PM (cV nZ λp hp=>((m p).mp hp).1) (PM sx ?_);have:∀H:List Nat,(H.flatMap λj=>cy (bO [i] [j])).length≤H.length:=λH=>by
     induction H with
     |nil=>exact Qi _
     |cons b H ih=>rw[QJ,PX,Qf];have:=jF (bO [i] [b]);exact ug this ih
    have:=this (a::H);omega
   |false=>rw[e]at m;exact zb le m
 ·delta xT
  rw[PQ e0];refine⟨nZ,?_⟩;exact λp=>(mZ p).trans (cg λp=>(r.mem (Q:=λi p=>p∈oc L1 i) λi Z m=>H3 n1 m.1 h1 m.2).trans Qz.symm)
end
noncomputable def qw(i:Nat):Bool:=!([0,1,3,11,12,13,18,20,22,23]:List Nat).contains i
noncomputable def GC(i:Nat):Bool:=!([2,4,5,6,7,8,9,10,15,17,24,25,26]:List Nat).contains i
noncomputable def uR(b:Bool)(i:Nat):List Pt:=match b with|true=>[[i]]|false=>[]
noncomputable def Ah(i:Nat):List Pt:=match beq i 19 with|true=>[[21]]|false=>uR (qw i) i
noncomputable def Ad(i:Nat):List Pt:=match beq i 19 with|true=>[[21]]|false=>uR (!nul (fam i)) i
noncomputable def sA(i:Nat):List Pt:=match beq i 16 with|true=>[[11]]|false=>uR (GC i) i
section
variable{k n c d:Nat}{p:Pt}{Z:List Pt}{i:Nat}{L:List Nat}
theorem wU(hi:aJ i):aH (uR b i):=by
 cases b with
 |true=>exact λp hp=>PH.mp hp▸cb hi
 |false=>exact λz h=>az h
theorem tW:(uR b i).length≤1:=by
 cases b with
 |true=>exact Qi _
 |false=>exact Qc _
theorem tU{F:Nat→List Pt}(e:prog[f]?=some ⟨2,4,[],.own c0 false,[.ret (.cl 11 [.v 0,.comp [none,none,none,some 0] 1 (.cl 5 [.v 0,.v 1]) [] (.cl g [.v 3,.v 1])])]⟩)(hk:k<2)(hL:aA L)(hl:L.length<50)(hg:∀i∈L,∀c,d≤c→∀K:V→St→Prop,K (KV k w (F i)) (sk k [] o (c-d))→call (n+15) g [.hd .tab k,A k w i] (sk k [] o c) K)(hF:∀i∈L,aH (F i)∧(F i).length≤1)(hd:L.length*d+1≤c0)(hc:c0≤c)(q:∀Z,Z.Nodup→aH Z→(∀p,p∈Z↔a8 (L.flatMap F) p)→K (KV k w Z) ⟨c-c0,k+1,true,h,o⟩):call (n+16) f [.hd .tab k,KV k w (af L)] ⟨c,k+1,true,h,o⟩ K:=by refine own (vs:=[some (.hd .tab k),some (KV k w (af L)),none,none]) e rfl hc (gf rfl (cv hk (bq hL))) rfl ?_;refine cO (n:=n+2) hk (bq hL) ?_;rw[gV];refine JA (P:=λi Z=>i∈L∧Z=F i) (d:=d) (cl:=call (n+15)) (w:=w) (j:=1) (elt:=.cl g [.v 3,.v 1]) (vs:=[none,none,none,some (.hd .tab k)]) (g:=A k w) L _ c0 _ (λz=>rfl) (uu hd) (λi hi c hc K q=>hg i hi c hc K (q _ (hF i hi).1 ⟨hi,rfl⟩)) λc' Zs hc' r=>?_;have s:=j3.sum (P:=λi Z=>i∈L∧Z=F i) (m:=1) (λi Z m=>by rw[m.2];exact(hF i m.1).2) r;refine fA (Ms:=Zs) hk r.ok (by omega) (.inl rfl) (.inl rfl) (KO hc' hd) λZ o' nZ hZ mZ=>cW hk (.inl hZ) _ rfl (q Z nZ hZ λp=>(mZ p).trans (cg λp=>(r.mem (Q:=λi p=>p∈F i) λi Z m=>by rw[m.2]).trans Qz.symm))
theorem MP(hk:k<2)(hi:i<27)(hc:200≤c)(q:K (KV k w (Ah i)) ⟨c-200,k+1,true,h,o⟩):call (n+13) 40 [.hd .tab k,A k w i] ⟨c,k+1,true,h,o⟩ K:=fV (g:=λk w i=>KV k w (Ah i)) rfl rfl (by kernel_rfl) hk hi hc q
theorem MY(hk:k<2)(hi:i<27)(hc:200≤c)(q:K (KV k w (Ad i)) ⟨c-200,k+1,true,h,o⟩):call (n+13) 37 [.hd .tab k,A k w i] ⟨c,k+1,true,h,o⟩ K:=fV (g:=λk w i=>KV k w (Ad i)) rfl rfl (by kernel_rfl) hk hi hc q
theorem Ae{F:Nat→List Pt}{b:Nat→Bool}(h:∀i∈L,F i=uR (b i) i):L.flatMap F=af (L.filter b):=by
 induction L with
 |nil=>rfl
 |cons i L ih=>
  rw[QJ,h i mh,ih λj hj=>h j (mt hj)];cases e:b i with
  |true=>rw[Ra e];rfl
  |false=>rw[Rb (by rw[e];decide)];rfl
theorem H2(hk:k<2)(hL:aA L)(l3:L.length≤3)(nL:Nf L)(hc:6000≤c)(q:∀Z,Z.Nodup→aE Z→(∀p,p∈Z↔p∈af (L.filter qw))→K (KV k w Z) ⟨c-6000,k+1,true,h,o⟩):call (n+18) 60 [.hd .host k,KV k w (af L),.bool true] ⟨c,k+1,true,h,o⟩ K:=by
 have oL:=bq hL;refine own (vs:=[some (.hd .host k),some (KV k w (af L)),some (.bool true),none]) rfl rfl hc (by show(V.free (KV k w (af L))&&true)=true;rw[cv hk oL];rfl) rfl ?_;refine mS (v:=.nul) hk (.inl oL) ?_;refine own (vs:=(some (.hd .tab k)::some (KV k w (af L))::some (.bool true)::z3)) rfl rfl (ag rfl) (by show(V.free (KV k w (af L))&&true)=true;rw[cv hk oL];rfl) rfl ?_;refine dA ae ?_;have s1:∀p,a8 (L.flatMap Ah) p↔p∈af (L.filter qw):=λp=>by rw[Ae (b:=qw) λi hi=>by delta Ah;rw[lP (hL i hi)]];exact my nL λi hi=>(P8.mp hi).1
 refine tU (n:=n) (d:=200) (F:=Ah) rfl hk hL (by omega) (λi hi c hc K q=>MP (n:=n+2) hk (hL i hi).1 hc q) (λi hi=>by delta Ah;rw[lP (hL i hi)];exact⟨wU (hL i hi),tW⟩) (A6 l3 rfl) (ag rfl) λZ nZ hZ mZ=>?_;obtain⟨H,rfl,hH⟩:=Ai λp hp=>by refine X2 (Qd.mp ((s1 p).mp ((mZ p).mp hp))) λi hi e=>?_;exact aB i e.symm (hL i (P8.mp hi).1)
 have mH:∀i,i∈H↔i∈L.filter qw:=λi=>by rw[← aL,mZ,s1,aL]
 have lH:H.length≤3:=by have:=cV nZ λp hp=>(s1 p).mp ((mZ p).mp hp);rw[PS,PS]at this;exact PM this (PM (QG ..) l3)
 refine tU (n:=n) (d:=200) (F:=Ad) rfl hk hH (by omega) (λi hi c hc K q=>MY (n:=n+2) hk (hH i hi).1 hc q) (λi hi=>by delta Ad;rw[lP (hH i hi)];exact⟨wU (hH i hi),tW⟩) (A6 lH rfl) (ag rfl) λZ nZ hZ mZ=>?_;have nn:∀i∈H,Ad i=uR true i:=λi hi=>by
  have ht:=(P8.mp ((mH i).mp hi)).2;have:=aO (f:=λi=>!qw i || !nul (fam i)) (by decide +kernel) (hH i hi).1;rw[ht]at this;delta Ad
  rw[lP (hH i hi)];show uR (!nul (fam i)) i=_;rw[show(!nul (fam i))=true from this]
 have fin:∀p,p∈Z↔p∈af (L.filter qw):=λp=>by rw[mZ,Ae (b:=λz=>true) nn,filter_eq_self.mpr λz z=>rfl];rw[my nL λi hi=>(P8.mp ((mH i).mp hi)).1];rw[Qd,Qd];exact RE λi=>RL λz=>mH i
 have:=cW (c:=6000) (c0:=5000) (h:=[]) (o:=o) (K:=λv S'=>S'.n=k+1∧V.free (ar S' v)=true∧K (ar S' v) ⟨c-6000,k+1,true,h,o⟩) hk (.inl hZ) ⟨5000-2100-2100,k+1,true,[],o⟩ rfl (cW hk (.inl hZ) _ rfl (q Z nZ (.inl hZ) fin));exact this
variable{b:Bool}{j:Nat}
theorem Fy(hk:k<2)(hL:aA L)(l3:L.length≤3)(hc:6000≤c)(q:∀Z,Z.Nodup→aE Z→(∀p,p∈Z↔a8 (L.flatMap sA) p)→K (KV k w Z) ⟨c-6000,k+1,true,h,o⟩):call (n+18) 60 [.hd .host k,KV k w (af L),.bool false] ⟨c,k+1,true,h,o⟩ K:=by
 have oL:=bq hL;refine own (vs:=[some (.hd .host k),some (KV k w (af L)),some (.bool false),none]) rfl rfl hc (by show(V.free (KV k w (af L))&&true)=true;rw[cv hk oL];rfl) rfl ?_;refine mS (v:=.nul) hk (.inl oL) ?_;refine own (vs:=(some (.hd .tab k)::some (KV k w (af L))::some (.bool false)::z3)) rfl rfl (ag rfl) (by show(V.free (KV k w (af L))&&true)=true;rw[cv hk oL];rfl) rfl ?_;have ok:∀i,aJ i→aH (sA i)∧(sA i).length≤1:=λi hi=>by
  delta sA
  cases beq i 16 with
  |true=>exact⟨λp hp=>PH.mp hp▸cb (by decide),Qi _⟩
  |false=>exact⟨wU hi,tW⟩
 refine tU (n:=n) (d:=1) (F:=sA) rfl hk hL (by omega) (λi hi c hc K q=>fV (n:=n+2) (c0:=1) (g:=λk w i=>KV k w (sA i)) rfl rfl (by kernel_rfl) hk (hL i hi).1 hc q) (λi hi=>ok i (hL i hi)) (A6 l3 rfl) (ag rfl) λZ nZ hZ mZ=>?_;exact cW (c:=6000) (c0:=5000) (h:=[]) (o:=o) (K:=λv S'=>S'.n=k+1∧V.free (ar S' v)=true∧K (ar S' v) ⟨c-6000,k+1,true,h,o⟩) hk (.inl hZ) ⟨5000-20,k+1,true,[],o⟩ rfl (cW hk (.inl hZ) _ rfl (q Z nZ (.inl hZ) mZ))
theorem Dt(hk:k<2)(hc:6000≤c)(q:K (KV k w (match b with|true=>[[21]]|false=>aS)) ⟨c-6000,k+1,true,h,o⟩):call (n+13) 60 [.hd .host k,KV k w aS,.bool b] ⟨c,k+1,true,h,o⟩ K:=by have e:=QE.mp (show W4.map (λp=>jB kJ 6000 [.hd .host p.1,A p.1 p.2 19,.bool b] p.1 true o)=W4.map λp=>some (KV p.1 p.2 (match b with|true=>[[21]]|false=>aS))by cases b<;>kernel_rfl) _ (C3 (w:=w) hk);exact run rfl rfl rfl e hc q
noncomputable def u9(j:Nat):Bool:=un j && !(beq j 13||beq j 18)
theorem JY(hk:k<2)(hj:j<27)(hu:u9 j=true)(hc:50000≤c)(q:K (KV k w aS) ⟨c-50000,k+1,true,h,o⟩):call (n+13) 63 [.hd .host k,KV k w aS,A k w j,.bool false,.bool true] ⟨c,k+1,true,h,o⟩ K:=by have e:=uY (f:=λk w j=>match u9 j with|true=>jB iq 50000 [.hd .host k,A k w 19,A k w j,.bool false,.bool true] k true o|false=>none) (g:=λk w j=>match u9 j with|true=>some (KV k w aS)|false=>none) (by kernel_rfl) (w:=w) hk hj;simp only[hu]at e;exact run rfl rfl (by show(V.free (A k w j)&&true)=true;rw[b4 hk hj];rfl) e hc q
end
noncomputable def nm(i:Nat):List Nat:=([[48],[69,46,65],[69,46,66],[70,46,65],[86],[87],[88],[89],[90],[97],[98],[101],[102,97,108,115,101],[110,117,108,108],[110,117,109,98,101,114],[111,98,106,101,99,116],[115,116,114,105,110,103],[116,114,117,101],[117,110,100,101,102,105,110,101,100],[117,110,107,110,111,119,110],[118,111,105,100],[123,125],[126,48],[126,69,46,65],[126,88],[126,97],[126,116,114,117,101]]:List (List Nat)).getD i []
noncomputable abbrev NV(i:Nat):V:=.str (nm i)
noncomputable def dy(p:Pt):List Nat:=bL [38] (p.map nm)
noncomputable abbrev PN(p:Pt):V:=.str (dy p)
noncomputable def pl(i:Nat):Nat:=(cH i).getD i
abbrev aj(L:List Nat):Prop:=∀i∈L,i<27
section
variable{m n:Nat}{x:V}{i j:Nat}{S:St}{M:List Nat}
theorem dP(hi:i<27)(hj:j<27):cj (nm i) (nm j)=beq i j∧(ble i j=true→aZ (nm i) (nm j)=true)∧(nm i).contains 38=false:=by have:=aO (aO (f:=λi=>bQ.all λj=>(cj (nm i) (nm j)==beq i j)&&((!ble i j||aZ (nm i) (nm j)) && !(nm i).contains 38)) (by decide +kernel) hi) hj;refine U2 (aa this) λh1 h2=>?_;refine U2 (aa h2) λh2 h3=>?_;exact⟨eq_of_beq h1,λh=>by rw[h]at h2;exact h2,(Qo _).mp h3⟩
theorem B4(hi:i<27)(hj:j<27)(e:nm i=nm j):i=j:=PJ (by rw[← (dP hi hj).1];exact bk.mpr e)
theorem GU(hi:i<27)(hj:j<27)(e:aZ (nm i) (nm j)=true):i≤j:=by
 rcases Nat.le_total i j with h|h
 ·exact h
 ·exact le_of_eq (B4 hi hj (dW _ _ e ((dP hj hi).2.1 (RS h))))
theorem qk{ss:List (List Nat)}(hx:x=.ls (ss.map .str)∨x=.tp (ss.map .str)):bX S (.str s) x=some (ss.any λt=>cj t s):=by
 have d:V.datL false false (S.n-1) (ss.map .str) 8=true:=by
  clear hx;induction ss with
  |nil=>rfl
  |cons t ss ih=>exact ih
 have e:bX S (.str s) x=match((true&&true&&V.datL false false (S.n-1) (ss.map .str) 8)||(true&&true&&V.datL true false (S.n-1) (ss.map .str) 8))with|true=>some ((ss.map V.str).any λy=>V.beq y (.str s))|false=>none:=by rcases hx with rfl|rfl<;>rfl
 rw[e,d,any_map];rfl
theorem cI(hi:i<27)(hL:aj L)(hx:x=.ls (L.map NV)∨x=.tp (L.map NV)):bX S (NV i) x=some (L.contains i):=by
 have e:(L.map nm).map V.str=L.map NV:=by rw[QR];rfl
 rw[qk (ss:=L.map nm) (by rw[e];exact hx),any_map];refine Qb some ?_;rw[P7,QA,PR];exact⟨λ⟨j,hj,e⟩=>B4 (hL j hj) hi (bk.mp e)▸hj,λh=>⟨i,h,bk.mpr rfl⟩⟩
theorem Js{α:Type}{f g:Nat→Nat→α}(h:(List.range 3).map (λm=>bQ.map λi=>f m i)=(List.range 3).map λm=>bQ.map λi=>g m i){m i:Nat}(hm:m<3)(hi:i<27):f m i=g m i:=QE.mp (QE.mp h _ (QM.mpr hm)) i (fJ hi)
theorem cz(hm:m<3)(hi:i<27)(q:K (NV (pl i)) ⟨c,m,l,h,o⟩):call (n+13) 65 [NV i] ⟨c,m,l,h,o⟩ K:=run rfl rfl rfl (Js (f:=λm i=>qV o5 0 [NV i] m l o) (g:=λz i=>some (NV (pl i))) (by kernel_rfl) hm hi) (Qc _) q
theorem fq(hi:i<27):pl i<27:=PI (aO (f:=λi=>decide (pl i<27)) (by decide +kernel) hi)
theorem Aw(hi:i<27)(hj:j<27):cq S (NV i) (NV j)=some (beq i j):=by rw[← (dP hi hj).1];rfl
theorem H7(hL:aj L)(hl:L.length<64)(hx:bT S x=some (L.map NV))(q:∀M:List Nat,M.Perm L→M.Pairwise (λi j=>i≤j)→K (.ls (M.map NV)) S):(eD .sorted x S).run pA K:=by
 have e1:∀L:List Nat,cK (L.map NV)=some (L.map nm):=λL=>by
  induction L with
  |nil=>rfl
  |cons i L ih=>show(cK (L.map NV)).map (nm i :: ·)=_;rw[ih];rfl
 delta eD
 dsimp only;rw[hx];show(eG (L.map NV) S).run pA K;delta eG
 rw[PS,PL hl,e1];refine X2 (iT (f:=nm) (l:=L) (iE aZ (L.map nm))) λM e hp=>?_;show K (.ls ((fY aZ (L.map nm)).map .str)) S;rw[← e,QR];have sM:(M.map nm).Pairwise (λa b=>aZ a b=true):=e▸gi i9 fg _;refine q M hp ((Rp.mp sM).imp_of_mem λhi hj h=>GU (hL _ (hp.mem_iff.mp hi)) (hL _ (hp.mem_iff.mp hj)) h)
theorem g5{L M:List Nat}(h1:L.Pairwise (· < ·))(h2:M.Pairwise (· < ·))(e:∀i,i∈L↔i∈M):L=M:=by have nd:∀{L:List Nat},L.Pairwise (· < ·)→L.Nodup:=λh=>h.imp λh=>Q9 h;exact Rd (le:=(· < ·)) (λa b _ _ x y=>absurd x (Nat.lt_asymm y)) h1 h2 ((Rv (nd h1) (nd h2)).mpr e)
end
noncomputable def gR(i:Nat):List Nat:=([[48],[69,46,65],[69,46,66],[70,46,65],[97],[98],[101],[102,97,108,115,101],[110],[110,117,108,108],[115],[116,114,117,101],[117,110,100,101,102,105,110,101,100],[118],[118,122],[120],[120,122],[121],[121,122],[122]]:List (List Nat)).getD i []
noncomputable abbrev PT(i:Nat):V:=.str (gR i)
noncomputable def aP(i:Nat):List Nat:=([[0],[1],[2],[3],[13,14],[15,13,17,16,14,18],[15,13,16,14],[17,18],[16,14,18,19],[4],[5],[6],[7],[9],[0,1,3,8],[15,13,17,16,14,18,19],[6,4,5,2,10],[11],[12],[6,4,5,2,10,0,1,3,8,7,11,15,13,17,16,14,18,19,12,9],[12],[6,4,5,2,10,0,1,3,8,7,11,15,13,17,16,14,18,19],[0],[1],[15,13,16,14],[4],[11]]:List (List Nat)).getD i []
noncomputable def CM:List (V×V):=[(jm,.ls ([6,4,5,2,10].map PT)),(kF,.ls ([0,1,3,8].map PT)),(.str [118,111,105,100],.ls ([12].map PT)),(.str [88],.ls ([15,13,16,14].map PT)),(.str [89],.ls ([17,18].map PT)),(.str [86],.ls ([13,14].map PT)),(.str [87],.ls ([15,13,17,16,14,18].map PT)),(.str [90],.ls ([16,14,18,19].map PT)),(rj,.ls ([15,13,17,16,14,18,19].map PT)),(.str [123,125],.ls ([6,4,5,2,10,0,1,3,8,7,11,15,13,17,16,14,18,19].map PT)),(qz,.ls ([6,4,5,2,10,0,1,3,8,7,11,15,13,17,16,14,18,19,12,9].map PT))]
noncomputable def fh(p:Pt):List Nat:=match p with|[]=>[]|i::_=>(aP i).filter λx=>p.all λi=>(aP i).contains x
section
variable{p:Pt}{i j y:Nat}{S:St}
theorem KX(hi:i<20)(hj:j<20)(e:gR i=gR j):i=j:=by
 have h:((List.range 20).all λi=>(List.range 20).all λj=>!cj (gR i) (gR j)||beq i j)=true:=by decide +kernel
 have:=P5.mp (P5.mp h i (QM.mpr hi)) j (QM.mpr hj);rw[bk.mpr e]at this;exact PJ this
theorem MR(hi:i<20)(hj:j<20)(e:aZ (gR i) (gR j)=true):i≤j:=by
 have h:((List.range 20).all λi=>(List.range 20).all λj=>!aZ (gR i) (gR j)||ble i j)=true:=by decide +kernel
 have:=P5.mp (P5.mp h i (QM.mpr hi)) j (QM.mpr hj);rw[e]at this;exact P6 this
abbrev gU(L:List Nat):Prop:=∀i∈L,i<20
theorem sg(hi:i<20)(hL:gU L)(hx:bT S x=some (L.map PT)):bX S (PT i) x=some (L.contains i):=by
 have e:bX S (PT i) x=bX S (PT i) (.ls (L.map PT)):=by
  delta bX bu
  rw[hx];cases x<;>first|rfl|exact ah hx
 have e2:(L.map gR).map V.str=L.map PT:=by rw[QR];rfl
 rw[e,qk (ss:=L.map gR) (.inl (by rw[e2])),any_map];refine Qb some ?_;rw[P7,QA,PR];exact⟨λ⟨j,hj,e⟩=>KX (hL j hj) hi (bk.mp e)▸hj,λh=>⟨i,h,bk.mpr rfl⟩⟩
theorem se(hi:i<27):gU (aP i):=λx hx=>PI (P5.mp (aO (f:=λi=>(aP i).all λx=>decide (x<20)) (by decide +kernel) hi) x hx)
theorem D4(hi:i<27):(aP i).Nodup:=PI (aO (f:=λi=>decide (aP i).Nodup) (by decide +kernel) hi)
theorem qS(hp:p≠[]):y∈fh p↔∀i∈p,y∈aP i:=by
 match p,hp with
 |i::p,_=>show y∈(aP i).filter _↔_;rw[P8,P5];exact⟨λh j hj=>PR.mp (h.2 j hj),λh=>⟨h i mh,λj hj=>PR.mpr (h j hj)⟩⟩
theorem zV(hp:aj p):gU (fh p)∧(fh p).Nodup:=by
 match p,hp with
 |[],_=>exact⟨λz h=>(az h),R9⟩
 |i::p,hp=>exact⟨λx hx=>se (hp i mh) x (P8.mp hx).1,(D4 (hp i mh)).filter _⟩
theorem yP{s:List Nat}:∀{t:List Nat},t.contains 38=false→a9 38 (t++38::s)=t::a9 38 s:=by
 intro t;induction t with
 |nil=>exact @λz=>rfl
 |cons a t ih_=>
  exact @λh=>by
   have h':a≠38∧t.contains 38=false:=by rw[contains_cons,Rz]at h;exact⟨λe=>by rw[e]at h;exact(nomatch h.1),h.2⟩
   show(match beq a 38 with|true=>[]::a9 38 (t++38::s)|false=>match a9 38 (t++38::s)with|w::ws=>(a::w)::ws|[]=>[[a]])=_;rw[show beq a 38=false from Qj.mpr λe=>h'.1 (PJ e),ih_ h'.2]
theorem yN:∀{t:List Nat},t.contains 38=false→a9 38 t=[t]:=by
 intro t;induction t with
 |nil=>exact @λz=>rfl
 |cons a t ih_=>
  exact @λh=>by
   have h':a≠38∧t.contains 38=false:=by rw[contains_cons,Rz]at h;exact⟨λe=>by rw[e]at h;exact(nomatch h.1),h.2⟩
   show(match beq a 38 with|true=>[]::a9 38 t|false=>match a9 38 t with|w::ws=>(a::w)::ws|[]=>[[a]])=_;rw[show beq a 38=false from Qj.mpr λe=>h'.1 (PJ e),ih_ h'.2]
theorem wY:∀{p:Pt},p≠[]→aj p→a9 38 (dy p)=p.map nm
 |[i],_,hp=>yN (dP (hp i mh) (hp i mh)).2.2
 |i::j::p,_,hp=>by show a9 38 (nm i++[38]++dy (j::p))=_;rw[QK];exact(yP (dP (hp i mh) (hp i mh)).2.2).trans (Qb (nm i :: ·) (wY (λh=>nomatch h) λk hk=>hp k (mt hk)))
noncomputable def lE(i:Nat):V:=(aC (NV (pl i)) CM).getD (.ls [NV (pl i)])
theorem zr(hi:i<27):lE i=.ls ((aP i).map PT):=QE.mp (show bQ.map lE=bQ.map λi=>.ls ((aP i).map PT)by rfl) i (fJ hi)
variable{m n:Nat}
theorem wN(hi:i<27):(nm i).length≤9:=PI (aO (f:=λi=>decide ((nm i).length≤9)) (by decide +kernel) hi)
theorem EZ(hp:p≠[])(lp:aj p)(hl:p.length≤60)(q:K (.ls (p.map NV)) S):(xJ (PN p) [.str [38]] S).run pA K:=by show(eM (true&&decide ((a9 38 (dy p)).length≤aD)&&(a9 38 (dy p)).all λx=>decide (x.length≤aD)) (.ret (.ls ((a9 38 (dy p)).map .str)) S)).run pA K;rw[wY hp lp,PS,PL (PM hl (ag rfl:60≤aD)),all_map,show p.all ((λx=>decide (x.length≤aD))∘nm)=true from P5.mpr λi hi=>PL (PM (wN (lp i hi)) (ag rfl:9≤aD)),QR];exact q
theorem Ct(hm:m<3)(hp:p≠[])(lp:aj p)(hl:p.length≤60)(q:K (.ls ((fh p).map PT)) ⟨c,m,l,h,o⟩):call (n+14) 66 [PN p] ⟨c,m,l,h,o⟩ K:=by
 refine own (vs:=(some (PN p)::z4)) rfl rfl (Qc _) rfl rfl ?_;refine ay (v:=.ls (([6,4,5,2,10,0,1,3,8,7,11,15,13,17,16,14,18,19]:List Nat).map PT)) ae ?_;refine e6 (v:=.hd .ref 0) (S':=⟨0,m,l,[.dict CM],o⟩) ae ?_;refine ay (v:=.ls (p.map lE)) (λK q=>EZ hp lp hl (dw (cl:=call (n+13)) (j:=1) (elt:=.me .get (.v 3) [.cl 65 [.v 1],.list false [.cl 65 [.v 1]]]) (ok:=λz=>true) (S:=⟨0,m,l,[.dict CM],o⟩) (vs:=[none,none,none,some (.hd .ref 0)]) (g:=NV) (f:=lE) rfl (λi hi K q=>cz hm (lp i hi) (cz hm (lp i hi) q)) q)) ?_;match p,hp,lp,q with
 |i::p,_,lp,q=>
  have li:=lp i mh;refine gY (v:=.ls ((fh (i::p)).map PT)) (λK q=>?_) ⟨rfl,?_,q⟩
  ·show aq pA (dY _ (lE i)) _;rw[zr li];refine eO (cl:=call (n+13)) (j:=1) (e:=.k .eq (.p .len [.comp [none,none,some 1] 1 (.v 3) [.k .notin (.v 2) (.v 1)] (.v 1)]) (.i 0)) (elt:=.v 1) (ok:=λz=>true) (S:=⟨0,m,l,[.dict CM],o⟩) (vs:=[none,none,none,some (.ls ((i::p).map lE))]) (g:=PT) (f:=PT) (b:=λx=>(i::p).all λi=>(aP i).contains x) (L:=aP i) rfl (λx hx K q=>?_) (λz z z z q=>q) q;have lx:=se li x hx;generalize i::p=p' at lp q;refine eO (cl:=call (n+13)) (j:=1) (e:=.k .notin (.v 2) (.v 1)) (elt:=.v 1) (ok:=λz=>true) (S:=⟨0,m,l,[.dict CM],o⟩) (vs:=[none,none,some (PT x)]) (g:=lE) (f:=lE) (b:=λi=>!(aP i).contains x) (L:=p') rfl (λi hi=>ju (x:=PT x) (y:=lE i) ae ae (by rw[zr (lp i hi)];exact sg lx (se (lp i hi)) rfl)) (λz z z z q=>q) ?_;refine of_eq (b:=decide (((((p'.filter λi=>!(aP i).contains x).map lE).length:Nat):Int)=0)) ?_ q;rw[PS,P7,Qp,P5];rw[show(((p'.filter λi=>!(aP i).contains x).length:Nat):Int)=0↔(p'.filter λi=>!(aP i).contains x)=[]from Int.ofNat_eq_zero.trans List.length_eq_zero_iff,filter_eq_nil_iff];exact RG λi=>RG λz=>by cases (aP i).contains x<;>decide
  ·have:∀L:List Nat,V.freeL (L.map PT)=true:=λL=>by
    induction L with
    |nil=>rfl
    |cons _ L ih=>exact ih
   exact this _
variable{h:List O}{T:List Pt}{M:List Nat}
theorem mW(L:List Nat):V.freeL (L.map PT)=true:=by
 induction L with
 |nil=>rfl
 |cons _ L ih=>exact ih
theorem qT(h:gU L)(nd:L.Nodup):L.length≤20:=by have:=cV (m:=List.range 20) nd λx hx=>QM.mpr (h x hx);rwa [R2]at this
abbrev kc(p:Pt):Prop:=p≠[]∧aj p∧p.length≤60
theorem GF{S:St}{A:List V}{K:KF}(ho:Gv cl eo vs S (.hd .ref 0))(hi:S.h[0]?=some (.list A))(he:Gv cl e vs S (.ls B))(hl:A.length+B.length≤aD)(q:ao pA cl ss vs (S.set 0 (.list (A++B))) K):ao pA cl (.expr (.me .extend eo [e])::ss) vs S K:=by refine ho _ ?_;show iff pA (bI S (.hd .ref 0)).isSome _;rw[iO hi];refine he _ ?_;show(ct (bI S (.hd .ref 0)) _).run pA _;rw[iO hi];show(eM (decide (A.length+B.length≤aD)) _).run pA _;rw[PL hl];exact q
noncomputable abbrev Nu:List Kk.S:=[.expr (.me .extend (.v 1) [.comp [none,none,some 1] 1 (.cl 66 [.v 2]) [.k .notin (.v 1) (.v 2)] (.v 1)])]
theorem CX{K:KF}(hm:m<3):∀(T:List Pt)(out:List Nat)(x2:Option V),(∀p∈T,kc p)→gU out→out.Nodup→(∀out' x2,gU out'→out'.Nodup→(∀y,y∈out'↔y∈out∨∃p∈T,y∈fh p)→K .next [some t,some (.hd .ref 0),x2,none,none] ⟨0,m,l,[.list (out'.map PT)],o⟩)→bW pA (λz=>true) (ao pA (call (n+14)) Nu) 2 (T.map PN) [some t,some (.hd .ref 0),x2,none,none] ⟨0,m,l,[.list (out.map PT)],o⟩ K:=by
 intro T;induction T with
 |nil=>exact λout x2 z lo no q=>q out x2 lo no λy=>⟨.inl,λh=>h.resolve_right λ⟨_,h,_⟩=>az h⟩
 |cons p T ih_=>
  exact λout x2 hT lo no q=>by
   refine U3 (hT p mh) λh1 h2 h3=>?_;refine U2 (zV h2) λlp np=>?_;have lF:gU ((fh p).filter λy=>!out.contains y):=λy hy=>lp y (P8.mp hy).1;have nF:((fh p).filter λy=>!out.contains y).Nodup:=np.filter _;refine GF (A:=out.map PT) (B:=((fh p).filter λy=>!out.contains y).map PT) ae rfl (λK q=>Ct hm h1 h2 h3 ?_) ?_ ?_
   ·exact eO (cl:=call (n+14)) (j:=1) (e:=.k .notin (.v 1) (.v 2)) (elt:=.v 1) (ok:=λz=>true) (S:=⟨0,m,l,[.list (out.map PT)],o⟩) (vs:=[none,none,some (.hd .ref 0)]) (g:=PT) (f:=PT) (b:=λy=>!out.contains y) rfl (λy hy=>ju (x:=PT y) (y:=.hd .ref 0) ae ae (sg (lp y hy) lo rfl)) (λz z z z q=>q) q
   ·rw[PS,PS];exact PM (Q2 (qT lo no) (qT lF nF)) (ag rfl:20+20≤aD)
   ·have e:out.map PT++((fh p).filter λy=>!out.contains y).map PT=(out++(fh p).filter λy=>!out.contains y).map PT:=QY.symm;show bW pA (λz=>true) (ao pA (call (n+14)) Nu) 2 (T.map PN) [some t,some (.hd .ref 0),some (PN p),none,none] ⟨0,m,l,[.list (out.map PT++((fh p).filter λy=>!out.contains y).map PT)],o⟩ K;rw[e];have mem:∀y,y∈(out++(fh p).filter λy=>!out.contains y)↔y∈out∨y∈fh p:=λy=>by
     rw[Qe,P8,Qo,← Bool.not_eq_true,PR];exact⟨λh=>h.imp_right (·.1),λh=>(Decidable.em (y∈out)).elim .inl λn=>.inr ⟨h.resolve_left n,n⟩⟩
    refine ih_ _ _ (λp h=>hT p (mt h)) (λy hy=>((mem y).mp hy).elim (lo y) (lp y)) ?_ λout' x2 l' n' m'=>q out' x2 l' n' λy=>?_
    ·exact nodup_append.mpr ⟨no,nF,λa ha b hb e=>by subst e;have:=(P8.mp hb).2;rw[PR.mpr ha]at this;exact ak this⟩
    ·rw[m',mem,or_assoc];refine RK ⟨λh=>h.elim (λh=>⟨p,.head _,h⟩) λ⟨p',h,q⟩=>⟨p',mt h,q⟩,λ⟨p',h,q⟩=>(P4.mp h).elim (λe=>.inl (e▸q)) λh=>.inr ⟨p',h,q⟩⟩
theorem H4(hL:gU L)(nL:L.Nodup)(hx:bT S x=some (L.map PT))(q:∀M:List Nat,M.Pairwise (· < ·)→(∀i,i∈M↔i∈L)→K (.ls (M.map PT)) S):(eD .sorted x S).run pA K:=by
 have e1:∀L:List Nat,cK (L.map PT)=some (L.map gR):=λL=>by
  induction L with
  |nil=>rfl
  |cons i L ih=>show(cK (L.map PT)).map (gR i :: ·)=_;rw[ih];rfl
 delta eD
 dsimp only;rw[hx];show(eG (L.map PT) S).run pA K;delta eG
 rw[PS,PL (Qa (qT hL nL) (ag rfl)),e1];refine X2 (iT (f:=gR) (l:=L) (iE aZ (L.map gR))) λM e hp=>?_;show K (.ls ((fY aZ (L.map gR)).map .str)) S;rw[← e,QR];have sM:(M.map gR).Pairwise (λa b=>aZ a b=true):=e▸gi i9 fg _;refine q M (((Rp.mp sM).imp_of_mem λhi hj h=>MR (hL _ (hp.mem_iff.mp hi)) (hL _ (hp.mem_iff.mp hj)) h).imp₂ (λz z h1 h2=>lt_of_le_of_ne h1 h2) (hp.nodup_iff.mpr nL)) λi=>hp.mem_iff
theorem Io(hm:m<3)(hT:∀p∈T,kc p)(q:∀M:List Nat,M.Pairwise (· < ·)→(∀y,y∈M↔∃p∈T,y∈fh p)→K (.ls (M.map PT)) ⟨c,m,l,h,o⟩):call (n+15) 67 [.ls (T.map PN)] ⟨c,m,l,h,o⟩ K:=by
 refine own (vs:=(some (.ls (T.map PN))::z4)) rfl rfl (Qc _) (by
  show(V.freeL (T.map PN)&&true)=true;rw[show ∀T:List Pt,V.freeL (T.map PN)=true from λT=>by
   induction T with
   |nil=>rfl
   |cons _ T ih=>exact ih]
  rfl) rfl ?_
 refine e6 (v:=.hd .ref 0) (S':=⟨0,m,l,[.list (([]:List Nat).map PT)],o⟩) ae ?_;refine dE (L:=T.map PN) ae rfl ?_;refine CX hm T [] none hT (λz h=>az h) R9 λout x2 lo no mo=>?_;refine H4 lo no rfl λM sM mM=>⟨rfl,mW M,q M sM λy=>?_⟩
 rw[mM,mo];exact⟨λh=>h.resolve_left λh=>(az h),.inr⟩
theorem uh(hm:m<3)(hL:gU L)(hM:gU M)(q:K (.ls ((L.filter M.contains).map PT)) ⟨c,m,l,h,o⟩):call (n+1) 68 [.ls (L.map PT),.ls (M.map PT)] ⟨c,m,l,h,o⟩ K:=by refine own (vs:=[some (.ls (L.map PT)),some (.ls (M.map PT))]) rfl rfl (Qc _) (by show(V.freeL (L.map PT)&&(V.freeL (M.map PT)&&true))=true;rw[mW,mW];rfl) rfl ?_;refine eO (cl:=call n) (j:=1) (e:=.k .in_ (.v 1) (.v 2)) (elt:=.v 1) (ok:=λz=>true) (S:=⟨0,m,l,[],o⟩) (vs:=[none,none,some (.ls (M.map PT))]) (g:=PT) (f:=PT) (b:=M.contains) rfl (λy hy=>bw (x:=PT y) (y:=.ls (M.map PT)) ae ae (sg (hL y hy) hM rfl)) (λz z z z q=>q) ?_;exact⟨rfl,mW _,q⟩
noncomputable def qv(T:List Pt):List Nat:=(List.range 20).filter λy=>T.any λp=>(fh p).contains y
theorem dN{b:Nat→Bool}:((List.range N).filter b).Pairwise (· < ·):=List.Pairwise.filter _ List.pairwise_lt_range
theorem zq(hT:∀p∈T,kc p):y∈qv T↔∃p∈T,y∈fh p:=by
 delta qv
 rw[P8,QM,QA];exact⟨λh=>h.2.imp λp h=>⟨h.1,PR.mp h.2⟩,λ⟨p,hp,h⟩=>⟨(zV (hT p hp).2.1).1 y h,p,hp,PR.mpr h⟩⟩
theorem j8(hm:m<3)(hT:∀p∈T,kc p)(q:K (.ls ((qv T).map PT)) ⟨c,m,l,h,o⟩):call (n+15) 67 [.ls (T.map PN)] ⟨c,m,l,h,o⟩ K:=Io hm hT λM sM mM=>by rw[g5 sM dN λy=>(mM y).trans (zq hT).symm];exact q
end
noncomputable def mr(L:List Nat):List Nat:=L++match(L.map pl).contains 12&&(L.map pl).contains 17 with|true=>[12,17]|false=>[]
noncomputable def wd(i:Nat):Nat:=match([11,9,10,2]:List Nat).contains (pl i)with|true=>16|false=>14
noncomputable def sm(i:Nat):Bool:=beq (wd i) 16||([0,1,3]:List Nat).contains (pl i)
noncomputable def fr(i:Nat):Bool:=(cH i).isSome
noncomputable def kp(L:List Nat)(i:Nat):Bool:=!(fr i&&(mr L).contains (pl i)) && !(sm i&&L.contains (wd i))
section
variable{m n c:Nat}{i:Nat}{S:St}{M:List Nat}
theorem LD(hi:i<27)(hL:aj L)(hx:bT S x=some (L.map NV)):bX S (NV i) x=some (L.contains i):=by
 have e:bX S (NV i) x=bX S (NV i) (.ls (L.map NV)):=by
  delta bX bu
  rw[hx];cases x<;>first|rfl|exact ah hx
 rw[e,cI hi hL (.inl rfl)]
theorem vE{K:V→Prop}(h:jg op S a b=some v)(q:K v):aq pA (jg op S a b) K:=aR h q
theorem zC{a b:List V}(hl:a.length+b.length≤aD):jg .add S (.ls a) (.ls b)=some (.ls (a++b)):=by show gd (decide (a.length+b.length≤aD)) (.ls (a++b))=_;rw[PL hl];rfl
theorem bD(L:List Nat):V.freeL (L.map NV)=true:=by
 induction L with
 |nil=>rfl
 |cons _ L ih=>exact ih
theorem O4{vs:au}(hi:i<27)(hv:(vs[1]?).join=some (NV i))(h3:(vs[3]?).join=some x3)(hL:aj L)(hx:x3=.ls (L.map NV)):c6 cl (.and (.k .eq (.sb (.v 1) (.i 0)) (.c (.str [126]))) (.k .in_ (.slice (.v 1) (.i 1) (.c .nul)) (.v 3))) vs S (fr i&&L.contains (pl i)):=λK' q=>by
 have e1:(bV S (NV i) (.int 0)).bind (λv=>(cq S v (.str [126])).map λb=>(v,b))=(bV S (NV i) (.int 0)).map λv=>(v,fr i):=QE.mp (show bQ.map (λi=>(bV S (NV i) (.int 0)).bind λv=>(cq S v (.str [126])).map λb=>(v,b))=bQ.map λi=>(bV S (NV i) (.int 0)).map λv=>(v,fr i)by rfl) i (fJ hi);have e2:(match fr i with|true=>iY S (NV i) (.int 1) .nul|false=>none)=match fr i with|true=>some (NV (pl i))|false=>none:=QE.mp (show bQ.map (λi=>match fr i with|true=>iY S (NV i) (.int 1) .nul|false=>none)=bQ.map λi=>match fr i with|true=>some (NV (pl i))|false=>none by rfl) i (fJ hi)
 show aq pA _ _;rw[hv];show aq pA (bV S (NV i) (.int 0)) _;cases es:bV S (NV i) (.int 0)with
 |none=>have:(bV S (NV i) (.int 0)).isSome=true:=QE.mp (show bQ.map (λi=>(bV S (NV i) (.int 0)).isSome)=bQ.map λz=>true by rfl) i (fJ hi);rw[es]at this;exact ak this
 |some v=>
  rw[es]at e1;refine X2 (Qr.mp (show(cq S v (.str [126])).map (λb=>(v,b))=some (v,fr i)from e1)) λb hb e1=>?_;injection e1 with _ e1;refine wm (e1▸hb) ?_;show aq pA (some (fr i)) _;cases ef:fr i with
  |false=>rw[ef]at q;exact q
  |true=>rw[ef]at e2 q;show aq pA (vs[1]?).join _;rw[hv];refine aR (x:=iY S (NV i) (.int 1) .nul) e2 ?_;show aq pA (vs[3]?).join _;rw[h3];exact kZ (cI (fq hi) hL (.inl hx)) q
noncomputable abbrev Ni:List Kk.S:=[.a 5 (.it (.k .in_ (.cl 65 [.v 1]) (.tp [.c (.str [101]),.c (.str [97]),.c (.str [98]),.c pR])) (.c jm) (.c kF)),.a 6 (.or (.k .eq (.v 5) (.c jm)) (.k .in_ (.cl 65 [.v 1]) (.tp [.c (.str [48]),.c oG,.c om]))),.a 7 (.and (.k .eq (.sb (.v 1) (.i 0)) (.c (.str [126]))) (.k .in_ (.slice (.v 1) (.i 1) (.c (.nul))) (.v 3))),.it (.and (.not (.v 7)) (.and (.not (.and (.v 6) (.k .in_ (.v 5) (.v 0)))) (.k .notin (.v 1) (.v 4)))) [.expr (.me .append (.v 4) [.v 1])] []]
noncomputable abbrev NN(L M:List Nat)(v2:V)(x1 x5 x6 x7:Option V):au:=[some (.ls (L.map NV)),x1,some v2,some (.ls (M.map NV)),some (.hd .ref 0),x5,x6,x7,none,none]
theorem D7{K:KF}(hm:m<3)(hL:aj L)(hR:aj (mr L)):∀(M out:List Nat)(x1 x5 x6 x7:Option V),aj M→aj out→out.length+M.length<100→M.Pairwise (λi j=>i≤j)→out.Pairwise (· < ·)→(∀a∈out,∀b∈M,a≤b)→(∀out' x1 x5 x6 x7,aj out'→out'.Pairwise (· < ·)→(∀i,i∈out'↔i∈out∨i∈M∧kp L i=true)→K .next (NN L (mr L) v2 x1 x5 x6 x7) ⟨0,m,l,[.list (out'.map NV)],o⟩)→bW pA (λz=>true) (ao pA (call (n+13)) Ni) 1 (M.map NV) (NN L (mr L) v2 x1 x5 x6 x7) ⟨0,m,l,[.list (out.map NV)],o⟩ K:=by
 intro M;induction M with
 |nil=>exact λout x1 x5 x6 x7 z lo z z so z q=>q out x1 x5 x6 x7 lo so λi=>⟨.inl,λh=>h.resolve_right λh=>nomatch h.1⟩
 |cons i M ih_=>
  exact λout x1 x5 x6 x7 lM lo hl sM so ho q=>by
   rw[Qf]at hl;have hi:=lM i mh;refine U2 (R7.mp sM) λs1 s2=>?_;have wl:wd i<27:=by delta wd;cases ([11,9,10,2]:List Nat).contains (pl i)<;>exact ag rfl
   refine ay (v:=NV (wd i)) (ey (bw (y:=.tp (([11,9,10,2]:List Nat).map NV)) (λK q=>cz hm hi q) ae (cI (fq hi) (by decide) (.inr rfl))) (λe K q=>by unfold wd at q;rw[e]at q;exact q) λe K q=>by unfold wd at q;rw[e]at q;exact q) ?_;refine ay (v:=.bool (sm i)) (b7 (aM (y:=NV 16) ae ae (Aw wl (ag rfl))) (bw (y:=.tp (([0,1,3]:List Nat).map NV)) (λK q=>cz hm hi q) ae (cI (fq hi) (by decide) (.inr rfl)))) ?_;refine ay (v:=.bool (fr i&&(mr L).contains (pl i))) (O4 hi rfl rfl hR rfl) ?_;have ih:=λout=>ih_ out (some (NV i)) (some (NV (wd i))) (some (.bool (sm i))) (some (.bool (fr i&&(mr L).contains (pl i)))) (λj h=>lM j (mt h));refine bz (r:=!(fr i&&(mr L).contains (pl i))&&(!(sm i&&L.contains (wd i)) && !out.contains i)) (bG (vS λz q=>q) (bG (vS (bG ae (bw ae ae (cI wl hL (.inl rfl))))) (ju (x:=NV i) (y:=.hd .ref 0) ae ae (LD hi lo rfl)))) (λe=>?_) λe=>?_
   ·rw[← Bool.and_assoc]at e;refine U2 (aa e) λe1 e2=>?_;have e2:i∉out:=λh=>by rw[PR.mpr h]at e2;exact ak e2
    refine p9 (i:=0) (L:=out.map NV) (v:=NV i) ae rfl ae (by rw[PS];exact Q8 (lg hl:out.length<100) (ag rfl)) ?_;have e3:out.map NV++[NV i]=(out++[i]).map NV:=by rw[QY];rfl
    show bW pA (λz=>true) (ao pA (call (n+13)) Ni) 1 (M.map NV) _ ⟨0,m,l,[.list (out.map NV++[NV i])],o⟩ K;rw[e3];refine ih _ (λj h=>(Qe.mp h).elim (lo j) λh=>PH.mp h▸hi) (by rw[PX];show out.length+1+M.length<100;exact tK hl) s2 (List.pairwise_append.mpr ⟨so,Qu _ _,λa ha b hb=>PH.mp hb▸lt_of_le_of_ne (ho a ha i mh) λe=>e2 (e▸ha)⟩) (λa ha b hb=>(Qe.mp ha).elim (λha=>ho a ha b (mt hb)) λha=>PH.mp ha▸s1 b hb) λout' x1 x5 x6 x7 l' s' m'=>q out' x1 x5 x6 x7 l' s' λj=>?_;rw[m',Qe,PH,P4];exact⟨λh=>h.elim (λh=>h.elim .inl λh=>.inr ⟨.inl h,h▸e1⟩) λh=>.inr ⟨.inr h.1,h.2⟩,λh=>h.elim (λh=>.inl (.inl h)) λh=>h.1.elim (λe=>.inl (.inr e)) λh'=>.inr ⟨h',h.2⟩⟩
   ·refine ih out lo (Bp hl) s2 so (λa ha b hb=>ho a ha b (mt hb)) λout' x1 x5 x6 x7 l' s' m'=>q out' x1 x5 x6 x7 l' s' λj=>?_;rw[m',P4];refine⟨λh=>h.imp_right λh=>⟨.inr h.1,h.2⟩,λh=>h.elim .inl λ⟨h1,h2⟩=>h1.elim (λej=>?_) λh1=>.inr ⟨h1,h2⟩⟩;subst ej;rw[← Bool.and_assoc]at e;unfold kp at h2;rw[h2,Q6]at e;exact .inl (PR.mp ((RQ _).mp e))
theorem eB(ha:Gv cl ea vs S a)(hb:Gv cl eb vs S b)(h:jg op S a b=some v):Gv cl (.bin op ea eb) vs S v:=λK' q=>ha _ (hb _ (vE h q))
theorem vG(hL:aj L):aj (mr L):=λi hi=>(Qe.mp hi).elim (hL i) λh=>by
 cases e:(L.map pl).contains 12&&(L.map pl).contains 17 with
 |true=>
  rw[e]at h;rcases P4.mp h with rfl|h
  ·exact ag rfl
  ·exact PH.mp h▸(ag rfl)
 |false=>rw[e]at h;exact az h
theorem K6:(mr L).length≤L.length+2:=by
 delta mr
 rw[PX];cases (L.map pl).contains 12&&(L.map pl).contains 17 with
 |true=>exact Qi _
 |false=>exact QH ..
def GI(L M:List Nat):Prop:=match L.contains 19 with
 |true=>M=[19]
 |false=>aj M∧M.Pairwise (· < ·)∧∀i,i∈M↔i∈mr L∧kp L i=true
theorem El(hm:m<3)(hL:aj L)(hl:L.length<50)(q:∀M,GI L M→K (.ls (M.map NV)) ⟨c,m,l,h,o⟩):call (n+14) 69 [.ls (L.map NV)] ⟨c,m,l,h,o⟩ K:=by
 refine own (vs:=(some (.ls (L.map NV))::z9)) rfl rfl (Qc _) (kz (bD L)) rfl ?_;unfold GI at q;refine bz (bw (x:=NV 19) ae ae (cI (ag rfl) hL (.inl rfl))) (λe=>?_) λe=>?_
 ·rw[e]at q;exact⟨rfl,rfl,q [19] rfl⟩
 rw[e]at q;have hP:aj (L.map pl):=λi hi=>by refine X2 (Qd.mp hi) λj hj e=>?_;exact e▸fq (hL j hj)
 refine ay (v:=.ls ((L.map pl).map NV)) (λK q=>dw (cl:=call (n+13)) (j:=1) (elt:=.cl 65 [.v 1]) (ok:=λz=>true) (S:=⟨0,m,l,[],o⟩) (vs:=[none,none,none]) (g:=NV) (f:=λi=>NV (pl i)) (L:=L) rfl (λi hi K q=>cz hm (hL i hi) q) (by rw[show L.map (λi=>NV (pl i))=(L.map pl).map NV by rw[QR];rfl];exact q)) ?_;have lr:(mr L).length<64:=Qa K6 (bc (bb hl rfl));refine ay (v:=.ls ((mr L).map NV)) (eB (b:=.ls ((match(L.map pl).contains 12&&(L.map pl).contains 17 with|true=>[12,17]|false=>[]:List Nat).map NV)) ae (ey (bG (bw (x:=NV 12) ae ae (cI (ag rfl) hP (.inl rfl))) (bw (x:=NV 17) ae ae (cI (ag rfl) hP (.inl rfl)))) (λe K q=>by rw[e]at q;exact q) (λe K q=>by rw[e]at q;exact q)) ?_) ?_
 ·rw[zC,← QY]
  ·rfl
  ·rw[PS,PS,← PX];exact Rm (Q8 lr (ag rfl:64<aD))
 refine e6 (v:=.hd .ref 0) (S':=⟨0,m,l,[.list (([]:List Nat).map NV)],o⟩) ae ?_;refine H7 (L:=mr L) (vG hL) lr rfl λM pM sM=>?_;have lM:aj M:=λi hi=>vG hL i (pM.mem_iff.mp hi);refine D7 hm hL (vG hL) M [] none none none none lM (λz h=>az h) (by show 0+M.length<100;rw[pM.length_eq];exact q8 (bb lr rfl)) sM .nil (λz h=>az h) λout x1 x5 x6 x7 lo so mo=>?_;refine⟨rfl,bD out,q out ⟨lo,so,λi=>?_⟩⟩;rw[mo,pM.mem_iff];exact⟨λh=>h.resolve_left λh=>(az h),.inr⟩
noncomputable def ck(L:List Nat):List Nat:=match L.contains 19 with
 |true=>[19]
 |false=>bQ.filter λi=>(mr L).contains i&&kp L i
theorem zi(hL:aj L)(e:L.contains 19=false):i∈ck L↔i∈mr L∧kp L i=true:=by
 delta ck
 rw[e];show i∈bQ.filter _↔_;rw[P8,Rq,PR];exact⟨λh=>h.2,λh=>⟨fJ (vG hL i h.1),h⟩⟩
theorem pg:aj (ck L):=by
 delta ck
 cases L.contains 19 with
 |true=>exact λj hj=>PH.mp hj▸(ag rfl)
 |false=>exact λj hj=>QM.mp (P8.mp hj).1
theorem Ab(hm:m<3)(hL:aj L)(hl:L.length<50)(q:K (.ls ((ck L).map NV)) ⟨c,m,l,h,o⟩):call (n+14) 69 [.ls (L.map NV)] ⟨c,m,l,h,o⟩ K:=
 El hm hL hl λM hM=>by
  have e:M=ck L:=by
   cases e:L.contains 19 with
   |true=>
    unfold GI at hM;delta ck
    rw[e]at hM ⊢;exact hM
   |false=>
    have h1:(ck L).Pairwise (· < ·):=by delta ck;rw[e];exact dN
    unfold GI at hM;rw[e]at hM;exact g5 hM.2.1 h1 λi=>(hM.2.2 i).trans (zi hL e).symm
  rw[e];exact q
end
noncomputable def PD(x:Nat):Nat:=match x with|1=>0|3=>0|2=>4|_=>x
noncomputable def og(i:Nat):List Nat:=(aP i).map PD
noncomputable def uM(i j:Nat):Bool:=V.beqL ((og i).map PT) ((og j).map PT)
noncomputable abbrev C8:List Nat:=[11,0,1,3,12,18,13,20]
noncomputable abbrev xr:List Nat:=[11,0,1,3,12,18,13,20,14,21,19]
noncomputable abbrev CU:List Nat:=[11,9,10,0,1,3,2,12,17,18,13]
section
variable{m n:Nat}{i:Nat}{S:St}
theorem kB(hm:m<3)(hi:i<27)(q:K (.ls ((og i).map PT)) ⟨c,m,l,h,o⟩):call (n+13) 71 [NV i] ⟨c,m,l,h,o⟩ K:=run rfl rfl rfl (Js (f:=λm i=>qV oH 0 [NV i] m l o) (g:=λz i=>some (.ls ((og i).map PT))) (by kernel_rfl) hm hi) (Qc _) q
theorem DD(hi:i<27):gU (og i):=λx hx=>PI (P5.mp (aO (f:=λi=>(og i).all λx=>decide (x<20)) (by decide +kernel) hi) x hx)
theorem qj{a b:List (List Nat)}:cq S (.ls (a.map .str)) (.ls (b.map .str))=some (V.beqL (a.map .str) (b.map .str)):=by
 have d:∀a:List (List Nat),V.datL false false (S.n-1) (a.map .str) 7=true:=λa=>by
  induction a with
  |nil=>rfl
  |cons _ a ih=>exact ih
 show(match((V.datL false false (S.n-1) (a.map .str) 7&&true)&&(V.datL false false (S.n-1) (b.map .str) 7&&true)||_)with|true=>_|false=>_)=_;rw[d,d];rfl
theorem oW{a b:List Nat}:cq S (.ls (a.map NV)) (.ls (b.map NV))=some (V.beqL (a.map NV) (b.map NV)):=by
 have e:∀a:List Nat,(a.map nm).map V.str=a.map NV:=λa=>by rw[QR];rfl
 rw[← e,← e];exact qj
theorem Ec{a b:List Nat}:cq S (.ls (a.map PT)) (.ls (b.map PT))=some (V.beqL (a.map PT) (b.map PT)):=by
 have e:∀a:List Nat,(a.map gR).map V.str=a.map PT:=λa=>by rw[QR];rfl
 rw[← e,← e];exact qj
theorem lX:∀{a b:List Nat},aj a→aj b→V.beqL (a.map NV) (b.map NV)=decide (a=b)
 |[],[],_,_=>rfl
 |[],_::_,_,_=>rfl
 |_::_,[],_,_=>rfl
 |i::a,j::b,ha,hb=>by show(cj (nm i) (nm j)&&V.beqL (a.map NV) (b.map NV))=_;rw[(dP (ha i mh) (hb j mh)).1,lX (λk h=>ha k (mt h)) λk h=>hb k (mt h),P7,Rq,Sa,Qp,Qp];exact⟨λh=>by rw[h.1,h.2],λh=>by injection h with h1 h2;exact⟨h1,h2⟩⟩
theorem Mt(hL:aj L):V.beqL (L.map NV) [NV 19]=decide (L=[19]):=lX (b:=[19]) hL (by decide)
theorem FV(hm:m<3)(hL:aj L)(q:K (.ls ((match decide (L=[19])with|true=>[21]|false=>L.filter λi=>!C8.contains (pl i)).map NV)) ⟨c,m,l,h,o⟩):call (n+14) 74 [.ls (L.map NV)] ⟨c,m,l,h,o⟩ K:=by
 refine own (vs:=[some (.ls (L.map NV))]) rfl rfl (Qc _) (kz (bD L)) rfl ?_;refine bz (r:=decide (L=[19])) (aM (y:=.ls (([19]:List Nat).map NV)) ae ae (by rw[oW,← Mt hL];rfl)) (λe=>?_) λe=>?_
 ·rw[e]at q;exact⟨rfl,rfl,q⟩
 rw[e]at q;refine eO (cl:=call (n+13)) (j:=1) (e:=.k .notin (.cl 65 [.v 1]) (.tp [.c (.str [101]),.c (.str [48]),.c oG,.c om,.c n9,.c oJ,.c qF,.c (.str [118,111,105,100])])) (elt:=.v 1) (ok:=λz=>true) (S:=⟨0,m,l,[],o⟩) (vs:=[none,none,none]) (g:=NV) (f:=NV) (b:=λi=>!C8.contains (pl i)) (L:=L) rfl (λi hi=>ju (y:=.tp (C8.map NV)) (λK q=>cz hm (hL i hi) q) ae (cI (fq (hL i hi)) (by decide) (.inr rfl))) (λz z z z q=>q) ?_;exact⟨rfl,bD _,q⟩
variable{L:List Nat}
noncomputable abbrev sn(c m:Nat)(l:Bool)(o:List (List V×List V))(out:List Nat):St:=⟨c,m,l,[.list (out.map NV)],o⟩
theorem nl{V:au→Prop}{F:Nat→List Nat}{K:KF}:∀(L out:List Nat)(vs:au),(∀i∈L,(F i).length≤3)→(∀i∈L,∀vs out,V vs→out.length<40→∀K:Fl→au→St→Prop,(∀vs',V vs'→K .next vs' (sn c m l o (out++F i)))→ao pA cl body (vs.set j (some (NV i))) (sn c m l o out) K)→V vs→out.length+L.length*3<40→(∀vs',V vs'→K .next vs' (sn c m l o (out++L.flatMap F)))→bW pA (λz=>true) (ao pA cl body) j (L.map NV) vs (sn c m l o out) K:=by
 intro L;induction L with
 |nil=>exact λout vs z z hv z q=>by have:=q vs hv;rw[List.flatMap_nil,Qy]at this;exact this
 |cons i L ih_=>
  exact λout vs hF hb hv hl q=>by rw[Qf]at hl;have:=hF i mh;refine hb i mh vs out hv (lg hl) _ λvs' hv'=>?_;refine ih_ _ vs' (λi h=>hF i (mt h)) (λi h=>hb i (mt h)) hv' (by rw[PX];omega) λvs2 hv2=>?_;rw[QK,← QJ];exact q vs2 hv2
theorem vK{K:KF}(ho:Gv cl eo vs (sn c m l o out) (.hd .ref 0))(he:Gv cl e vs (sn c m l o out) (NV i))(hl:out.length<40)(q:ao pA cl ss vs (sn c m l o (out++[i])) K):ao pA cl (.expr (.me .append eo [e])::ss) vs (sn c m l o out) K:=by
 refine p9 (i:=0) ho rfl he (by rw[PS];exact Q8 hl (ag rfl)) ?_;have e:out.map NV++[NV i]=(out++[i]).map NV:=by rw[QY];rfl
 rw[e];exact q
theorem Fg(e:prog[f]?=some fn)(hm:fn.mode=.own c0 s)(hx:V.freeL xs=true)(q:call (n+1) f [.ls xs] ⟨c,m,l,[.gone],o⟩ K):call (n+1) f [.hd .ref 0] ⟨c,m,l,[.list xs],o⟩ K:=by
 have e1:gk ⟨c,m,l,[.gone],o⟩ [.ls xs]=some ([.ls xs],[.gone]):=by show(match V.freeL [.ls xs]with|true=>_|false=>_)=_;rw[kz (x:=.ls xs) hx]
 have e2:gk ⟨c,m,l,[.list xs],o⟩ [.hd .ref 0]=some ([.ls xs],[.gone]):=by show(match V.freeL [.ls xs]with|true=>_|false=>_)=_;rw[kz (x:=.ls xs) hx];rfl
 rw[gx]at q ⊢;unfold fv at q ⊢;rw[e]at q ⊢;have q:(match fn.mode with|.own c0 s=>_|.open_=>_|.late=>_):=q;show(match fn.mode with|.own c0 s=>_|.open_=>_|.late=>_);rw[hm]at q ⊢;show iff pA (ble c0 c) (aq pA (gk ⟨c,m,l,[.list xs],o⟩ [.hd .ref 0]) λx=>_);have q:iff pA (ble c0 c) (aq pA (gk ⟨c,m,l,[.gone],o⟩ [.ls xs]) λx=>_):=q;rw[e2];rw[e1]at q;exact q
theorem we(hm:m<3)(hL:aj L)(hl:L.length<50)(q:K (.ls ((ck L).map NV)) ⟨c,m,l,[.gone],o⟩):call (n+14) 69 [.hd .ref 0] (sn c m l o L) K:=Fg rfl rfl (bD L) (Ab hm hL hl q)
noncomputable def iL(i:Nat):List Nat:=match beq i 16 with|true=>[11]|false=>match xr.contains (pl i)with|true=>[i]|false=>[]
theorem Ef(hi:i<27):aj (iL i)∧(iL i).length≤3:=by
 delta iL
 cases beq i 16 with
 |true=>exact⟨λj hj=>PH.mp hj▸(ag rfl),(ag rfl:1≤3)⟩
 |false=>cases xr.contains (pl i)with
  |true=>exact⟨λj hj=>PH.mp hj▸hi,(ag rfl:1≤3)⟩
  |false=>exact⟨λz h=>(az h),(ag rfl:0≤3)⟩
theorem C6(hm:m<3)(hL:aj L)(hl:L.length≤3)(q:K (.ls ((ck (L.flatMap iL)).map NV)) ⟨c,m,l,h,o⟩):call (n+15) 75 [.ls (L.map NV)] ⟨c,m,l,h,o⟩ K:=by
 refine own (vs:=(some (.ls (L.map NV))::z4)) rfl rfl (Qc _) (kz (bD L)) rfl ?_;refine e6 (v:=.hd .ref 0) (S':=sn 0 m l o []) ae ?_;refine dE (L:=L.map NV) ae rfl ?_;refine nl (F:=iL) (V:=λvs=>∃x2,vs=[some (.ls (L.map NV)),some (.hd .ref 0),x2,none,none]) L [] _ (λi hi=>(Ef (hL i hi)).2) (λi hi vs out hv lo K q=>?_) ⟨none,rfl⟩ (by show 0+L.length*3<40;omega) λvs hv=>?_
 ·obtain⟨x2,rfl⟩:=hv;replace q:=q _ ⟨some (NV i),rfl⟩;unfold iL at q;refine oS (aM (y:=NV 16) ae ae (Aw (hL i hi) (by decide))) (λe=>?_) λe=>?_
  ·rw[e]at q;exact vK (i:=11) ae ae lo q
  ·rw[e]at q;refine bz (bw (y:=.tp (xr.map NV)) (λK q=>cz (n:=n+1) hm (hL i hi) q) ae (cI (fq (hL i hi)) (by decide) (.inr rfl))) (λe=>?_) λe=>?_
   ·rw[e]at q;exact vK ae ae lo q
   ·rw[e]at q;dsimp only at q;rw[Qy]at q;exact q
 ·obtain⟨x2,rfl⟩:=hv;have e:∀L:List Nat,(L.flatMap iL).length≤L.length*1:=λL=>by
   induction L with
   |nil=>exact Qi _
   |cons i L ih=>
    have:(iL i).length≤1:=by delta iL;cases beq i 16 with|true=>exact Qi _|false=>cases xr.contains (pl i)with|true=>exact Qi _|false=>exact Qc _
    rw[QJ,PX,Qf];exact O8 this ih
  have:=e L;refine we (L:=[]++L.flatMap iL) hm (λj hj=>by refine X2 (Qz.mp hj) λi hi h=>?_;exact(Ef (hL i hi)).1 j h) (by rw[nil_append];omega) ⟨rfl,bD _,q⟩
variable{p:Pt}{j:Nat}
noncomputable def tf(j:Nat):List Nat:=match beq j 18 with|true=>[13,21]|false=>match beq j 13 with|true=>[18,21]|false=>[19]
noncomputable def j4(L0 L1:List Nat):List Nat:=match L1 with
 |[]=>L0
 |j::r=>match r with
  |[]=>match CU.contains (pl j)with
   |false=>L0
   |true=>match decide (L0=[19])with
    |true=>tf j
    |false=>L0.filter λi=>!uM i j
  |_::_=>L0
theorem DT(hm:m<3)(hL:aj L0)(h1:aj L1)(hne:L1≠[])(q:K (.ls ((j4 L0 L1).map NV)) ⟨c,m,l,h,o⟩):call (n+14) 73 [.ls (L0.map NV),.ls (L1.map NV)] ⟨c,m,l,h,o⟩ K:=by
 match L1,h1,hne,q with
 |j::r,h1,_,q=>
  have hj:=h1 j mh;by_cases hu:L0=[19]∧r=[]∧CU.contains (pl j)=true
  ·obtain⟨rfl,rfl,hu⟩:=hu;have e:j4 [19] [j]=tf j:=by delta j4;dsimp only;rw[hu];rfl
   rw[e]at q;have er:=Js (f:=λm j=>match CU.contains (pl j)with|true=>qV oh 0 [.ls [NV 19],.ls [NV j]] m l o|false=>none) (g:=λz j=>match CU.contains (pl j)with|true=>some (.ls ((tf j).map NV))|false=>none) (by kernel_rfl) hm hj;simp only[hu]at er;exact run (n:=n+1) rfl rfl rfl er (Qc _) q
  refine own (vs:=(some (.ls (L0.map NV))::(some (.ls ((j::r).map NV)))::z3)) rfl rfl (Qc _) (by show(V.freeL (L0.map NV)&&(V.freeL ((j::r).map NV)&&true))=true;rw[bD,bD];rfl) rfl ?_;refine bz (r:=(!decide ((((((j::r).map NV).length:Nat):Int))=1)) || !CU.contains (pl j)) (b7 ae (ju (y:=.tp (CU.map NV)) (λK q=>cz hm hj q) ae (cI (fq hj) (by decide) (.inr rfl)))) (λe=>?_) λe=>?_
  ·have e2:j4 L0 (j::r)=L0:=by
    cases r with
    |cons _ _=>rfl
    |nil=>
     have:CU.contains (pl j)=false:=by rw[show decide ((((([j].map NV).length:Nat):Int))=1)=true from rfl]at e;exact(Qo _).mp e
     delta j4
     dsimp only;rw[this]
   rw[e2]at q;exact⟨rfl,bD _,q⟩
  ·refine U2 (Rz.mp e) λe1 e2=>?_;replace e2:=(RQ _).mp e2;have rn:r=[]:=by
    have:=PI ((RQ _).mp e1);rw[PS,Qf]at this;exact List.length_eq_zero_iff.mp (by omega)
   subst rn;have u0:L0≠[19]:=λh=>hu ⟨h,rfl,e2⟩;have e3:j4 L0 [j]=L0.filter λi=>!uM i j:=by delta j4;dsimp only;rw[e2,PQ u0]
   rw[e3]at q;refine dA (aM (y:=.ls (([19]:List Nat).map NV)) ae ae (by rw[oW,lX hL (by decide),PQ u0])) ?_;refine eO (cl:=call (n+13)) (j:=1) (e:=.k .ne (.cl 71 [.v 1]) (.cl 71 [.sb (.v 3) (.i 0)])) (elt:=.v 1) (ok:=λz=>true) (S:=⟨0,m,l,[],o⟩) (vs:=[none,none,none,some (.ls ([j].map NV))]) (g:=NV) (f:=NV) (b:=λi=>!uM i j) (L:=L0) rfl (λi hi=>ka (λK q=>kB hm (hL i hi) q) (λK q=>kB hm hj q) Ec) (λz z z z q=>q) ?_;exact⟨rfl,bD _,q⟩
noncomputable def cS(i:Nat):Nat:=(aP i).headD 0
noncomputable def gI(K:List Nat)(i:Nat):Nat:=match K.contains (pl i)with|true=>pl i|false=>i
noncomputable def oE(p:Pt):Bool:=match p with|[]=>false|i::r=>match r with|[]=>([16,14]:List Nat).contains i|_::_=>false
noncomputable def mA(K H0 H1:List Nat)(i:Nat):List Nat:=match CU.contains (pl i)&&(H0.contains (cS i)&&H1.contains (cS i))with|true=>[gI K i]|false=>[]
theorem GR(hp:aj p):2≤p.length→(dy p).contains 38=true:=by
 intro h;match p,h with
 |i::j::p,_=>show(nm i++[38]++dy (j::p)).contains 38=true;rw[PR];exact Qe.mpr (.inl (Qe.mpr (.inr mh)))
theorem B6(hp:aj p)(h2:2≤p.length)(hi:i<27):cj (nm i) (dy p)=false:=Qj.mpr λe=>by have:=GR hp h2;rw[← bk.mp e,(dP hi hi).2.2]at this;exact ak this
theorem Na(hp:kc p):bX S (PN p) (.tp (([16,14]:List Nat).map NV))=some (oE p):=by
 match p,hp with
 |[i],hp=>exact cI (hp.2.1 i mh) (by decide) (.inr rfl)
 |i::j::p,hp=>rw[show V.tp (([16,14]:List Nat).map NV)=.tp (([16,14].map nm).map .str)from rfl,qk (.inr rfl)];show some (cj (nm 16) (dy (i::j::p))||(cj (nm 14) (dy (i::j::p))||false))=some false;rw[B6 hp.2.1 (QV ..) (ag rfl),B6 hp.2.1 (QV ..) (ag rfl)];rfl
theorem Ag(T:List Pt):T.filter oE=af (T.flatMap λp=>match oE p with|true=>p|false=>[]):=by
 induction T with
 |nil=>rfl
 |cons p T ih=>
  cases e:oE p with
  |true=>
   match p,e with
   |[i],e=>rw[Ra e,QJ,ih];show _=af ((match oE [i]with|true=>[i]|false=>[])++_);rw[e];rfl
  |false=>rw[Rb (by rw[e];decide),QJ,ih];show _=af ((match oE p with|true=>p|false=>[])++_);rw[e];rfl
variable{T:List Pt}{y:Nat}
theorem Gj(hi:i<27)(hu:CU.contains (pl i)=true):NV (pl i)=PT (cS i)∧cS i<20∧nm (gI [] i)=nm i∧(fr i=true→126::nm (pl i)=nm i)∧(fr i=false→pl i=i):=by
 have:=aO (f:=λi=>!CU.contains (pl i)||(cj (nm (pl i)) (gR (cS i))&&(decide (cS i<20)&&((!fr i||cj (126::nm (pl i)) (nm i))&&(fr i||beq (pl i) i))))) (by decide +kernel) hi;rw[hu]at this;refine U2 (aa this) λh1 h2=>?_;refine U2 (aa h2) λh2 h3=>?_;refine U2 (aa h3) λh3 h4=>?_;refine⟨Qb V.str (bk.mp h1),PI h2,rfl,λe=>?_,λe=>?_⟩
 ·rw[e]at h3;exact bk.mp h3
 ·rw[e]at h4;exact PJ h4
theorem H8(T:List Pt):V.freeL (T.map PN)=true:=by
 induction T with
 |nil=>rfl
 |cons _ T ih=>exact ih
theorem Ou(hL:aj L):∀p∈af L,kc p:=λp hp=>by refine X2 (Qd.mp hp) λi hi e=>?_;exact e▸⟨λh=>(nomatch h),λj hj=>PH.mp hj▸hL i hi,(ag rfl:1≤60)⟩
theorem Gq(L:List Nat):(af L).map PN=L.map NV:=by rw[QR];rfl
noncomputable def dz(L:List Nat):List Nat:=(List.range 20).filter λy=>L.any λi=>(aP i).contains y
theorem J5(L:List Nat):qv (af L)=dz L:=by
 delta qv dz
 refine List.filter_congr λy z=>?_;rw[any_map];refine Qb (L.any ·) (funext λi=>?_);show(fh [i]).contains y=_;rw[P7,PR,PR,qS (p:=[i]) (λh=>nomatch h)];exact⟨λh=>h i mh,λh j hj=>PH.mp hj▸h⟩
theorem CN:gU (dz L):=λy hy=>QM.mp (P8.mp hy).1
theorem mG(hm:m<3)(hL:aj L)(q:K (.ls ((dz L).map PT)) ⟨c,m,l,h,o⟩):call (n+15) 67 [.ls (L.map NV)] ⟨c,m,l,h,o⟩ K:=by rw[← Gq];refine j8 hm (Ou hL) ?_;rw[J5];exact q
theorem MV{K:List Nat}(hi:i<27):gI K i<27:=by
 delta gI
 cases K.contains (pl i)with
 |true=>exact fq hi
 |false=>exact hi
theorem Eb{K:List Nat}(hi:i<27):aj (mA K H0 H1 i)∧(mA K H0 H1 i).length≤3:=by
 delta mA
 cases CU.contains (pl i)&&(H0.contains (cS i)&&H1.contains (cS i))with
 |true=>exact⟨λj hj=>PH.mp hj▸MV hi,(ag rfl:1≤3)⟩
 |false=>exact⟨λz h=>(az h),(ag rfl:0≤3)⟩
noncomputable def zj(K0 K1 U:List Nat):List Nat:=(ck (U++(K0++K1).flatMap (mA (K0++K1) (dz K0) (dz K1)))).filter λi=>!([16,14]:List Nat).contains i
theorem FC(hm:m<3)(h0:aj K0)(h1:aj K1)(l0:K0.length≤3)(l1:K1.length≤3)(hT:∀p∈T,kc p)(hU:T.filter oE=af U)(lU:aj U)(lenU:U.length≤2)(q:K (.ls ((zj K0 K1 U).map NV)) ⟨c,m,l,h,o⟩):call (n+17) 70 [.ls (K0.map NV),.ls (K1.map NV),.ls (T.map PN)] ⟨c,m,l,h,o⟩ K:=by
 refine own (vs:=(some (.ls (K0.map NV))::some (.ls (K1.map NV))::some (.ls (T.map PN))::z7)) rfl rfl (Qc _) (by show(V.freeL (K0.map NV)&&(V.freeL (K1.map NV)&&(V.freeL (T.map PN)&&true)))=true;rw[bD,bD,H8];rfl) rfl ?_;have h01:aj (K0++K1):=λi hi=>(Qe.mp hi).elim (h0 i) (h1 i);have l01:(K0++K1).length≤6:=by rw[PX];exact NS l0 l1 rfl
 refine e6 (v:=.hd .ref 0) (S':=sn 0 m l o U) (λK q=>eO (cl:=call (n+16)) (j:=1) (e:=.k .in_ (.v 1) (.tp [.c jm,.c kF])) (elt:=.v 1) (ok:=λz=>true) (S:=⟨0,m,l,[],o⟩) (vs:=[none,none]) (g:=PN) (f:=PN) (b:=oE) (L:=T) rfl (λp hp=>bw (y:=.tp (([16,14]:List Nat).map NV)) ae ae (Na (hT p hp))) (λz z z z q=>q) (by rw[hU,Gq];exact q)) ?_;have ad:∀{S:St},jg .add S (.ls (K0.map NV)) (.ls (K1.map NV))=some (.ls ((K0++K1).map NV)):=λ{S}=>by rw[QY];exact zC (by rw[PS,PS,← PX];exact PM l01 (ag rfl:6≤aD))
 refine dE (L:=(K0++K1).map NV) (eB ae ae ad) rfl ?_;refine nl (F:=mA (K0++K1) (dz K0) (dz K1)) (V:=λvs=>∃x3 x5,vs=(some (.ls (K0.map NV))::some (.ls (K1.map NV))::some (.ls (T.map PN))::x3::some (.hd .ref 0)::x5::z4)) (K0++K1) U _ (λi hi=>(Eb (h01 i hi)).2) (λi hi vs out hv lo K q=>?_) ⟨none,none,rfl⟩ (by omega) λvs hv=>?_
 ·obtain⟨x3,x5,rfl⟩:=hv;have hi:=h01 i hi;replace q:=q _ ⟨some (NV i),some (NV (pl i)),rfl⟩;unfold mA at q;refine ay (λK q=>cz (n:=n+3) hm hi q) ?_;have cu:c6 (call (n+16)) (.k .in_ (.v 5) (.c iD)) (some (.ls (K0.map NV))::some (.ls (K1.map NV))::some (.ls (T.map PN))::some (NV i)::some (.hd .ref 0)::some (NV (pl i))::z4) (sn 0 m l o out) (CU.contains (pl i)):=bw (y:=.tp (CU.map NV)) ae ae (cI (fq hi) (by decide) (.inr rfl));cases ec:CU.contains (pl i)with
  |false=>rw[ec]at cu q;refine dA (iX cu) ?_;rw[Bool.false_and]at q;dsimp only at q;rw[Qy]at q;exact q
  |true=>
   obtain⟨u1,u2,_,u4,u5⟩:=Gj hi ec;rw[ec,Q6]at q;refine bz (r:=true&&((dz K0).contains (cS i)&&(dz K1).contains (cS i))) (bG (ec▸cu) (bG (bw (x:=NV (pl i)) ae (λK q=>mG (n:=n+1) hm h0 q) (by rw[u1];exact sg u2 CN rfl)) (bw (x:=NV (pl i)) ae (λK q=>mG (n:=n+1) hm h1 q) (by rw[u1];exact sg u2 CN rfl)))) (λe=>?_) λe=>?_
   ·rw[Q6]at e;rw[e]at q;refine vK (i:=gI (K0++K1) i) ae ?_ lo q;refine ey (bw (x:=NV (pl i)) ae (eB ae ae ad) (cI (fq hi) h01 (.inl rfl))) (λe K q=>by unfold gI at q;rw[e]at q;exact q) λe K q=>?_;have er:fr i=true:=by
     cases ef:fr i with
     |true=>rfl
     |false=>rw[u5 ef,PR.mpr ‹i∈K0++K1›]at e;cases e
    unfold gI at q;rw[e]at q;refine vE (a:=.str [126]) (b:=NV (pl i)) (v:=NV i) ?_ q;show gd (decide (1+(nm (pl i)).length≤aD)) (.str (126::nm (pl i)))=_;have:=wN (fq hi);rw[PL (PM (by omega:1+(nm (pl i)).length≤10) (by decide:10≤aD)),u4 er];rfl
   ·rw[Q6]at e;rw[e]at q;dsimp only at q;rw[Qy]at q;exact q
 ·obtain⟨x3,x5,rfl⟩:=hv;have lt:aj (U++(K0++K1).flatMap (mA (K0++K1) (dz K0) (dz K1))):=λj hj=>(Qe.mp hj).elim (lU j) λh=>by refine X2 (Qz.mp h) λi hi h=>?_;exact(Eb (h01 i hi)).1 j h
  have ln:∀L:List Nat,(L.flatMap (mA (K0++K1) (dz K0) (dz K1))).length≤L.length:=λL=>by
   induction L with
   |nil=>exact Qi _
   |cons i L ih=>
    have:(mA (K0++K1) (dz K0) (dz K1) i).length≤1:=by
     delta mA
     cases CU.contains (pl i)&&((dz K0).contains (cS i)&&(dz K1).contains (cS i))with
     |true=>exact Qi _
     |false=>exact Qc _
    rw[QJ,PX,Qf];exact ug this ih
  have:=ln (K0++K1);refine we (n:=n+2) hm lt (by rw[PX];omega) ?_;refine eO (cl:=call (n+16)) (j:=1) (e:=.k .notin (.v 1) (.tp [.c jm,.c kF])) (elt:=.v 1) (ok:=λz=>true) (S:=⟨0,m,l,[.gone],o⟩) (vs:=[none,none]) (g:=NV) (f:=NV) (b:=λi=>!([16,14]:List Nat).contains i) (L:=ck (U++(K0++K1).flatMap (mA (K0++K1) (dz K0) (dz K1)))) rfl (λi hi=>ju (x:=NV i) (y:=.tp (([16,14]:List Nat).map NV)) ae ae (cI (pg i hi) (by decide) (.inr rfl))) (λz z z z q=>q) ?_;exact⟨rfl,bD _,q⟩
end
noncomputable def eR(i j:Nat):Bool:=(og i).any (og j).contains
noncomputable def kI(i:Nat):Bool:=CU.contains (pl i)
noncomputable def oy(i:Nat):Bool:=kI i||([16,14]:List Nat).contains i
noncomputable def gw(i:Nat):Bool:=([6,7,8,4,5,15]:List Nat).contains (pl i)
noncomputable def qx(K1:List Nat)(i:Nat):List Nat:=match([16,14]:List Nat).contains i&&(K1.filter (eR i)).all kI||beq i 21&&(K1.filter (eR i)).all oy with
 |true=>K1.filter (eR i)
 |false=>match(K1.filter (eR i)).isEmpty with|true=>[]|false=>[i]
noncomputable def tA(K1:List Nat):List Nat:=match(K1.filter gw).isEmpty with|true=>K1|false=>[15]
noncomputable def xA(K1:List Nat):List Nat:=match K1.contains 20||(K1.contains 21||(!(K1.filter gw).isEmpty && !K1.all gw))with
 |true=>[19]
 |false=>tA K1
section
variable{i j:Nat}{S:St}
theorem tv{α:Type}{b:α→Bool}{L:List α}{g:α→V}:decide (((((L.filter b).map g).length:Nat):Int)=(((L.map g).length:Nat):Int))=L.all b:=by rw[PS,PS,P7,Qp,ofNat_inj,P5];exact List.length_filter_eq_length_iff
theorem p5{α:Type}{L:List α}{g:α→V}:decide ((0:Int)<(((L.map g).length:Nat):Int))=!L.isEmpty:=by
 rw[PS];cases L with
 |nil=>rfl
 |cons a L=>exact PL (by rw[Qf];omega)
theorem Kv{α:Type}{b:α→Bool}{L:List α}{g:α→V}:decide (((((L.filter b).map g).length:Nat):Int)<(((L.map g).length:Nat):Int))=!L.all b:=by have h1:=QG b L;have h2:=tv (b:=b) (L:=L) (g:=g);rw[PS,PS]at h2 ⊢;rw[← h2];rw[P7,Qo,Qp,decide_eq_false_iff_not];omega
theorem Pc(hi:i<27)(hj:j<27)(h:∀K':V→St→Prop,K' (.ls (((og i).filter (og j).contains).map PT)) S→ev pA cl e vs S K'):c6 cl (.k .gt (.p .len [e]) (.i 0)) vs S (eR i j):=λK' q=>h _ (of_eq (b:=decide ((0:Int)<(((((og i).filter (og j).contains).map PT).length:Nat):Int))) (by
 rw[p5];delta eR
 rw[P7,Qo,← Bool.not_eq_true,isEmpty_iff,filter_eq_nil_iff,QA];exact⟨λh=>QZ λh'=>h λa ha e=>h' ⟨a,ha,e⟩,λ⟨a,ha,e⟩ h=>h a ha e⟩) q)
variable{k m n c:Nat}
theorem M4{i j k:Int}(hx:Gv cl a vs S (.int i))(hy:Gv cl b vs S (.int j))(hz:Gv cl d vs S (.int k)):c6 cl (.lt3 a b d) vs S (decide (i<j)&&decide (j<k)):=λK' q=>hx _ (hy _ (by
 refine Ld (lt_int rfl) ?_;cases e:decide (i<j)with
 |false=>rw[e]at q;exact q
 |true=>rw[e]at q;exact hz _ (Ld (lt_int rfl) q)))
noncomputable def uE(K0 K1:List Nat):List Nat:=match decide (K0=[19])with|true=>xA K1|false=>ck (K0.flatMap (qx K1))
theorem vZ(hi:i<27)(h1:aj K1)(l1:K1.length≤3):aj (qx K1 i)∧(qx K1 i).length≤3:=by
 delta qx
 have a:aj (K1.filter (eR i)):=λj hj=>h1 j (P8.mp hj).1;have b:(K1.filter (eR i)).length≤3:=PM (QG ..) l1;cases ([16,14]:List Nat).contains i&&(K1.filter (eR i)).all kI||beq i 21&&(K1.filter (eR i)).all oy with
 |true=>exact⟨a,b⟩
 |false=>cases (K1.filter (eR i)).isEmpty with
  |true=>exact⟨λz h=>(az h),(ag rfl:0≤3)⟩
  |false=>exact⟨λj hj=>PH.mp hj▸hi,(ag rfl:1≤3)⟩
noncomputable abbrev Pj(K0 K1:List Nat)(x4 x5 x6 x7:Option V):au:=[some (.ls (K0.map NV)),some (.ls (K1.map NV)),none,some (.hd .ref 0),x4,x5,x6,x7,none,none]
theorem KJ(hi:i<27)(h:Gv cl e vs S (NV (pl i))):c6 cl (.k .in_ e (.c iD)) vs S (kI i):=bw (y:=.tp (CU.map NV)) h ae (cI (fq hi) (by decide) (.inr rfl))
theorem D5(hm:m<3)(h0:aj K0)(h1:aj K1)(l0:K0.length≤3)(l1:K1.length≤3)(q:K (.ls ((uE K0 K1).map NV)) ⟨c,m,l,h,o⟩):call (n+15) 72 [.ls (K0.map NV),.ls (K1.map NV)] ⟨c,m,l,h,o⟩ K:=by
 refine own (vs:=(some (.ls (K0.map NV))::some (.ls (K1.map NV))::z8)) rfl rfl (Qc _) (by show(V.freeL (K0.map NV)&&(V.freeL (K1.map NV)&&true))=true;rw[bD,bD];rfl) rfl ?_;unfold uE at q;refine bz (r:=decide (K0=[19])) (aM (y:=.ls (([19]:List Nat).map NV)) ae ae (by rw[oW,lX h0 (by decide)])) (λe=>?_) λe=>?_
 ·rw[e]at q;replace e:=PI e;subst e;unfold xA at q;refine ay (v:=.ls ((K1.filter gw).map NV)) (λK q=>eO (cl:=call (n+14)) (j:=1) (e:=.k .in_ (.cl 65 [.v 1]) (.tp [.c (.str [88]),.c (.str [89]),.c (.str [90]),.c (.str [86]),.c (.str [87]),.c rj])) (elt:=.v 1) (ok:=λz=>true) (S:=⟨0,m,l,[],o⟩) (vs:=[none,none,none]) (g:=NV) (f:=NV) (b:=gw) (L:=K1) rfl (λi hi=>bw (y:=.tp (([6,7,8,4,5,15]:List Nat).map NV)) (λK q=>cz (n:=n+1) hm (h1 i hi) q) ae (cI (fq (h1 i hi)) (by decide) (.inr rfl))) (λz z z z q=>q) q) ?_;refine bz (r:=K1.contains 20||(K1.contains 21||(!(K1.filter gw).isEmpty && !K1.all gw))) (b7 (bw (x:=NV 20) ae ae (cI (ag rfl) h1 (.inl rfl))) (b7 (bw (x:=NV 21) ae ae (cI (ag rfl) h1 (.inl rfl))) (by rw[← p5 (g:=NV),← Kv (g:=NV)];exact M4 ae ae λz q=>q))) (λe=>?_) λe=>?_
  ·rw[e]at q;exact⟨rfl,rfl,q⟩
  ·rw[e]at q;dsimp only at q;refine gY (v:=.ls ((tA K1).map NV)) (ey (r:=!(K1.filter gw).isEmpty) (λK' q=>of_eq (b:=decide ((0:Int)<((((K1.filter gw).map NV).length:Nat):Int))) p5 q) (λe K q=>by unfold tA at q;rw[(Qo _).mp e]at q;exact q) λe K q=>by unfold tA at q;rw[(RQ _).mp e]at q;exact q) ⟨rfl,?_,q⟩;exact bD _
 ·rw[e]at q;refine e6 (v:=.hd .ref 0) (S':=sn 0 m l o []) ae ?_;refine dE (L:=K0.map NV) ae rfl ?_;refine nl (F:=qx K1) (V:=λvs=>∃x4 x5 x6 x7,vs=Pj K0 K1 x4 x5 x6 x7) K0 [] _ (λi hi=>(vZ (h0 i hi) h1 l1).2) (λi hi vs out hv lo K q=>?_) ⟨none,none,none,none,rfl⟩ (by show 0+_<40;omega) λvs hv=>?_
  ·obtain⟨x4,x5,x6,x7,rfl⟩:=hv;have li:=h0 i hi;have la:aj (K1.filter (eR i)):=λj hj=>h1 j (P8.mp hj).1;have lla:(K1.filter (eR i)).length≤3:=PM (QG ..) l1;replace q:=q _ ⟨some (NV i),some (.ls ((K1.filter (eR i)).map NV)),some (.ls (((K1.filter (eR i)).filter kI).map NV)),some (.ls (((K1.filter (eR i)).filter oy).map NV)),rfl⟩;unfold qx at q;refine ay (v:=.ls ((K1.filter (eR i)).map NV)) (λK q=>eO (cl:=call (n+14)) (j:=1) (e:=.k .gt (.p .len [.cl 68 [.cl 71 [.v 5],.cl 71 [.v 1]]]) (.i 0)) (elt:=.v 1) (ok:=λz=>true) (S:=sn 0 m l o out) (vs:=[none,none,none,none,none,some (NV i)]) (g:=NV) (f:=NV) (b:=eR i) (L:=K1) rfl (λj hj=>Pc li (h1 j hj) λK q=>kB (n:=n+1) hm li (kB (n:=n+1) hm (h1 j hj) (uh (n:=n+13) hm (DD li) (DD (h1 j hj)) q))) (λz z z z q=>q) q) ?_;generalize K1.filter (eR i)=A at q la lla;refine ay (v:=.ls ((A.filter kI).map NV)) (λK q=>eO (cl:=call (n+14)) (j:=1) (e:=.k .in_ (.cl 65 [.v 1]) (.c iD)) (elt:=.v 1) (ok:=λz=>true) (S:=sn 0 m l o out) (vs:=(none::z3)) (g:=NV) (f:=NV) (b:=kI) (L:=A) rfl (λj hj=>KJ (la j hj) λK q=>cz (n:=n+1) hm (la j hj) q) (λz z z z q=>q) q) ?_;refine ay (v:=.ls ((A.filter oy).map NV)) (λK q=>eO (cl:=call (n+14)) (j:=1) (e:=.or (.k .in_ (.cl 65 [.v 1]) (.c iD)) (.k .in_ (.v 1) (.tp [.c jm,.c kF]))) (elt:=.v 1) (ok:=λz=>true) (S:=sn 0 m l o out) (vs:=(none::z3)) (g:=NV) (f:=NV) (b:=oy) (L:=A) rfl (λj hj=>b7 (KJ (la j hj) λK q=>cz (n:=n+1) hm (la j hj) q) (bw (x:=NV j) (y:=.tp (([16,14]:List Nat).map NV)) ae ae (cI (la j hj) (by decide) (.inr rfl)))) (λz z z z q=>q) q) ?_;refine oS (r:=([16,14]:List Nat).contains i&&A.all kI||beq i 21&&A.all oy) (b7 (bG (bw (x:=NV i) (y:=.tp (([16,14]:List Nat).map NV)) ae ae (cI li (by decide) (.inr rfl))) λK' q=>of_eq (b:=decide (((((A.filter kI).map NV).length:Nat):Int)=(((A.map NV).length:Nat):Int))) tv q) (bG (aM (x:=NV i) (y:=NV 21) ae ae (Aw li (by decide))) λK' q=>of_eq (b:=decide (((((A.filter oy).map NV).length:Nat):Int)=(((A.map NV).length:Nat):Int))) tv q)) (λe=>?_) λe=>?_
   ·rw[e]at q;refine GF (A:=out.map NV) (B:=A.map NV) ae rfl ae ?_ ?_
    ·rw[PS,PS];exact PM (by omega:out.length+A.length≤50) (by decide:50≤aD)
    ·have e:out.map NV++A.map NV=(out++A).map NV:=QY.symm;show K .next _ ⟨0,m,l,[.list (out.map NV++A.map NV)],o⟩
     rw[e];exact q
   ·rw[e]at q;refine bz (r:=!A.isEmpty) (λK' q=>of_eq (b:=decide ((0:Int)<(((A.map NV).length:Nat):Int))) p5 q) (λe=>?_) λe=>?_
    ·rw[(Qo _).mp e]at q;exact vK ae ae lo q
    ·rw[(RQ _).mp e]at q;dsimp only at q;rw[Qy]at q;exact q
  ·obtain⟨x4,x5,x6,x7,rfl⟩:=hv;rw[nil_append];have ln:∀L:List Nat,aj L→(L.flatMap (qx K1)).length≤L.length*3:=λL hL=>by
    induction L with
    |nil=>exact Qi _
    |cons i L ih=>have:=(vZ (hL i mh) h1 l1).2;have:=ih λj h=>hL j (mt h);rw[QJ,PX,Qf];omega
   have:=ln K0 h0;exact we hm (λj hj=>by refine X2 (Qz.mp hj) λi hi h=>?_;exact(vZ (h0 i hi) h1 l1).1 j h) (by omega) ⟨rfl,bD _,q⟩
end
noncomputable abbrev LP:List Nat:=[116,97,98]
noncomputable abbrev MH:List Nat:=[109,97,100,101]
noncomputable abbrev B8:List Nat:=[110,97,109,101,115]
noncomputable abbrev My:List Nat:=[100,105,100,115]
noncomputable abbrev CG:List Nat:=[107,105,110,100,115]
noncomputable def wD(k im inm ids ik:Nat):List (V×V):=[(.str LP,.hd .tab k),(.str MH,.hd .ref im),(.str B8,.hd .ref inm),(.str My,.hd .ref ids),(.str CG,.hd .ref ik)]
noncomputable def nD(k:Nat)(w:Bool)(L:List Nat):List (V×V):=L.map λi=>(A k w i,NV i)
structure Wn (h:List O) (k:Nat) (w:Bool) (iw:Nat) (us:List V):Prop where
 ex:∃im inm ids ik L,h[iw]?=some (.dict (wD k im inm ids ik))∧h[inm]?=some (.dict (nD k w L))∧h[ik]?=some (.list us)∧aj L∧∀i,i<27→i∈L
section
variable{k n c:Nat}{h:List O}{i j:Nat}{S:St}
theorem l8(hi:S.h[i]?=some (.dict d)):dictAt S (.hd .ref i)=some (i,d):=by delta dictAt;simp only[V.asHdl,Option.bind,hi]
theorem nN(hi:S.h[i]?=some (.dict d))(hk:bf (S.n-1) x d=true)(hf:aC x d=some v):bV S (.hd .ref i) x=some v:=by
 delta bV bu bT
 simp only[V.asTup,V.asStr,hi];rw[l8 hi];show(match bf (S.n-1) x d with|true=>aC x d|false=>none)=_;rw[hk];exact hf
theorem Bz(hk:k<2)(hi:i<27)(hj:j<27):V.beq (A k w i) (A k w j)=beq i j:=by rw[P7,Sa];refine⟨λe=>?_,λe=>e▸fE.1 _⟩;have a:=PJ (gW (w:=w) hk hi).2.1;have b:=PJ (gW (w:=w) hk hj).2.1;rw[← a,← b,iJ e]
theorem Ir(hk:k<2)(hi:i<27)(hL:aj L)(h:i∈L):aC (A k w i) (nD k w L)=some (NV i):=by
 induction L with
 |nil=>exact az h
 |cons j L ih=>
  show(match V.beq (A k w j) (A k w i)with|true=>some (NV j)|false=>aC (A k w i) (nD k w L))=_;rw[Bz hk (hL j mh) hi];cases e:beq j i with
  |true=>rw[PJ e]
  |false=>exact ih (λa h=>hL a (mt h)) ((P4.mp h).resolve_left λh=>by rw[h,RA]at e;exact eg e)
theorem zQ(hk:k<2)(hi:i<27)(hL:aj L):bf k (A k w i) (nD k w L)=true:=by
 delta bf nD
 rw[(gW hk hi).2.2,all_map];exact P5.mpr λj hj=>(gW hk (hL j hj)).2.2
abbrev Lb(p:Pt):Prop:=p=[19]∨br p
theorem Lr(hp:Lb p):aj p:=λi hi=>hp.elim (λe=>by rw[e]at hi;exact PH.mp hi▸(ag rfl)) λh=>(h.2 i hi).1
theorem Gy(h1:Gv cl e1 vs S (.hd .ref inm))(h2:Gv cl e2 vs S (A k w i))(hi:S.h[inm]?=some (.dict (nD k w L)))(hn:S.n=k+1)(hk:k<2)(li:i<27)(hL:aj L)(hm:i∈L):Gv cl (.me .get e1 [e2,.c (.str s)]) vs S (NV i):=λK' q=>h1 _ (by
 show iff pA ((dictAt S (.hd .ref inm)).isSome||_) _;rw[l8 hi];refine h2 _ ?_;show cF.run pA (match dictAt S (.hd .ref inm)with|some e=>eM (bf (S.n-1) (A k w i) e.2) (.ret ((aC (A k w i) e.2).getD (.str s)) S)|none=>_) _;rw[l8 hi];show cF.run pA (eM (bf (S.n-1) (A k w i) (nD k w L)) (.ret ((aC (A k w i) (nD k w L)).getD (.str s)) S)) _;rw[hn,Ir hk li hL hm];show cF.run pA (eM (bf k (A k w i) (nD k w L)) _) _;rw[zQ hk li hL];exact q)
theorem xb(hk:k<2)(hi:i<27):bU k (A k w i)=some (pJ k w [i])∧∀S,bV S (pJ k w [i]) (.int 0)=some (.int (gN i:Nat)):=by have:=n6 (f:=λk w i=>(bU k (A k w i)).isSome) (by decide +kernel) (w:=w) hk hi;refine X1 (Q0.mp this) λr hr=>?_;exact⟨by show bU k (A k w i)=some ((bU k (A k w i)).getD .nul);rw[hr];rfl,λS=>uY (f:=λk w i=>bV S (pJ k w [i]) (.int 0)) (g:=λz z i=>some (.int (gN i:Nat))) (by rfl) hk hi⟩
variable{p:Pt}{T Z:List Pt}
theorem dR(ha:Gv cl e1 vs S x)(hb:Gv cl e2 vs S y)(hs:bV S x y=some v):Gv cl (.sb e1 e2) vs S v:=λK' q=>ha _ (hb _ (Hk hs q))
theorem pO(ha:Gv cl e vs S (.hd .tab k)):Gv cl (.attr .rows e) vs S (.hd .rows k):=λK' q=>ha _ q
theorem dj(ha:Gv cl e vs S (.hd .ref iw))(hi:S.h[iw]?=some (.dict (wD k im inm ids ik)))(hf:aC (.str s) (wD k im inm ids ik)=some v):Gv cl (.sb e (.c (.str s))) vs S v:=dR ha ae (nN hi rfl hf)
theorem HF(lp:aj p)(hl:p.length≤60)(q:K (PN p) S):(A0 (.str [38]) [.ls (p.map NV)] S).run pA K:=by
 have e1:∀p:Pt,cK (p.map NV)=some (p.map nm):=λp=>by
  induction p with
  |nil=>rfl
  |cons i p ih=>show(cK (p.map NV)).map (nm i :: ·)=_;rw[ih];rfl
 show(ct (cK (p.map NV)) λss=>eM (decide ((ss.map List.length).sum+ss.length*1≤aD)) (.ret (.str (bL [38] ss)) S)).run pA K;rw[e1];show(eM (decide (((p.map nm).map List.length).sum+(p.map nm).length*1≤aD)) (.ret (PN p) S)).run pA K;have s:∀p:Pt,aj p→((p.map nm).map List.length).sum≤p.length*9:=λp hp=>by
  induction p with
  |nil=>exact Qi _
  |cons i p ih=>have:=ih λj h=>hp j (mt h);have:=wN (hp i mh);rw[Q4,Q4,List.sum_cons,Qf];omega
 have:=s p lp;rw[PS,PL (PM (by omega:((p.map nm).map List.length).sum+p.length*1≤600) (ag rfl:600≤aD))];exact q
theorem NK(hi:i<27):beq (gN i) 7=false∧beq (gN i) 6=false:=by have:=aO (f:=λi=>!beq (gN i) 7 && !beq (gN i) 6) (by decide +kernel) hi;exact⟨(Qo _).mp (aa this).1,(Qo _).mp (aa this).2⟩
theorem zu(hk:k<2)(hw:Wn h k w iw us)(hp:Lb p)(hl:p.length≤60)(q:K (PN p) ⟨c,k+1,l,h,o⟩):call (n+1) 81 [.hd .ref iw,PV k w p] ⟨c,k+1,l,h,o⟩ K:=by
 obtain⟨im,inm,ids,ik,L,h1,h2,_,hL,hA⟩:=hw.ex;have lp:=Lr hp;refine ji (vs:=[some (.hd .ref iw),some (PV k w p),none,none]) rfl rfl rfl ?_;by_cases h2':2≤p.length
 ·have r:bU k (PV k w p)=some (.tp [.int 7,.tp (p.map (A k w))]):=by
   match p,h2' with
   |i::j::p,_=>match k,hk with
    |0,_=>rfl
    |1,_=>rfl
  refine ay (v:=.tp [.int 7,.tp (p.map (A k w))]) (dR (x:=.hd .rows k) (y:=PV k w p) (pO (dj ae h1 rfl)) ae r) ?_;refine dw (cl:=call n) (j:=1) (elt:=.me .get (.sb (.v 2) (.c (.str B8))) [.v 1,.c (.str [63])]) (ok:=λz=>true) (S:=⟨c,k+1,l,h,o⟩) (vs:=[none,none,some (.hd .ref iw)]) (g:=A k w) (f:=NV) (L:=p) rfl (λa ha=>Gy (dj ae h1 rfl) ae h2 rfl hk (lp a ha) hL (hA a (lp a ha))) ?_;exact HF lp hl q
 ·match p,hp,lp,h2',q with
  |[],hp,_,_,_=>exact absurd rfl (hp.elim (λe=>nomatch e) (·.1))
  |_::_::_,_,_,h2',_=>exact absurd (QV ..) h2'
  |[i],_,lp,_,q=>have li:=lp i mh;refine U2 (xb (w:=w) hk li) λr1 r2=>?_;refine ay (v:=pJ k w [i]) (dR (x:=.hd .rows k) (y:=A k w i) (pO (dj ae h1 rfl)) ae r1) ?_;refine dA (aM (y:=.int ((7:Nat):Int)) (dR ae ae (r2 _)) ae (by rw[bZ,(NK li).1])) ?_;exact gY (v:=NV i) (Gy (dj ae h1 rfl) ae h2 rfl hk li hL (hA i li)) q
theorem EW(hk:k<2)(h2:2≤Z.length):bU k (KV k w Z)=some (.tp [.int 6,.tp (Z.map (PV k w))]):=by
 match Z,h2 with
 |p::p'::Z,_=>
  show bU k (match decide (p::p'::Z=[[12],[17]])with|true=>.int 12|false=>_)=_;by_cases e:p::p'::Z=[[12],[17]]
  ·rw[PL e,e];rfl
  ·rw[PQ e];match k,hk with
   |0,_=>rfl
   |1,_=>rfl
def jb(Z T:List Pt):Prop:=T.Perm Z∧(T.map dy).Pairwise λa b=>aZ a b=true
theorem JR(hl:Z.length<64)(q:∀T,jb Z T→K (.ls (T.map PN)) S):(eD .sorted (.ls (Z.map PN)) S).run pA K:=by
 have e1:∀Z:List Pt,cK (Z.map PN)=some (Z.map dy):=λZ=>by
  induction Z with
  |nil=>rfl
  |cons p Z ih=>show(cK (Z.map PN)).map (dy p :: ·)=_;rw[ih];rfl
 show(eG (Z.map PN) S).run pA K;delta eG
 rw[PS,PL hl,e1];refine X2 (iT (f:=dy) (l:=Z) (iE aZ (Z.map dy))) λM e hp=>?_;show K (.ls ((fY aZ (Z.map dy)).map .str)) S;rw[← e,QR];exact q M ⟨hp,e▸gi i9 fg _⟩
theorem ur(hk:k<2)(hw:Wn h k w iw us)(hZ:aE Z)(hl:Z.length<64)(h8:∀p∈Z,p.length≤60)(q:∀T,jb Z T→K (.ls (T.map PN)) ⟨c,k+1,l,h,o⟩):call (n+2) 80 [.hd .ref iw,KV k w Z] ⟨c,k+1,l,h,o⟩ K:=by
 obtain⟨im,inm,ids,ik,L,h1,h2,_,hL,hA⟩:=hw.ex;have oq:∀p∈Z,Lb p:=λp hp=>hZ.elim (λh=>.inr (h p hp)) λe=>.inl (by rw[e]at hp;exact PH.mp hp);refine ji (vs:=(some (.hd .ref iw)::some (KV k w Z)::z5)) rfl rfl rfl ?_;match Z,hZ,hl,h8,oq,q with
 |[],_,_,_,_,q=>refine ay (v:=.tp [.int 1,.str [110,101,118,101,114]]) (dR (x:=.hd .rows k) (y:=.int 2) (pO (dj ae h1 rfl)) ae rfl) ?_;exact q [] ⟨.refl _,.nil⟩
 |[p],hZ,_,h8,oq,q=>
  have hq:=oq p mh;have r:∃r kd,bU k (PV k w p)=some r∧(∀S,bV S r (.int 0)=some (.int ((kd:Nat):Int)))∧beq kd 6=false:=by
   match p,hq with
   |[i],hq=>have li:=Lr hq i mh;exact lb _ _ ((xb hk li).1) ((xb hk li).2) ((NK li).2)
   |[],hq=>exact absurd rfl (hq.elim (λe=>nomatch e) (·.1))
   |i::j::p,_=>exact lb (.tp [.int 7,.tp ((i::j::p).map (A k w))]) 7 (by match k,hk with|0,_=>rfl|1,_=>rfl) (λz=>rfl) rfl
  refine Y3 r λr kd r1 r2 r3=>?_;refine ay (v:=r) (dR (x:=.hd .rows k) (y:=PV k w p) (pO (dj ae h1 rfl)) ae r1) ?_;refine dA (aM (x:=KV k w [p]) (y:=KV k w []) ae ae (by rw[jZ hk rfl hZ jz];rfl)) ?_;exact gY (v:=.ls ([p].map PN)) (ey (r:=false) (aM (y:=.int ((6:Nat):Int)) (dR ae ae (r2 _)) ae (by rw[bZ,r3])) (λe=>ak e) λz K q=>zu hk hw hq (h8 p mh) q) (q [p] ⟨.refl _,Qu _ _⟩)
 |p::p'::Z,hZ,hl,h8,oq,q=>have h2':2≤(p::p'::Z).length:=QV ..;have hne:p::p'::Z≠[]:=λh=>nomatch h;generalize p::p'::Z=Z' at hZ hl h8 oq q h2' hne;refine ay (v:=.tp [.int 6,.tp (Z'.map (PV k w))]) (dR (x:=.hd .rows k) (y:=KV k w Z') (pO (dj ae h1 rfl)) ae (EW hk h2')) ?_;refine dA (aM (x:=KV k w Z') (y:=KV k w []) ae ae (by rw[jZ hk rfl hZ jz,PQ hne])) ?_;refine dw (cl:=call (n+1)) (j:=1) (elt:=.cl 81 [.v 3,.v 1]) (ok:=λz=>true) (S:=⟨c,k+1,l,h,o⟩) (vs:=[none,none,none,some (.hd .ref iw)]) (g:=PV k w) (f:=PN) (L:=Z') rfl (λp hp K q=>zu hk hw (oq p hp) (h8 p hp) q) ?_;exact JR hl q
end
section
variable{p:Pt}{i:Nat}{L:List Nat}
structure Kn (K L:List Nat):Prop where
 inc:K.Pairwise (· < ·)
 perm:L.Perm K
 len:K.length≤3
theorem Kn.nd(h:Kn K0 L):L.Nodup:=h.perm.nodup_iff.mpr (h.inc.imp λh=>Q9 h)
theorem Kn.ok(h:Kn K0 L)(o:aA K0):aA L:=λi hi=>o i (h.perm.mem_iff.mp hi)
theorem Kn.okN(h:Kn K0 L)(o:okN K0):okN L:=o.imp h.ok λe=>by have:=h.perm;rw[e]at this;exact QT.mp this
theorem Kn.nf(h:Kn K0 L)(n:Nf K0):Nf L:=λp=>by have e:∀p,p∈af L↔p∈af K0:=λp=>(h.perm.map _).mem_iff;rw[cg e,e];exact n p
theorem Kn.l3(h:Kn K0 L):L.length≤3:=h.perm.length_eq▸h.len
theorem D9(hL:aj L):i∈mr L↔[i]∈aX (af L):=by
 rw[aV,aL,aL,aL,aL];have c12:(L.map pl).contains 12=true↔12∈L:=by rw[PR,Qd];refine⟨λ⟨j,hj,e⟩=>?_,λh=>⟨12,h,rfl⟩⟩;have:=aO (f:=λj=>!beq (pl j) 12||beq j 12) (by decide +kernel) (hL j hj);rw[show beq (pl j) 12=true by rw[e];rfl]at this;exact PJ this▸hj
 have c17:(L.map pl).contains 17=true↔17∈L∨26∈L:=by rw[PR,Qd];refine⟨λ⟨j,hj,e⟩=>?_,λh=>h.elim (λh=>⟨17,h,rfl⟩) λh=>⟨26,h,rfl⟩⟩;have:=aO (f:=λj=>!beq (pl j) 17||(beq j 17||beq j 26)) (by decide +kernel) (hL j hj);rw[show beq (pl j) 17=true by rw[e];rfl]at this;exact(QW.mp (show(beq j 17||beq j 26)=true from this)).imp (λe=>by rw[← PJ e];exact hj) λe=>by rw[← PJ e];exact hj
 delta mr
 rw[Qe];refine RK ?_;have s:∀a:Nat,([i]=[a])=(i=a):=λa=>propext ⟨λh=>by injection h,λh=>h▸rfl⟩;rw[s,s];cases e:(L.map pl).contains 12&&(L.map pl).contains 17 with
 |true=>refine U2 (aa e) λe1 e2=>?_;exact⟨λh=>⟨(P4.mp h).imp_right PH.mp,c12.mp e1,c17.mp e2⟩,λh=>h.1.elim (λe=>e▸.head _) λe=>e▸mt mh⟩
 |false=>exact⟨λh=>(az h),λh=>by rw[c12.mpr h.2.1,c17.mpr h.2.2]at e;exact eg e⟩
theorem fZ(D:List Pt)(f:Nat→Option Nat):fx D (Eg f [i])=match f i with|some j=>decide ([j]∈D)|none=>false:=by show fx D ((f i).map λj=>[j])=_;cases f i<;>rfl
theorem IX(hL:aj L)(hi:i<27):kp L i=bH (aX (af L)) [i]:=by
 delta kp bH
 rw[fZ,fZ];have a:(fr i&&(mr L).contains (pl i))=match cH i with|some j=>decide ([j]∈aX (af L))|none=>false:=by
  delta fr pl
  cases e:cH i with
  |none=>rfl
  |some j=>show(mr L).contains j=decide ([j]∈aX (af L));rw[P7,PR,Qp];exact D9 hL
 have b:(sm i&&L.contains (wd i))=match cZ i with|some j=>decide ([j]∈aX (af L))|none=>false:=by
  have:=aO (f:=λi=>match cZ i with|some j=>sm i&&(beq (wd i) j&&(beq j 14||beq j 16))|none=>!sm i) (by decide +kernel) hi;cases e:cZ i with
  |none=>rw[e]at this;rw[(Qo _).mp this];rfl
  |some j=>rw[e]at this;refine U2 (aa this) λh1 h2=>?_;refine U2 (aa h2) λh2 h3=>?_;rw[h1,PJ h2];show(true&&L.contains j)=decide ([j]∈aX (af L));rw[Q6,P7,PR,Qp,aV,aL];refine⟨.inl,λh=>h.resolve_right λh=>?_⟩;rcases QW.mp h3 with h3|h3<;>rcases h.1 with h|h<;>injection h with h<;>rw[h]at h3<;>exact ak h3
 rw[a,b]
theorem mC(hL:aA L):p∈af (ck L)↔a8 (af L) p:=by
 have lt:aj L:=λi hi=>(hL i hi).1;have e:L.contains 19=false:=Qj.mpr λh=>(hL 19 (PR.mp h)).2 rfl;have key:∀i,i<27→(i∈ck L↔a8 (af L) [i]):=λi hi=>by rw[zi lt e,D9 lt,IX lt hi];exact RX
 constructor
 ·intro h;obtain⟨i,hi,rfl⟩:=Qd.mp h;exact(key i (pg i hi)).mp hi
 ·intro h;obtain⟨i,rfl,oi⟩:=sE hL h;exact aL.mpr ((key i oi.1).mpr h)
theorem oQ:(ck L).Pairwise (· < ·):=by
 delta ck
 cases L.contains 19 with
 |true=>exact Qu _ _
 |false=>exact dN
theorem Ip(hs:jb Z T)(nZ:Z.Nodup)(mZ:∀p,p∈Z↔p∈af M)(hM:M.Pairwise (· < ·))(lM:aj M):T.map PN=M.map NV:=by
 have pz:Z.Perm (af M):=(Rv nZ (ky (hM.imp λh=>Q9 h))).mpr mZ;have e:T.map dy=M.map nm:=by refine Rd (le:=λa b=>aZ a b=true) (λa b _ _ x y=>dW a b x y) hs.2 (Rp.mpr (hM.imp_of_mem λha hb h=>(dP (lM _ ha) (lM _ hb)).2.1 (RS (Rm h)))) ?_;refine((hs.1.trans pz).map dy).trans (List.Perm.of_eq ?_);rw[QR];rfl
 rw[show T.map PN=(T.map dy).map V.str by rw[QR];rfl,e,QR];rfl
variable{j:Nat}
noncomputable def NI(i j:Nat):Bool:=beq i 19||(beq j 19||((cw i j==eR i j)&&((un j==kI j)&&((!(beq i 21&&cw i j)||cT j==oy j)&&((!un j||(c8 i j == !uM i j))&&((qw i == !C8.contains (pl i))&&((beq i 16||(GC i==xr.contains (pl i)))&&((beq (fam j) 7==(gw j||beq j 21))&&(!(gw j&&beq j 21)&&(beq (fam j) 6==beq j 20))))))))))
theorem gM(hi:aJ i)(hj:aJ j):cw i j=eR i j∧un j=kI j∧(beq i 21=true→cw i j=true→cT j=oy j)∧(un j=true→c8 i j=!uM i j)∧qw i=!C8.contains (pl i)∧(beq i 16=false→GC i=xr.contains (pl i))∧beq (fam j) 7=(gw j||beq j 21)∧(gw j&&beq j 21)=false∧beq (fam j) 6=beq j 20:=by
 have:=aO (aO (f:=λi=>bQ.all λj=>NI i j) (by decide +kernel) hi.1) hj.1;unfold NI at this;rw[lP hi,lP hj,QF,QF]at this;obtain⟨h1,h2⟩:=aa this;obtain⟨h2,h3⟩:=aa h2;obtain⟨h3,h4⟩:=aa h3;obtain⟨h4,h5⟩:=aa h4;obtain⟨h5,h6⟩:=aa h5;obtain⟨h6,h7⟩:=aa h6;obtain⟨h7,h8⟩:=aa h7;obtain⟨h8,h9⟩:=aa h8;refine⟨eq_of_beq h1,eq_of_beq h2,λa b=>?_,λa=>?_,eq_of_beq h5,λa=>?_,eq_of_beq h7,(Qo _).mp h8,eq_of_beq h9⟩
 ·rw[a,b]at h3;exact eq_of_beq h3
 ·rw[a]at h4;exact eq_of_beq h4
 ·rw[a]at h6;exact eq_of_beq h6
theorem zG(hi:aJ i)(k1:Kn K1 L1)(h1:aA K1):p∈oc L1 i↔p∈af (qx K1 i):=by
 have e1:K1.filter (eR i)=K1.filter (cw i):=eQ λj hj=>(gM hi (h1 j hj)).1.symm;have pe:(L1.filter (cw i)).Perm (K1.filter (cw i)):=k1.perm.filter _;have hA:∀j∈K1.filter (cw i),aJ j∧cw i j=true:=λj hj=>⟨h1 j (P8.mp hj).1,(P8.mp hj).2⟩
 delta oc qx
 rw[e1];generalize K1.filter (cw i)=A at pe hA;generalize L1.filter (cw i)=H at pe;have c1:(H.all un)=A.all kI:=(pe.all_eq (f:=un)).trans (by
  rw[P7,P5,P5];exact RG λj=>RG λhj=>by rw[(gM hi (hA j hj).1).2.1])
 have c2:(beq i 21&&H.all cT)=(beq i 21&&A.all oy):=by
  cases e:beq i 21 with
  |false=>rfl
  |true=>refine Qb (true && ·) ((pe.all_eq (f:=cT)).trans ?_);rw[P7,P5,P5];exact RG λj=>RG λhj=>by rw[(gM hi (hA j hj).1).2.2.1 e (hA j hj).2]
 have c3:cB i H=(([16,14]:List Nat).contains i&&A.all kI||beq i 21&&A.all oy):=by
  delta cB
  rw[c1,c2];refine Qb (· || _) (Qb (· && _) ?_);have:=aO (f:=λi=>(beq i 14||beq i 16)==([16,14]:List Nat).contains i) (by decide +kernel) hi.1;exact eq_of_beq this
 rw[← c3];cases H with
 |nil=>have:A=[]:=nil_perm.mp pe;subst this;cases cB i []<;>exact RX
 |cons a H=>
  have ne:A.isEmpty=false:=by
   cases A with
   |nil=>exact absurd (perm_nil.mp pe) (λh=>nomatch h)
   |cons _ _=>rfl
  rw[ne];show p∈(match cB i (a::H)with|true=>af (a::H)|false=>[[i]])↔_;cases cB i (a::H)with
  |true=>exact(pe.map _).mem_iff
  |false=>exact RX
theorem rx{F:Nat→List Nat}:∀L:List Nat,af (L.flatMap F)=L.flatMap λi=>af (F i)
 |[]=>rfl
 |i::L=>by rw[QJ,QJ,← rx L];exact QY
theorem JD(k1:Kn K1 L1)(h1:aA K1):p∈k7 L1↔p∈af (xA K1):=by
 have f:=λj hj=>gM (show aJ 0 by decide) (h1 j hj);have a6:kg 6 L1=K1.contains 20:=by
  delta kg
  rw[k1.perm.any_eq,P7,QA,PR];exact⟨λ⟨j,hj,e⟩=>by rw[(f j hj).2.2.2.2.2.2.2.2]at e;exact PJ e▸hj,λh=>⟨20,h,rfl⟩⟩
 have a21:(L1.any λj=>beq j 21)=K1.contains 21:=by rw[k1.perm.any_eq,P7,QA,PR];exact⟨λ⟨j,hj,e⟩=>PJ e▸hj,λh=>⟨21,h,rfl⟩⟩
 delta k7 xA
 rw[a6,a21];cases K1.contains 20 with
 |true=>exact RX
 |false=>
  rw[QF];have a7:kg 7 L1=(!(K1.filter gw).isEmpty||K1.contains 21):=by
   delta kg
   rw[k1.perm.any_eq,P7,QA,or_eq_true,Qo,← Bool.not_eq_true,isEmpty_iff,filter_eq_nil_iff,PR];constructor
   ·rintro ⟨j,hj,e⟩;rw[(f j hj).2.2.2.2.2.2.1]at e;exact(QW.mp e).imp (λe h=>h j hj e) λe=>by rw[← PJ e];exact hj
   ·rintro (h|h)
    ·refine QZ λn=>h λj hj e=>n ⟨j,hj,?_⟩;rw[(f j hj).2.2.2.2.2.2.1,e];rfl
    ·exact aB 21 h rfl
  rw[a7];cases e21:K1.contains 21 with
  |true=>rw[RP];show p∈(match(L1.all λj=>beq (fam j) 7) && !true with|true=>[[15]]|false=>aS)↔_;rw[show(!true)=false from rfl,Bool.and_false];exact RX
  |false=>
   have al:(L1.all λj=>beq (fam j) 7)=K1.all gw:=by
    rw[k1.perm.all_eq,P7,P5,P5];refine RG λj=>RG λhj=>?_;have n:beq j 21=false:=Qj.mpr λe=>by rw[← PJ e,PR.mpr hj]at e21;exact eg e21
    rw[(f j hj).2.2.2.2.2.2.1,n,RR]
   rw[al,RR,QF];delta tA
   cases (K1.filter gw).isEmpty with
   |true=>exact(k1.perm.map _).mem_iff
   |false=>cases K1.all gw<;>exact RX
theorem Fq(k0:Kn K0 L0)(k1:Kn K1 L1)(h0:okN K0)(h1:aA K1)(y:xT L0 L1 Z):p∈Z↔p∈af (uE K0 K1):=by
 obtain⟨_,y⟩:=y;delta uE
 by_cases e:K0=[19]
 ·have e':L0=[19]:=by have:=k0.perm;rw[e]at this;exact QT.mp this
  rw[PL e']at y;rw[PL e,show Z=k7 L1 from y];exact JD k1 h1
 ·have e':L0≠[19]:=λe'=>e (by have:=k0.perm;rw[e']at this;exact(R0.mp this).symm);rw[PQ e']at y;rw[PQ e];have h0:=h0.resolve_right e;refine(y p).trans (Iff.trans (cg λp=>?_) (mC λj hj=>?_).symm)
  ·rw[rx,Qz,Qz];constructor
   ·rintro ⟨i,hi,h⟩;replace hi:=k0.perm.mem_iff.mp hi;exact aB i hi ((zG (h0 i hi) k1 h1).mp h)
   ·rintro ⟨i,hi,h⟩;exact aB i (k0.perm.mem_iff.mpr hi) ((zG (h0 i hi) k1 h1).mpr h)
  ·refine X2 (Qz.mp hj) λi hi h=>?_;unfold qx at h;revert h;cases ([16,14]:List Nat).contains i&&(K1.filter (eR i)).all kI||beq i 21&&(K1.filter (eR i)).all oy with
   |true=>exact λh=>h1 j (P8.mp h).1
   |false=>
    cases (K1.filter (eR i)).isEmpty with
    |true=>exact λh=>nomatch h
    |false=>exact λh=>PH.mp h▸h0 i hi
theorem yl:Nf [21,13]∧Nf [21,18]:=by
 have f:∀L:List Nat,aA L→(∀i∈ck L,i∈L)→(∀i∈L,i∈ck L)→Nf L:=λL hL a b p=>by rw[← mC hL];exact⟨λh=>by refine X2 (Qd.mp h) λi hi e=>?_;exact Qd.mpr ⟨i,a i hi,e⟩,λh=>by refine X2 (Qd.mp h) λi hi e=>?_;exact Qd.mpr ⟨i,b i hi,e⟩⟩
 exact⟨f _ (by decide) (by decide) (by decide),f _ (by decide) (by decide) (by decide)⟩
theorem Iu(k0:Kn K0 L0)(k1:Kn K1 L1)(h0:okN K0)(n0:aA K0→Nf K0)(h1:aA K1)(hu:K0=[19]→∀j,K1=[j]→un j=true→j=13∨j=18)(y:yu L0 L1 Z):p∈Z↔p∈af (j4 K0 K1):=by
 refine U2 y λz y=>?_;have same:Z=af L0→(p∈Z↔p∈af K0):=λe=>e▸(k0.perm.map _).mem_iff;match K1,L1,k1,h1,hu,y with
 |[],L1,k1,_,_,y=>rw[perm_nil.mp k1.perm]at y;exact same y
 |a::b::r,L1,k1,_,_,y=>
  match L1,k1.perm.length_eq,y with
  |_::_::_,_,y=>exact same y
 |[j],L1,k1,h1,hu,y=>
  rw[QT.mp k1.perm]at y;have oj:=h1 j mh;have uc:un j=CU.contains (pl j):=(gM oj oj).2.1;have y:(match un j with|false=>Z=af L0|true=>match decide (j=13∨j=18)with|true=>∀p,p∈Z↔∃L,(∀p,p∈af L↔a8 (af (match decide (L0=[19])with|true=>[21,ot j]|false=>L0.filter λi=>c8 i j)) p)∧a8 (af L) p|false=>L0≠[19]→∀p,p∈Z↔a8 (af (L0.filter λi=>c8 i j)) p):=y;show _↔p∈af (match CU.contains (pl j)with|false=>K0|true=>match decide (K0=[19])with|true=>tf j|false=>K0.filter λi=>!uM i j);rw[← uc];cases uj:un j with
  |false=>rw[uj]at y;exact same y
  |true=>
   rw[uj]at y;have flt:K0≠[19]→(p∈af (L0.filter λi=>c8 i j)↔p∈af (K0.filter λi=>!uM i j))∧∀p,a8 (af (L0.filter λi=>c8 i j)) p↔p∈af (L0.filter λi=>c8 i j):=λe=>by have h0:=h0.resolve_right e;refine⟨?_,λp=>my (k0.nf (n0 h0)) λi hi=>(P8.mp hi).1⟩;rw[eQ (f:=λi=>!uM i j) (g:=λi=>c8 i j) λi hi=>((gM (h0 i hi) oj).2.2.2.1 uj).symm];exact((k0.perm.filter _).map _).mem_iff
   have e0:(L0=[19])↔K0=[19]:=⟨λe=>by have:=k0.perm;rw[e]at this;exact(R0.mp this).symm,λe=>by have:=k0.perm;rw[e]at this;exact QT.mp this⟩
   by_cases hj:j=13∨j=18
   ·rw[PL hj]at y;have y:=λ(H:List Nat)(nH:∀p,a8 (af H) p↔p∈af H)(e:(match decide (L0=[19])with|true=>[21,ot j]|false=>L0.filter λi=>c8 i j)=H)=>show p∈Z↔p∈af H from by
     rw[e]at y;refine(y p).trans ⟨λ⟨L,m,h⟩=>?_,λh=>⟨H,λp=>(nH p).symm,(nH p).mpr h⟩⟩;exact(nH p).mp ((cg λp=>(m p).trans (nH p)).mp h)
    by_cases e:K0=[19]
    ·rw[PL e];have:=y [21,ot j] (by rcases hj with rfl|rfl;exact yl.2;exact yl.1) (by rw[PL (e0.mpr e)]);refine this.trans ?_;have s:∀a b:Nat,p∈af [a,b]↔p∈af [b,a]:=λa b=>((List.Perm.swap b a []).map _).mem_iff;rcases hj with rfl|rfl
     ·exact s 21 18
     ·exact s 21 13
    ·rw[PQ e];exact(y _ (flt e).2 (by rw[PQ λh=>e (e0.mp h)])).trans (flt e).1
   ·rw[PQ hj]at y;have e:K0≠[19]:=λe=>hj (hu e j rfl uj);rw[PQ e];exact(y (λh=>e (e0.mp h)) p).trans (((flt e).2 p).trans (flt e).1)
theorem JK(hL:aA L):L.flatMap sA=af (L.flatMap iL):=by
 have f:∀i,aJ i→sA i=af (iL i):=λi hi=>by
  delta sA iL
  cases e:beq i 16 with
  |true=>rfl
  |false=>rw[← (gM hi hi).2.2.2.2.2.1 e];cases GC i<;>rfl
 rw[rx];induction L with
 |nil=>rfl
 |cons i L ih=>rw[QJ,QJ,ih λj h=>hL j (mt h),f i (hL i mh)]
variable{k n c:Nat}{h:List O}{K0 K1:List Nat}{v:V}{S:St}{cl:Cl}
theorem fU{l:List V}(ha:Gv cl e1 vs S (.hd .ref i))(hi:S.h[i]?=some (.list l))(hx:du l z=some v):Gv cl (.sb e1 (.c (.int z))) vs S v:=dR ha ae (by
 delta bV bu bT
 simp only[V.asTup,hi,V.asInt,Option.bind];exact hx)
theorem r7(ha:Gv cl e vs S (.hd .tab k)):Gv cl (.newHost e) vs S (.hd .host k):=λK' q=>ha _ q
theorem rA{x v:V}(ha:Gv cl e vs S x)(hf:∀K':V→St→Prop,K' v S→cl f [x] S K'):Gv cl (.cl f [e]) vs S v:=λK' q=>ha _ (hf _ q)
theorem BD{x v:V}(ha:Gv cl e1 vs S x)(hb:Gv cl e2 vs S y)(hf:∀K':V→St→Prop,K' v S→cl f [x,y] S K'):Gv cl (.cl f [e1,e2]) vs S v:=λK' q=>ha _ (hb _ (hf _ q))
theorem i8(hw:Wn h k w iw us)(ha:Gv cl e1 vs ⟨c,k+1,l,h,o⟩ (.hd .ref iw))(hx:du us z=some v):Gv cl (.sb (.sb e1 (.c (.str CG))) (.c (.int z))) vs ⟨c,k+1,l,h,o⟩ v:=by refine e54 hw.ex λim inm ids ik L h1 h2 h3 y=>?_;exact fU (dj ha h1 rfl) h3 hx
theorem te(hw:Wn h k w iw us)(ha:Gv cl e1 vs ⟨c,k+1,l,h,o⟩ (.hd .ref iw)):Gv cl (.sb e1 (.c (.str LP))) vs ⟨c,k+1,l,h,o⟩ (.hd .tab k):=by obtain⟨im,inm,ids,ik,L,h1,_⟩:=hw.ex;exact dj ha h1 rfl
theorem l6(hk:k<2)(hw:Wn h k w iw us)(hZ:aE Z)(nZ:Z.Nodup)(mZ:∀p,p∈Z↔p∈af M)(hM:M.Pairwise (· < ·))(lM:aj M)(q:K (.ls (M.map NV)) ⟨c,k+1,l,h,o⟩):call (n+2) 80 [.hd .ref iw,KV k w Z] ⟨c,k+1,l,h,o⟩ K:=by
 have l27:Z.length≤27:=by
  have:=cV (m:=af bQ) nZ λp hp=>by refine X2 (Qd.mp ((mZ p).mp hp)) λi hi e=>?_;exact Qd.mpr ⟨i,fJ (lM i hi),e⟩
  exact PM this (ag rfl)
 refine ur hk hw hZ (Qa l27 (ag rfl)) (λp hp=>?_) λT hT=>?_
 ·refine X2 (Qd.mp ((mZ p).mp hp)) λi hi e=>?_;exact e▸(ag rfl:1≤60)
 ·rw[Ip hT nZ mZ hM lM];exact q
theorem oV{S:St}{K:Bool→Prop}(lM:aj M)(q:K true):aq pA (cq S (.ls (M.map NV)) (.ls (M.map NV))) K:=by rw[oW,lX lM lM,PL rfl];exact q
theorem fK(h:okN L):aj L:=qO h
theorem fQ{b:Nat→Bool}(h:L.Pairwise (· < ·)):(L.filter b).Pairwise (· < ·):=List.Pairwise.filter _ h
noncomputable abbrev BQ:E:=.it (.k .eq (.v 2) (.i 2)) (.cl 74 [.sb (.v 1) (.i 0)]) (.cl 75 [.sb (.v 1) (.i 0)])
noncomputable abbrev Ha(iw il how:Nat)(k:Nat)(s t:V)(x6:Option V):au:=(some (.hd .ref iw)::some (.hd .ref il)::some (.int (how:Nat))::some (.hd .host k)::some s::some t::x6::z8)
theorem Je(hk:k<2)(hw:Wn h k w iw [KV k w (af L0),KV k w (af L1),v])(hl:h[il]?=some (.list [.ls (K0.map NV),.ls (K1.map NV),x]))(k0:Kn K0 L0)(o0:okN K0)(n0:aA K0→Nf K0)(hc:60000≤c)(q:∀c',c-50000≤c'→K (.bool true) ⟨c',k+1,true,h,o⟩):call (n+30) 83 [.hd .ref iw,.hd .ref il,.int 2] ⟨c,k+1,true,h,o⟩ K:=by
 refine ji (vs:=(some (.hd .ref iw)::some (.hd .ref il)::some (.int 2)::oa)) rfl rfl rfl ?_;refine ay (v:=.hd .host k) (r7 (te hw λz q=>q)) ?_;refine ay (v:=KV k w (af L0)) (i8 hw ae rfl) ?_;refine ay (v:=KV k w (af L1)) (i8 hw ae rfl) ?_;have fin:∀Z c',aE Z→Z.Nodup→(∀p,p∈Z↔p∈af (match decide (K0=[19])with|true=>[21]|false=>K0.filter λi=>!C8.contains (pl i)))→c-50000≤c'→call (n+29) 80 [.hd .ref iw,KV k w Z] ⟨c',k+1,true,h,o⟩ λv S=>ev pA (call (n+29)) BQ (Ha iw il 2 k (KV k w (af L0)) (KV k w (af L1)) none) S λv2 S=>aq pA (cq S v v2) λb=>K (.bool b) S:=λZ c' hZ nZ mZ hc'=>by
  have lM:aj (match decide (K0=[19])with|true=>[21]|false=>K0.filter λi=>!C8.contains (pl i)):=by
   cases decide (K0=[19])with
   |true=>exact λj hj=>PH.mp hj▸(ag rfl)
   |false=>exact λj hj=>fK o0 j (P8.mp hj).1
  have iM:(match decide (K0=[19])with|true=>[21]|false=>K0.filter λi=>!C8.contains (pl i)).Pairwise (· < ·):=by
   cases decide (K0=[19])with
   |true=>exact Qu _ _
   |false=>exact fQ k0.inc
  refine l6 (n:=n+27) hk hw hZ nZ mZ iM lM ?_;have gv:Gv (call (n+29)) BQ (Ha iw il 2 k (KV k w (af L0)) (KV k w (af L1)) none) ⟨c',k+1,true,h,o⟩ (.ls ((match decide (K0=[19])with|true=>[21]|false=>K0.filter λi=>!C8.contains (pl i)).map NV)):=ey (r:=true) ae (λz=>rA (fU ae hl rfl) λK q=>FV (n:=n+15) (bc (bb hk rfl)) (fK o0) q) (λe=>eg e);refine gv _ ?_;exact oV lM (q c' hc')
 rcases o0 with o0|rfl
 ·have e0:=zK o0;refine H2 (n:=n+11) hk (k0.ok o0) k0.l3 (k0.nf (n0 o0)) (aW hc rfl) λZ nZ hZ mZ=>?_;refine fin Z _ hZ nZ (λp=>?_) (ff rfl);rw[PQ e0];rw[mZ,eQ (L:=K0) (f:=λi=>!C8.contains (pl i)) (g:=qw) λi hi=>(gM (o0 i hi) (o0 i hi)).2.2.2.2.1.symm];exact((k0.perm.filter _).map _).mem_iff
 ·have e:L0=[19]:=QT.mp k0.perm;subst e;refine Dt (n:=n+16) (b:=true) hk (aW hc rfl) ?_;exact fin [[21]] _ (.inl λp hp=>PH.mp hp▸cb (by decide)) (Qu _ _) (λp=>RX) (ff rfl)
theorem MG(o0:aA K0):aA (K0.flatMap iL):=λj hj=>by
 refine X2 (Qz.mp hj) λi hi h=>?_;unfold iL at h;revert h;cases beq i 16 with
 |true=>exact λh=>PH.mp h▸(by decide)
 |false=>cases xr.contains (pl i)with
  |true=>exact λh=>PH.mp h▸o0 i hi
  |false=>exact λh=>nomatch h
theorem Fe(hk:k<2)(hw:Wn h k w iw [KV k w (af L0),KV k w (af L1),v])(hl:h[il]?=some (.list [.ls (K0.map NV),.ls (K1.map NV),x]))(k0:Kn K0 L0)(o0:okN K0)(hc:60000≤c)(q:∀c',c-50000≤c'→K (.bool true) ⟨c',k+1,true,h,o⟩):call (n+30) 83 [.hd .ref iw,.hd .ref il,.int 3] ⟨c,k+1,true,h,o⟩ K:=by
 refine ji (vs:=(some (.hd .ref iw)::some (.hd .ref il)::some (.int 3)::oa)) rfl rfl rfl ?_;refine ay (v:=.hd .host k) (r7 (te hw λz q=>q)) ?_;refine ay (v:=KV k w (af L0)) (i8 hw ae rfl) ?_;refine ay (v:=KV k w (af L1)) (i8 hw ae rfl) ?_;have fin:∀Z c',aE Z→Z.Nodup→(∀p,p∈Z↔p∈af (ck (K0.flatMap iL)))→c-50000≤c'→call (n+29) 80 [.hd .ref iw,KV k w Z] ⟨c',k+1,true,h,o⟩ λv S=>ev pA (call (n+29)) BQ (Ha iw il 3 k (KV k w (af L0)) (KV k w (af L1)) none) S λv2 S=>aq pA (cq S v v2) λb=>K (.bool b) S:=λZ c' hZ nZ mZ hc'=>by refine l6 (n:=n+27) hk hw hZ nZ mZ oQ pg ?_;have gv:Gv (call (n+29)) BQ (Ha iw il 3 k (KV k w (af L0)) (KV k w (af L1)) none) ⟨c',k+1,true,h,o⟩ (.ls ((ck (K0.flatMap iL)).map NV)):=ey (r:=false) ae (λe=>ak e) (λz=>rA (fU ae hl rfl) λK q=>C6 (n:=n+14) (bc (bb hk rfl)) (fK o0) k0.len q);refine gv _ ?_;exact oV pg (q c' hc')
 rcases o0 with o0|rfl
 ·refine Fy (n:=n+11) hk (k0.ok o0) k0.l3 (aW hc rfl) λZ nZ hZ mZ=>?_;refine fin Z _ hZ nZ (λp=>?_) (ff rfl);rw[mZ,JK (k0.ok o0),mC (MG o0)];refine cg λp=>((List.Perm.flatMap_right _ k0.perm).map _).mem_iff
 ·have e:L0=[19]:=QT.mp k0.perm;subst e;refine Dt (n:=n+16) (b:=false) hk (aW hc rfl) ?_;exact fin aS _ (.inr rfl) (Qu _ _) (λp=>RX) (ff rfl)
theorem JN(k1:Kn K1 L1)(h1:aj K1):aj (uE K0 K1)∧(uE K0 K1).Pairwise (· < ·):=by
 delta uE
 cases decide (K0=[19])with
 |false=>exact⟨pg,oQ⟩
 |true=>
  show aj (xA K1)∧(xA K1).Pairwise (· < ·);delta xA tA
  cases K1.contains 20||(K1.contains 21||(!(K1.filter gw).isEmpty && !K1.all gw))with
  |true=>exact⟨λj hj=>PH.mp hj▸(ag rfl),Qu _ _⟩
  |false=>cases (K1.filter gw).isEmpty with
   |true=>exact⟨h1,k1.inc⟩
   |false=>exact⟨λj hj=>PH.mp hj▸(ag rfl),Qu _ _⟩
theorem Jw(k0:Kn K0 L0)(h0:aj K0):aj (j4 K0 K1)∧(j4 K0 K1).Pairwise (· < ·):=by
 match K1 with
 |[]=>exact⟨h0,k0.inc⟩
 |_::_::_=>exact⟨h0,k0.inc⟩
 |[j]=>
  delta j4
  dsimp only;cases CU.contains (pl j)with
  |false=>exact⟨h0,k0.inc⟩
  |true=>cases decide (K0=[19])with
   |false=>exact⟨λi hi=>h0 i (P8.mp hi).1,fQ k0.inc⟩
   |true=>
    show aj (tf j)∧(tf j).Pairwise (· < ·);delta tf
    cases beq j 18 with
    |true=>exact(show aj [13,21]∧[13,21].Pairwise (· < ·)from⟨by decide,by decide⟩)
    |false=>cases beq j 13 with
     |true=>exact(show aj [18,21]∧[18,21].Pairwise (· < ·)from⟨by decide,by decide⟩)
     |false=>exact(show aj [19]∧[19].Pairwise (· < ·)from⟨by decide,by decide⟩)
theorem MC(hk:k<2)(hw:Wn h k w iw [KV k w (af L0),KV k w (af L1),v])(hl:h[il]?=some (.list [.ls (K0.map NV),.ls (K1.map NV),x]))(k0:Kn K0 L0)(k1:Kn K1 L1)(o0:okN K0)(o1:aA K1)(n1:Nf K1)(ne:K1≠[])(hc:60000≤c)(q:∀c',c-50000≤c'→K (.bool true) ⟨c',k+1,true,h,o⟩):call (n+30) 83 [.hd .ref iw,.hd .ref il,.int 0] ⟨c,k+1,true,h,o⟩ K:=by have l0:=fK o0;have l1:aj K1:=λi hi=>(o1 i hi).1;refine ji (vs:=(some (.hd .ref iw)::some (.hd .ref il)::some (.int 0)::oa)) rfl rfl rfl ?_;refine ay (v:=.hd .host k) (r7 (te hw λz q=>q)) ?_;refine ay (v:=KV k w (af L0)) (i8 hw ae rfl) ?_;refine ay (v:=KV k w (af L1)) (i8 hw ae rfl) ?_;refine dA ae ?_;refine ay (v:=.ls ((uE K0 K1).map NV)) (ey (r:=true) ae (λz=>BD (fU ae hl rfl) (fU ae hl rfl) λK q=>D5 (n:=n+14) (bc (bb hk rfl)) l0 l1 k0.len k1.len q) λe=>eg e) ?_;refine JO (n:=n+2) hk (k0.okN o0) k0.l3 (k1.ok o1) k1.l3 (λe=>ne (by have:=k1.perm;rw[e]at this;exact nil_perm.mp this)) (k1.nf n1) k1.nd (aW hc rfl) λZ hZ y=>?_;refine U2 (JN (K0:=K0) k1 l1) λa b=>?_;refine l6 (n:=n+27) hk hw hZ y.1 (λp=>Fq k0 k1 o0 o1 y) b a ?_;exact oV a (q _ (Qi _))
theorem MM(hk:k<2)(hw:Wn h k w iw [KV k w (af L0),KV k w (af L1),v])(hl:h[il]?=some (.list [.ls (K0.map NV),.ls (K1.map NV),x]))(k0:Kn K0 L0)(k1:Kn K1 L1)(o0:okN K0)(n0:aA K0→Nf K0)(o1:aA K1)(ne:K1≠[])(hc:60000≤c)(q:∀c',c-50000≤c'→K (.bool true) ⟨c',k+1,true,h,o⟩):call (n+30) 83 [.hd .ref iw,.hd .ref il,.int 1] ⟨c,k+1,true,h,o⟩ K:=by
 have l0:=fK o0;have l1:aj K1:=λi hi=>(o1 i hi).1;refine ji (vs:=(some (.hd .ref iw)::some (.hd .ref il)::some (.int 1)::oa)) rfl rfl rfl ?_;refine ay (v:=.hd .host k) (r7 (te hw λz q=>q)) ?_;refine ay (v:=KV k w (af L0)) (i8 hw ae rfl) ?_;refine ay (v:=KV k w (af L1)) (i8 hw ae rfl) ?_;refine dA ae ?_;refine ay (v:=.ls ((j4 K0 K1).map NV)) (ey (r:=false) ae (λe=>ak e) λz=>BD (fU ae hl rfl) (fU ae hl rfl) λK q=>DT (n:=n+15) (bc (bb hk rfl)) l0 l1 ne q) ?_;refine U2 (Jw (K1:=K1) k0 l0) λa b=>?_;by_cases hu:K0=[19]∧∃j,K1=[j]∧u9 j=true
 ·obtain⟨rfl,j,rfl,hj⟩:=hu;have e0:L0=[19]:=QT.mp k0.perm;have e1:L1=[j]:=QT.mp k1.perm;subst e0;subst e1;refine JY (n:=n+16) hk (o1 j mh).1 hj (aW hc rfl) ?_;refine l6 (n:=n+27) (Z:=aS) (M:=j4 [19] [j]) hk hw (.inr rfl) (Qu _ _) (λp=>?_) b a ?_
  ·have e:j4 [19] [j]=[19]:=by
    unfold u9 at hj;refine U2 (aa hj) λh1 h2=>?_;refine U2 (Rz.mp ((Qo _).mp h2)) λh3 h4=>?_;delta j4
    dsimp only;rw[show CU.contains (pl j)=true from(gM (o1 j mh) (o1 j mh)).2.1.symm.trans h1];show tf j=_;delta tf
    rw[h3,h4]
   rw[e];exact RX
  ·exact oV a (q _ (Qi _))
 ·have hu:K0=[19]→∀j,K1=[j]→un j=true→j=13∨j=18:=λe0 j e1 uj=>by
   refine QZ λn=>hu ⟨e0,j,e1,?_⟩;delta u9
   rw[uj,show beq j 13=false from Qj.mpr λh=>n (.inl (PJ h)),show beq j 18=false from Qj.mpr λh=>n (.inr (PJ h))];rfl
  refine Mo (n:=n+3) hk (k0.okN o0) k0.nd k0.l3 (k1.ok o1) (λe=>ne (by have:=k1.perm;rw[e]at this;exact nil_perm.mp this)) (λe j e1 uj=>hu (by have:=k0.perm;rw[e]at this;exact(R0.mp this).symm) j (by have:=k1.perm;rw[e1]at this;exact(R0.mp this).symm) uj) (aW hc rfl) λZ hZ y=>?_;refine l6 (n:=n+27) hk hw hZ y.1 (λp=>Iu k0 k1 o0 n0 o1 hu y) b a ?_;exact oV a (q _ (Qi _))
end
def al(p:Pt)(y:Nat):Prop:=∀i∈p,y∈aP i
noncomputable def tJ(l m:List Nat):Bool:=l.all m.contains
section
variable{q r:Pt}{i y:Nat}{L:List Nat}
theorem l5(h:tJ L M=true)(hy:y∈L):y∈M:=PR.mp (P5.mp h y hy)
theorem J8(hi:aJ i)(hj:aJ j):(beq (mc i j) 0=true→¬(y∈aP i∧y∈aP j))∧(beq (mc i j) 1=true→y∈aP i→y∈aP j)∧(beq (mc i j) 2=true→y∈aP j→y∈aP i):=by
 have:=aO (aO (f:=λi=>bQ.all λj=>beq i 19||(beq j 19||((!beq (mc i j) 0||(aP i).all λy=>!(aP j).contains y)&&((!beq (mc i j) 1||tJ (aP i) (aP j))&&(!beq (mc i j) 2||tJ (aP j) (aP i)))))) (by decide +kernel) hi.1) hj.1;rw[lP hi,lP hj,QF,QF]at this;refine U2 (aa this) λh1 h2=>?_;refine U2 (aa h2) λh2 h3=>?_;refine⟨λe ⟨a,b⟩=>?_,λe h=>?_,λe h=>?_⟩
 ·rw[e]at h1;have:=P5.mp h1 y a;rw[PR.mpr b]at this;exact ak this
 ·rw[e]at h2;exact l5 h2 h
 ·rw[e]at h3;exact l5 h3 h
theorem yo(hi:i<27):aP (ou i)=aP i∧aP (xS i)=aP i:=PI (aO (f:=λi=>decide (aP (ou i)=aP i∧aP (xS i)=aP i)) (by decide +kernel) hi)
theorem yj(hj:aJ j):∀{L out:Pt}{b:Bool},aA L→(kY j L b out=none→¬(al L y∧y∈aP j))∧∀b' r,kY j L b out=some (b',r)→(al r y∧y∈aP j↔al out y∧al L y∧y∈aP j)∧((b=true→al out y→y∈aP j)→b'=true→al r y→y∈aP j)
 |[],out,b,_=>⟨λh=>(qE h),λb' r e=>by cases e;exact⟨⟨λh=>⟨h.1,λz h=>(az h),h.2⟩,λh=>⟨h.1,h.2.2⟩⟩,id⟩⟩
 |i::L,out,b,hL=>by
  have hi:=hL i mh;refine U3 (J8 (y:=y) hi hj) λm0 m1 m2=>?_;unfold kY;cases e0:beq (mc i j) 0 with
  |true=>exact⟨λz h=>m0 e0 ⟨h.1 i mh,h.2⟩,λz z e=>ah e⟩
  |false=>
   refine U2 (yj hj (L:=L) (out:=match beq (mc i j) 2 with|true=>out|false=>out++[i]) (b:=match beq (mc i j) 1 with|true=>true|false=>b) λk h=>hL k (mt h)) λn s=>?_;have alc:al (i::L) y↔y∈aP i∧al L y:=List.forall_mem_cons;refine⟨λe h=>n e ⟨(alc.mp h.1).2,h.2⟩,λb' r e=>?_⟩;refine U2 (s b' r e) λs1 s2=>?_;cases e2:beq (mc i j) 2 with
   |true=>
    rw[e2]at s1 s2;have e1:beq (mc i j) 1=false:=by rw[PJ e2];rfl
    rw[e1]at s2;refine⟨s1.trans ?_,s2⟩;rw[alc];exact⟨λh=>⟨h.1,⟨m2 e2 h.2.2,h.2.1⟩,h.2.2⟩,λh=>⟨h.1,h.2.1.2,h.2.2⟩⟩
   |false=>
    rw[e2]at s1 s2;have ala:al (out++[i]) y↔al out y∧y∈aP i:=List.forall_mem_append.trans (R8 λz=>RF);refine⟨s1.trans ?_,λhb=>s2 ?_⟩
    ·show al (out++[i]) y∧_↔_;rw[alc,ala];exact⟨λh=>⟨h.1.1,⟨h.1.2,h.2.1⟩,h.2.2⟩,λh=>⟨⟨h.1,h.2.1.1⟩,h.2.1.2,h.2.2⟩⟩
    ·show _→al (out++[i]) y→_;rw[ala];cases e1:beq (mc i j) 1 with
     |true=>exact λz h=>m1 e1 h.2
     |false=>exact λh h'=>hb h h'.1
theorem Gs(hp:aA p)(hj:aJ j):(k6 p j=none→¬(al p y∧y∈aP j))∧∀r,k6 p j=some r→(al r y↔al p y∧y∈aP j):=by
 refine U2 (yj (y:=y) hj (L:=p) (out:=[]) (b:=false) hp) λn s=>?_;have al0:al [] y:=λz h=>az h;refine⟨λe=>n (Option.map_eq_none_iff.mp e),λr e=>?_⟩;obtain⟨⟨b,t⟩,e,e'⟩:=Qr.mp e;refine U2 (s b t e) λs1 s2=>?_;have s1:al t y∧y∈aP j↔al p y∧y∈aP j:=s1.trans ⟨λh=>h.2,λh=>⟨al0,h⟩⟩;cases b with
 |true=>rw[← e',← s1];exact⟨λh=>⟨h,s2 (λh=>ak h) rfl h⟩,λh=>h.1⟩
 |false=>rw[← e',← s1];exact List.forall_mem_append.trans (R8 λz=>RF)
theorem v8:∀{q p:Pt},br p→aA q→(ir p q=none→¬(al p y∧al q y))∧∀r,ir p q=some r→(al r y↔al p y∧al q y)
 |[],p,_,_=>⟨λh=>(qE h),λr e=>by replace e:=PG e;subst e;exact⟨λh=>⟨h,λz h=>(az h)⟩,λh=>h.1⟩⟩
 |j::q,p,hp,hq=>by
  have hj:=hq j mh;refine U2 (Gs (y:=y) hp.2 hj) λn s=>?_;have alc:al (j::q) y↔y∈aP j∧al q y:=List.forall_mem_cons;rw[alc];unfold ir;cases e:k6 p j with
  |none=>exact⟨λz h=>n e ⟨h.1,h.2.1⟩,λz h=>ah h⟩
  |some t=>have st:=s t e;refine U2 (v8 (q:=q) (p:=t) (lK hp.2 hj e).1 λk h=>hq k (mt h)) λn2 s2=>?_;rw[st,and_assoc]at n2;refine⟨n2,λr e=>(s2 r e).trans ?_⟩;rw[st,and_assoc]
theorem xq(hp:br p)(hq:br q):(∃m∈cy (bO p q),al m y)↔al p y∧al q y:=by
 have me:∀{p:Pt},br p→(al (mem p) y↔al p y):=λ{p} hp=>by
  match p,hp with
  |[i],hp=>
   show al [xS i] y↔al [i] y;delta al
   rw[RF,RF,(yo (hp.2 i mh).1).2]
  |_::_::_,_=>exact RX
 refine U2 (v8 (y:=y) (gc hp) (gc hq).2) λn s=>?_;rw[me hp,me hq]at n;delta bO
 cases e:ir (mem p) (mem q)with
 |none=>exact⟨λ⟨_,h,_⟩=>(az h),λh=>absurd h (n e)⟩
 |some r=>
  have sr:=s r e;rw[me hp,me hq]at sr;rw[← sr];have rl:al (rC r) y↔al r y:=by
   by_cases h2:2≤r.length
   ·rw[pU h2];have hr:=(p7 (gc hp) (gc hq).2 e).1.2;exact⟨λh i hi=>(yo (hr i hi).1).1▸h _ (Qd.mpr ⟨i,hi,rfl⟩),λh x hx=>by refine X2 (Qd.mp hx) λi hi e=>?_;rw[← e,(yo (hr i hi).1).1];exact h i hi⟩
   ·match r,h2 with
    |[],_=>exact RX
    |[_],_=>exact RX
    |_::_::_,h2=>exact absurd (QV ..) h2
  exact⟨λ⟨m,h,a⟩=>rl.mp (PH.mp (show m∈[rC r]from h)▸a),λh=>⟨rC r,.head _,rl.mpr h⟩⟩
end
def pa(Z:List Pt)(y:Nat):Prop:=∃p∈Z,al p y
section
variable{p:Pt}{X:List Pt}{j:Nat}{Ps:List (List Pt)}
noncomputable def ND(i:Nat):Bool:=(match cZ i with|some j=>(cH j).isNone&&((cZ j).isNone&&tJ (aP i) (aP j))|none=>true)&&match cH i with|some j=>(cH j).isNone&&(decide (cZ j=cZ i)&&tJ (aP i) (aP j))|none=>true
theorem kh:al [i] y↔y∈aP i:=RF
theorem HG(hG:aH G):(∃p,a8 G p∧al p y)↔pa G y:=by
 have hJ:=A1 hG;constructor
 ·rintro ⟨p,⟨hp,_⟩,a⟩;rcases aV.mp hp with h|⟨e,h1,h2⟩
  ·exact aB p h a
  ·rcases e with rfl|rfl
   ·exact aB _ h1 a
   ·exact h2.elim (λh=>⟨_,h,a⟩) λh=>⟨_,h,(show al [26] y from kh.mpr (show y∈aP 17 from kh.mp a))⟩
 ·rintro ⟨p,hp,a⟩;have hj:p∈aX G:=aV.mpr (.inl hp);have op:=hG p hp;match p,op,hj,a with
  |i::j::p,_,hj,a=>exact aB _ ⟨hj,rfl⟩ a
  |[i],op,hj,a=>
   have hi:=(op.2 i mh).1;replace f:=aO (f:=ND) (by decide +kernel) hi;unfold ND at f;obtain⟨f1,f2⟩:=aa f;have kept:∀j,cH j=none→(∀w,cZ j=some w→[w]∉aX G)→bH (aX G) [j]=true:=λj e1 e2=>by
    delta bH
    rw[fZ,fZ,e1];cases ew:cZ j with
    |none=>rfl
    |some w=>show(!false && !decide ([w]∈aX G))=true;rw[PQ (e2 w ew)];rfl
   cases ew:cZ i with
   |some j=>
    rw[ew]at f1;by_cases hw:[j]∈aX G
    ·obtain⟨g1,g2⟩:=aa f1;obtain⟨g2,g3⟩:=aa g2;exact⟨[j],⟨hw,kept j (QS.mp g1) λw e=>by rw[QS.mp g2]at e;cases e⟩,kh.mpr (l5 g3 (kh.mp a))⟩
    ·cases et:cH i with
     |none=>exact⟨[i],⟨hj,kept i et λw e=>by rw[ew]at e;cases e;exact hw⟩,a⟩
     |some t=>
      rw[et]at f2;obtain⟨g1,g2⟩:=aa f2;obtain⟨g2,g3⟩:=aa g2;by_cases ht:[t]∈aX G
      ·exact⟨[t],⟨ht,kept t (QS.mp g1) λw e=>by rw[PI g2,ew]at e;cases e;exact hw⟩,kh.mpr (l5 g3 (kh.mp a))⟩
      ·refine⟨[i],⟨hj,?_⟩,a⟩;delta bH
       rw[fZ,fZ,et,ew];show(!decide ([t]∈aX G) && !decide ([j]∈aX G))=true;rw[PQ ht,PQ hw];rfl
   |none=>
    cases et:cH i with
    |none=>exact⟨[i],⟨hj,kept i et λw e=>by rw[ew]at e;cases e⟩,a⟩
    |some t=>
     rw[et]at f2;obtain⟨g1,g2⟩:=aa f2;obtain⟨g2,g3⟩:=aa g2;by_cases ht:[t]∈aX G
     ·exact⟨[t],⟨ht,kept t (QS.mp g1) λw e=>by rw[PI g2,ew]at e;cases e⟩,kh.mpr (l5 g3 (kh.mp a))⟩
     ·refine⟨[i],⟨hj,?_⟩,a⟩;delta bH
      rw[fZ,fZ,et,ew];show(!decide ([t]∈aX G)&&true)=true;rw[PQ ht];rfl
theorem o8:pa aS y↔y∈aP 19:=⟨λ⟨p,hp,a⟩=>kh.mp (PH.mp hp▸a),λh=>⟨_,.head _,kh.mpr h⟩⟩
theorem rK(hP:aE P)(h:pa P y):y∈aP 19:=by
 rcases hP with hP|rfl
 ·refine X2 h λp hp a=>?_;match p,hP p hp,a with
  |i::p,op,a=>exact l5 (aO (f:=λi=>tJ (aP i) (aP 19)) (by decide +kernel) (op.2 i mh).1) (a i mh)
 ·exact o8.mp h
theorem HE(hP:aH P)(hR:aH R):pa (de P R).flatten y↔pa P y∧pa R y:=by
 have e:pa (de P R).flatten y↔∃p∈P,∃r∈R,∃m∈cy (bO p r),al m y:=by
  delta pa de ip
  constructor
  ·rintro ⟨m,hm,a⟩;refine X2 (mem_flatten.mp hm) λM hM hm=>?_;refine X2 (Qz.mp hM) λp hp hM=>?_;refine X2 (Qd.mp hM) λr hr e=>?_;exact⟨p,hp,r,hr,m,e▸hm,a⟩
  ·rintro ⟨p,hp,r,hr,m,hm,a⟩;exact aB m (mem_flatten.mpr ⟨_,Qz.mpr ⟨p,hp,Qd.mpr ⟨r,hr,rfl⟩⟩,hm⟩) a
 rw[e];constructor
 ·rintro ⟨p,hp,r,hr,h⟩;have:=(xq (hP p hp) (hR r hr)).mp h;exact⟨⟨p,hp,this.1⟩,r,hr,this.2⟩
 ·rintro ⟨⟨p,hp,a⟩,r,hr,b⟩;exact⟨p,hp,r,hr,(xq (hP p hp) (hR r hr)).mpr ⟨a,b⟩⟩
theorem Ht(hP:aH P)(hR:aH R):aH (de P R).flatten:=λm hm=>by refine X2 (mem_flatten.mp hm) λM hM hm=>?_;refine X2 (Qz.mp hM) λp hp hM=>?_;refine X2 (Qd.mp hM) λr hr e=>?_;exact m9 (hP p hp) (hR r hr) m (e▸hm)
theorem Kt(hP:aE P)(hR:aE R)(h:M2 P R Z):pa Z y↔pa P y∧pa R y:=by
 rcases h with⟨e,rfl⟩|⟨⟨n1,n2⟩,⟨rfl,rfl⟩|⟨n3,_,_,m⟩⟩
 ·rcases e with rfl|rfl
  ·exact⟨λh=>⟨h,h⟩,λh=>h.1⟩
  ·exact⟨λh=>⟨h,o8.mpr (rK hP h)⟩,λh=>h.1⟩
 ·exact⟨λh=>⟨o8.mpr (rK hR h),h⟩,λh=>h.2⟩
 ·have hP:=hP.resolve_right n3;have hR:=hR.resolve_right n2;rw[← HE hP hR,← HG (Ht hP hR)];exact RE λp=>RL λz=>m p
theorem KY:∀{Ps pre:List (List Pt)}{X:List Pt},aE X→(∀Q∈Ps,aE Q)→(∀Q∈pre,pa X y→pa Q y)→IM pre X Ps Z→(pa Z y↔pa X y∧∀Q∈Ps,pa Q y):=by
 intro Ps;induction Ps with
 |nil=>exact @λz X z z z h=>by cases (show Z=X from h);exact⟨λh=>⟨h,λz h=>az h⟩,λh=>h.1⟩
 |cons P Ps ih_=>
  exact @λpre X hX hs hp h=>by
   rw[List.forall_mem_cons];rcases h with⟨hm,h⟩|⟨_,Y,hY,h⟩
   ·rw[ih_ hX (λQ h=>hs Q (mt h)) (λQ hQ a=>(Qe.mp hQ).elim (λhQ=>hp Q hQ a) λhQ=>PH.mp hQ▸hp P hm a) h];exact⟨λh=>⟨h.1,hp P hm h.1,h.2⟩,λh=>⟨h.1,h.2.2⟩⟩
   ·have m:=Kt (y:=y) hX (hs P mh) hY;rw[ih_ (km hX (hs P mh) hY) (λQ h=>hs Q (mt h)) (λQ hQ a=>(Qe.mp hQ).elim (λhQ=>hp Q hQ (m.mp a).1) λhQ=>PH.mp hQ▸(m.mp a).2) h,m,and_assoc]
theorem CQ(hs:∀Q∈Ps,aE Q)(hne:Ps≠[])(h:IN Ps Z):pa Z y↔∀Q∈Ps,pa Q y:=by
 rcases h with⟨h,rfl⟩|⟨_,h⟩
 ·exact⟨λ⟨_,h,_⟩=>(az h),λh'=>by refine X2 (h' [] h) λz h z=>?_;exact az h⟩
 ·rw[KY (pre:=[]) (.inr rfl) hs (λz h=>az h) h];refine⟨λh=>h.2,λh=>⟨?_,h⟩⟩;match Ps,hne with
  |Q::_,_=>exact o8.mpr (rK (hs Q mh) (h Q mh))
variable{G:List Pt}{i w:Nat}{U K:List Nat}
theorem lq:a8 G [i]↔[i]∈aX G∧(∀t,cH i=some t→[t]∉aX G)∧∀t,cZ i=some t→[t]∉aX G:=by
 delta a8 bH
 rw[fZ,fZ,Rq,Qo,Qo];refine R8 λz=>and_congr ?_ ?_
 ·cases cH i with
  |none=>exact⟨λz t e=>(ah e),λz=>rfl⟩
  |some t=>exact⟨λh s e=>by replace e:=PG e;subst e;exact QC h,λh=>PQ (h t rfl)⟩
 ·cases cZ i with
  |none=>exact⟨λz t e=>(ah e),λz=>rfl⟩
  |some t=>exact⟨λh s e=>by replace e:=PG e;subst e;exact QC h,λh=>PQ (h t rfl)⟩
theorem uT(hi:aJ i)(h:un i=true):aP i=[cS i]∧cH i=(if pl i=i then none else some (pl i))∧un (pl i)=true∧(pl i<27∧pl i≠19)∧cS (pl i)=cS i∧pl (pl i)=pl i∧(pl i=12↔i=12)∧(pl i=17↔i=17∨i=26)∧(cZ i=none∨cZ i=some 14∨cZ i=some 16)∧cS i<20:=by have:=aO (f:=λi=>beq i 19||(!un i||decide (aP i=[cS i]∧cH i=(if pl i=i then none else some (pl i))∧un (pl i)=true∧(pl i<27∧pl i≠19)∧cS (pl i)=cS i∧pl (pl i)=pl i∧(pl i=12↔i=12)∧(pl i=17↔i=17∨i=26)∧(cZ i=none∨cZ i=some 14∨cZ i=some 16)∧cS i<20))) (by decide +kernel) hi.1;rw[lP hi,h]at this;exact PI this
theorem Li(hi:aJ i)(hj:aJ j):(un i=true→cS i∈aP j→bO [i] [j]=some [if j=pl i then j else i]∧bO [j] [i]=some [if j=pl i then j else i])∧(∀w,bO [i] [j]=some [w]→un w=true→w=i∨w=j):=by have:=aO (aO (f:=λi=>bQ.all λj=>beq i 19||(beq j 19||(decide (un i=true→cS i∈aP j→bO [i] [j]=some [if j=pl i then j else i]∧bO [j] [i]=some [if j=pl i then j else i])&&(match bO [i] [j]with|some [w]=>!un w||decide (w=i∨w=j)|_=>true)))) (by decide +kernel) hi.1) hj.1;rw[lP hi,lP hj,QF,QF]at this;refine U2 (aa this) λh1 h2=>?_;refine⟨PI h1,λw e h=>?_⟩;rw[e]at h2;have h2:(!un w||decide (w=i∨w=j))=true:=h2;rw[h]at h2;exact PI h2
def FE(K0 K1 U out:List Nat):Prop:=∀i,i∈out↔i∈U∨∃j∈K0++K1,un j=true∧pa (af K0) (cS j)∧pa (af K1) (cS j)∧i=gI (K0++K1) j
theorem gG:pa (af K) y↔∃i∈K,y∈aP i:=⟨λ⟨p,hp,a⟩=>by refine X2 (Qd.mp hp) λi hi e=>?_;exact aB i hi (kh.mp (e▸a)),λ⟨i,hi,a⟩=>⟨[i],Qd.mpr ⟨i,hi,rfl⟩,kh.mpr a⟩⟩
theorem gZ(K:List Nat)(j:Nat):(pl j∈K∧gI K j=pl j)∨(pl j∉K∧gI K j=j):=by
 delta gI
 cases e:K.contains (pl j)with
 |true=>exact .inl ⟨PR.mp e,rfl⟩
 |false=>exact .inr ⟨λh=>(by rw[PR.mpr h]at e;exact eg e),rfl⟩
theorem Cw(hK:aA K)(hj:j∈K)(hu:un j=true):un (gI K j)=true∧gI K j∈K∧pl (gI K j)=pl j∧cS (gI K j)=cS j:=by
 refine U7 (uT (hK j hj) hu) λz z h3 z h5 h6 z=>?_;rcases gZ K j with⟨c,e⟩|⟨c,e⟩<;>rw[e]
 ·exact⟨h3,c,h6,h5⟩
 ·exact⟨hu,hj,rfl,rfl⟩
theorem DM(h0:aA K0)(h1:aA K1)(hG:∀w,[w]∈G↔∃i∈K0,∃j∈K1,bO [i] [j]=some [w])(hU:∀i,i∈U↔(i=14∨i=16)∧a8 G [i])(hO:FE K0 K1 U out)(hw:aJ w)(hu:un w=true):a8 G [w]↔a8 (af out) [w]:=by
 have hK:aA (K0++K1):=λi hi=>(Qe.mp hi).elim (h0 i) (h1 i);have toLaw:∀{w},aJ w→un w=true→[w]∈G→w∈K0++K1∧pa (af K0) (cS w)∧pa (af K1) (cS w):=λ{w} hw hu hm=>by
  obtain⟨i,hi,j,hj,e⟩:=(hG w).mp hm;have hp:=(xq (y:=cS w) (cb (h0 i hi)) (cb (h1 j hj))).mp ⟨[w],by rw[e];exact .head _,kh.mpr (by rw[(uT hw hu).1];exact .head _)⟩;refine⟨?_,gG.mpr ⟨i,hi,kh.mp hp.1⟩,gG.mpr ⟨j,hj,kh.mp hp.2⟩⟩;rcases(Li (h0 i hi) (h1 j hj)).2 w e hu with rfl|rfl
  ·exact Qe.mpr (.inl hi)
  ·exact Qe.mpr (.inr hj)
 have ofLaw:∀{j},j∈K0++K1→un j=true→pa (af K0) (cS j)→pa (af K1) (cS j)→(pl j=j∨pl j∉K0++K1)→[j]∈G:=λ{j} hj hu p0 p1 hp=>by
  refine X2 (gG.mp p0) λi0 hi0 x0=>?_;refine X2 (gG.mp p1) λi1 hi1 x1=>?_;have ne:∀{i},i∈K0++K1→(if i=pl j then i else j)=j:=λ{i} hi=>by
   split
   ·rename_i e;exact hp.elim (λhp=>e.trans hp) λhp=>absurd (e▸hi) hp
   ·rfl
  refine(hG j).mpr ?_;rcases Qe.mp hj with hj|hj
  ·have:=((Li (h0 j hj) (h1 i1 hi1)).1 hu x1).1;rw[ne (Qe.mpr (.inr hi1))]at this;exact⟨j,hj,i1,hi1,this⟩
  ·have:=((Li (h1 j hj) (h0 i0 hi0)).1 hu x0).2;rw[ne (Qe.mpr (.inl hi0))]at this;exact⟨i0,hi0,j,hj,this⟩
 have ofG:∀{j},j∈K0++K1→un j=true→pa (af K0) (cS j)→pa (af K1) (cS j)→[gI (K0++K1) j]∈G:=λ{j} hj hu p0 p1=>by refine U4 (Cw hK hj hu) λg1 g2 g3 g4=>?_;refine ofLaw g2 g1 (by rw[g4];exact p0) (by rw[g4];exact p1) ?_;rw[g3];exact(gZ (K0++K1) j).imp (λh=>h.2.symm) λh=>h.1
 have u14:∀{w},un w=true→w∉U:=λ{w} hu h=>by rcases((hU w).mp h).1 with rfl|rfl<;>exact ak hu
 have outM:∀{w},un w=true→w∈out→[w]∈G:=λ{w} hu hw=>by
  rcases(hO w).mp hw with h|⟨j,hj,hu',p0,p1,rfl⟩
  ·exact absurd h (u14 hu)
  ·exact ofG hj hu' p0 p1
 have Mout:∀{w},aJ w→un w=true→[w]∈G→(pl w=w∨[pl w]∉G)→w∈out:=λ{w} hw hu hm hp=>by
  refine U3 (toLaw hw hu hm) λa p0 p1=>?_;refine(hO w).mpr (.inr ⟨w,a,hu,p0,p1,?_⟩);rcases gZ (K0++K1) w with⟨c,e⟩|⟨c,e⟩
  ·rcases hp with hp|hp
   ·rw[e,hp]
   ·exact absurd (e▸ofG a hu p0 p1) hp
  ·exact e.symm
 have b12:[12]∈G↔12∈out:=⟨λh=>Mout (by decide) rfl h (.inl rfl),outM rfl⟩
 have b17:[17]∈G∨[26]∈G↔17∈out∨26∈out:=by
  constructor
  ·intro h;by_cases c:[17]∈G
   ·exact .inl (Mout (by decide) rfl c (.inl rfl))
   ·exact .inr (Mout (by decide) rfl (h.resolve_left c) (.inr c))
  ·exact λh=>h.imp (outM rfl) (outM rfl)
 have s1:∀{w a:Nat},[w]=[a]↔w=a:=⟨λh=>by injection h,λh=>h▸rfl⟩
 have jM:∀{w},[w]∈aX G↔[w]∈G∨(w=12∨w=17)∧12∈out∧(17∈out∨26∈out):=λ{w}=>by rw[aV,s1,s1,b12,b17]
 have jO:∀{w},[w]∈aX (af out)↔w∈out∨(w=12∨w=17)∧12∈out∧(17∈out∨26∈out):=λ{w}=>by rw[aV,s1,s1,aL,aL,aL,aL]
 have j16:∀{w},w=14∨w=16→([w]∈aX G↔[w]∈aX (af out)):=λ{w} hw=>by
  have hn:a8 G [w]↔[w]∈aX G:=by rw[lq];rcases hw with rfl|rfl<;>exact⟨λh=>h.1,λh=>⟨h,λt e=>(ah e),λt e=>(ah e)⟩⟩
  have nu:un w=false:=by rcases hw with rfl|rfl<;>rfl
  rw[← hn,jO];constructor
  ·exact λh=>.inl ((hO w).mpr (.inl ((hU w).mpr ⟨hw,h⟩)))
  ·rintro (h|h)
   ·rcases(hO w).mp h with h|⟨j,hj,hu,_,_,e⟩
    ·exact((hU w).mp h).2
    ·have:=(Cw hK hj hu).1;rw[← e,nu]at this;exact ak this
   ·rcases hw with rfl|rfl<;>exact absurd h.1 (by decide)
 obtain⟨_,tw,pu,p26,_,pp,_,_,wh,_⟩:=uT hw hu;rw[lq,lq];have hwh:(∀t,cZ w=some t→[t]∉aX G)↔∀t,cZ w=some t→[t]∉aX (af out):=by
  rcases wh with h|h|h<;>rw[h]
  ·exact⟨λ_ t e=>(ah e),λ_ t e=>(ah e)⟩
  ·exact⟨λf t e=>by replace e:=PG e;subst e;exact λh=>f _ rfl ((j16 (.inl rfl)).mpr h),λf t e=>by replace e:=PG e;subst e;exact λh=>f _ rfl ((j16 (.inl rfl)).mp h)⟩
  ·exact⟨λf t e=>by replace e:=PG e;subst e;exact λh=>f _ rfl ((j16 (.inr rfl)).mpr h),λf t e=>by replace e:=PG e;subst e;exact λh=>f _ rfl ((j16 (.inr rfl)).mp h)⟩
 have htw:∀{D:List Pt},(∀t,cH w=some t→[t]∉D)↔¬(pl w≠w∧[pl w]∈D):=λ{D}=>by
  rw[tw];split
  ·rename_i c;exact⟨λ_ h=>h.1 c,λ_ t e=>(ah e)⟩
  ·rename_i c;exact⟨λf h=>f _ rfl h.2,λf t e h=>f ⟨c,by replace e:=PG e;subst e;exact h⟩⟩
 rw[hwh,htw,htw,← and_assoc,← and_assoc];refine RL λ_=>?_;constructor
 ·rintro ⟨ha,hb⟩;constructor
  ·rcases jM.mp ha with h|h
   ·refine jO.mpr (.inl (Mout hw hu h ?_));by_cases c:pl w=w
    ·exact .inl c
    ·exact .inr λh=>hb ⟨c,jM.mpr (.inl h)⟩
   ·exact jO.mpr (.inr h)
  ·rintro ⟨c,h⟩;refine hb ⟨c,?_⟩;rcases jO.mp h with h|h
   ·exact jM.mpr (.inl (outM pu h))
   ·exact jM.mpr (.inr h)
 ·rintro ⟨ha,hb⟩;constructor
  ·rcases jO.mp ha with h|h
   ·exact jM.mpr (.inl (outM hu h))
   ·exact jM.mpr (.inr h)
  ·rintro ⟨c,h⟩;refine hb ⟨c,?_⟩;rcases jM.mp h with h|h
   ·exact jO.mpr (.inl (Mout p26 pu h (.inl pp)))
   ·exact jO.mpr (.inr h)
variable{y:Nat}{K0 K1:List Nat}
theorem Fm(n:Nf K)(hi:i∈K)(hu:un i=true)(hK:aJ i)(hp:pl i∈K):pl i=i:=QZ λne=>by refine U3 (uT hK hu) λz tw z=>?_;rw[Qv ne]at tw;have:=(lq.mp ((n [i]).mpr (aL.mpr hi))).2.1 _ tw;exact this (aV.mpr (.inl (aL.mpr hp)))
theorem sY(oK:aA K)(n:Nf K)(hU:∀i,i∈U↔(i=14∨i=16)∧i∈K)(hK:∀i,i∈K0++K1→i∈K∨i=19)(hK1:∀i∈K,i∈K0++K1∧∀y∈aP i,pa (af K0) y∧pa (af K1) y)(hO:FE K0 K1 U out)(hw:aJ w)(hu:un w=true):w∈K↔a8 (af out) [w]:=by
 have fix:∀{j},j∈K→un j=true→gI (K0++K1) j=j:=λ{j} hj hu=>by
  rcases gZ (K0++K1) j with⟨c,e⟩|⟨_,e⟩
  ·rw[e];exact Fm n hj hu (oK j hj) ((hK _ c).resolve_right (uT (oK j hj) hu).2.2.2.1.2)
  ·exact e
 have sub:∀i∈out,i∈K:=λi hi=>by
  rcases(hO i).mp hi with h|⟨j,hj,hu,_,_,rfl⟩
  ·exact((hU i).mp h).2
  ·replace hj:=(hK j hj).resolve_right λe=>by rw[e]at hu;exact ak hu
   rw[fix hj hu];exact hj
 rw[my n sub,aL,hO];constructor
 ·intro h;refine U2 (hK1 w h) λa b=>?_;have:=b (cS w) (by rw[(uT hw hu).1];exact .head _);exact .inr ⟨w,a,hu,this.1,this.2,(fix h hu).symm⟩
 ·exact λh=>sub w ((hO w).mpr h)
noncomputable abbrev uJ(K0 K1 U:List Nat):List Nat:=U++(K0++K1).flatMap (mA (K0++K1) (dz K0) (dz K1))
theorem g9(hK:aj K):y∈dz K↔pa (af K) y:=by
 delta dz
 rw[P8,QM,QA,gG];exact⟨λh=>h.2.imp λi h=>⟨h.1,PR.mp h.2⟩,λ⟨i,hi,h⟩=>⟨se (hK i hi) y h,i,hi,PR.mpr h⟩⟩
theorem Bb(hi:i<27):CU.contains (pl i)=un i:=by have:=aO (f:=λi=>CU.contains (pl i)==un i) (by decide +kernel) hi;exact eq_of_beq this
theorem wX(h0:aj K0)(h1:aj K1):FE K0 K1 U (uJ K0 K1 U):=λi=>by
 have hK:aj (K0++K1):=λi hi=>(Qe.mp hi).elim (h0 i) (h1 i);rw[Qe,Qz];refine RK (RE λj=>R8 λhj=>?_);delta mA
 rw[Bb (hK j hj),← g9 h0,← g9 h1];cases un j with
 |false=>exact⟨λh=>(az h),λh=>(nomatch h.1)⟩
 |true=>
  rw[Q6];cases e:(dz K0).contains (cS j)&&(dz K1).contains (cS j)with
  |true=>refine U2 (aa e) λa b=>?_;exact⟨λh=>⟨rfl,PR.mp a,PR.mp b,PH.mp h⟩,λh=>PH.mpr h.2.2.2⟩
  |false=>exact⟨λh=>(az h),λh=>by rw[PR.mpr h.2.1,PR.mpr h.2.2.1]at e;exact eg e⟩
theorem GO(h0:okN K0)(h1:aA K1)(hU:∀i∈U,i=14∨i=16):aA (uJ K0 K1 U):=λi hi=>by
 have l0:=qO h0;have l1:aj K1:=λi hi=>(h1 i hi).1;rcases(wX l0 l1 i).mp hi with h|⟨j,hj,hu,_,_,rfl⟩
 ·rcases hU i h with rfl|rfl<;>decide
 ·have oj:aJ j:=by
   have zK:j≠19:=λe=>by rw[e]at hu;exact ak hu
   rcases Qe.mp hj with h|h
   ·exact⟨l0 j h,zK⟩
   ·exact h1 j h
  rcases gZ (K0++K1) j with⟨_,e⟩|⟨_,e⟩<;>rw[e]
  ·exact(uT oj hu).2.2.2.1
  ·exact oj
theorem ML(h0:okN K0)(h1:aA K1)(hU:∀i∈U,i=14∨i=16)(h:a8 (af (uJ K0 K1 U)) [w]):w=14∨w=16∨(un w=true∧aJ w):=by
 have ok:=GO h0 h1 hU;rcases aV.mp h.1 with h|⟨e,_⟩
 ·have hm:=aL.mp h;have ow:=ok w hm;rcases(wX (qO h0) (λi hi=>(h1 i hi).1) w).mp hm with h|⟨j,hj,hu,_,_,e⟩
  ·exact(hU w h).elim .inl λh=>.inr (.inl h)
  ·have oj:aJ j:=by
    have zK:j≠19:=λe=>by rw[e]at hu;exact ak hu
    rcases Qe.mp hj with h|h
    ·exact⟨qO h0 j h,zK⟩
    ·exact h1 j h
   refine .inr (.inr ⟨?_,ow⟩);rcases gZ (K0++K1) j with⟨_,e'⟩|⟨_,e'⟩<;>rw[e,e']
   ·exact(uT oj hu).2.2.1
   ·exact hu
 ·rcases e with e|e<;>injection e with e<;>rw[e]<;>exact .inr (.inr ⟨rfl,by decide⟩)
theorem ue:p∈(de (af L0) (af L1)).flatten↔∃i∈L0,∃j∈L1,bO [i] [j]=some p:=by
 constructor
 ·intro hm;refine X2 (mem_flatten.mp hm) λM hM hm=>?_;refine X2 (Qz.mp hM) λa ha hM=>?_;refine X2 (Qd.mp hM) λb hb e=>?_;obtain⟨i,hi,rfl⟩:=Qd.mp ha;obtain⟨j,hj,rfl⟩:=Qd.mp hb;refine⟨i,hi,j,hj,?_⟩;rw[← e]at hm;cases e':bO [i] [j]with
  |none=>rw[e']at hm;exact az hm
  |some m=>rw[e']at hm;exact Qb some (PH.mp hm).symm
 ·rintro ⟨i,hi,j,hj,e⟩;exact mem_flatten.mpr ⟨_,Qz.mpr ⟨[i],Qd.mpr ⟨i,hi,rfl⟩,Qd.mpr ⟨[j],Qd.mpr ⟨j,hj,rfl⟩,rfl⟩⟩,by rw[e];exact .head _⟩
theorem B3(k0:Kn K0 L0)(k1:Kn K1 L1)(h0:okN K0)(n0:aA K0→Nf K0)(h1:aA K1)(n1:Nf K1)(hZ:IN [af L0,af L1] Z)(hU:∀i,i∈U↔(i=14∨i=16)∧[i]∈Z)(hw:aJ w)(hu:un w=true):[w]∈Z↔a8 (af (uJ K0 K1 U)) [w]:=by
 have hO:=wX (U:=U) (qO h0) λi hi=>(h1 i hi).1;have e0:∀i,i∈L0↔i∈K0:=λi=>k0.perm.mem_iff;have e1:∀i,i∈L1↔i∈K1:=λi=>k1.perm.mem_iff;have u1:af L1≠aS:=nU (k1.ok h1);have same1:Z=af L1→K0=[19]→([w]∈Z↔a8 (af (uJ K0 K1 U)) [w]):=λez ek=>by
  subst ez;rw[aL,e1];refine sY (K0:=K0) (K1:=K1) h1 n1 (λi=>by rw[hU,aL,e1]) (λi hi=>?_) (λi hi=>⟨Qe.mpr (.inr hi),λy hy=>⟨?_,gG.mpr ⟨i,hi,hy⟩⟩⟩) hO hw hu
  ·rw[ek]at hi;exact(Qe.mp hi).elim (λh=>.inr (PH.mp h)) .inl
  ·rw[ek];exact o8.mpr (rK (P:=af K1) (.inl (bq h1)) (gG.mpr ⟨i,hi,hy⟩))
 have same0:Z=af L0→L0=L1→aA K0→([w]∈Z↔a8 (af (uJ K0 K1 U)) [w]):=λez el o0=>by
  have ek:∀i,i∈K0↔i∈K1:=λi=>by rw[← e0,← e1,el]
  subst ez;rw[aL,e0];refine sY (K0:=K0) (K1:=K1) o0 (n0 o0) (λi=>by rw[hU,aL,e0]) (λi hi=>.inl ((Qe.mp hi).elim id (ek i).mpr)) (λi hi=>⟨Qe.mpr (.inl hi),λy hy=>⟨gG.mpr ⟨i,hi,hy⟩,gG.mpr ⟨i,(ek i).mp hi,hy⟩⟩⟩) hO hw hu
 have met:aA K0→(∀p,p∈Z↔a8 (de (af L0) (af L1)).flatten p)→([w]∈Z↔a8 (af (uJ K0 K1 U)) [w]):=λo0 m=>by rw[m];refine DM o0 h1 (λw=>?_) (λi=>by rw[hU,m]) hO hw hu;rw[ue];exact RE λi=>and_congr (e0 i) (RE λj=>RL λz=>e1 j)
 rcases hZ with⟨h,ez⟩|⟨_,h⟩
 ·have hne:∀i,i∉K0∨i∉K1:=λi=>by
   rcases P4.mp h with h|h
   ·exact .inl λhi=>by have:=(e0 i).mpr hi;rw[bR (H:=[]) h.symm]at this;exact az this
   ·exact .inr λhi=>by have:=(e1 i).mpr hi;rw[bR (H:=[]) (PH.mp h).symm]at this;exact az this
  subst ez;refine⟨λh=>(az h),λh=>?_⟩;have em:uJ K0 K1 U=[]:=List.eq_nil_iff_forall_not_mem.mpr λi hi=>by
   rcases(hO i).mp hi with h|⟨j,hj,_,⟨p,hp,_⟩,⟨q,hq,_⟩,_⟩
   ·exact nomatch ((hU i).mp h).2
   ·refine X2 (Qd.mp hp) λa ha z=>?_;refine X2 (Qd.mp hq) λb hb z=>?_;rcases P4.mp ‹[]∈[af L0,af L1]› with h|h
    ·have:=(e0 a).mpr ha;rw[bR (H:=[]) h.symm]at this;exact az this
    ·have:=(e1 b).mpr hb;rw[bR (H:=[]) (PH.mp h).symm]at this;exact az this
  rw[em]at h;rcases aV.mp h.1 with h|h
  ·exact az h
  ·exact nomatch h.2.1
 ·rcases h with⟨h,_⟩|⟨_,Y,hY,h⟩
  ·exact az h
  have eY:=j5 hY;subst eY;rcases h with⟨h,ez⟩|⟨hn,Y,hY,ez⟩
  ·have ez:Z=af L0:=ez;have el:=bR (PH.mp h);have o0:aA K0:=λi hi=>h1 i ((e1 i).mp (el▸(e0 i).mpr hi));exact same0 ez el.symm o0
  ·have ez:Z=Y:=ez;subst ez;rcases hY with⟨h,ez⟩|⟨_,⟨eu,ez⟩|⟨nu,_,_,m⟩⟩
   ·have el:=bR (h.resolve_right u1);have o0:aA K0:=λi hi=>h1 i ((e1 i).mp (el▸(e0 i).mpr hi));exact same0 ez el o0
   ·have:=bR (H:=[19]) eu;exact same1 ez (by have:=k0.perm;rw[‹L0=[19]›]at this;exact(R0.mp this).symm)
   ·have o0:=h0.resolve_right λe=>nu (by have:=k0.perm;rw[e]at this;rw[QT.mp this];rfl);exact met o0 m
end
abbrev Sz(P:List Pt)(a b:Nat):Prop:=P.length≤a∧∀p∈P,p.length≤b
section
variable{p:Pt}{P R:List Pt}
theorem Jf(hp:br p)(hq:br q):∀m∈cy (bO p q),m.length≤p.length+q.length:=by
 have ml:∀{p:Pt},br p→(mem p).length≤p.length:=λ{p} h=>by
  match p,h with
  |[i],_=>exact Qi _
  |_::_::_,_=>exact Qi _
 delta bO
 cases e:ir (mem p) (mem q)with
 |none=>exact λz h=>az h
 |some r=>
  intro m hm;rw[PH.mp (show m∈[rC r]from hm)];have h1:=(p7 (gc hp) (gc hq).2 e).2;have h2:=ml hp;have h3:=ml hq;have h4:(rC r).length≤r.length:=by
   by_cases h2:2≤r.length
   ·rw[pU h2,PS];exact Qi _
   ·match r,h2 with
    |[],_=>exact Qi _
    |[_],_=>exact Qi _
    |_::_::_,h2=>exact absurd (QV ..) h2
  exact PM h4 (PM h1 (Q2 h2 h3))
theorem HU(h:p∈aX G):p∈G∨p.length=1:=(aV.mp h).imp_right λh=>h.1.elim (λe=>by rw[e];rfl) λe=>by rw[e];rfl
theorem HV(P R:List Pt):(de P R).flatten.length≤P.length*R.length:=by
 have e:∀R:List Pt,∀p,(ip p R).flatten.length≤R.length:=λR p=>by
  induction R with
  |nil=>exact Qi _
  |cons r R ih=>show((cy (bO p r))++(ip p R).flatten).length≤_;rw[PX,Qf];have:=jF (bO p r);exact ug this ih
 induction P with
 |nil=>exact Qc _
 |cons p P ih=>show((ip p R)++de P R).flatten.length≤_;rw[List.flatten_append,PX,Qf,R6];have:=e R p;exact ug this ih
theorem vI(hP:aE P)(hR:aE R)(sP:Sz P a b)(sR:Sz R d f)(ha:1≤a)(hd:1≤d)(hf:1≤f)(h:M2 P R Z):Sz Z (a*d+2) (b+f):=by
 have l1:a≤a*d:=Nat.le_mul_of_pos_right a hd;have l2:d≤a*d:=Nat.le_mul_of_pos_left d ha;rcases h with⟨_,rfl⟩|⟨⟨_,n2⟩,⟨_,rfl⟩|⟨n3,nZ,_,m⟩⟩
 ·exact⟨PM sP.1 (PM l1 (QH _ 2)),λp hp=>PM (sP.2 p hp) (QH _ _)⟩
 ·exact⟨PM sR.1 (PM l2 (QH _ 2)),λp hp=>PM (sR.2 p hp) (QV _ _)⟩
 ·have hP:=hP.resolve_right n3;have hR:=hR.resolve_right n2;refine⟨PM (cV nZ λp hp=>((m p).mp hp).1) (PM sx (Qw (PM (HV P R) (Nat.mul_le_mul sP.1 sR.1)) 2)),λp hp=>?_⟩;rcases HU ((m p).mp hp).1 with h|h
  ·refine X2 (mem_flatten.mp h) λM hM hm=>X2 (Qz.mp hM) λx hx hM=>X2 (Qd.mp hM) λz hz e=>?_;exact PM (Jf (hP x hx) (hR z hz) p (e▸hm)) (Q2 (sP.2 x hx) (sR.2 z hz))
  ·exact PM (le_of_eq h) (PM hf (QV _ _))
theorem Bs(nP:P.Nodup)(nR:R.Nodup)(h:M2 P R Z):Z.Nodup:=by
 rcases h with⟨_,rfl⟩|⟨_,⟨_,rfl⟩|⟨_,nZ,_⟩⟩
 ·exact nP
 ·exact nR
 ·exact nZ
theorem Kj(h:IN [P,R] Z):Z=[]∨Z=P∨M2 P R Z:=by
 rcases h with⟨_,h⟩|⟨_,h⟩
 ·exact .inl h
 ·rcases h with⟨h,_⟩|⟨_,Y,hY,h⟩
  ·exact az h
  have:=j5 hY;subst this;rcases h with⟨_,h⟩|⟨_,Y,hY,h⟩
  ·exact .inr (.inl h)
  ·exact .inr (.inr ((show Z=Y from h)▸hY))
theorem JT(h:IN [P,R,T] Z):Z=[]∨∃Y,(Y=P∨M2 P R Y)∧(Z=Y∨M2 Y T Z):=by
 rcases h with⟨_,h⟩|⟨_,h⟩
 ·exact .inl h
 ·rcases h with⟨h,_⟩|⟨_,Y,hY,h⟩
  ·exact az h
  have:=j5 hY;subst this;have last:∀{pre Y},IM pre Y [T] Z→Z=Y∨M2 Y T Z:=λ{pre Y} h=>by
   rcases h with⟨_,h⟩|⟨_,W,hW,h⟩
   ·exact .inl h
   ·exact .inr ((show Z=W from h)▸hW)
  rcases h with⟨_,h⟩|⟨_,Y,hY,h⟩
  ·exact .inr ⟨P,.inl rfl,last h⟩
  ·exact .inr ⟨Y,.inr hY,last h⟩
theorem xx(hP:aE P)(hR:aE R)(nP:P.Nodup)(nR:R.Nodup)(sP:Sz P a b)(sR:Sz R d f)(ha:1≤a)(hd:1≤d)(hf:1≤f)(h:IN [P,R] Z):aE Z∧Z.Nodup∧Sz Z (a*d+2) (b+f):=by
 have l1:a≤a*d:=Nat.le_mul_of_pos_right a hd;rcases Kj h with rfl|rfl|h
 ·exact⟨jz,R9,Qc _,λz h=>az h⟩
 ·exact⟨hP,nP,by have:=sP.1;omega,λp hp=>by have:=sP.2 p hp;omega⟩
 ·exact⟨km hP hR h,Bs nP nR h,vI hP hR sP sR ha hd hf h⟩
theorem Sz.sm(h:Sz P a b)(hb:b<30):∀p∈P,kN p:=λp hp=>Qa (h.2 p hp) hb
theorem Sz.two(h:Sz P a b)(h':Sz R d f)(hb:b<30)(hf:f<30)(hm:a*d≤60):BZ P R:=⟨PM (Nat.mul_le_mul h.1 h'.1) hm,h.sm hb,h'.sm hf⟩
theorem Kn.sz(h:Kn K0 L):Sz (af L) 3 1:=⟨by rw[PS];exact h.l3,λp hp=>by refine X2 (Qd.mp hp) λi _ e=>?_;rw[← e];exact Qi _⟩
end
noncomputable def k5(p:Pt):Bool:=match p with|[]=>false|i::r=>match r with|[]=>CU.contains (pl i)|_::_=>false
section
variable{m n:Nat}{p:Pt}{T:List Pt}{v:V}{i:Nat}{U:List Nat}
theorem HM(hm:m<3)(hp:kc p):c6 (call (n+13)) (.k .in_ (.cl 65 [.v 1]) (.c iD)) [none,some (PN p),none,none] ⟨c,m,l,h,o⟩ (k5 p):=by
 match p,hp with
 |[i],hp=>have hi:=hp.2.1 i mh;exact bw (y:=.tp (CU.map NV)) (λK q=>cz hm hi q) ae (cI (fq hi) (by decide) (.inr rfl))
 |i::j::p,hp=>
  have h38:=GR hp.2.1 (QV ..);have hi:=hp.2.1;have cu:∀s:List Nat,s.contains 38=true→bX (S:=⟨c,m,l,h,o⟩) (.str s) (.tp (CU.map NV))=some false:=λs hs=>by
   rw[show V.tp (CU.map NV)=.tp ((CU.map nm).map .str)from rfl,qk (.inr rfl)];refine Qb some (Qj.mpr λh=>?_);refine X2 (QA.mp h) λt ht e=>?_;refine X2 (Qd.mp ht) λu hu e'=>?_;have:(nm u).contains 38=true:=by rw[e',bk.mp e];exact hs
   rw[(dP (show u<27 from(by decide:∀u∈CU,u<27) u hu) (ag rfl:0<27)).2.2]at this;exact ak this
  delta PN
  generalize dy (i::j::p)=s at h38;match s,h38 with
  |a::t,h38=>
   intro K' q;refine own (vs:=[some (.str (a::t))]) rfl rfl (Qc _) rfl rfl ?_;have fin:∀s:List Nat,s.contains 38=true→aq pA (bX (⟨c,m,l,h,o⟩:St) (.str s) (.tp (CU.map NV))) λb=>K' (.bool b) ⟨c,m,l,h,o⟩:=λs hs=>kZ (cu s hs) q;refine gY (v:=.str (match beq a 126 with|true=>t|false=>a::t)) (ey (r:=beq a 126) (λK q=>of_eq (b:=beq a 126&&true) (Bool.and_true _) q) (λe K q=>by rw[e]at q;exact q) λe K q=>by rw[e]at q;exact q) ⟨rfl,rfl,?_⟩
   cases e:beq a 126 with
   |false=>exact fin _ h38
   |true=>refine fin t ?_;rw[contains_cons,or_eq_true]at h38;exact h38.resolve_left λh=>by rw[PJ e]at h;exact ak h
theorem zM(T:List Pt):T.filter k5=af (T.flatMap λp=>match k5 p with|true=>p|false=>[]):=by
 induction T with
 |nil=>rfl
 |cons p T ih=>
  cases e:k5 p with
  |true=>
   match p,e with
   |[i],e=>rw[Ra e,QJ,ih];show _=af ((match k5 [i]with|true=>[i]|false=>[])++_);rw[e];rfl
  |false=>rw[Rb (by rw[e];decide),QJ,ih];show _=af ((match k5 p with|true=>p|false=>[])++_);rw[e];rfl
theorem oz{b:Pt→Bool}(h:T.filter b=af U)(hs:jb Z T)(nZ:Z.Nodup)(lU:aj U):U.Pairwise (· < ·)∧∀i,i∈U↔[i]∈Z∧b [i]=true:=by
 have nT:T.Nodup:=hs.1.nodup_iff.mpr nZ;have mem:∀i,i∈U↔[i]∈Z∧b [i]=true:=λi=>by rw[← aL,← h,P8,hs.1.mem_iff]
 have nU:(af U).Nodup:=h▸nT.filter _;have nU:U.Nodup:=(Rp.mp nU).imp λh e=>h (by rw[e]);have sT:=Rp.mp hs.2;have sU:(af U).Pairwise λp q=>aZ (dy p) (dy q)=true:=h▸sT.filter _;replace sU:=Rp.mp sU;exact⟨(sU.imp_of_mem λha hb h=>GU (lU _ ha) (lU _ hb) h).imp₂ (λz z h1 h2=>lt_of_le_of_ne h1 h2) nU,mem⟩
theorem Bj(k0:Kn K0 L0)(k1:Kn K1 L1)(h0:okN K0)(n0:aA K0→Nf K0)(h1:aA K1)(n1:Nf K1)(hZ:IN [af L0,af L1] Z)(nZ:Z.Nodup)(hs:jb Z T)(hT:∀p∈T,kc p):∃U,T.filter oE=af U∧aj U∧U.length≤2∧(T.filter k5).map PN=(zj K0 K1 U).map NV:=by
 have lf:∀(b:Pt→Bool),aj (T.flatMap λp=>match b p with|true=>p|false=>[]):=λb j hj=>by
  refine X2 (Qz.mp hj) λp hp h=>?_;cases e:b p with
  |true=>rw[e]at h;exact(hT p hp).2.1 j h
  |false=>rw[e]at h;exact az h
 refine jh _ (Ag T) (lf oE) ?_ ?_;all_goals refine U2 (oz (Ag T) hs nZ (lf oE)) λiU mU=>?_
 ·refine cV (m:=[14,16]) (iU.imp λh=>Q9 h) λi hi=>?_;have:=((mU i).mp hi).2;have:=PR.mp (show([16,14]:List Nat).contains i=true from this);rcases P4.mp this with rfl|h
  ·exact mt mh
  ·rw[PH.mp h];exact .head _
 ·refine U2 (oz (zM T) hs nZ (lf k5)) λiV mV=>?_;rw[zM T,Gq];generalize (T.flatMap λp=>match k5 p with|true=>p|false=>[])=W at iV mV;generalize (T.flatMap λp=>match oE p with|true=>p|false=>[])=U at iU mU;have hU:∀i,i∈U↔(i=14∨i=16)∧[i]∈Z:=λi=>by
   rw[mU,and_comm];refine RL λz=>?_;show([16,14]:List Nat).contains i=true↔_;rw[PR,P4,PH];exact or_comm
  have hU':∀i∈U,i=14∨i=16:=λi hi=>((hU i).mp hi).1;have ok:=GO (K0:=K0) (K1:=K1) h0 h1 hU';refine Qb (List.map NV) (g5 iV (fQ oQ) λw=>?_);have lz:∀w,[w]∈Z→w<27:=λw hw=>(hT [w] (hs.1.mem_iff.mpr hw)).2.1 w mh;delta zj
  rw[mV,P8,← aL,mC ok];constructor
  ·rintro ⟨hw,hu⟩;have hu:un w=true:=by rw[← Bb (lz w hw)];exact hu
   have ow:aJ w:=⟨lz w hw,λe=>by rw[e]at hu;exact ak hu⟩
   refine⟨(B3 k0 k1 h0 n0 h1 n1 hZ hU ow hu).mp hw,?_⟩;have:=aO (f:=λw=>!un w || !([16,14]:List Nat).contains w) (by decide +kernel) ow.1;rw[hu]at this;exact this
  ·rintro ⟨hn,h16⟩;rcases ML h0 h1 hU' hn with rfl|rfl|⟨hu,ow⟩
   ·exact ak h16
   ·exact ak h16
   ·exact⟨(B3 k0 k1 h0 n0 h1 n1 hZ hU ow hu).mpr hn,by show CU.contains (pl w)=true;rw[Bb ow.1];exact hu⟩
variable{k c:Nat}{h:List O}{Z:List Pt}{y:Nat}{S:St}{A B:List Nat}
theorem Ph{S:St}(e:prog[f]?=some fn)(hm:fn.mode=.late)(hb:bindArgs fn xs=some vs)(q:ao pA (call n) fn.body vs {S with late:=S.late||f5 S} λfl _ S=>K fl.val S):call (n+1) f xs S K:=by rw[gx]at q ⊢;show aq pA prog[f]? _;rw[e];show(match fn.mode with|.own c0 s=>_|.open_=>_|.late=>_);rw[hm];show aq pA (bindArgs fn xs) λvs=>_;rw[hb];exact q
theorem Fz(hk:k<2)(hw:Wn h k w iw us):f5 ⟨c,k+1,l,h,o⟩=true:=by
 obtain⟨im,inm,ids,ik,L,_,h2,_,hL,hA⟩:=hw.ex;refine QA.mpr ⟨_,List.mem_of_getElem? h2,?_⟩;have e:((dM k).all λr=>bQ.any λi=>V.beq (A k w i) (.id k r))=true:=by have:=P5.mp (show(W4.all λp=>(dM p.1).all λr=>bQ.any λi=>V.beq (Kk.A p.1 p.2 i) (.id p.1 r))=true by decide +kernel) _ (C3 (w:=w) hk);exact this
 refine P5.mpr λr hr=>?_;refine X2 (QA.mp (P5.mp e r hr)) λi hi hb=>?_;exact QA.mpr ⟨(Kk.A k w i,NV i),Qd.mpr ⟨i,hA i (QM.mp hi),rfl⟩,hb⟩
theorem I2{l:List V}(hi:S.h[i]?=some (.list l)):bu S (.hd .ref i)=some l:=by
 delta bu bT
 simp only[V.asTup,hi]
theorem Fj{K:KF}{l:List V}(ha:Gv cl e vs S v)(hl:bu S v=some l)(hu:g6 js l vs=some vs')(q:ao pA cl ss vs' S K):ao pA cl (.unpack js e::ss) vs S K:=ha _ (aR hl (aR hu q))
theorem Lq(hZ:aE Z)(h8:∀p∈Z,p.length≤60)(hs:jb Z T):∀p∈T,kc p:=λp hp=>by
 replace hp:=hs.1.mem_iff.mp hp;refine⟨?_,?_,h8 p hp⟩
 ·rcases hZ with h|rfl
  ·exact(h p hp).1
  ·exact λe=>by rw[e]at hp;cases hp with|tail _ h=>exact az h
 ·rcases hZ with h|rfl
  ·exact λi hi=>((h p hp).2 i hi).1
  ·exact λi hi=>by rw[PH.mp hp]at hi;exact PH.mp hi▸(ag rfl)
theorem Hl(hT:∀p∈T,kc p)(hs:jb Z T):y∈qv T↔pa Z y:=by rw[zq hT];exact RE λp=>⟨λ⟨a,b⟩=>⟨hs.1.mem_iff.mp a,(qS (hT p a).1).mp b⟩,λ⟨a,b⟩=>⟨hs.1.mem_iff.mpr a,(qS (hT p (hs.1.mem_iff.mpr a)).1).mpr b⟩⟩
noncomputable abbrev wQ(K0 K1:List Nat):List Nat:=(dz K0).filter (dz K1).contains
noncomputable abbrev Dc(K0 K1 K2:List Nat):List Nat:=(wQ K0 K1).filter (dz K2).contains
theorem l9(k0:Kn K0 L0):pa (af L0) y↔pa (af K0) y:=RE λp=>RL λz=>(k0.perm.map _).mem_iff
theorem DA(k0:Kn K0 L0)(k1:Kn K1 L1)(h0:aj K0)(h1:aj K1)(hT:∀p∈T,kc p)(hs:jb Z T)(m:∀y,pa Z y↔pa (af L0) y∧pa (af L1) y):qv T=wQ K0 K1:=g5 dN (fQ dN) λy=>by rw[Hl hT hs,m,l9 k0,l9 k1,P8,PR,g9 h0,g9 h1]
theorem xN(k0:Kn K0 L0)(k1:Kn K1 L1)(k2:Kn K2 L2)(h0:aj K0)(h1:aj K1)(h2:aj K2)(hT:∀p∈T,kc p)(hs:jb Z T)(m:∀y,pa Z y↔pa (af L0) y∧pa (af L1) y∧pa (af L2) y):qv T=Dc K0 K1 K2:=g5 dN (fQ (fQ dN)) λy=>by rw[Hl hT hs,m,l9 k0,l9 k1,l9 k2,P8,P8,PR,PR,g9 h0,g9 h1,g9 h2,and_assoc]
theorem kE{l:List V}:V.beqL l l=true:=fE.2 l
theorem s8(e:A=B):cq S (.ls (A.map PT)) (.ls (B.map PT))=some true:=by rw[e,Ec,kE]
theorem OO{x y:V}{K:Bool→Prop}(h:cq S x y=some r)(q:K (!r)):aq pA ((cq S x y).map (!·)) K:=by rw[h];exact q
theorem FI(hk:k<2)(hw:Wn h k w iw us)(hP:aE P)(hR:aE R)(nP:P.Nodup)(nR:R.Nodup){a b f:Nat}(sP:Sz P a b)(sR:Sz R d f)(hs:1≤a∧1≤d∧1≤f∧a*d≤60∧a≤60∧b<20∧f<20)(hc:200≤c)(q:∀Z T,IN [P,R] Z→aE Z→Z.Nodup→jb Z T→(∀p∈T,kc p)→K (.ls (T.map PN)) ⟨c-200,k+1,true,h,o⟩):call (n+21) 33 [.hd .tab k,.tp [KV k w P,KV k w R]] ⟨c,k+1,true,h,o⟩ λv S=>call (n+21) 80 [.hd .ref iw,v] S K:=by refine U7 hs λs1 s2 s3 s4 s5 s6 s7=>?_;refine kD hk hP hR (PM sP.1 s5) (sP.two sR (bb s6 rfl) (bb s7 rfl) s4) hc λZ hZ=>?_;refine U3 (xx hP hR nP nR sP sR s1 s2 s3 hZ) λoZ nZ zZ=>?_;have h8:∀p∈Z,p.length≤60:=λp hp=>PM (zZ.2 p hp) (PM (Q2 (Rm s6) (Rm s7)) (ag rfl));exact ur (n:=n+19) hk hw oZ (Qa (PM zZ.1 (Qw s4 2)) (ag rfl)) h8 λT hT=>q Z T hZ oZ nZ hT (Lq oZ h8 hT)
variable{D:List Pt}{K0 K1 K2:List Nat}
theorem AX(hP:aE P)(hR:aE R)(h:IN [P,R] Z):pa Z y↔pa P y∧pa R y:=(CQ (λQ hQ=>(P4.mp hQ).elim (λe=>e▸hP) λhQ=>PH.mp hQ▸hR) (by exact λe=>nomatch e) h).trans ⟨λh=>⟨h _ mh,h _ (mt mh)⟩,λh Q hQ=>(P4.mp hQ).elim (λe=>e▸h.1) λhQ=>PH.mp hQ▸h.2⟩
theorem Oc(hP:aE P)(hR:aE R)(hD:aE D)(h:IN [P,R,D] Z):pa Z y↔pa P y∧pa R y∧pa D y:=(CQ (λQ hQ=>(P4.mp hQ).elim (λe=>e▸hP) λhQ=>(P4.mp hQ).elim (λe=>e▸hR) λhQ=>PH.mp hQ▸hD) (by exact λe=>nomatch e) h).trans ⟨λh=>⟨h _ mh,h _ (mt mh),h _ (mt (mt mh))⟩,λh Q hQ=>(P4.mp hQ).elim (λe=>e▸h.1) λhQ=>(P4.mp hQ).elim (λe=>e▸h.2.1) λhQ=>PH.mp hQ▸h.2.2⟩
theorem LA(hP:aE P)(hR:aE R)(hD:aE D)(nP:P.Nodup)(nR:R.Nodup)(nD:D.Nodup)(sP:Sz P 3 1)(sR:Sz R 3 1)(sD:Sz D 3 1)(h:IN [P,R,D] Z):aE Z∧Z.Nodup∧Sz Z 35 3:=by
 rcases JT h with rfl|⟨Y,hY,hZ⟩
 ·exact⟨jz,R9,Qc _,λz h=>az h⟩
 ·have y:aE Y∧Y.Nodup∧Sz Y 11 2:=by
   rcases hY with rfl|hY
   ·exact⟨hP,nP,PM sP.1 (ag rfl),λp hp=>PM (sP.2 p hp) (ag rfl)⟩
   ·exact⟨km hP hR hY,Bs nP nR hY,vI hP hR sP sR (ag rfl) (ag rfl) (ag rfl) hY⟩
  rcases hZ with rfl|hZ
  ·exact⟨y.1,y.2.1,PM y.2.2.1 (ag rfl),λp hp=>PM (y.2.2.2 p hp) (ag rfl)⟩
  ·exact⟨km y.1 hD hZ,Bs y.2.1 nD hZ,vI y.1 hD y.2.2 sD (ag rfl) (ag rfl) (ag rfl) hZ⟩
theorem Oy(hk:k<2)(hw:Wn h k w iw us)(hP:aE P)(hR:aE R)(hD:aE D)(nP:P.Nodup)(nR:R.Nodup)(nD:D.Nodup)(sP:Sz P 3 1)(sR:Sz R 3 1)(sD:Sz D 3 1)(hc:200≤c)(q:∀Z T,IN [P,R,D] Z→aE Z→Z.Nodup→jb Z T→(∀p∈T,kc p)→K (.ls (T.map PN)) ⟨c-200,k+1,true,h,o⟩):call (n+21) 33 [.hd .tab k,.tp [KV k w P,KV k w R,KV k w D]] ⟨c,k+1,true,h,o⟩ λv S=>call (n+21) 80 [.hd .ref iw,v] S K:=by
 refine C1 hk hP hR hD (PM sP.1 (ag rfl)) (sP.two sR (ag rfl) (ag rfl) (ag rfl)) (λY hY=>?_) hc λZ hZ=>?_
 ·rcases hY with rfl|hY
  ·exact sP.two sD (ag rfl) (ag rfl) (ag rfl)
  ·exact(vI hP hR sP sR (ag rfl) (ag rfl) (ag rfl) hY).two sD (ag rfl) (ag rfl) (ag rfl)
 refine U3 (LA hP hR hD nP nR nD sP sR sD hZ) λoZ nZ zZ=>?_;have h8:∀p∈Z,p.length≤60:=λp hp=>PM (zZ.2 p hp) (ag rfl);exact ur (n:=n+19) hk hw oZ (Qa zZ.1 (ag rfl)) h8 λT hT=>q Z T hZ oZ nZ hT (Lq oZ h8 hT)
theorem qi:gU (dz L):=λy hy=>QM.mp (P8.mp hy).1
theorem Kn.sn(h:Kn K0 L):(af L).Nodup:=Rp.mpr (h.nd.imp λh e=>h (by injection e))
theorem Oi{f:Nat}{x y v:V}(ha:Gv cl e1 vs S x)(hb:Gv cl e2 vs S y)(hd:Gv cl e3 vs S z)(hf:∀K':V→St→Prop,K' v S→cl f [x,y,z] S K'):Gv cl (.cl f [e1,e2,e3]) vs S v:=λK' q=>ha _ (hb _ (hd _ (hf _ q)))
theorem FJ(hk:k<2)(hw:Wn h k w iw [KV k w (af L0),KV k w (af L1),KV k w (af L2)])(hl:h[il]?=some (.list [.ls (K0.map NV),.ls (K1.map NV),.ls (K2.map NV)]))(k0:Kn K0 L0)(k1:Kn K1 L1)(k2:Kn K2 L2)(o0:okN K0)(n0:aA K0→Nf K0)(o1:aA K1)(n1:Nf K1)(o2:aA K2)(hc:1000≤c)(q:∀Z T c',IN [af L0,af L1] Z→Z.Nodup→jb Z T→c-800≤c'→K (.ls (T.map PN++[.str [46]])) ⟨c',k+1,true,h,o⟩):call (n+30) 82 [.hd .ref iw,.hd .ref il,.bool turned] ⟨c,k+1,l,h,o⟩ K:=by
 have l0:=fK o0;have l1:aj K1:=λi hi=>(o1 i hi).1;have l2:aj K2:=λi hi=>(o2 i hi).1;have u0:=oU (k0.okN o0);have u1:=oU (.inl (k1.ok o1));have u2:=oU (.inl (k2.ok o2));refine Ph (vs:=(some (.hd .ref iw)::some (.hd .ref il)::some (.bool turned)::CD)) rfl rfl rfl ?_;show ao pA _ _ _ ⟨c,k+1,l||f5 ⟨c,k+1,l,h,o⟩,h,o⟩ _;rw[Fz hk hw,RP];refine ay (v:=.hd .tab k) (te hw λz q=>q) ?_;have hkk:=hw.ex;refine e54 hkk λim inm ids ik L h1 h2 h3 z=>?_;refine Fj (v:=.hd .ref ik) (dj ae h1 rfl) (I2 h3) rfl ?_;refine ay (v:=.ls ((wQ K0 K1).map PT)) (BD (rA (fU ae hl rfl) λK q=>mG (n:=n+14) (bc (bb hk rfl)) l0 q) (rA (fU ae hl rfl) λK q=>mG (n:=n+14) (bc (bb hk rfl)) l1 q) λK q=>uh (n:=n+28) (bc (bb hk rfl)) qi qi q) ?_;refine ay (v:=.ls ((Dc K0 K1 K2).map PT)) (BD ae (rA (fU ae hl rfl) λK q=>mG (n:=n+14) (bc (bb hk rfl)) l2 q) λK q=>uh (n:=n+28) (bc (bb hk rfl)) (λy hy=>qi y (P8.mp hy).1) qi q) ?_;refine FI (n:=n+8) hk hw u0 u1 k0.sn k1.sn k0.sz k1.sz (by decide) (aW hc rfl) λZ T hZ oZ nZ hT tT=>?_;have e7:qv T=wQ K0 K1:=DA k0 k1 l0 l1 tT hT λy=>AX u0 u1 hZ;refine X4 (Bj k0 k1 o0 n0 o1 n1 hZ nZ hT tT) λU eU lU cU eW=>?_;replace q:=λc'=>q Z T c' hZ nZ hT;refine ay (v:=.ls ((zj K0 K1 U).map NV)) (λK q=>eO (cl:=call (n+29)) (j:=1) (elt:=.v 1) (ok:=λz=>true) (vs:=(none::z3)) (g:=PN) (f:=PN) (b:=k5) (L:=T) rfl (λp hp=>HM (n:=n+16) (bc (bb hk rfl)) (tT p hp)) (λz z z z q=>q) (by rw[eW];exact q)) ?_;refine dA (b7 (r1:=!true) (r2:=!true) (ka (x:=.ls ((qv T).map PT)) (y:=.ls ((wQ K0 K1).map PT)) (rA ae λK q=>j8 (n:=n+14) (bc (bb hk rfl)) tT q) ae (s8 e7)) (ka (x:=.ls ((zj K0 K1 U).map NV)) (y:=.ls ((zj K0 K1 U).map NV)) ae (Oi (fU ae hl rfl) (fU ae hl rfl) ae λK q=>FC (n:=n+12) (bc (bb hk rfl)) l0 l1 k0.len k1.len tT eU lU cU q) (by rw[oW,kE]))) ?_;have tl:∀{c':Nat}{K':KP}{vs:au},(vs[9]?).join=some (.ls (T.map PN))→(K' (.ls (T.map PN++[.str [46]])) ⟨c',k+1,true,h,o⟩)→ev pA (call (n+29)) (.bin .add (.v 9) (.list false [.c (.str [46])])) vs ⟨c',k+1,true,h,o⟩ K':=λ{c' K' vs} hv q=>by refine aR hv ?_;refine vE (v:=.ls (T.map PN++[.str [46]])) ?_ q;show gd (decide ((T.map PN).length+1≤aD)) (V.ls (T.map PN++[.str [46]]))=_;have zZ:=(xx u0 u1 k0.sn k1.sn k0.sz k1.sz (ag rfl) (ag rfl) (ag rfl) hZ).2.2.1;rw[PS,hT.1.length_eq,PL (PM (Rn zZ) (ag rfl:12≤aD))];rfl
 refine bz (r:=turned) ae (λz=>?_) λz=>?_
 ·refine FI (n:=n+8) hk hw u1 u0 k1.sn k0.sn k1.sz k0.sz (by decide) (cC (aW hc rfl)) λZ' T' hZ' oZ' nZ' hT' tT'=>?_;refine j8 (n:=n+14) (bc (bb hk rfl)) tT' ?_;refine OO (r:=true) (s8 (DA k0 k1 l0 l1 tT' hT' λy=>(AX u1 u0 hZ').trans and_comm)) ?_;refine kD (n:=n+8) hk u1 u2 (PM k1.sz.1 (ag rfl)) (k1.sz.two k2.sz (ag rfl) (ag rfl) (ag rfl)) (cC (cC (aW hc rfl))) λY hY=>?_;refine U3 (xx u1 u2 k1.sn k2.sn k1.sz k2.sz (ag rfl) (ag rfl) (ag rfl) hY) λoY nY zY=>?_;refine FI (n:=n+8) hk hw u0 oY k0.sn nY k0.sz zY (by decide) (cC (cC (cC (aW hc rfl)))) λZ2 T2 hZ2 oZ2 nZ2 hT2 tT2=>?_;refine j8 (n:=n+14) (bc (bb hk rfl)) tT2 ?_;refine wm (r:=true) (s8 (xN k0 k1 k2 l0 l1 l2 tT2 hT2 λy=>(AX u0 oY hZ2).trans (R8 λz=>AX u1 u2 hY))) ?_;exact tl rfl (q _ (cM (cM (cM (ff rfl) rfl) rfl) rfl))
 ·refine Oy (n:=n+8) hk hw u0 u1 u2 k0.sn k1.sn k2.sn k0.sz k1.sz k2.sz (cC (aW hc rfl)) λZ2 T2 hZ2 oZ2 nZ2 hT2 tT2=>?_;refine j8 (n:=n+14) (bc (bb hk rfl)) tT2 ?_;refine wm (r:=true) (s8 (xN k0 k1 k2 l0 l1 l2 tT2 hT2 λy=>Oc u0 u1 u2 hZ2)) ?_;exact tl rfl (q _ (cM (ff rfl) rfl))
end
def Nt(K0 K1:List Nat)(p:Pt):Prop:=K0≠[]∧K1≠[]∧(K0=K1∧p∈af K0∨K0≠K1∧(K0=[19]∧p∈af K1∨K0≠[19]∧a8 (de (af K0) (af K1)).flatten p))
section
variable{p:Pt}{Z Z':List Pt}{M1:List Nat}
theorem Kn.mem(h:Kn K0 L)(p:Pt):p∈af L↔p∈af K0:=(h.perm.map _).mem_iff
theorem Kn.same(h:Kn K0 L)(h':Kn K1 L):K0=K1:=g5 h.inc h'.inc λi=>h.perm.mem_iff.symm.trans h'.perm.mem_iff
theorem Kn.nil(h:Kn K0 L):L=[]↔K0=[]:=⟨λe=>by have:=h.perm;rw[e]at this;exact nil_perm.mp this,λe=>by have:=h.perm;rw[e]at this;exact perm_nil.mp this⟩
theorem y9:[]=af L↔L=[]:=⟨λe=>bR (H:=[]) e.symm,λe=>by rw[e];rfl⟩
theorem DC(k0:Kn K0 L0)(k1:Kn K1 L1)(h1:aA K1)(e:K0=K1→L0=L1)(hZ:IN [af L0,af L1] Z):p∈Z↔Nt K0 K1 p:=by
 have u1:af L1≠aS:=nU (k1.ok h1);delta Nt
 rcases hZ with⟨h,rfl⟩|⟨hn,h⟩
 ·refine⟨λh=>(az h),λ⟨a,b,_⟩=>?_⟩;rcases P4.mp h with h|h
  ·exact absurd (k0.nil.mp (y9.mp h)) a
  ·exact absurd (k1.nil.mp (y9.mp (PH.mp h))) b
 have a:K0≠[]:=λe=>hn (by rw[k0.nil.mpr e];exact .head _);have b:K1≠[]:=λe=>hn (by rw[k1.nil.mpr e];exact mt mh);have sm:∀{Z:List Pt},L0=L1→Z=af L0→(p∈Z↔K0≠[]∧K1≠[]∧(K0=K1∧p∈af K0∨K0≠K1∧(K0=[19]∧p∈af K1∨K0≠[19]∧a8 (de (af K0) (af K1)).flatten p))):=λ{Z} el ez=>by have ek:K0=K1:=k0.same (el▸k1);rw[ez,k0.mem];exact⟨λh=>⟨a,b,.inl ⟨ek,h⟩⟩,λh=>h.2.2.elim (·.2) λh=>absurd ek h.1⟩
 rcases h with⟨h,_⟩|⟨_,Y,hY,h⟩
 ·exact az h
 have eY:=j5 hY;subst eY;rcases h with⟨h,ez⟩|⟨_,Y,hY,ez⟩
 ·exact sm (bR (PH.mp h)).symm ez
 have ez:Z=Y:=ez;subst ez;rcases hY with⟨h,ez⟩|⟨⟨ne,_⟩,h⟩
 ·exact sm (bR (h.resolve_right u1)) ez
 have nk:K0≠K1:=λh=>ne (by rw[e h]);rcases h with⟨eu,ez⟩|⟨nu,_,_,m⟩
 ·have el:=bR (H:=[19]) eu;have ek:K0=[19]:=by have:=k0.perm;rw[el]at this;exact(R0.mp this).symm
  rw[ez,k1.mem];exact⟨λh=>⟨a,b,.inr ⟨nk,.inl ⟨ek,h⟩⟩⟩,λh=>h.2.2.elim (λh=>absurd h.1 nk) λh=>h.2.elim (·.2) λh=>absurd ek h.1⟩
 ·have ek:K0≠[19]:=λe=>nu (by have:=k0.perm;rw[e]at this;rw[QT.mp this];rfl);rw[m,cg (G:=(de (af K0) (af K1)).flatten) λp=>by
   rw[ue,ue];exact RE λi=>and_congr k0.perm.mem_iff (RE λj=>RL λz=>k1.perm.mem_iff)]
  exact⟨λh=>⟨a,b,.inr ⟨nk,.inr ⟨ek,h⟩⟩⟩,λh=>h.2.2.elim (λh=>absurd h.1 nk) λh=>h.2.elim (λh=>absurd h.1 ek) (·.2)⟩
theorem Ij(nZ:Z.Nodup)(nZ':Z'.Nodup)(h:∀p,p∈Z↔p∈Z')(hs:jb Z T)(hs':jb Z' T'):T.map PN=T'.map PN:=by have pz:Z.Perm Z':=(Rv nZ nZ').mpr h;have e:T.map dy=T'.map dy:=Rd (le:=λa b=>aZ a b=true) (λa b _ _ x y=>dW a b x y) hs.2 hs'.2 (((hs.1.trans pz).trans hs'.1.symm).map dy);rw[show T.map PN=(T.map dy).map V.str by rw[QR];rfl,e,QR];rfl
theorem DF(k0:Kn K0 L0)(k1:Kn K1 L1)(j0:Kn K0 M0)(j1:Kn K1 M1)(h1:aA K1)(e:K0=K1→L0=L1)(e':K0=K1→M0=M1)(hZ:IN [af L0,af L1] Z)(hZ':IN [af M0,af M1] Z')(nZ:Z.Nodup)(nZ':Z'.Nodup)(hs:jb Z T)(hs':jb Z' T'):T.map PN=T'.map PN:=Ij nZ nZ' (λp=>(DC k0 k1 h1 e hZ).trans (DC j0 j1 h1 e' hZ').symm) hs hs'
end
noncomputable def mD(k:Nat)(w:Bool)(L:List Nat):List (V×V):=L.map λi=>(NV i,A k w i)
noncomputable def dD(k:Nat):List (V×V):=match k with
 |0=>[(.str [69],.int 1),(.str [70],.int 4)]
 |_=>[(.str [69],.int 5),(.str [70],.int 2)]
noncomputable def Hb(pre:List O)(k:Nat)(w:Bool)(D:List Nat)(us:List V)(ps:List O):List O:=pre++([.dict (mD k w D),.dict (nD k w D),.dict (dD k),.list us,.dict (wD k pre.length (pre.length+1) (pre.length+2) (pre.length+3))]++ps)
section
variable{k n c d:Nat}{h pre X ps:List O}{i j:Nat}{S:St}{D B:List Nat}
theorem j7:(pre++X)[pre.length+j]?=X[j]?:=by rw[Q1 (QH ..),Nat.add_sub_cancel_left]
theorem uf:(pre++X).set (pre.length+j) t=pre++X.set j t:=by rw[List.set_append_right _ _ (QH ..),Nat.add_sub_cancel_left]
theorem As:(Hb pre k w D us ps)[pre.length]?=some (.dict (mD k w D)):=j7 (j:=0)
theorem Ow:(Hb pre k w D us ps)[pre.length+1]?=some (.dict (nD k w D)):=j7
theorem Og:(Hb pre k w D us ps)[pre.length+2]?=some (.dict (dD k)):=j7
theorem EV:(Hb pre k w D us ps)[pre.length+3]?=some (.list us):=j7
theorem gX:(Hb pre k w D us ps)[pre.length+4]?=some (.dict (wD k pre.length (pre.length+1) (pre.length+2) (pre.length+3))):=j7
theorem GK(hD:aj D)(h:∀i,i<27→i∈D):Wn (Hb pre k w D us ps) k w (pre.length+4) us:=⟨_,_,_,_,D,gX,Ow,EV,hD,h⟩
theorem uz(hi:i<27)(hD:aj D):aC (NV i) (mD k w D)=match D.contains i with|true=>some (A k w i)|false=>none:=by
 induction D with
 |nil=>rfl
 |cons j D ih=>
  show(match cj (nm j) (nm i)with|true=>some (A k w j)|false=>aC (NV i) (mD k w D))=_;rw[(dP (hD j mh) hi).1,contains_cons,ih λa h=>hD a (mt h)];cases e:beq j i with
  |true=>rw[PJ e,R3];rfl
  |false=>rw[show(i==j)=false from Qj.mpr λh=>by rw[eq_of_beq h,RA]at e;exact eg e];rfl
theorem tV:bf m (.str s) (mD k w D)=true:=by show(true&&(D.map _).all _)=true;rw[all_map,Q6];exact P5.mpr λz z=>rfl
theorem Ia{d:List (V×V)}(h:aC x d=none):cP x v d=d++[(x,v)]:=by
 induction d with
 |nil=>rfl
 |cons p d ih=>
  have h:(match V.beq p.1 x with|true=>some p.2|false=>aC x d)=none:=h;show(match V.beq p.1 x with|true=>(p.1,v)::d|false=>p::cP x v d)=_;cases e:V.beq p.1 x with
  |true=>rw[e]at h;exact qE h
  |false=>rw[e]at h;rw[ih h];rfl
theorem HX(hk:k<2)(hi:i<27)(hD:aj D)(h:i∉D):aC (A k w i) (nD k w D)=none:=by
 induction D with
 |nil=>rfl
 |cons j D ih=>
  show(match V.beq (A k w j) (A k w i)with|true=>some (NV j)|false=>aC (A k w i) (nD k w D))=_;rw[Bz hk (hD j mh) hi];cases e:beq j i with
  |true=>exact absurd (PJ e▸.head _) h
  |false=>exact ih (λa h=>hD a (mt h)) λhm=>h (mt hm)
theorem yY(hi:i<27)(hD:aj D):bX ⟨c,m,l,Hb pre k w D us ps,o⟩ (NV i) (.hd .ref pre.length)=some (D.contains i):=by
 delta bX bu bT
 simp only[V.asTup,As];rw[l8 As];show(match bf _ (NV i) (mD k w D)with|true=>some (aC (NV i) (mD k w D)).isSome|false=>none)=_;rw[tV,uz hi hD];cases D.contains i<;>rfl
theorem zU(hi:i<27)(hD:aj D)(h:i∈D):bV ⟨c,m,l,Hb pre k w D us ps,o⟩ (.hd .ref pre.length) (NV i)=some (A k w i):=nN As tV (by rw[uz hi hD,PR.mpr h])
theorem set_dict{d:List (V×V)}(hi:S.h[j]?=some (.dict d))(hk:bf (S.n-1) x d=true)(hl:d.length<aD)(hf:aC x d=none):dp (.hd .ref j) x v S=some (S.set j (.dict (d++[(x,v)]))):=by
 delta dp
 have e:bI S (.hd .ref j)=none:=by delta bI;simp only[V.asHdl,Option.bind,hi]
 rw[e,l8 hi];show(match bf (S.n-1) x d&&decide (d.length<aD)with|true=>some (S.set j (.dict (cP x v d)))|false=>none)=_;rw[hk,PL hl,Ia hf];rfl
theorem Fu(hi:i<27)(hD:aj D)(hl:D.length<60)(h:i∉D):dp (.hd .ref pre.length) (NV i) (A k w i) ⟨c,m,l,Hb pre k w D us ps,o⟩=some ⟨c,m,l,pre++([.dict (mD k w (D++[i])),.dict (nD k w D),.dict (dD k),.list us,.dict (wD k pre.length (pre.length+1) (pre.length+2) (pre.length+3))]++ps),o⟩:=by rw[set_dict As tV (by rw[show(mD k w D).length=D.length from PS ..];exact Q8 hl (ag rfl)) (by rw[uz hi hD,Qj.mpr λe=>h (PR.mp e)])];show some (St.mk c m l ((pre++_).set (pre.length+0) _) o)=_;rw[uf,show mD k w (D++[i])=mD k w D++[(NV i,A k w i)]from QY];rfl
theorem CL(hk:k<2)(hi:i<27)(hD:aj D)(hl:D.length<60)(h:i∉D):dp (.hd .ref (pre.length+1)) (A k w i) (NV i) ⟨c,k+1,l,pre++([.dict (mD k w (D++[i])),.dict (nD k w D),.dict (dD k),.list us,.dict (wD k pre.length (pre.length+1) (pre.length+2) (pre.length+3))]++ps),o⟩=some ⟨c,k+1,l,Hb pre k w (D++[i]) us ps,o⟩:=by rw[set_dict (d:=nD k w D) j7 (by exact zQ (w:=w) hk hi hD) (by rw[show(nD k w D).length=D.length from PS ..];exact Q8 hl (ag rfl)) (HX hk hi hD h)];show some (St.mk c (k+1) l ((pre++_).set (pre.length+1) _) o)=_;rw[uf,← show nD k w (D++[i])=nD k w D++[(A k w i,NV i)]from QY];rfl
theorem Ea(hi:i<27)(hD:aj D)(h:i∈D)(q:K (A k w i) ⟨c,m,l,Hb pre k w D us ps,o⟩):call (n+1) 78 [.hd .ref (pre.length+4),NV i] ⟨c,m,l,Hb pre k w D us ps,o⟩ K:=by refine ji (vs:=[some (.hd .ref (pre.length+4)),some (NV i),none,none]) rfl rfl rfl ?_;refine dA (ju (x:=NV i) (y:=.hd .ref pre.length) (r:=true) ae (dj ae gX rfl) (by rw[yY hi hD,PR.mpr h])) ?_;exact gY (dR (dj ae gX rfl) ae (zU hi hD h)) q
theorem ym{K:KF}{e:E}{x y:V}(hv:Gv cl e vs S x)(ho:Gv cl eo vs S y)(hi:Gv cl ei vs S z)(h:dp y z x S=some S')(q:ao pA cl ss vs S' K):ao pA cl (.setItem eo ei e::ss) vs S K:=hv _ (ho _ (hi _ (aR h q)))
def e9(B D:List Nat)(w:Bool)(D':List Nat)(w':Bool):Prop:=(∀j∈D,j∈D')∧aj D'∧D'.Nodup∧(w'=w∨5∉D)∧∀j∈D',j∈D∨j∈B
theorem Lj(hD:aj D)(nD:D.Nodup):D.length≤27:=by have:=cV (m:=bQ) nD λi hi=>fJ (hD i hi);exact this
theorem LV(hk:k<2)(hB:i∈B)(hi:i<27)(hD:aj D)(h:i∉D)(hm:∀K':V→St→Prop,(∀D' w' c' o' ps',e9 B D w D' w'→i∉D'→c-d≤c'→K' (A k w' i) ⟨c',k+1,l,Hb pre k w' D' us ps',o'⟩)→call n 77 [.hd .ref (pre.length+4),NV i] ⟨c,k+1,l,Hb pre k w D us ps,o⟩ K')(q:∀D' w' c' o' ps',e9 B D w D' w'→i∈D'→c-d≤c'→K (A k w' i) ⟨c',k+1,l,Hb pre k w' D' us ps',o'⟩):call (n+1) 78 [.hd .ref (pre.length+4),NV i] ⟨c,k+1,l,Hb pre k w D us ps,o⟩ K:=by refine ji (vs:=[some (.hd .ref (pre.length+4)),some (NV i),none,none]) rfl rfl rfl ?_;refine bz (r:=true) (ju (x:=NV i) (y:=.hd .ref pre.length) (r:=false) ae (dj ae gX rfl) (by rw[yY hi hD,Qj.mpr λe=>h (PR.mp e)])) (λY=>?_) (λe=>eg e);refine hm _ λD' w' c' o' ps' ⟨x1,x2,x3,x4,x5⟩ ni hc=>?_;have len:=Qa (Lj x2 x3) (ag rfl:27<60);refine ym (x:=A k w' i) (y:=.hd .ref pre.length) (z:=NV i) ae (dj ae gX rfl) ae (Fu hi x2 len ni) ?_;refine ym (x:=NV i) (y:=.hd .ref (pre.length+1)) (z:=A k w' i) ae (dj (k:=k) ae j7 rfl) ae (CL hk hi x2 len ni) ?_;have mem:i∈D'++[i]:=Qe.mpr (.inr mh);have lt:aj (D'++[i]):=λj hj=>(Qe.mp hj).elim (x2 j) λh=>PH.mp h▸hi;refine gY (dR (dj ae gX rfl) ae (zU hi lt mem)) ?_;refine q _ w' c' o' ps' ⟨λj hj=>Qe.mpr (.inl (x1 j hj)),lt,nodup_append.mpr ⟨x3,RN.mpr ⟨λh=>(az h),.nil⟩,λa ha b hb e=>ni (PH.mp hb▸e▸ha)⟩,x4,λj hj=>(Qe.mp hj).elim (x5 j) λh=>.inr (PH.mp h▸hB)⟩ mem hc
theorem GY(hk:k<2)(hB:i∈B)(hi:i<27)(hD:aj D)(nD:D.Nodup)(hm:i∉D→∀K':V→St→Prop,(∀D' w' c' o' ps',e9 B D w D' w'→i∉D'→c-d≤c'→K' (A k w' i) ⟨c',k+1,l,Hb pre k w' D' us ps',o'⟩)→call n 77 [.hd .ref (pre.length+4),NV i] ⟨c,k+1,l,Hb pre k w D us ps,o⟩ K')(q:∀D' w' c' o' ps',e9 B D w D' w'→i∈D'→c-d≤c'→K (A k w' i) ⟨c',k+1,l,Hb pre k w' D' us ps',o'⟩):call (n+1) 78 [.hd .ref (pre.length+4),NV i] ⟨c,k+1,l,Hb pre k w D us ps,o⟩ K:=by
 by_cases h:i∈D
 ·exact Ea hi hD h (q D w c o ps ⟨λz h=>h,hD,nD,.inl rfl,λz=>.inl⟩ h (sub_le ..))
 ·exact LV hk hB hi hD h (hm h) q
end
noncomputable abbrev fT(iw k i:Nat):au:=(some (.hd .ref iw)::some (NV i)::some (.hd .tab k)::some (NV (pl i))::Nl)
noncomputable abbrev jR:List Kk.S:=qG.body.drop 2
section
variable{k n c:Nat}{h:List O}{o:List (List V×List V)}{i:Nat}{S:St}
theorem yf{α:Type}{f g:Nat→Bool→Nat→α}(L:List Nat)(h:W4.map (λp=>L.map λi=>f p.1 p.2 i)=W4.map λp=>L.map λi=>g p.1 p.2 i)(hk:k<2)(hi:i∈L):f k w i=g k w i:=QE.mp (QE.mp h _ (C3 (w:=w) hk)) i hi
noncomputable abbrev P0:List Nat:=[12,13,14,15,16,17,18,19,20,26]
noncomputable abbrev L3:List Nat:=[0,9,10,11,22,25]
theorem KN(hk:k<2)(hi:i∈P0):(λ(n iw:Nat)(S:St)(K:KP)=>ao pA (call n) jR (fT iw k i) S λfl _ S=>K fl.val S)=λn iw S K=>K (A k w i) S:=yf (f:=λk w i=>λ(n iw:Nat)(S:St)(K:KP)=>ao pA (call n) jR (fT iw k i) S λfl _ S=>K fl.val S) (g:=λk w i=>λn iw S K=>K (A k w i) S) P0 (by kernel_rfl) hk hi
theorem Ku(hk:k<2)(hi:i∈L3):(λ(n iw c m:Nat)(h:List O)(o:List (List V×List V))(K:KP)=>ao pA (call n) jR (fT iw k i) ⟨c+1,m,false,h,o⟩ λfl _ S=>K fl.val S)=λn iw c m h o K=>K (A k w i) ⟨c,m,false,h,o⟩:=yf (f:=λk w i=>λ(n iw c m:Nat)(h:List O)(o:List (List V×List V))(K:KP)=>ao pA (call n) jR (fT iw k i) ⟨c+1,m,false,h,o⟩ λfl _ S=>K fl.val S) (g:=λk w i=>λn iw c m h o K=>K (A k w i) ⟨c,m,false,h,o⟩) L3 (by kernel_rfl) hk hi
noncomputable abbrev NO(i:Nat):E:=.me .put (.v 2) [.tp (match i with
 |2=>[.i 5,.sb (.sb (.v 0) (.c (.str [100,105,100,115]))) (.c (.str [69])),.c (.str [66]),.c (.str [97]),.v 4]
 |_=>[.i 5,.sb (.sb (.v 0) (.c (.str [100,105,100,115]))) (.sb (.v 3) (.i 0)),.c (.str [65]),.i 0,.v 4])]
noncomputable abbrev CV(i:Nat):V:=.int (match ble 22 i with|true=>1|false=>0)
theorem LZ(hk:k<2)(hi:i∈[1,2,3,23]):(λ(n iw:Nat)(S:St)(K:KP)=>ao pA (call n) jR (fT iw k i) S λfl _ S=>K fl.val S)=λn iw S K=>ev pA (call n) (NO i) ((fT iw k i).set 4 (some (CV i))) S K:=yf (w:=false) (f:=λk w i=>λ(n iw:Nat)(S:St)(K:KP)=>ao pA (call n) jR (fT iw k i) S λfl _ S=>K fl.val S) (g:=λk w i=>λn iw S K=>ev pA (call n) (NO i) ((fT iw k i).set 4 (some (CV i))) S K) [1,2,3,23] (by kernel_rfl) hk hi
variable{m:Nat}{pre:List O}{D:List Nat}
theorem Mq(ha:Gv cl e vs ⟨c,m,l,Hb pre k w D us ps,o⟩ (.hd .ref (pre.length+4)))(hx:Gv cl e2 vs ⟨c,m,l,Hb pre k w D us ps,o⟩ (.str [a]))(hv:aC (.str [a]) (dD k)=some v)(hk:bf (m-1) (.str [a]) (dD k)=true):Gv cl (.sb (.sb e (.c (.str [100,105,100,115]))) e2) vs ⟨c,m,l,Hb pre k w D us ps,o⟩ v:=dR (dj ha gX rfl) hx (nN Og hk hv)
theorem ID(hk:k<2)(hi:i∈[1,2,3,23])(q:K (A k w i) ⟨c,k+1,false,Hb pre k w D us ps,o⟩):ao pA (call n) jR (fT (pre.length+4) k i) ⟨c+1,k+1,false,Hb pre k w D us ps,o⟩ λfl _ S=>K fl.val S:=by
 refine(QX (QX (QX (QX (LZ hk hi) n) (pre.length+4)) ⟨c+1,k+1,false,Hb pre k w D us ps,o⟩) K).mpr ?_;have go:∀{e:E}{a:Nat}{v:V},Gv (call n) e ((fT (pre.length+4) k i).set 4 (some (CV i))) ⟨c+1,k+1,false,Hb pre k w D us ps,o⟩ (.str [a])→aC (.str [a]) (dD k)=some v→bf k (.str [a]) (dD k)=true→Gv (call n) (.sb (.sb (.v 0) (.c (.str [100,105,100,115]))) e) ((fT (pre.length+4) k i).set 4 (some (CV i))) ⟨c+1,k+1,false,Hb pre k w D us ps,o⟩ v:=λhx hv hk=>Mq (e:=.v 0) (vs:=(fT (pre.length+4) k i).set 4 (some (CV i))) (cl:=call n) ae hx hv hk;have hi:i=1∨i=2∨i=3∨i=23:=by simpa using hi
 match k,hk with
 |0,_=>
  rcases hi with rfl|rfl|rfl|rfl
  ·exact go (e:=.sb (.v 3) (.i 0)) (a:=69) ae rfl rfl _ q
  ·exact go (e:=.c (.str [69])) (a:=69) ae rfl rfl _ q
  ·exact go (e:=.sb (.v 3) (.i 0)) (a:=70) ae rfl rfl _ q
  ·exact go (e:=.sb (.v 3) (.i 0)) (a:=69) ae rfl rfl _ q
 |1,_=>
  rcases hi with rfl|rfl|rfl|rfl
  ·exact go (e:=.sb (.v 3) (.i 0)) (a:=69) ae rfl rfl _ q
  ·exact go (e:=.c (.str [69])) (a:=69) ae rfl rfl _ q
  ·exact go (e:=.sb (.v 3) (.i 0)) (a:=70) ae rfl rfl _ q
  ·exact go (e:=.sb (.v 3) (.i 0)) (a:=69) ae rfl rfl _ q
theorem rY(hm:m<3)(hi:i<27)(q:ao pA (call (n+13)) jR (fT (pre.length+4) k i) ⟨c,m,l,Hb pre k w D us ps,o⟩ λfl _ S=>K fl.val S):call (n+14) 77 [.hd .ref (pre.length+4),NV i] ⟨c,m,l,Hb pre k w D us ps,o⟩ K:=by refine ji (vs:=(some (.hd .ref (pre.length+4))::some (NV i)::CD)) rfl rfl rfl ?_;refine ay (v:=.hd .tab k) (dj ae gX rfl) ?_;exact ay (v:=NV (pl i)) (rA ae λK q=>cz hm hi q) q
noncomputable abbrev LF:List Nat:=P0++L3++[1,2,3,23]
theorem uF(hk:k<2)(hi:i∈LF)(q:K (A k w i) ⟨c,k+1,false,Hb pre k w D us ps,o⟩)(q':K (A k w i) ⟨c+1,k+1,false,Hb pre k w D us ps,o⟩):ao pA (call n) jR (fT (pre.length+4) k i) ⟨c+1,k+1,false,Hb pre k w D us ps,o⟩ λfl _ S=>K fl.val S:=by
 rcases Qe.mp hi with h|h
 ·rcases Qe.mp h with h|h
  ·exact(QX (QX (QX (QX (KN hk h) n) (pre.length+4)) ⟨c+1,k+1,false,Hb pre k w D us ps,o⟩) K).mpr q'
  ·exact(QX (QX (QX (QX (QX (QX (QX (Ku (w:=w) hk h) n) (pre.length+4)) c) (k+1)) (Hb pre k w D us ps)) o) K).mpr q
 ·exact ID hk h q
theorem HD(hk:k<2)(hi:i∈LF)(hD:aj D)(nD:D.Nodup)(hc:1≤c)(q:∀D' w' c' o' ps',e9 LF D w D' w'→i∈D'→c-1≤c'→K (A k w' i) ⟨c',k+1,false,Hb pre k w' D' us ps',o'⟩):call (n+15) 78 [.hd .ref (pre.length+4),NV i] ⟨c,k+1,false,Hb pre k w D us ps,o⟩ K:=by
 have h27:i<27:=(by decide:∀i∈LF,i<27) i hi;refine GY hk hi h27 hD nD (λh K' q=>rY (bc (bb hk rfl)) h27 ?_) q;obtain⟨c,rfl⟩:∃d,c=d+1:=⟨c-1,(Nat.sub_add_cancel hc).symm⟩
 exact uF hk hi (q D w _ o ps ⟨λz h=>h,hD,nD,.inl rfl,λz=>.inl⟩ h (Qi c)) (q D w _ o ps ⟨λz h=>h,hD,nD,.inl rfl,λz=>.inl⟩ h (sub_le (c+1) 1))
end
noncomputable abbrev lu(s:Nat)(t:V):V:=.ls [.tp [.str [s],t,.int 0,.int 0]]
noncomputable def G0(k:Nat)(w:Bool)(i:Nat):List V:=match i with
 |4=>[.hd .tab k,lu 107 (A k w 2)]
 |5=>[.hd .tab k,lu 107 (KV k w (match w with|true=>[[10],[9]]|false=>[[9],[10]]))]
 |6=>[.hd .tab k,lu 107 (A k w 9)]
 |7=>[.hd .tab k,lu 107 (A k w 10)]
 |8=>[.hd .tab k,lu 112 (.id k (.tp [.int 4,.int 7,.int 0]))]
 |21=>[.hd .tab k,.ls []]
 |_=>[.hd .tab k,lu 107 (A k w 9),.tp [],.tp [],.tp [],.tp [],.int 1]
noncomputable abbrev OB:List Nat:=[4,5,6,7,8,21,24]
section
variable{k n c:Nat}{w w':Bool}{ps:List O}{o:List (List V×List V)}{i:Nat}{S:St}{L D:List Nat}
theorem rE(hk:k<2)(hi:i∈OB)(hc:1≤c)(q:K (A k w i) ⟨c-1,k+1,false,h,o⟩):call (n+13) 4 (G0 k w i) ⟨c,k+1,false,h,o⟩ K:=run rfl rfl (yf (f:=λk w i=>V.freeL (G0 k w i)) (g:=λz z z=>true) OB (by kernel_rfl) hk hi) (yf (f:=λk w i=>qV rD 1 (G0 k w i) (k+1) false o) (g:=λk w i=>some (A k w i)) OB (by kernel_rfl) hk hi) hc q
theorem FQ(hk:k<2)(hc:1≤c)(q:K (.id k (.tp [.int 4,.int 7,.int 0])) ⟨c-1,k+1,false,h,o⟩):call (n+13) 2 [.hd .tab k,.int 7] ⟨c,k+1,false,h,o⟩ K:=by
 refine run (r:=.id k (.tp [.int 4,.int 7,.int 0])) rfl rfl rfl ?_ hc q;match k,hk with
 |0,_=>kernel_rfl
 |1,_=>kernel_rfl
theorem NC(hk:k<2)(hi:i<27)(h5:w'=w∨i≠5):A k w' i=A k w i:=by
 rcases h5 with rfl|h5
 ·rfl
 ·have:i∈bQ.filter λi=>!beq i 5:=P8.mpr ⟨fJ hi,(Qo _).mpr (Qj.mpr λe=>h5 (PJ e))⟩;cases w<;>cases w'
  ·rfl
  ·exact yf (w:=true) (f:=λk w i=>A k w i) (g:=λk _ i=>A k false i) _ (by kernel_rfl) hk this
  ·exact yf (w:=true) (f:=λk w i=>A k false i) (g:=λk w i=>A k w i) _ (by kernel_rfl) hk this
  ·rfl
theorem e9.trans(h:e9 B D1 w1 D2 w2)(h':e9 B D2 w2 D3 w3):e9 B D1 w1 D3 w3:=⟨λj hj=>h'.1 j (h.1 j hj),h'.2.1,h'.2.2.1,h'.2.2.2.1.elim (λe=>e▸h.2.2.2.1) λn=>.inr λhj=>n (h.1 5 hj),λj hj=>(h'.2.2.2.2 j hj).elim (h.2.2.2.2 j) .inr⟩
theorem e9.A(h:e9 B D1 w1 D2 w2)(hk:k<2)(hi:i<27)(hm:i∈D1):A k w2 i=A k w1 i:=NC hk hi (h.2.2.2.1.imp_right λn e=>n (e▸hm))
abbrev LY(B:List Nat)(pre:List O)(us:List V)(k n d e i:Nat)(l:Bool):Prop:=∀(D:List Nat)(w:Bool)(c:Nat)(o:List (List V×List V))(ps:List O)(K:KP),aj D→D.Nodup→e≤c→(∀D' w' c' o' ps',e9 B D w D' w'→i∈D'→c-d≤c'→K (A k w' i) ⟨c',k+1,l,Hb pre k w' D' us ps',o'⟩)→call n 78 [.hd .ref (pre.length+4),NV i] ⟨c,k+1,l,Hb pre k w D us ps,o⟩ K
theorem xE(hk:k<2):∀(L D:List Nat)(w:Bool)(c:Nat)(o:List (List V×List V))(ps:List O)(x1:Option V)(R:List V→St→Prop),(∀i∈L,LY B pre us k n d t i l)→aj L→aj D→D.Nodup→t+d*L.length≤c→(∀D' w' c' o' ps',e9 B D w D' w'→(∀i∈L,i∈D')→c-d*L.length≤c'→R (L.map (A k w')) ⟨c',k+1,l,Hb pre k w' D' us ps',o'⟩)→dv pA (λS=>fX S LL none) (gS pA (call n) []) (ev pA (call n) (.cl 78 [.v 3,.v 1])) 1 (L.map NV) [none,x1,none,some (.hd .ref (pre.length+4))] ⟨c,k+1,l,Hb pre k w D us ps,o⟩ R:=by
 intro L;induction L with
 |nil=>exact λD w c o ps x1 R z z hD nD z q=>q D w c o ps ⟨λz h=>h,hD,nD,.inl rfl,λz=>.inl⟩ (λz h=>az h) (sub_le ..)
 |cons i L ih_=>
  exact λD w c o ps x1 R hat hL hD nD hc q=>by rw[Qf,Nat.mul_succ]at hc q;refine hat i mh D w c o ps _ hD nD (uu hc) λD1 w1 c1 o1 ps1 x hi h1=>?_;refine ih_ D1 w1 c1 o1 ps1 _ _ (λj h=>hat j (mt h)) (λj h=>hL j (mt h)) x.2.1 x.2.2.1 (KR hc h1) λD2 w2 c2 o2 ps2 x2 hm h2=>?_;have:=q D2 w2 c2 o2 ps2 (x.trans x2) (λj hj=>(P4.mp hj).elim (λe=>e▸x2.1 i hi) (hm j)) (JE h1 h2);rw[Q4,x2.A hk (hL i mh) hi]at this;exact this
theorem wF(hk:k<2)(hi:i∈LF):LY LF pre us k (n+15) 1 1 i false:=λD w c o ps K hD nD hc q=>HD hk hi hD nD hc q
end
noncomputable abbrev xM:List (V×V):=[(.str [88],.ls [NV 9]),(.str [89],.ls [NV 10]),(.str [86],.ls [NV 2]),(.str [87],.ls [NV 9,NV 10])]
noncomputable abbrev NB:E:=.cl 76 [.v 0,.sb (.dict [[88],[89],[86],[87]] [.list false [.c (.str [97])],.list false [.c (.str [98])],.list false [.c pR],.list false [.c (.str [97]),.c (.str [98])]]) (.v 1),.c (.str [107])]
noncomputable def zP(i:Nat):List Nat:=match i with|4=>[2]|5=>[9,10]|6=>[9]|_=>[10]
section
variable{k n c:Nat}{v:V}{i j y:Nat}{S:St}{L D:List Nat}{vs:au}{ss:List Kk.S}
theorem MS{K:KF}(q:ev pA cl e vs S λv S=>K (.ret v) vs S):ao pA cl (.ret e::ss) vs S K:=q
theorem xl(ha:Gv cl e1 vs S x)(q:ev pA cl e2 vs S λy S=>cl f [x,y] S K):ev pA cl (.cl f [e1,e2]) vs S K:=ha _ q
theorem MF(hv:(vs[2]?).join=some (.str s))(q:ev pA cl e vs S λy S=>K (.ls [.tp [.str s,y,u,t]]) S):ev pA cl (.list false [.tp [.v 2,e,.c u,.c t]]) vs S K:=by show aq pA (vs[2]?).join _;rw[hv];exact q
theorem KI(hk:k<2)(hL:∀j∈L,j∈LF)(h2:L.length≤2)(hM:∀M∈L.map λi=>[[i]],aH M)(hs:dr (L.map λi=>[[i]])<62)(hJ:JM (L.map λi=>[[i]])=af L)(ht:∀p∈af L,fx (af L) (jW p)=false)(hkp:∀p∈af L,bH (af L) p=true)(hD:aj D)(nD:D.Nodup)(hc:10≤c)(q:∀D' w' c' o' ps' M,e9 LF D w D' w'→M.Perm (af L)→c-3≤c'→call (n+15) 4 [.hd .tab k,lu 107 (KV k w' M)] ⟨c',k+1,false,Hb pre k w' D' us ps',o'⟩ K):call (n+16) 76 [.hd .ref (pre.length+4),.ls (L.map NV),.str [107]] ⟨c,k+1,false,Hb pre k w D us ps,o⟩ K:=by
 have l27:aj L:=λj hj=>(by decide:∀i∈LF,i<27) j (hL j hj);refine ji (vs:=[some (.hd .ref (pre.length+4)),some (.ls (L.map NV)),some (.str [107]),none,none]) rfl rfl rfl ?_;have tb:∀{D w c o ps},Gv (call (n+15)) (.sb (.v 0) (.c (.str [116,97,98]))) [some (.hd .ref (pre.length+4)),some (.ls (L.map NV)),some (.str [107]),none,none] ⟨c,k+1,false,Hb pre k w D us ps,o⟩ (.hd .tab k):=λ{D w c o ps}=>dj ae gX rfl;refine MS (xl tb (MF rfl (xl tb ?_)));refine xE (LL:=L.map NV) (d:=1) (t:=1) hk L D w c o ps _ _ (λi hi=>wF hk (hL i hi)) l27 hD nD (PM (LK (m:=10) h2 rfl) hc) λD' w' c' o' ps' x hm hc'=>?_;replace hc':=Jx hc' h2;have e:L.map (A k w')=(L.map λi=>[[i]]).map (KV k w'):=by rw[QR];rfl
 rw[e];refine rm (n:=n) hk hM hs (.inl rfl) (.inr (hJ▸ht)) (dH hc' (aW hc rfl)) λl' o2 hs=>?_;rw[hJ]at hs ⊢;rw[filter_eq_self.mpr λp hp=>hkp p (hs.1.mem_iff.mp hp)];exact q D' w' (c'-1) o2 ps' l' x hs.1 (cM hc' rfl)
variable{w w':Bool}
theorem Oz(hk:k<2)(hD:aj D)(h5:w'=w∨5∉D):Hb pre k w' D us ps=Hb pre k w D us ps:=by
 have e:∀i∈D,A k w' i=A k w i:=λi hi=>NC hk (hD i hi) (h5.imp_right λn e=>n (e▸hi));delta Hb
 rw[show mD k w' D=mD k w D from map_congr_left λi hi=>by rw[e i hi],show nD k w' D=nD k w D from map_congr_left λi hi=>by rw[e i hi]]
theorem JH{α:Type}{f g:Nat→α}{L:List Nat}(h:L.map f=L.map g)(hi:i∈L):f i=g i:=QE.mp h i hi
theorem Kg(hi:i∈[4,5,6,7]):(λ(k n iw:Nat)(S:St)(K:KP)=>ao pA (call n) jR (fT iw k i) S λfl _ S=>K fl.val S)=λk n iw S K=>ev pA (call n) NB ((fT iw k i).set 4 (some (.int 0))) S K:=JH (f:=λi=>(λ(k n iw:Nat)(S:St)(K:KP)=>ao pA (call n) jR (fT iw k i) S λfl _ S=>K fl.val S)) (g:=λi=>λk n iw S K=>ev pA (call n) NB ((fT iw k i).set 4 (some (.int 0))) S K) (by kernel_rfl) hi
theorem Mz{α:Type}{M:List α}{x y:α}(h:M.Perm [x,y])(ne:x≠y):M=[x,y]∨M=[y,x]:=by
 have hl:=h.length_eq;match M,hl with
 |[s,t],_=>
  have nd:[s,t].Nodup:=h.nodup_iff.mpr (RN.mpr ⟨λh=>ne (PH.mp h),RN.mpr ⟨λh=>(az h),.nil⟩⟩);have hs:=h.mem_iff.mp (List.mem_cons_self (a:=s));have ht:=h.mem_iff.mp (List.mem_cons_of_mem s (PH.mpr (rfl:t=t)));have ns:s≠t:=λe=>(RN.mp nd).1 (PH.mpr e);rcases P4.mp hs with rfl|hs
  ·rcases P4.mp ht with rfl|ht
   ·exact absurd rfl ns
   ·rw[PH.mp ht];exact .inl rfl
  ·rw[PH.mp hs]at ns ⊢;rcases P4.mp ht with rfl|ht
   ·exact .inr rfl
   ·exact absurd (PH.mp ht).symm ns
abbrev Pg(L:List Nat):Prop:=(∀j∈L,j∈LF)∧L.length≤2∧(∀M∈L.map λi=>[[i]],aH M)∧dr (L.map λi=>[[i]])<62∧JM (L.map λi=>[[i]])=af L∧(∀p∈af L,fx (af L) (jW p)=false)∧(∀p∈af L,bH (af L) p=true)
theorem MN:∀i∈[4,5,6,7],Pg (zP i):=by decide
theorem JS{M:List Pt}(hi:i∈[4,5,6,7])(hM:M.Perm (af (zP i))):∃w',(w'=w∨i=5)∧[V.hd .tab k,lu 107 (KV k w M)]=G0 k w' i:=by
 have hi:i=4∨i=5∨i=6∨i=7:=by simpa using hi
 rcases hi with rfl|rfl|rfl|rfl
 ·rw[QT.mp hM];exact aB w (.inl rfl) rfl
 ·rcases Mz hM (by decide)with e|e<;>rw[e]
  ·exact aB false (.inr rfl) rfl
  ·exact aB true (.inr rfl) rfl
 ·rw[QT.mp hM];exact aB w (.inl rfl) rfl
 ·rw[QT.mp hM];exact aB w (.inl rfl) rfl
theorem JI:Hb pre k w D us ps++[t]=Hb pre k w D us (ps++[t]):=by delta Hb;rw[QK,QK]
theorem Iw:∀i∈[4,5,6,7],aC (NV i) xM=some (.ls ((zP i).map NV)):=by
 have:([4,5,6,7].map λi=>aC (NV i) xM)=[4,5,6,7].map λi=>some (.ls ((zP i).map NV)):=by kernel_rfl
 exact QE.mp this
theorem Es(hk:k<2)(hi:i∈[4,5,6,7])(h:i∉D)(hD:aj D)(nD:D.Nodup)(hc:20≤c)(q:∀D' w' c' o' ps',e9 bQ D w D' w'→i∉D'→c-20≤c'→K (A k w' i) ⟨c',k+1,false,Hb pre k w' D' us ps',o'⟩):ao pA (call (n+16)) jR (fT (pre.length+4) k i) ⟨c,k+1,false,Hb pre k w D us ps,o⟩ λfl _ S=>K fl.val S:=by
 refine(QX (QX (QX (QX (QX (Kg hi) k) (n+16)) (pre.length+4)) ⟨c,k+1,false,Hb pre k w D us ps,o⟩) K).mpr ?_;have key:bV ⟨c,k+1,false,Hb pre k w D us ps++[.dict xM],o⟩ (.hd .ref (Hb pre k w D us ps).length) (NV i)=some (.ls ((zP i).map NV)):=nN (d:=xM) (by show(Hb pre k w D us ps++[O.dict xM])[_]?=_;rw[Q1 (Qi _),sub_self];rfl) rfl (Iw i hi);show aq pA (bV ⟨c,k+1,false,Hb pre k w D us ps++[.dict xM],o⟩ (.hd .ref (Hb pre k w D us ps).length) (NV i)) _;refine aR key ?_;show call (n+16) 76 [.hd .ref (pre.length+4),.ls ((zP i).map NV),.str [107]] ⟨c,k+1,false,Hb pre k w D us ps++[.dict xM],o⟩ K;rw[JI];refine U7 (MN i hi) λt1 t2 t3 t4 t5 t6 t7=>?_;refine KI hk t1 t2 t3 t4 t5 t6 t7 hD nD (aW hc rfl) λD' w' c' o' ps' M x hM hc'=>?_;refine X2 (JS (k:=k) (w:=w') hi hM) λw2 h2 e=>?_;rw[e];have nl:∀i∈[4,5,6,7],i∈OB∧i∉LF:=by decide
 have ni:i∉D':=λhm=>(x.2.2.2.2 i hm).elim h (nl i hi).2;refine rE (n:=n+2) hk (nl i hi).1 (dH hc' (aW hc rfl)) ?_;have h5:w2=w'∨5∉D':=h2.elim .inl λe5=>.inr (by rw[← e5];exact ni);rw[← Oz hk x.2.1 h5];exact q D' w2 (c'-1) o' ps' ⟨x.1,x.2.1,x.2.2.1,h2.elim (λe'=>by rw[e'];exact x.2.2.2.1) λe'=>.inr (by rw[← e'];exact h),λj hj=>.inr (fJ (x.2.1 j hj))⟩ ni (cM (mK hc' rfl) rfl)
theorem e9.up(h:e9 B D w L w'):e9 bQ D w L w':=⟨h.1,h.2.1,h.2.2.1,h.2.2.2.1,λj hj=>.inr (fJ (h.2.1 j hj))⟩
theorem e9.rfl'(hD:aj D)(nD:D.Nodup):e9 B D w D w:=⟨λz h=>h,hD,nD,.inl rfl,λz=>.inl⟩
theorem Hu:ao pA (call n) jR (fT iw k 21) S (λfl _ S=>K fl.val S)=call n 4 [.hd .tab k,.ls []] S K:=by kernel_rfl
theorem Ju:ao pA (call n) jR (fT iw k 8) S (λfl _ S=>K fl.val S)=call n 2 [.hd .tab k,.int 7] S λv S=>call n 4 [.hd .tab k,lu 112 v] S K:=by kernel_rfl
theorem Jc:ao pA (call n) jR (fT iw k 24) S (λfl _ S=>K fl.val S)=call n 78 [.hd .ref iw,NV 9] S λv S=>call n 4 [.hd .tab k,lu 107 v,.tp [],.tp [],.tp [],.tp [],.int 1] S K:=by kernel_rfl
theorem tI(hk:k<2)(hi:i<27):LY bQ pre us k (n+18) 20 20 i false:=λD w c o ps K hD nD hc q=>by
 refine GY hk (fJ hi) hi hD nD (λh K' q=>?_) q;refine rY (n:=n+3) (bc (bb hk rfl)) hi ?_;have r:=e9.rfl' (B:=bQ) (w:=w) hD nD;have cs:=aO (f:=λi=>LF.contains i||([4,5,6,7].contains i||(beq i 8||(beq i 21||beq i 24)))) (by decide +kernel) hi;rcases QW.mp cs with e|cs
 ·obtain⟨c,rfl⟩:∃d,c=d+1:=⟨c-1,OD hc rfl⟩
  exact uF hk (PR.mp e) (q D w _ o ps r h (PM (Rl (ag (a:=1) rfl) (c+1)) (Qi c))) (q D w _ o ps r h (sub_le (c+1) 20))
 rcases QW.mp cs with e|cs
 ·exact Es hk (PR.mp e) h hD nD hc q
 rcases QW.mp cs with e|cs
 ·replace e:=PJ e;subst e;rw[Ju];refine FQ (n:=n+3) hk (aW hc rfl) ?_;exact rE (n:=n+3) (w:=w) (i:=8) hk (by decide) (cC (aW hc rfl)) (q D w _ o ps r h (cM (ff rfl) rfl))
 rcases QW.mp cs with e|e
 ·replace e:=PJ e;subst e;rw[Hu];exact rE (n:=n+3) (w:=w) (i:=21) hk (by decide) (aW hc rfl) (q D w _ o ps r h (ff rfl))
 ·replace e:=PJ e;subst e;rw[Jc];refine wF (n:=n+1) hk (by decide) D w c o ps _ hD nD (aW hc rfl) λD' w' c' o' ps' x hm hc'=>?_;have ni:24∉D':=λhm=>(x.2.2.2.2 24 hm).elim h (by decide);exact rE (n:=n+3) (w:=w') (i:=24) hk (by decide) (dH hc' (aW hc rfl)) (q D' w' _ o' ps' x.up ni (cM (mK hc' rfl) rfl))
end
noncomputable def JJ(k:Nat)(w:Bool)(M:List Nat):List V:=(JM (M.map λi=>[[i]])).map (PV k w)
section
variable{k n c:Nat}{o:List (List V×List V)}{p:Pt}{x:V}{i:Nat}{L M:List Nat}
theorem MJ(e:prog[f]?=some fn)(hm:fn.mode=.own c0 s)(hf:V.freeL xs=true)(hr:qV fn c0 xs m l o=some r)(hc:c0≤c)(q:∀o',K r ⟨c-c0,m,l,h,o'⟩):call (n+13) f xs ⟨c,m,l,h,o⟩ K:=by refine X2 (Qm.mp hr) λvs hb hr=>?_;refine own (n:=n+12) e hm hc hf hb ?_;rw[gx];refine(tS (r:=r) (A8 (P:=prog) n 12)).2 _ _ _ _ _ (λfl vs S' h'=>?_) hr;have e1:=Gf (m:=m) (c:=c) (c0:=c0) (l:=l) (h:=h) (o:=o) (S':=S') (s:=s) (v:=fl.val) (K:=K);refine e1.mpr (k8 (Ko:=gE S' fl.val) h' λh'=>?_);rw[h'];exact q _
theorem DN(hk:k<2)(hc:1≤c)(q:∀o',K (.int 1) ⟨c-1,k+1,l,h,o'⟩):call (n+15) 11 [.hd .tab k,.ls [.int 1]] ⟨c,k+1,l,h,o⟩ K:=by
 refine MJ (n:=n+2) (r:=.int 1) rfl rfl rfl ?_ hc q;match k,hk with
 |0,_=>kernel_rfl
 |1,_=>kernel_rfl
theorem Jg(n:Nf K0):p∈aX (af K0)↔p∈af K0:=by
 refine⟨λh=>?_,λh=>aV.mpr (.inl h)⟩;rcases aV.mp h with h|⟨e,a,b⟩
 ·exact h
 ·rcases e with e|e
  ·exact e▸a
  ·rcases b with b|b
   ·exact e▸b
   ·exact absurd (aV.mpr (.inr ⟨.inr rfl,a,.inr b⟩)) ((lq.mp ((n [26]).mpr b)).2.1 17 rfl)
theorem Ek(M:List Nat):(M.map λi=>[[i]]).flatten=af M:=by
 induction M with
 |nil=>rfl
 |cons i M ih=>show [i]::(M.map λi=>[[i]]).flatten=_;rw[ih];rfl
theorem Hy(M:List Nat):dr (M.map λi=>[[i]])=M.length:=by
 induction M with
 |nil=>rfl
 |cons i M ih=>show 1+dr (M.map λi=>[[i]])=_;rw[ih,RJ];rfl
theorem Ml{Z:List Pt}(h:∀p∈Z,p∈af M):∃L,Z=af L:=by
 induction Z with
 |nil=>exact⟨[],rfl⟩
 |cons p Z ih=>refine X1 (ih λp h'=>h p (mt h')) λL e=>?_;refine X2 (Qd.mp (h p mh)) λi _ e'=>?_;exact⟨i::L,by rw[e,← e'];rfl⟩
theorem y5(hk:k<2)(oK:aA K0)(nK:Nf K0)(iK:K0.Pairwise (· < ·))(l3:K0.length≤3)(hM:M.Perm K0)(hc:1≤c)(q:∀L o',Kn K0 L→(K0≠[]→(∀x∈o,x.1=JJ k w M→x.2=(af L).map (PV k w))∧o'=(JJ k w M,(af L).map (PV k w))::o)→K (KV k w (af L)) ⟨c-1,k+1,l,h,o'⟩):call (n+15) 11 [.hd .tab k,.ls (M.map (A k w))] ⟨c,k+1,l,h,o⟩ K:=by
 have e:M.map (A k w)=(M.map λi=>[[i]]).map (KV k w):=by rw[QR];rfl
 have sM:∀p,p∈af M↔p∈af K0:=λp=>(hM.map _).mem_iff;have nM:Nf M:=λp=>by rw[cg sM,sM];exact nK p
 have mJ:∀p,p∈JM (M.map λi=>[[i]])↔p∈af M:=λp=>by rw[rH,Ek,Jg nM]
 have ok:∀i∈M,aJ i:=λi hi=>oK i (hM.mem_iff.mp hi);have kp:∀p∈af M,fx (JM (M.map λi=>[[i]])) (jW p)=false∧bH (JM (M.map λi=>[[i]])) p=true:=λp hp=>by have h:=((nM p).mpr hp).2;rw[jx (G:=JM (M.map λi=>[[i]])) λp=>by rw[Jg nM,mJ]]at h;refine⟨?_,h⟩;unfold bH at h;exact(Qo _).mp (aa h).1
 rw[e];refine rm (n:=n) hk (λN hN=>?_) (by rw[Hy,hM.length_eq];omega) (.inl rfl) (.inr λp hp=>(kp p ((mJ p).mp hp)).1) hc λl' o' hs=>?_
 ·obtain⟨i,hi,rfl⟩:=Qd.mp hN;exact bq (H:=[i]) λj hj=>PH.mp hj▸ok i hi
 ·have hl:∀p,p∈l'↔p∈af M:=λp=>hs.1.mem_iff.trans (mJ p);rw[filter_eq_self.mpr λp hp=>(kp p ((hl p).mp hp)).2];obtain⟨L,rfl⟩:=Ml λp hp=>(hl p).mp hp;have nd:L.Nodup:=(Rp.mp (hs.1.nodup_iff.mpr (xO (u6 R9)))).imp λh e=>h (by rw[e]);refine q L o' ⟨iK,(Rv nd (iK.imp λh=>Q9 h)).mpr λi=>?_,l3⟩ λne=>?_
  ·rw[← aL,hl,aL,hM.mem_iff]
  ·exact hs.2 λe=>ne (List.eq_nil_iff_forall_not_mem.mpr λi hi=>by have:=(mJ [i]).mpr (aL.mpr (hM.mem_iff.mpr hi));rw[e]at this;exact az this)
end
noncomputable abbrev DX(k:Nat):Bool:=match k with|0=>false|_=>true
noncomputable abbrev kH(il k:Nat)(od:List V)(x3 x4 x5:Option V):au:=(some (.hd .ref il)::some (.ls od)::some (.bool (DX k))::x3::x4::x5::z5)
section
variable{k c:Nat}{pre:List O}{S:St}
theorem B1(hk:k<2)(hc:16≤c)(q:ao pA (call n) (gL.body.drop 1) (kH il k od (some (.hd .ref (pre.length+4))) none none) ⟨c-16,k+1,false,Hb pre k w [] [] [],o⟩ λfl _ S=>K fl.val S):call (n+1) 79 [.hd .ref il,.ls od,.bool (DX k)] ⟨c,k,l,pre,o⟩ K:=by
 refine ji (vs:=kH il k od none none none) rfl rfl rfl ?_;obtain⟨c,rfl⟩:∃d,c=d+16:=⟨c-16,Ln hc⟩
 have e:(((((pre++[O.dict []])++[O.dict []])++[O.dict (dD k)])++[O.list []])++[O.dict (wD k pre.length (pre++[O.dict []]).length ((pre++[O.dict []])++[O.dict []]).length (((pre++[O.dict []])++[O.dict []])++[O.dict (dD k)]).length)])=Hb pre k w [] [] []:=by
  delta Hb mD nD
  simp only[QK,PX,Qf,List.length_nil,List.cons_append,nil_append,List.map_nil,Qy]
 have e2:((((pre++[O.dict []])++[O.dict []])++[O.dict (dD k)])++[O.list []]).length=pre.length+4:=by simp only[QK,PX,Qf,List.length_nil,List.cons_append,nil_append]
 rw[← e,← e2]at q;match k,hk with
 |0,_=>exact q
 |1,_=>exact q
end
noncomputable abbrev J0:List Kk.S:=match gL.body.drop 1 with|.for_ _ _ b::_=>b|_=>[]
noncomputable def Nm:List Nat:=[11,9,10,0,1,3,2,25,22,23,12,17,26,18,13,20,16,14,6,7,8,4,5,24,21,15]
noncomputable def qt(j:Nat):Nat:=Nm.getD j 0
noncomputable abbrev Jn:V:=.tp (Nm.map NV)
section
variable{k n c:Nat}{w:Bool}{pre ps:List O}{r:V}{j il:Nat}{S:St}{D K0 K1 K2:List Nat}{us:List V}{K:KF}
theorem G7(q:ev pA cl e vs S λz S=>ao pA cl ss vs S K):ao pA cl (.expr e::ss) vs S K:=q
theorem N0{i j:Int}(ha:Gv cl e1 vs S (.int i))(hb:Gv cl e2 vs S (.int j)):c6 cl (.k .lt e1 e2) vs S (decide (i<j)):=λK' q=>ha _ (hb _ (aR (show v7 .lt S (.int i) (.int j)=some (decide (i<j))from rfl) q))
theorem Mc{l:List V}(h:Gv cl e vs S (.ls l)):Gv cl (.rev e) vs S (.ls l.reverse):=λK' q=>h _ q
theorem m5{i j:Int}(ha:Gv cl e1 vs S (.int i))(hb:Gv cl e2 vs S (.int j)):c6 cl (.k .eq e1 e2) vs S (decide (i=j)):=aM ha hb rfl
theorem He(hj:j<26):(λS=>bV S Jn (.int (j:Nat)))=λz=>some (NV (qt j)):=JH (f:=λj=>λS=>bV S Jn (.int (j:Nat))) (g:=λj=>λz=>some (NV (qt j))) (L:=List.range 26) (by kernel_rfl) (QM.mpr hj)
theorem Jj{K:KP}(hk:k<2)(hj:j=27∨j=28)(hc:1≤c)(q:∀r,K r ⟨c-1,k+1,false,h,o⟩):call (n+13) 2 [.hd .tab k,.int (j:Nat)] ⟨c,k+1,false,h,o⟩ K:=by
 refine run (r:=.id k (.tp [.int 4,.int (j:Nat),.int 0])) rfl rfl rfl ?_ hc (q _);match k,hk with
 |0,_=>rcases hj with rfl|rfl<;>kernel_rfl
 |1,_=>rcases hj with rfl|rfl<;>kernel_rfl
theorem f6{t:O}(h:pre[il]?=some t):(Hb pre k w D us ps)[il]?=some t:=by
 delta Hb
 rw[Qq (PO.mp h).1,h]
theorem Jy(hk:k<2)(hl:pre[il]?=some (.list [.ls (K0.map NV),.ls (K1.map NV),.ls (K2.map NV)]))(o1:aA K1)(n1:Nf K1)(i1:K1.Pairwise (· < ·))(l1:K1.length≤3)(hj:j<29)(hD:aj D)(nD:D.Nodup)(hc:200≤c)(q:∀D' w' c' o' ps',e9 bQ D w D' w'→(j<26→qt j∈D')→c-100≤c'→K .next (kH il k od (some (.hd .ref (pre.length+4))) (some (.int (j:Nat))) x5) ⟨c',k+1,false,Hb pre k w' D' us ps',o'⟩):ao pA (call (n+18)) J0 (kH il k od (some (.hd .ref (pre.length+4))) (some (.int (j:Nat))) x5) ⟨c,k+1,false,Hb pre k w D us ps,o⟩ K:=by
 have r:=e9.rfl' (B:=bQ) (w:=w) hD nD;refine oS (N0 ae ae) (λh=>?_) λh=>?_
 ·have hj:j<26:=by have:=PI h;omega
  refine G7 ?_;refine aR (QX (He hj) _) ?_;refine tI hk ((by decide:∀j,j<26→qt j<27) j hj) D w c o ps _ hD nD (aW hc rfl) λD' w' c' o' ps' x hm hc'=>?_;exact q D' w' c' o' ps' x (λz=>hm) (mK hc' rfl)
 ·have hj':¬j<26:=λh'=>by have:=QC h;omega
  refine oS (m5 ae ae) (λh=>?_) λh=>?_
  ·have tb:Gv (call (n+18)) (.sb (.v 3) (.c (.str [116,97,98]))) (kH il k od (some (.hd .ref (pre.length+4))) (some (.int (j:Nat))) x5) ⟨c,k+1,false,Hb pre k w D us ps,o⟩ (.hd .tab k):=dj ae gX rfl;refine G7 (xl tb ?_);have it:∃M:List Nat,M.Perm K1∧Gv (call (n+18)) (.it (.v 2) (.rev (.sb (.v 0) (.i 1))) (.sb (.v 0) (.i 1))) (kH il k od (some (.hd .ref (pre.length+4))) (some (.int (j:Nat))) x5) ⟨c,k+1,false,Hb pre k w D us ps,o⟩ (.ls (M.map NV)):=by
    have g1:Gv (call (n+18)) (.sb (.v 0) (.i 1)) (kH il k od (some (.hd .ref (pre.length+4))) (some (.int (j:Nat))) x5) ⟨c,k+1,false,Hb pre k w D us ps,o⟩ (.ls (K1.map NV)):=fU ae (f6 hl) rfl;match k,hk with
    |0,_=>exact aB K1 (.refl _) (λK' q=>g1 K' q)
    |1,_=>exact aB K1.reverse (List.reverse_perm _) (by rw[List.map_reverse];exact ey (r:=true) ae (λz=>Mc g1) (λe=>eg e))
   refine X2 it λM pM g=>?_;refine g _ ?_;have oM:∀i∈M,i<27:=λi hi=>(o1 i (pM.mem_iff.mp hi)).1;have lM:M.length≤3:=pM.length_eq▸l1;refine xE (LL:=M.map NV) hk M D w c o ps _ _ (λi hi=>tI hk (oM i hi)) oM hD nD (PM (LK (m:=200) lM rfl) hc) λD' w' c' o' ps' x hm hc'=>?_;replace hc':=Jx hc' lM;exact y5 (n:=n+3) hk o1 n1 i1 l1 pM (dH hc' (aW hc rfl)) λL o2 z z=>q D' w' _ o2 ps' x (λh=>absurd h hj') (cM (mK hc' rfl) rfl)
  ·have tb:Gv (call (n+18)) (.sb (.v 3) (.c (.str [116,97,98]))) (kH il k od (some (.hd .ref (pre.length+4))) (some (.int (j:Nat))) x5) ⟨c,k+1,false,Hb pre k w D us ps,o⟩ (.hd .tab k):=dj ae gX rfl;refine G7 (xl tb ?_);exact Jj (n:=n+5) (j:=j) hk ((by decide:∀j,j<29→¬j<26→¬j=26→j=27∨j=28) j hj hj' λe=>QC h (Qb Int.ofNat e)) (aW hc rfl) λr'=>q D w _ o ps r (λh=>absurd h hj') (ff rfl)
end
noncomputable abbrev N6:List Kk.S:=match gL.body.drop 3 with|.for_ _ _ b::_=>b|_=>[]
section
variable{k n c:Nat}{w:Bool}{h pre ps:List O}{o:List (List V×List V)}{x v:V}{i j:Nat}{S:St}{L D K0 K1 K2:List Nat}{us:List V}{x4:Option V}{K:KF}
theorem Ja(hk:k<2)(hl:pre[il]?=some (.list [.ls (K0.map NV),.ls (K1.map NV),.ls (K2.map NV)]))(o1:aA K1)(n1:Nf K1)(i1:K1.Pairwise (· < ·))(l1:K1.length≤3):∀(js D:List Nat)(w:Bool)(c:Nat)(o:List (List V×List V))(ps:List O)(x4:Option V),(∀j∈js,j<29)→aj D→D.Nodup→200+100*js.length≤c→(∀D' w' c' o' ps' x4,e9 bQ D w D' w'→(∀j∈js,j<26→qt j∈D')→c-100*js.length≤c'→K .next (kH il k od (some (.hd .ref (pre.length+4))) x4 x5) ⟨c',k+1,false,Hb pre k w' D' us ps',o'⟩)→bW pA (λS=>fX S LL none) (ao pA (call (n+18)) J0) 4 (js.map λj=>.int (j:Nat)) (kH il k od (some (.hd .ref (pre.length+4))) x4 x5) ⟨c,k+1,false,Hb pre k w D us ps,o⟩ K:=by
 intro js;induction js with
 |nil=>exact λD w c o ps x4 z hD nD z q=>q D w c o ps x4 (e9.rfl' hD nD) (λz h=>az h) (sub_le ..)
 |cons j js ih_=>
  exact λD w c o ps x4 hj hD nD hc q=>by rw[Qf,Nat.mul_succ]at hc q;refine Jy (x5:=x5) hk hl o1 n1 i1 l1 (hj j mh) hD nD (uu hc) λD1 w1 c1 o2 ps1 x hm h1=>?_;refine ih_ D1 w1 c1 o2 ps1 _ (λj h=>hj j (mt h)) x.2.1 x.2.2.1 (KR hc h1) λD2 w2 c2 o3 ps2 x4 x2 hm2 h2=>?_;exact q D2 w2 c2 o3 ps2 x4 (x.trans x2) (λi hi hi26=>(P4.mp hi).elim (λe=>x2.1 _ (by rw[e];exact hm (e▸hi26))) λh=>hm2 i h hi26) (JE h1 h2)
theorem rq{K:KP}{L:List V}(hi:S.h[j]?=some (.list L))(hl:L.length<aD)(q:K .nul (S.set j (.list (L++[v])))):(rR .append (.hd .ref j) [v] S).run pA K:=by show(ct (bI S (.hd .ref j)) _).run pA _;rw[iO hi];show(eM (decide (L.length<aD)) _).run pA _;rw[PL hl];exact q
theorem Bc{L:List V}(ho:Gv cl eo vs S (.hd .ref j))(hi:S.h[j]?=some (.list L))(q:ev pA cl e vs S λv S=>(rR .append (.hd .ref j) [v] S).run pA λz S=>ao pA cl ss vs S K):ao pA cl (.expr (.me .append eo [e])::ss) vs S K:=by refine ho _ ?_;show iff pA (bI S (.hd .ref j)).isSome _;rw[iO hi];exact q
theorem MT:(Hb pre k w D us ps).set (pre.length+3) (.list us')=Hb pre k w D us' ps:=uf
theorem xD(hk:k<2)(oK:okN K0)(nK:aA K0→Nf K0)(iK:K0.Pairwise (· < ·))(l3:K0.length≤3)(hD:aj D)(full:∀i,i<27→i∈D)(hu:us.length<10)(hc:1≤c)(q:∀L o',Kn K0 L→(aA K0→K0≠[]→(∀x∈o,x.1=JJ k w K0→x.2=(af L).map (PV k w))∧o'=(JJ k w K0,(af L).map (PV k w))::o)→K .next (kH il k od (some (.hd .ref (pre.length+4))) x4 (some (.ls (K0.map NV)))) ⟨c-1,k+1,false,Hb pre k w D (us++[KV k w (af L)]) ps,o'⟩):ao pA (call (n+18)) N6 (kH il k od (some (.hd .ref (pre.length+4))) x4 (some (.ls (K0.map NV)))) ⟨c,k+1,false,Hb pre k w D us ps,o⟩ K:=by
 have l27:=fK oK;refine Bc (L:=us) (j:=pre.length+3) (dj (k:=k) ae gX rfl) EV ?_;have tb:Gv (call (n+18)) (.sb (.v 3) (.c (.str [116,97,98]))) (kH il k od (some (.hd .ref (pre.length+4))) x4 (some (.ls (K0.map NV)))) ⟨c,k+1,false,Hb pre k w D us ps,o⟩ (.hd .tab k):=dj ae gX rfl;refine xl tb ?_;refine dw (cl:=call (n+18)) (j:=1) (elt:=.cl 78 [.v 3,.v 1]) (ok:=λS=>fX S (K0.map NV) none) (S:=⟨c,k+1,false,Hb pre k w D us ps,o⟩) (vs:=[none,none,none,some (.hd .ref (pre.length+4))]) (g:=NV) (f:=A k w) (L:=K0) rfl (λi hi K q=>Ea (n:=n+17) (l27 i hi) hD (full i (l27 i hi)) q) ?_;have fin:∀L o',Kn K0 L→(aA K0→K0≠[]→(∀x∈o,x.1=JJ k w K0→x.2=(af L).map (PV k w))∧o'=(JJ k w K0,(af L).map (PV k w))::o)→(rR .append (.hd .ref (pre.length+3)) [KV k w (af L)] ⟨c-1,k+1,false,Hb pre k w D us ps,o'⟩).run pA λz S=>K .next (kH il k od (some (.hd .ref (pre.length+4))) x4 (some (.ls (K0.map NV)))) S:=λL o' kn h=>by
  refine rq (L:=us) EV (Q8 hu (ag rfl)) ?_;show K .next _ ⟨c-1,k+1,false,(Hb pre k w D us ps).set (pre.length+3) (.list (us++[KV k w (af L)])),o'⟩
  rw[MT];exact q L o' kn h
 rcases oK with oK|rfl
 ·exact y5 (n:=n+3) hk oK (nK oK) iK l3 (.refl _) hc λL o' kn h=>fin L o' kn λz=>h
 ·exact DN (n:=n+3) hk hc λo'=>fin [19] o' ⟨iK,.refl _,l3⟩ λh=>absurd rfl (h 19 mh).2
end
section
variable{k n c f:Nat}{pre:List O}{i j:Nat}{S:St}{L D K0 K1 K2 js:List Nat}
theorem vH{b:Bool}{q:Prop}(h:b=true)(hq:q):iff pA b q:=by rw[h];exact hq
theorem sZ{L:List V}(hl:pre[il]?=some (.list L)):fX ⟨c,m,l,Hb pre k w D us ps,o⟩ L (some il)=true:=by
 delta fX
 simp only[f6 hl];exact kE
theorem Km{K:KF}{L:List V}(h:Gv cl e vs S (.hd .ref i))(hi:S.h[i]?=some (.list L))(q:bW pA (λS=>fX S L (some i)) (ao pA cl body) j L vs S λf vs S=>match f with|.next=>ao pA cl ss vs S K|.cont=>K .cont vs S|.ret v=>K (.ret v) vs S):ao pA cl (.for_ j e body::ss) vs S K:=by
 refine h _ ?_;refine aR (v:=(L,some i)) ?_ q;delta dY
 rw[iO hi]
theorem Md(hk:k<2)(hi:i<27)(hj:j<27)(e:A k w i=A k w j):i=j:=by have:=Bz (w:=w) hk hi hj;rw[e,fE.1 _]at this;exact PJ this.symm
theorem Kb(hk:k<2):∀{L M:List Nat},aj L→aj M→(af L).map (PV k w)=(af M).map (PV k w)→L=M:=by
 intro L;induction L with
 |nil=>intro M _ _ e;cases M with|nil=>rfl|cons j M=>cases e
 |cons i L ih=>
  intro M hL hM e;cases M with
  |nil=>cases e
  |cons j M=>injection e with a b;rw[Md (w:=w) hk (hL i mh) (hM j mh) a,ih (λi h=>hL i (mt h)) (λi h=>hM i (mt h)) b]
theorem F8(hk:k<2)(hl:pre[il]?=some (.list [.ls (K0.map NV),.ls (K1.map NV),.ls (K2.map NV)]))(o0:okN K0)(n0:aA K0→Nf K0)(i0:K0.Pairwise (· < ·))(l0:K0.length≤3)(o1:aA K1)(n1:Nf K1)(i1:K1.Pairwise (· < ·))(l1:K1.length≤3)(ne:K1≠[])(o2:aA K2)(n2:Nf K2)(i2:K2.Pairwise (· < ·))(l2:K2.length≤3)(hj:∀j∈js,j<29)(all:∀j,j<26→j∈js)(len:js.length=29)(hc:4000≤c)(q:∀D w c' o' ps L0 L1 L2,aj D→(∀i,i<27→i∈D)→Kn K0 L0→Kn K1 L1→Kn K2 L2→(K0=K1→L0=L1)→c-4000≤c'→K (.hd .ref (pre.length+4)) ⟨c',k+1,false,Hb pre k w D [KV k w (af L0),KV k w (af L1),KV k w (af L2)] ps,o'⟩):call (n+19) 79 [.hd .ref il,.ls (js.map λj=>.int (j:Nat)),.bool (DX k)] ⟨c,k,l,pre,o⟩ K:=by
 refine B1 (n:=n+18) (w:=false) hk (aW hc rfl) ?_;refine dE (L:=js.map λj=>.int (j:Nat)) ae rfl ?_;refine Ja (LL:=js.map λj=>.int (j:Nat)) hk hl o1 n1 i1 l1 js [] false (c-16) o [] none hj (λz h=>az h) .nil (by rw[len];exact cC (aW hc rfl)) λD w c1 o1' ps x4 x hm h1=>?_;rw[len]at h1;refine G7 ?_;refine tI hk (ag rfl:19<27) D w c1 o1' ps _ x.2.1 x.2.2.1 (dH h1 (cC (aW hc rfl))) λD w2 c2 o2' ps x' h19 h2=>?_;have full:∀i,i<27→i∈D:=λi hi=>by
  have:=aO (f:=λi=>beq i 19||(List.range 26).any λj=>beq (qt j) i) (by decide +kernel) hi;rcases QW.mp this with e|e
  ·rw[PJ e];exact h19
  ·refine X2 (QA.mp e) λj hj e=>?_;replace hj:=QM.mp hj;rw[← PJ e];exact x'.1 _ (hm j (all j hj) hj)
 have hD:=x'.2.1;refine Km ae (f6 hl) ?_;refine vH (sZ hl) ?_;refine xD hk o0 n0 i0 l0 hD full (ag rfl) (dH h2 (dH h1 (cC (aW hc rfl)))) λL0 p1 k0 s0=>?_;refine vH (sZ hl) ?_;refine xD hk (.inl o1) (λz=>n1) i1 l1 hD full (show 1<10 from ag rfl) (cC (dH h2 (dH h1 (cC (aW hc rfl))))) λL1 p2 k1 s1=>?_;refine vH (sZ hl) ?_;refine xD hk (.inl o2) (λz=>n2) i2 l2 hD full (show 2<10 from ag rfl) (cC (cC (dH h2 (dH h1 (cC (aW hc rfl)))))) λL2 p3 k2 s2=>?_;refine vH (sZ hl) ?_;refine q D w2 _ p3 ps L0 L1 L2 hD full k0 k1 k2 (λe=>?_) (cM (cM (cM (D8 h2 (D8 h1 (ff rfl) rfl) rfl) rfl) rfl) rfl);subst e;refine U2 (s0 o1 ne) λz e1=>?_;refine U2 (s1 o1 ne) λh' z=>?_;have lt:∀{L},Kn K0 L→aj L:=λkn i hi=>(o1 i (kn.perm.mem_iff.mp hi)).1;exact Kb (w:=w2) hk (lt k0) (lt k1) (h' _ (by rw (config:={}) [e1];exact .head _) rfl)
end
noncomputable abbrev dO(at':Nat)(nums:List Int):O:=.list [.int at',.ls (nums.map V.int)]
section
variable{m n c id at' N:Nat}{l:Bool}{h:List O}{o:List (List V×List V)}{nums:List Int}{S:St}{j:Int}
theorem vO{l:List V}(ha:Gv cl e vs S x)(hl:bu S x=some l):Gv cl (.p .len [e]) vs S (.int l.length):=λK' q=>ha _ (by
 show(eD .len x S).run pA K';delta eD
 dsimp only;rw[hl];exact q)
theorem vC(h:0<j):jg .mod S (.int i) (.int j)=some (.int (i%j)):=by show gd (decide (0<j)) _=_;rw[PL h];rfl
theorem GZ(hi:kq i=true)(hj:kq j=true):jg .mul S (.int i) (.int j)=some (.int (i*j)):=by show gd (kq i&&kq j) _=_;rw[hi,hj];rfl
theorem KQ(h:0<j)(hi:kq i=true)(hj:kq j=true):jg .fdiv S (.int i) (.int j)=some (.int (i/j)):=by show gd (decide (0<j)&&kq i&&kq j) _=_;rw[PL h,hi,hj];rfl
theorem ud{i:Nat}(h:i<1000):kq (i:Int)=true:=by delta kq;exact PL (PM (Rm h) (ag rfl))
theorem jC(hi:h[id]?=some (dO at' nums))(hn:0<nums.length)(hb:nums.length<1000)(ha:at'<500)(hN:0<N)(q:∀r:Nat,r<N→K (.int (r:Nat)) ⟨c,m,l,h.set id (dO (at'+1) nums),o⟩):call (n+1) 64 [.hd .ref id,.int (N:Nat)] ⟨c,m,l,h,o⟩ K:=by
 have hlen:id<h.length:=(PO.mp hi).1;have hi':(h.set id (dO (at'+1) nums))[id]?=some (dO (at'+1) nums):=by rw[QO hlen]
 refine ji (vs:=(some (.hd .ref id)::some (.int (N:Nat))::z3)) rfl rfl rfl ?_;refine ay (v:=.int (at':Nat)) (fU ae hi rfl) ?_;refine ym (x:=.int ((at'+1:Nat):Int)) (y:=.hd .ref id) (z:=.int 0) (S':=⟨c,m,l,h.set id (dO (at'+1) nums),o⟩) (eB ae ae rfl) ae ae ?_ ?_
 ·delta dp
  rw[iO hi];rfl
 have gl:∀{vs:au},(vs[0]?).join=some (.hd .ref id)→Gv (call n) (.sb (.v 0) (.i 1)) vs ⟨c,m,l,h.set id (dO (at'+1) nums),o⟩ (.ls (nums.map V.int)):=λhv=>fU (λK' q=>aR hv q) hi' rfl;have e3:Gv (call n) (.p .len [.sb (.v 0) (.i 1)]) [some (.hd .ref id),some (.int (N:Nat)),some (.int (at':Nat)),none,none] ⟨c,m,l,h.set id (dO (at'+1) nums),o⟩ (.int (nums.length:Nat)):=by have:=vO (cl:=call n) (l:=nums.map V.int) (gl (vs:=[some (.hd .ref id),some (.int (N:Nat)),some (.int (at':Nat)),none,none]) rfl) rfl;rw[PS]at this;exact this
 refine ay (v:=.int (nums.length:Nat)) e3 ?_;have p0:(0:Int)<(nums.length:Nat):=by omega
 have lt:at'%nums.length<nums.length:=Nat.mod_lt _ hn;have sub:bV ⟨c,m,l,h.set id (dO (at'+1) nums),o⟩ (.ls (nums.map V.int)) (.int ((at':Nat)%(nums.length:Nat):Int))=some (.int nums[at'%nums.length]):=by
  have e:du (nums.map V.int) ((at':Nat)%(nums.length:Nat):Int)=some (.int nums[at'%nums.length]):=by
   delta du
   rw[show((at':Nat)%(nums.length:Nat):Int)=((at'%nums.length:Nat):Int)from(Int.natCast_emod ..).symm,PL (Rg _)];show(nums.map V.int)[(((at'%nums.length:Nat):Int)).toNat]?=_;rw[toNat_natCast,QQ,Qg lt];rfl
  exact e
 have g:Gv (call n) (.bin .mod (.bin .add (.sb (.sb (.v 0) (.i 1)) (.bin .mod (.v 2) (.v 3))) (.bin .mul (.bin .fdiv (.v 2) (.v 3)) (.bin .add (.v 2) (.i 5)))) (.v 1)) [some (.hd .ref id),some (.int (N:Nat)),some (.int (at':Nat)),some (.int (nums.length:Nat)),none] ⟨c,m,l,h.set id (dO (at'+1) nums),o⟩ (.int ((nums[at'%nums.length]+(at':Nat)/(nums.length:Nat)*((at':Nat)+5))%(N:Nat))):=by
  refine eB (eB (dR (gl rfl) (eB ae ae (vC p0)) sub) (eB (eB ae ae (KQ p0 (ud (bb ha rfl)) (ud hb))) (eB ae ae rfl) (GZ ?_ ?_)) rfl) ae (vC (by omega))
  ·rw[← Int.natCast_ediv];exact ud (Qa (Nat.div_le_self ..) (bb ha rfl))
  ·exact ud (i:=at'+5) (bc (bb ha rfl))
 refine gY g ?_;generalize (nums[at'%nums.length]+(at':Nat)/(nums.length:Nat)*((at':Nat)+5))=z;have h0:0≤z%(N:Nat):=Int.emod_nonneg _ (by omega);have h1:z%(N:Nat)<(N:Nat):=Int.emod_lt_of_pos _ (by omega);have:=q (z%(N:Nat)).toNat (by omega);rw[Int.toNat_of_nonneg h0]at this;exact this
end
structure Kd (K:List Nat):Prop where
 inc:K.Pairwise (· < ·)
 len:K.length≤3
 ok:aA K
 nf:Nf K
section
variable{p:Pt}{D G:List Pt}{i:Nat}
theorem wL(h:∀p∈D,p∈G)(e:fx G z=false):fx D z=false:=by
 cases z with
 |none=>rfl
 |some p=>exact PQ λm=>QC e (h p m)
theorem Cd(h:∀p∈D,p∈G)(e:bH G p=true):bH D p=true:=by unfold bH at e ⊢;refine U2 (aa e) λa b=>?_;rw[wL h ((Qo _).mp a),wL h ((Qo _).mp b)];rfl
theorem xF(hL:aA L):i∈ck L↔[i]∈aX (af L)∧bH (aX (af L)) [i]=true:=by rw[← aL,mC hL];exact RX
theorem An(hL:aA L)(h3:L.length≤3):Kd (ck L):=by
 have sub:∀i∈ck L,i∈L∨([i]=[12]∨[i]=[17])∧[12]∈af L∧([17]∈af L∨[26]∈af L):=λi hi=>(aV.mp ((xF hL).mp hi).1).imp_left aL.mp;have n26:[12]∈af L→26∉ck L:=λh12 h26=>by
  have h:=(xF hL).mp h26;have m26:[26]∈af L:=(aV.mp h.1).resolve_right λe=>e.1.elim (λe=>(nomatch e)) λe=>(nomatch e)
  exact(lq.mp h).2.1 17 rfl (aV.mpr (.inr ⟨.inr rfl,h12,.inr m26⟩))
 refine⟨oQ,?_,λi hi=>?_,λp=>?_⟩
 ·have nd:(ck L).Nodup:=oQ.imp λh=>Q9 h;by_cases h:[12]∈af L∧[17]∉af L∧[26]∈af L
  ·have hm:26∈L:=aL.mp h.2.2;have:=cV (m:=17::L.erase 26) nd λi hi=>by
    have ne:i≠26:=λe=>n26 h.1 (e▸hi);have er:∀{i},i∈L→i≠26→i∈17::L.erase 26:=λhm ne=>mt ((List.mem_erase_of_ne ne).mpr hm);rcases sub i hi with hm|⟨e,_⟩
    ·exact er hm ne
    ·rcases e with e|e<;>injection e with e<;>rw[e]
     ·exact er (aL.mp h.1) (by decide)
     ·exact .head _
   rw[Qf,List.length_erase_of_mem hm]at this;have:=List.length_pos_of_mem hm;omega
  ·refine PM (cV (m:=L) nd λi hi=>?_) h3;rcases sub i hi with hm|⟨e,a,b⟩
   ·exact hm
   ·rcases e with e|e<;>rw[← aL,e]
    ·exact a
    ·exact b.elim id λb=>QZ λn=>h ⟨a,n,b⟩
 ·rcases sub i hi with hm|⟨e,_⟩
  ·exact hL i hm
  ·rcases e with e|e<;>injection e with e<;>rw[e]<;>decide
 ·have e:∀p,p∈af (ck L)↔p∈aX (af L)∧bH (aX (af L)) p=true:=λp=>mC hL;have jE:∀p,p∈aX (af (ck L))↔p∈af (ck L):=λp=>by
   refine⟨λh=>?_,λh=>aV.mpr (.inl h)⟩;rcases aV.mp h with h|⟨q,a,b⟩
   ·exact h
   ·have h12:[12]∈af L:=(aV.mp ((e _).mp a).1).elim id λh=>h.2.1;have h17:[17]∈af (ck L):=b.resolve_right λb=>n26 h12 (aL.mp b);rcases q with q|q<;>rw[q]
    ·exact a
    ·exact h17
  refine⟨λh=>(jE p).mp h.1,λh=>⟨(jE p).mpr h,Cd (λq hq=>((e q).mp ((jE q).mp hq)).1) ((e p).mp h).2⟩⟩
theorem Mg(hL:aA L)(h:L≠[]):ck L≠[]:=by
 refine X1 (List.exists_mem_of_ne_nil _ h) λi hi=>?_;have key:∀i,i<27→(∀t,cH i=some t→cH t=none∧t<27)∧(∀t,cZ i=some t→cH t=none∧cZ t=none):=by
  have:(bQ.all λi=>(cH i).all (λt=>(cH t).isNone&&decide (t<27))&&(cZ i).all λt=>(cH t).isNone&&(cZ t).isNone)=true:=by decide +kernel
  intro i hi;have:=aO this hi;refine U2 (aa this) λa b=>?_;refine⟨λt e=>?_,λt e=>?_⟩
  ·rw[e]at a;refine U2 (aa (show((cH t).isNone&&decide (t<27))=true from a)) λa b=>?_;exact⟨QS.mp a,PI b⟩
  ·rw[e]at b;refine U2 (aa (show((cH t).isNone&&(cZ t).isNone)=true from b)) λa b=>?_;exact⟨QS.mp a,QS.mp b⟩
 have use:∀{j},a8 (af L) [j]→ck L≠[]:=λ{j} n e=>by have:=(xF hL).mpr n;rw[e]at this;exact az this
 have wh:∀{j},j<27→[j]∈aX (af L)→cH j=none→ck L≠[]:=λ{j} lj hj e=>by
  by_cases hw:∃t,cZ j=some t∧[t]∈aX (af L)
  ·refine X2 hw λt e' ht=>?_;refine U2 ((key j lj).2 t e') λa b=>?_;exact use (j:=t) (lq.mpr ⟨ht,λs e=>(by rw[a]at e;exact ah e),λs e=>(by rw[b]at e;exact ah e)⟩)
  ·exact use (lq.mpr ⟨hj,λs e'=>(by rw[e]at e'; exact ah e'),λs e' m=>hw ⟨s,e',m⟩⟩)
 have mi:[i]∈aX (af L):=aV.mpr (.inl (aL.mpr hi));have li:=(hL i hi).1;by_cases ht:∃t,cH i=some t∧[t]∈aX (af L)
 ·refine X2 ht λt e ht=>?_;exact wh ((key i li).1 t e).2 ht ((key i li).1 t e).1
 ·by_cases hw:∃t,cZ i=some t∧[t]∈aX (af L)
  ·refine X2 hw λt e' ht=>?_;refine U2 ((key i li).2 t e') λa b=>?_;exact use (j:=t) (lq.mpr ⟨ht,λs e=>(by rw[a]at e;exact ah e),λs e=>(by rw[b]at e;exact ah e)⟩)
  ·exact use (lq.mpr ⟨mi,λs e m=>ht ⟨s,e,m⟩,λs e m=>hw ⟨s,e,m⟩⟩)
end
section
variable{m n c at':Nat}{rest:List O}{v:V}{nums:List Int}{S:St}{cl:Cl}{i j:Int}{L:List Nat}
noncomputable abbrev Pm:E:=.sb (.c Jn) (.cl 64 [.v 4,.i 26])
theorem Hq(hn:0<nums.length)(hb:nums.length<1000):∀(xs:List V)(at':Nat)(x1:Option V)(R:List V→St→Prop),at'+xs.length<500→(∀J:List Nat,J.length=xs.length→(∀j∈J,j<26)→R ((J.map qt).map NV) ⟨c,m,l,dO (at'+xs.length) nums::rest,o⟩)→dv pA (λS=>fX S LL none) (gS pA (call (n+1)) []) (ev pA (call (n+1)) Pm) 1 xs [none,x1,none,none,some (.hd .ref 0)] ⟨c,m,l,dO at' nums::rest,o⟩ R:=by
 intro xs;induction xs with
 |nil=>exact λat' x1 R z q=>q [] rfl λz h=>az h
 |cons x xs ih_=>
  exact λat' x1 R ha q=>by rw[Qf]at ha q;refine jC (id:=0) (N:=26) rfl hn hb (lg ha) (ag rfl) λr hr=>?_;refine aR (QX (He hr) _) ?_;refine ih_ (at'+1) _ _ (tK ha) λJ hJ h26=>?_;have:=q (r::J) (by rw[Qf,hJ]) (λj hj=>(P4.mp hj).elim (λe=>e▸hr) (h26 j));rw[show at'+(xs.length+1)=at'+1+xs.length by omega]at this;exact this
theorem Mp{J:List Nat}(h:∀j∈J,j<26):aA (J.map qt):=λi hi=>by obtain⟨j,hj,rfl⟩:=Qd.mp hi;exact(by decide:∀j,j<26→aJ (qt j)) j (h j hj)
noncomputable abbrev kv(x:V)(k3:V)(x4 x5 x6 x7 x8 x9 x10 x11 x12:Option V)(nums:List Int):au:=(some x::some (.ls (nums.map V.int))::some (.hd .ref 0)::some k3::x4::x5::x6::x7::x8::x9::x10::x11::x12::z7)
noncomputable abbrev Pr:List Kk.S:=match G5.body.drop 4 with|.for_ _ _ b::_=>b|_=>[]
noncomputable abbrev GA:List Kk.S:=match Pr with|.it _ _ b::_=>b|_=>[]
noncomputable abbrev gT(cs:List Nat):V:=.tp (cs.map λc=>.int (c:Nat))
theorem jX{K:KF}{j:Nat}(q:ev pA cl e vs S λv S=>ao pA cl ss (vs.set j (some v)) S K):ao pA cl (.a j e::ss) vs S K:=q
theorem MA(ha:Gv cl e1 vs S x)(q:ev pA cl e2 vs S λy S=>aq pA (bV S x y) λv=>K v S):ev pA cl (.sb e1 e2) vs S K:=ha _ q
theorem xt{x:V}(ha:Gv cl e1 vs S x)(hb:Gv cl e2 vs S y)(q:cl f [x,y] S K):ev pA cl (.cl f [e1,e2]) vs S K:=ha _ (hb _ q)
theorem NT(q:ev pA cl e vs S λy S=>cl f [y] S K):ev pA cl (.cl f [e]) vs S K:=q
theorem rQ{j:Nat}{v:V}{L:List V}(g:Gv cl it vs S v)(hi:dY S v=some (L,none))(q:dv pA (λS=>fX S L none) (gS pA cl []) (ev pA cl elt) j L (fc vs caps) S λr S=>K (.ls r) S):ev pA cl (.comp caps j it [] elt) vs S K:=g _ (aR hi q)
theorem DS{cs:List Nat}{r:Nat}(h:r<cs.length):bV S (gT cs) (.int (r:Nat))=some (.int (cs[r]:Nat)):=by
 have e:du (cs.map λc=>V.int (c:Nat)) ((r:Nat):Int)=some (.int (cs[r]:Nat)):=by
  delta du
  rw[PL (Rg _)];show(cs.map λc=>V.int (c:Nat))[((r:Nat):Int).toNat]?=_;rw[toNat_natCast,QQ,Qg h];rfl
 exact e
theorem zJ{N:Nat}(ha:Gv cl e vs S (.int (N:Nat)))(h:N≤aD):Gv cl (.p .range [e]) vs S (.rng N):=λK' q=>ha _ (by
 show(iH (gd (decide (N≤aD)) (.rng N)) S).run pA K';rw[PL h];exact q)
theorem uA{K:KF}{ks:List V}{cs:List Nat}(hn:0<nums.length)(hb:nums.length<1000)(ha:at'+10<500)(hcs:0<cs.length)(h3:∀c∈cs,c≤3)(hk:ks.length<10)(hm:m<3)(q:∀L Cc x5,L.length∈cs→aA L→Cc≤at'+4→K .next (kv x (.hd .ref 1) (some (gT cs)) x5 none none none none none none none nums) ⟨c,m,l,[dO Cc nums,.list (ks++[.ls ((ck L).map NV)])],o⟩):ao pA (call (n+15)) GA (kv x (.hd .ref 1) (some (gT cs)) x5 none none none none none none none nums) ⟨c,m,l,[dO at' nums,.list ks],o⟩ K:=by
 have gl:Gv (call (n+15)) (.p .len [.v 4]) (kv x (.hd .ref 1) (some (gT cs)) x5 none none none none none none none nums) ⟨c,m,l,[dO at' nums,.list ks],o⟩ (.int (cs.length:Nat)):=by have:=vO (cl:=call (n+15)) (e:=.v 4) (vs:=kv x (.hd .ref 1) (some (gT cs)) x5 none none none none none none none nums) (S:=⟨c,m,l,[dO at' nums,.list ks],o⟩) (x:=gT cs) (l:=cs.map λc=>.int (c:Nat)) ae rfl;rw[PS]at this;exact this
 refine jX (MA (x:=gT cs) ae (xt (x:=.hd .ref 0) ae gl ?_));refine jC (n:=n+14) (id:=0) rfl hn hb (lg ha) hcs λr hr=>?_;refine aR (DS hr) ?_;have c3:=h3 _ (getElem_mem hr);refine Bc (L:=ks) (j:=1) ae rfl ?_;refine NT (rQ (L:=(List.range cs[r]).map λ(i:Nat)=>V.int (Int.ofNat i)) (zJ (N:=cs[r]) ae (PM c3 (ag rfl))) rfl ?_);refine Hq (n:=n+14) hn hb _ _ _ _ (by rw[PS,R2];omega) λJ hJ h26=>?_;rw[PS,R2]at hJ ⊢;have okJ:=Mp h26;refine Ab (n:=n+1) hm (λi hi=>(okJ i hi).1) (by rw[PS];omega) ?_;refine rq (L:=ks) rfl (Q8 hk (ag rfl)) ?_;exact q (J.map qt) _ _ (by rw[PS,hJ];exact getElem_mem hr) okJ (by omega)
variable{b:List Kk.S}{K:KF}
theorem JW(h:c6 cl e1 vs S true) (q:ev pA cl e2 vs S λv S=>aq pA (truthy S v) λr=>match r with
 |true=>ao pA cl a vs S λf vs S=>match f with|.next=>ao pA cl ss vs S K|.cont=>K .cont vs S|.ret v=>K (.ret v) vs S
 |false=>ao pA cl b vs S λf vs S=>match f with|.next=>ao pA cl ss vs S K|.cont=>K .cont vs S|.ret v=>K (.ret v) vs S):ao pA cl (.it (.and e1 e2) a b::ss) vs S K:=h _ q
theorem Mr{K:KP}(q:ev pA cl e1 vs S λv S=>aq pA (cq S v r) λb=>K (.bool b) S):ev pA cl (.k .eq e1 (.c r)) vs S K:=q
theorem wO:c6 cl (.k .eq (.p .len [.v 3]) (.i 0)) (kv x (.hd .ref 1) x4 x5 none none none none none none none nums) ⟨c,m,l,[dO at' nums,.list ks],o⟩ (decide (((ks.length:Nat):Int)=0)):=m5 (vO (x:=.hd .ref 1) (l:=ks) ae rfl) ae
theorem I7:cq S (.int i) (.int j)=some (decide (i=j)):=rfl
theorem wc{v:V}{ks:List V}:c6 cl (.k .eq (.p .len [.v 3]) (.i 0)) (kv x (.hd .ref 1) x4 x5 none none none none none none none nums) ⟨c,m,l,[dO at' nums,.list (v::ks)],o⟩ false:=by have:=wO (cl:=cl) (c:=c) (m:=m) (l:=l) (o:=o) (at':=at') (x:=x) (x4:=x4) (x5:=x5) (nums:=nums) (ks:=v::ks);rw[PQ (show ¬(((v::ks).length:Nat):Int)=0 by rw[Qf];omega)]at this;exact this
end
section
variable{m n c:Nat}{v:V}{nums:List Int}{S:St}{K0 K1 K2 L1:List Nat}
structure Ks (K0 K1 K2:List Nat):Prop where
 o0:okN K0
 n0:aA K0→Nf K0
 i0:K0.Pairwise (· < ·)
 l0:K0.length≤3
 k1:Kd K1
 ne:K1≠[]
 k2:Kd K2
noncomputable abbrev KL:E:=.and (.k .eq (.p .len [.v 3]) (.i 0)) (.k .eq (.cl 64 [.v 2,.i 12]) (.i 11))
noncomputable abbrev LR:List Kk.S:=[.expr (.me .append (.v 3) [.list false [.c qz]])]
noncomputable abbrev GJ(K0 K1 K2:List Nat):O:=.list [.ls (K0.map NV),.ls (K1.map NV),.ls (K2.map NV)]
theorem Ii{K:KF}{at':Nat}(hm:m<3)(hn:0<nums.length)(hb:nums.length<1000)(ha:at'<50)(q:∀L1 L2 at' x4 x5,Kd L1→L1≠[]→Kd L2→at'<100→K .next (kv x (.hd .ref 1) x4 x5 none none none none none none none nums) ⟨c,m,l,[dO at' nums,.list [v,.ls (L1.map NV),.ls (L2.map NV)]],o⟩):bW pA (λz=>true) (ao pA (call (n+15)) [.it KL LR GA]) 4 [gT [1,2,3],gT [1,2]] (kv x (.hd .ref 1) x4 x5 none none none none none none none nums) ⟨c,m,l,[dO at' nums,.list [v]],o⟩ K:=by
 refine oS (iX (wc (v:=v) (ks:=[]))) (λe=>ak e) λz=>?_;refine uA (ks:=[v]) (cs:=[1,2,3]) hn hb (bc (bb ha rfl)) (show 0<3 from ag rfl) (by decide) (show 1<10 from ag rfl) hm λL1 a1 x5 c1 o1 h1=>?_;refine oS (iX (wc (v:=v) (ks:=[.ls ((ck L1).map NV)]))) (λe=>ak e) λz=>?_;refine uA (ks:=[v,.ls ((ck L1).map NV)]) (cs:=[1,2]) hn hb (by omega) (show 0<2 from ag rfl) (by decide) (show 2<10 from ag rfl) hm λL2 a2 x5 c2 o2 h2=>?_;have len:∀{L cs:List Nat},L.length∈cs→(∀c∈cs,c≤3∧c≠0)→L.length≤3∧L≠[]:=λh hc=>⟨(hc _ h).1,λe=>(hc _ h).2 (by rw[e];rfl)⟩
 refine U2 (len c1 (by decide)) λp1 p2=>?_;exact q (ck L1) (ck L2) a2 _ _ (An o1 p1) (Mg o1 p2) (An o2 (len c2 (by decide)).1) (by omega)
variable{i:Int}{K:KF}
theorem H6(hm:m<3)(hn:0<nums.length)(hb:nums.length<1000)(q:∀K0 at' x5,okN K0→(aA K0→Nf K0)→K0.Pairwise (· < ·)→K0.length≤3→at'<50→K .next (kv x (.hd .ref 1) (some (gT [2,1,3,0])) x5 none none none none none none none nums) ⟨c,m,l,[dO at' nums,.list [.ls (K0.map NV)]],o⟩):ao pA (call (n+15)) [.it KL LR GA] (kv x (.hd .ref 1) (some (gT [2,1,3,0])) x5 none none none none none none none nums) ⟨c,m,l,[dO 0 nums,.list []],o⟩ K:=by
 refine JW (wO (ks:=[])) (Mr (xt (x:=.hd .ref 0) (y:=.int (12:Nat)) ae ae ?_));refine jC (n:=n+14) (id:=0) rfl hn hb (show 0<500 from ag rfl) (ag rfl) λr hr=>?_;refine wm (I7 (i:=((r:Nat):Int)) (j:=11)) ?_;generalize decide (((r:Nat):Int)=11)=d;cases d with
 |true=>refine p9 (i:=1) (L:=[]) (v:=.ls ([19].map NV)) ae rfl ae (ag rfl) ?_;exact q [19] 1 _ (.inr rfl) (λh=>absurd rfl (h 19 mh).2) (Qu _ _) (ag rfl) (ag rfl)
 |false=>refine uA (ks:=[]) (cs:=[2,1,3,0]) hn hb (show 1+10<500 from ag rfl) (show 0<4 from ag rfl) (by decide) (show 0<10 from ag rfl) hm λL0 a0 x5 c0 o0 h0=>?_;have kd:=An o0 ((by decide:∀c∈[2,1,3,0],c≤3) _ c0);exact q (ck L0) a0 x5 (.inl kd.ok) (λz=>kd.nf) kd.inc kd.len (by omega)
theorem Gi(hm:m<3)(hn:0<nums.length)(hb:nums.length<1000)(q:∀K0 K1 K2 at' x4 x5,Ks K0 K1 K2→at'<100→ao pA (call (n+15)) ss (kv x (.hd .ref 1) x4 x5 none none none none none none none nums) ⟨c,m,l,[dO at' nums,GJ K0 K1 K2],o⟩ K):ao pA (call (n+15)) (.for_ 4 (.tp [.tp [.i 2,.i 1,.i 3,.i 0],.tp [.i 1,.i 2,.i 3],.tp [.i 1,.i 2]]) [.it KL LR GA]::ss) (kv x (.hd .ref 1) none none none none none none none none none nums) ⟨c,m,l,[dO 0 nums,.list []],o⟩ K:=by refine dE (v:=.tp [gT [2,1,3,0],gT [1,2,3],gT [1,2]]) (L:=[gT [2,1,3,0],gT [1,2,3],gT [1,2]]) ae rfl ?_;refine H6 hm hn hb λK0 a0 x5 o0 n0 i0 l0 h0=>?_;exact Ii hm hn hb h0 λL1 L2 a2 x4 x5 k1 ne k2 h2=>q K0 L1 L2 a2 x4 x5 ⟨o0,n0,i0,l0,k1,ne,k2⟩ h2
variable{vs:au}{a:List Kk.S}{j:Int}{js:List Nat}
noncomputable abbrev uw(x:V)(x1 x2 x3:Option V):au:=(some x::x1::x2::x3::NM)
theorem IU{x:V}(ha:Gv cl e1 vs S x)(hb:Gv cl e2 vs S y)(hd:Gv cl e3 vs S z)(h:iY S x y z=some v):Gv cl (.slice e1 e2 e3) vs S v:=λK' q=>ha _ (hb _ (hd _ (aR h q)))
theorem uB{j:Nat}(h:j<js.length):js.getD j 0=js[j]:=by rw[Ru,Qg h];rfl
theorem I1{ns:List Int}(hl:ns.length≤63)(q:∀nums:List Int,0<nums.length→nums.length<1000→ao pA cl ss (uw (.ls (ns.map V.int)) (some (.ls (nums.map V.int))) none none) S K):ao pA cl (.a 1 (.comp [none,none] 1 (.slice (.v 0) (.c (.nul)) (.i 40)) [] (.bin .mod (.v 1) (.i 999983))) :: .it (.k .eq (.p .len [.v 1]) (.i 0)) [.a 1 (.list false [.i 0,.i 0,.i 2,.i 18,.i 1,.i 1,.i 2,.i 0,.i 24,.i 0,.i 0,.i 0])] []::ss) (uw (.ls (ns.map V.int)) none none none) S K:=by
 obtain⟨N,hN⟩:∃N,iY S (.ls (ns.map V.int)) .nul (.int 40)=some (.ls ((ns.take N).map V.int)):=⟨bM (ns.map V.int).length 40-0,by rw[List.map_take];rfl⟩
 refine jX (rQ (v:=.ls ((ns.take N).map V.int)) (L:=(ns.take N).map V.int) (IU ae ae ae hN) rfl ?_);refine dw (ok:=λz=>true) (g:=V.int) (f:=λi=>V.int (i%999983)) (L:=ns.take N) rfl (λi z=>eB (a:=.int i) (b:=.int 999983) ae ae (vC (show(0:Int)<999983 by decide))) ?_;have fin:∀r,r=(((ns.take N).map λi=>i%999983).map V.int)→ao pA cl (.it (.k .eq (.p .len [.v 1]) (.i 0)) [.a 1 (.list false [.i 0,.i 0,.i 2,.i 18,.i 1,.i 1,.i 2,.i 0,.i 24,.i 0,.i 0,.i 0])] []::ss) (uw (.ls (ns.map V.int)) (some (.ls r)) none none) S K:=λr e=>by
  subst e;generalize hM:(ns.take N).map (λi=>i%999983)=M;have lM:M.length≤63:=by rw[← hM,PS,RZ];omega
  have g:Gv cl (.p .len [.v 1]) (uw (.ls (ns.map V.int)) (some (.ls (M.map V.int))) none none) S (.int (M.length:Nat)):=by have:=vO (cl:=cl) (e:=.v 1) (vs:=uw (.ls (ns.map V.int)) (some (.ls (M.map V.int))) none none) (S:=S) (x:=.ls (M.map V.int)) (l:=M.map V.int) ae rfl;rw[PS]at this;exact this
  refine bz (m5 g ae) (λz=>?_) λe=>?_
  ·exact q [0,0,2,18,1,1,2,0,24,0,0,0] (ag rfl) (ag rfl)
  ·have:=QC e;exact q M (by omega) (by omega)
 exact fin _ (by rw[QR];rfl)
theorem EL{s t:Nat}(hs:s<29)(ht:t<28){K:KP}(hv2:(vs[7]?).join=some (.int (s:Nat)))(hv3:(vs[8]?).join=some (.int (1+t:Nat)))(q:K (.ls (((List.range 29).map λi=>(s+(1+t)*i)%29).map λj=>.int (j:Nat))) S):ev pA cl (.comp [none,none,some 7,some 8] 1 (.p .range [.i 29]) [] (.bin .mod (.bin .add (.v 2) (.bin .mul (.v 3) (.v 1))) (.i 29))) vs S K:=by refine rQ (v:=.rng 29) (L:=(List.range 29).map λ(i:Nat)=>V.int (Int.ofNat i)) (λK q=>q) rfl ?_;rw[show fc vs [none,none,some 7,some 8]=[none,none,(vs[7]?).join,(vs[8]?).join]from rfl,hv2,hv3];rw[QR]at q;refine dw (ok:=λz=>true) (g:=λ(i:Nat)=>V.int (Int.ofNat i)) (L:=List.range 29) rfl (λi hi K q=>?_) q;replace hi:=QM.mp hi;have g:Gv cl (.bin .mod (.bin .add (.v 2) (.bin .mul (.v 3) (.v 1))) (.i 29)) [none,some (.int (i:Nat)),some (.int (s:Nat)),some (.int (1+t:Nat))] S (.int (((s:Nat)+(1+t:Nat)*(i:Nat):Int)%(29:Nat))):=eB (eB ae (eB ae ae (GZ (ud (by omega)) (ud (bb hi rfl)))) rfl) ae (vC (by decide));refine g _ ?_;rw[← Int.natCast_mul,← Int.natCast_add,← Int.natCast_emod];exact q
theorem MK:((List.range 28).all λt=>(List.range 29).all λa=>(List.range 29).any λi=>beq ((1+t)*i%29) a)=true:=by decide +kernel
theorem B9{s t:Nat}(hs:s<29)(ht:t<28):∀j,j<26→j∈(List.range 29).map λi=>(s+(1+t)*i)%29:=λj hj=>by refine X2 (QA.mp (P5.mp (P5.mp MK t (QM.mpr ht)) ((j+29-s)%29) (QM.mpr (Nat.mod_lt _ (ag rfl))))) λi hi e=>?_;replace e:=PJ e;refine Qd.mpr ⟨i,hi,?_⟩;rw[Nat.add_mod,e,← Nat.add_mod,R4 (PM (Rm hs) (QV _ _)),Nat.add_mod_right,Nat.mod_eq_of_lt (Q8 hj (ag rfl))]
theorem AK(i:Nat):28-i<29:=Nat.lt_succ_of_le (sub_le 28 i)
theorem IZ{K:KP}(hl:js.length=29)(hv:(vs[9]?).join=some (.ls (js.map λj=>.int (j:Nat))))(q:K (.ls (((List.range 29).map λi=>js.getD (28-i) 0).map λj=>.int (j:Nat))) S):ev pA cl (.comp [none,none,some 9] 1 (.p .range [.i 29]) [] (.sb (.v 2) (.bin .sb (.i 28) (.v 1)))) vs S K:=by
 refine rQ (v:=.rng 29) (L:=(List.range 29).map λ(i:Nat)=>V.int (Int.ofNat i)) (λK q=>q) rfl ?_;rw[show fc vs [none,none,some 9]=[none,none,(vs[9]?).join]from rfl,hv];rw[QR]at q;refine dw (ok:=λz=>true) (g:=λ(i:Nat)=>V.int (Int.ofNat i)) (L:=List.range 29) rfl (λi hi K q=>?_) q;replace hi:=QM.mp hi;have lt:28-i<js.length:=hl▸AK i;have g:Gv cl (.sb (.v 2) (.bin .sb (.i 28) (.v 1))) [none,some (.int (i:Nat)),some (.ls (js.map λj=>.int (j:Nat)))] S (.int (js.getD (28-i) 0:Nat)):=dR (y:=.int (28-i:Nat)) ae (eB ae ae (show some (V.int (28-(i:Nat)))=_ by rw[Int.ofNat_sub (by omega)];rfl)) (by
  have e:du (js.map λj=>V.int (j:Nat)) ((28-i:Nat):Int)=some (.int (js.getD (28-i) 0:Nat)):=by
   delta du
   rw[PL (Rg _)];show(js.map λj=>V.int (j:Nat))[(((28-i:Nat):Nat):Int).toNat]?=_;rw[toNat_natCast,QQ,Qg lt,uB lt];rfl
  exact e)
 exact g _ q
theorem EU(hl:js.length=29)(hj:∀j∈js,j<29)(all:∀j,j<26→j∈js):(∀j∈(List.range 29).map λi=>js.getD (28-i) 0,j<29)∧∀j,j<26→j∈(List.range 29).map λi=>js.getD (28-i) 0:=by
 refine⟨λj h=>?_,λj h=>?_⟩
 ·refine X2 (Qd.mp h) λi hi e=>?_;replace hi:=QM.mp hi;rw[uB (hl▸AK i)]at e;exact e▸hj _ (getElem_mem _)
 ·obtain⟨i,hi,e⟩:=List.mem_iff_getElem.mp (all j h);refine Qd.mpr ⟨28-i,QM.mpr (AK i),?_⟩;rw[uB (hl▸AK _),← e];congr 1;exact Nat.sub_sub_self (Nat.le_of_lt_succ (Nat.lt_of_lt_of_eq hi hl))
variable{k id:Nat}{pre:List O}{cl:Cl}{b:List Kk.S}{D:List Nat}
theorem Fb{K:KP}{x:V}(ha:Gv cl e1 vs S x)(hb:Gv cl e2 vs S y)(hd:Gv cl e3 vs S z)(q:cl f [x,y,z] S K):ev pA cl (.cl f [e1,e2,e3]) vs S K:=ha _ (hb _ (hd _ q))
theorem MI (q:ev pA cl e vs S λv S=>aq pA (truthy S v) λr=>match r with
 |true=>ao pA cl a vs S λf vs S=>match f with|.next=>ao pA cl ss vs S K|.cont=>K .cont vs S|.ret v=>K (.ret v) vs S
 |false=>ao pA cl b vs S λf vs S=>match f with|.next=>ao pA cl ss vs S K|.cont=>K .cont vs S|.ret v=>K (.ret v) vs S):ao pA cl (.it e a b::ss) vs S K:=q
theorem M5{K:KP}(h:c6 cl e1 vs S false)(q:ev pA cl e2 vs S K):ev pA cl (.or e1 e2) vs S K:=h _ q
theorem Mi{K:KP}(q:ev pA cl e vs S λv S=>aq pA (truthy S v) λb=>K (.bool (!b)) S):ev pA cl (.not e) vs S K:=q
theorem Lo(h:id<pre.length):(Hb pre k w D us ps).set id t=Hb (pre.set id t) k w D us ps:=by
 delta Hb
 rw[RY,List.set_append_left _ _ h]
theorem MW{K:KP}(hk:k<2)(hw:Wn h k w iw [KV k w (af L0),KV k w (af L1),v])(hl:h[il]?=some (.list [.ls (K0.map NV),.ls (K1.map NV),x]))(k0:Kn K0 L0)(k1:Kn K1 L1)(g:Ks K0 K1 K2)(hc:60000≤c)(q:∀c',c-50000≤c'→K (.bool true) ⟨c',k+1,true,h,o⟩):∀j:Nat,j<4→call (n+30) 83 [.hd .ref iw,.hd .ref il,.int (j:Nat)] ⟨c,k+1,true,h,o⟩ K
 |0,_=>MC hk hw hl k0 k1 g.o0 g.k1.ok g.k1.nf g.ne hc q
 |1,_=>MM hk hw hl k0 k1 g.o0 g.n0 g.k1.ok g.ne hc q
 |2,_=>Je hk hw hl k0 g.o0 g.n0 hc q
 |3,_=>Fe hk hw hl k0 g.o0 hc q
noncomputable abbrev Nd:E:=.it (.k .eq (.v 11) (.i 0)) (.v 9) (.comp [none,none,some 9] 1 (.p .range [.i 29]) [] (.sb (.v 2) (.bin .sb (.i 28) (.v 1))))
noncomputable abbrev Pz:E:=.or (.k .eq (.sb (.v 10) (.v 11)) (.list false [])) (.not (.cl 83 [.v 12,.v 3,.sb (.tp [.i 0,.i 1,.i 2,.i 3,.i 0,.i 1]) (.v 6)]))
noncomputable abbrev Ny:List Kk.S:=[.a 12 (.cl 79 [.v 3,Nd,.k .eq (.v 11) (.i 1)]),.expr (.me .append (.v 10) [.cl 82 [.v 12,.v 3,.k .eq (.v 11) (.i 1)]]),.it Pz [.ret (.c (.bool false))] []]
noncomputable abbrev GL(x:V)(x4 x5:Option V)(how s t:Nat)(od:List Nat)(k:Nat)(x12:Option V)(nums:List Int):au:=kv x (.hd .ref 1) x4 x5 (some (.int (how:Nat))) (some (.int (s:Nat))) (some (.int (1+t:Nat))) (some (.ls (od.map λj=>.int (j:Nat)))) (some (.hd .ref 2)) (some (.int (k:Nat))) x12 nums
theorem Ng(hk:k<2):Gv cl (.k .eq (.v 11) (.i 1)) (GL x x4 x5 id N m js k x12 nums) S (.bool (DX k)):=by
 match k,hk with
 |0,_=>exact m5 (i:=0) (j:=1) ae ae
 |1,_=>exact m5 (i:=1) (j:=1) ae ae
theorem HI{T:List Pt}:cq S (.ls (T.map PN++[.str [46]])) (.ls [])=some false:=by have:=qj (S:=S) (a:=T.map dy++[[46]]) (b:=[]);rw[QY,QR]at this;refine Eq.trans this ?_;cases T<;>rfl
theorem Cy{T:List Pt}:cq S (.ls (T.map PN++[.str [46]])) (.ls (T.map PN++[.str [46]]))=some true:=by have:=qj (S:=S) (a:=T.map dy++[[46]]) (b:=T.map dy++[[46]]);rw[kE,QY,QR]at this;exact this
theorem Oo{c c1 c2 c3:Nat}(h:c-4000≤c1)(h2:c1-800≤c2)(h3:c2-50000≤c3):c-60000≤c3:=by have e:=PM (R1 (PM (R1 h 800) h2) 50000) h3;rw[sub_sub,sub_sub]at e;exact PM (Rl (ag rfl) c) e
theorem Ac(hk:k<2)(g:Ks K0 K1 K2)(hl:pre[1]?=some (GJ K0 K1 K2))(ht:pre[2]?=some (.list told))(h10:told.length=k)(hj:∀j∈js,j<29)(all:∀j,j<26→j∈js)(len:js.length=29)(ho:Gv (call 59) Nd (GL x x4 x5 how s t od k x12 nums) ⟨c,k,l,pre,o⟩ (.ls (js.map λj=>.int (j:Nat))))(hh:how<6)(hc:70000≤c)(q:∀D w c' o' ps L0 L1 L2 Z T y12,Kn K0 L0→Kn K1 L1→(K0=K1→L0=L1)→IN [af L0,af L1] Z→Z.Nodup→jb Z T→c-60000≤c'→K .next (GL x x4 x5 how s t od k y12 nums) ⟨c',k+1,true,Hb (pre.set 2 (.list (told++[.ls (T.map PN++[.str [46]])]))) k w D [KV k w (af L0),KV k w (af L1),KV k w (af L2)] ps,o'⟩):ao pA (call 59) Ny (GL x x4 x5 how s t od k x12 nums) ⟨c,k,l,pre,o⟩ K:=by
 have h2:2<pre.length:=(PO.mp ht).1;refine jX (Fb (x:=.hd .ref 1) ae ho (Ng hk) ?_);refine F8 (n:=40) (il:=1) hk hl g.o0 g.n0 g.i0 g.l0 g.k1.ok g.k1.nf g.k1.inc g.k1.len g.ne g.k2.ok g.k2.nf g.k2.inc g.k2.len hj all len (aW hc rfl) λD w c1 o1 ps L0 L1 L2 hD full k0 k1 k2 e01 hc1=>?_;have hw:=GK (pre:=pre) (k:=k) (w:=w) (ps:=ps) (us:=[KV k w (af L0),KV k w (af L1),KV k w (af L2)]) hD full;refine Bc (L:=told) (j:=2) ae (f6 ht) ?_;refine Fb (x:=.hd .ref (pre.length+4)) (y:=.hd .ref 1) (z:=.bool (DX k)) ae ae (Ng hk) ?_;refine FJ (n:=29) (il:=1) hk hw (f6 hl) k0 k1 k2 g.o0 g.n0 g.k1.ok g.k1.nf g.k2.ok (dH hc1 (aW hc rfl)) λZ T c2 hZ nZ hT hc2=>?_;refine rq (L:=told) (f6 ht) (Nat.lt_of_lt_of_le (h10▸hk) (ag rfl)) ?_;replace q:=λc'=>q D w c' o1 ps L0 L1 L2 Z T (some (.hd .ref (pre.length+4))) k0 k1 e01 hZ nZ hT;have hw2:=GK (pre:=pre.set 2 (.list (told++[.ls (T.map PN++[.str [46]])]))) (k:=k) (w:=w) (ps:=ps) (us:=[KV k w (af L0),KV k w (af L1),KV k w (af L2)]) hD full;rw[RY]at hw2;have e:(St.mk c2 (k+1) true (Hb pre k w D [KV k w (af L0),KV k w (af L1),KV k w (af L2)] ps) o1).set 2 (.list (told++[.ls (T.map PN++[.str [46]])]))=⟨c2,k+1,true,Hb (pre.set 2 (.list (told++[.ls (T.map PN++[.str [46]])]))) k w D [KV k w (af L0),KV k w (af L1),KV k w (af L2)] ps,o1⟩:=Qb (λh=>St.mk c2 (k+1) true h o1) (Lo h2);rw[e];have a2:(Hb (pre.set 2 (.list (told++[.ls (T.map PN++[.str [46]])]))) k w D [KV k w (af L0),KV k w (af L1),KV k w (af L2)] ps)[2]?=some (.list (told++[.ls (T.map PN++[.str [46]])])):=f6 (QO h2);have a1:(Hb (pre.set 2 (.list (told++[.ls (T.map PN++[.str [46]])]))) k w D [KV k w (af L0),KV k w (af L1),KV k w (af L2)] ps)[1]?=some (GJ K0 K1 K2):=f6 (by rw[Ry (by decide)];exact hl);have sq:du (told++[.ls (T.map PN++[.str [46]])]) ((k:Nat):Int)=some (.ls (T.map PN++[.str [46]])):=by
  delta du
  rw[PL (Rg _)];show(told++[.ls (T.map PN++[.str [46]])])[((k:Nat):Int).toNat]?=_;rw[toNat_natCast,Q1 (le_of_eq h10),h10,sub_self];rfl
 refine MI (M5 (aM (x:=.ls (T.map PN++[.str [46]])) (y:=.ls []) (dR (x:=.hd .ref 2) (y:=.int (k:Nat)) ae ae ?_) ae HI) (Mi (Fb (x:=.hd .ref (pre.length+4)) (y:=.hd .ref 1) ae ae (dR (x:=gT [0,1,2,3,0,1]) (y:=.int (how:Nat)) ae ae (DS hh)) ?_)))
 ·delta bV bu bT
  simp only[V.asTup,a2,V.asInt,Option.bind];exact sq
 have lt:([0,1,2,3,0,1]:List Nat)[how]'hh<4:=(by decide:∀c∈([0,1,2,3,0,1]:List Nat),c<4) _ (getElem_mem hh);refine MW (n:=29) (il:=1) hk hw2 a1 k0 k1 g (dH hc2 (dH hc1 (aW hc rfl))) (λc' hc'=>?_) _ lt;exact q c' (Oo hc1 hc2 hc')
end
section
variable{k c id:Nat}{w:Bool}{h pre:List O}{v:V}{S:St}{vs:au}{i j:Int}{K:KF}{D:List Nat}
theorem Dq{j:Nat}(q:ao pA cl ss (vs.set j (some (.hd .ref S.h.length))) (S.new (.list [])) K):ao pA cl (.a j (.list true [])::ss) vs S K:=q
theorem KU{j:Nat}(h:Gv cl e vs S v)(q:ao pA cl ss (vs.set j (some (.hd .ref S.h.length))) (S.new (.list [.int 0,v])) K):ao pA cl (.a j (.list true [.i 0,e])::ss) vs S K:=h _ q
theorem M6{K:KP}(ha:Gv cl e1 vs S x)(q:ev pA cl e2 vs S λw S=>aq pA (jg op S x w) λr=>K r S):ev pA cl (.bin op e1 e2) vs S K:=ha _ q
theorem zo(hv:(vs[10]?).join=some (.hd .ref 2))(hi:S.h[2]?=some (.list L))(hz:du L z=some v):Gv cl (.sb (.v 10) (.c (.int z))) vs S v:=fU (λK' q=>aR hv q) hi hz
theorem GG(h:id<pre.length):id<(Hb pre k w D us ps).length:=by
 delta Hb
 rw[PX];exact Nat.lt_of_lt_of_le h (QH ..)
theorem E8{how s t:Nat}(hs:s<29)(ht:t<28)(hh:how<6)(g:Ks K0 K1 K2)(hc:130000≤c)(q:∀vs S,K (.ret (.bool true)) vs S):ao pA (call 59) [.for_ 11 (.p .range [.i 2]) Ny,.ret (.k .eq (.sb (.v 10) (.i 0)) (.sb (.v 10) (.i 1)))] (kv x (.hd .ref 1) x4 x5 (some (.int (how:Nat))) (some (.int (s:Nat))) (some (.int (1+t:Nat))) (some (.ls (((List.range 29).map λi=>(s+(1+t)*i)%29).map λj=>.int (j:Nat)))) (some (.hd .ref 2)) none none nums) ⟨c,0,l,[dO at' nums,GJ K0 K1 K2,.list []],o⟩ K:=by
 have all:=B9 hs ht;have lt:∀j∈(List.range 29).map λi=>(s+(1+t)*i)%29,j<29:=λj hj=>by refine X2 (Qd.mp hj) λi z e=>?_;exact e▸Nat.mod_lt _ (ag rfl)
 have len:((List.range 29).map λi=>(s+(1+t)*i)%29).length=29:=by rw[PS,R2]
 generalize (List.range 29).map (λi=>(s+(1+t)*i)%29)=js at all lt len ⊢;refine dE (v:=.rng 2) (L:=[.int (0:Nat),.int (1:Nat)]) (zJ (N:=2) ae (ag rfl)) rfl ?_;refine Ac (k:=0) (told:=[]) (ag rfl) g rfl rfl rfl lt all len (ey (r:=true) (m5 (i:=0) (j:=0) ae ae) (λz z q=>q) λe=>eg e) hh (PM (ag rfl) hc) λD w c1 o1 ps L0 L1 L2 Z T y12 k0 k1 e01 hZ nZ hT hc1=>?_;refine U2 (EU len lt all) λlt' all'=>?_;have len':((List.range 29).map λi=>js.getD (28-i) 0).length=29:=by rw[PS,R2]
 refine Ac (k:=1) (told:=[.ls (T.map PN++[.str [46]])]) (ag rfl) g rfl rfl rfl lt' all' len' (ey (r:=false) (m5 (i:=1) (j:=0) ae ae) (λe=>ak e) λz K q=>IZ len rfl q) hh (PM (R1 hc 60000) hc1) λD' w' c2 o2 ps' M0 M1 M2 Z' T' oa j0 j1 e01' hZ' nZ' hT' hc2=>?_;have same:=DF k0 k1 j0 j1 g.k1.ok e01 e01' hZ hZ' nZ nZ' hT hT';rw[← same];exact kR (ss:=[]) (aM (zo rfl (f6 (QO (GG (show 2<3 from ag rfl)))) rfl) (zo rfl (f6 (QO (GG (show 2<3 from ag rfl)))) rfl) Cy) (q _ _)
end
section
variable{c:Nat}
theorem J7{ns:List Int}(hl:ns.length≤63)(hc:130000≤c)(q:∀S,K (.bool true) S):fv pA prog 60 84 [.ls (ns.map V.int)] ⟨c,0,false,[],[]⟩ K:=by rw[← gx];refine ji (n:=59) (vs:=uw (.ls (ns.map V.int)) none none none) rfl rfl rfl ?_;refine I1 hl λnums hn hb=>?_;refine KU (v:=.ls (nums.map V.int)) ae ?_;refine Dq ?_;refine Gi (n:=44) (m:=0) (ag rfl) hn hb λK0 K1 K2 at' x4 x5 g ha=>?_;refine jX (xt (x:=.hd .ref 0) (y:=.int (6:Nat)) ae ae ?_);refine jC (n:=58) (id:=0) rfl hn hb (bb ha rfl) (ag rfl) λhow hh=>?_;refine jX (xt (x:=.hd .ref 0) (y:=.int (29:Nat)) ae ae ?_);refine jC (n:=58) (id:=0) rfl hn hb (bc (bb ha rfl)) (ag rfl) λs hs=>?_;refine jX (M6 (x:=.int 1) ae (xt (x:=.hd .ref 0) (y:=.int (28:Nat)) ae ae ?_));refine jC (n:=58) (id:=0) rfl hn hb (bc (bc (bb ha rfl))) (ag rfl) λt ht=>?_;refine vE (v:=.int (1+t:Nat)) rfl ?_;refine jX (EL hs ht rfl rfl ?_);refine Dq ?_;exact E8 hs ht hh g hc λvs S=>q S
end
end Kk
namespace Kk
open PySem PySem.W PyProof.Rows
noncomputable abbrev p0:Program:=PySem.Challenge.pw_xm0524_01
noncomputable def yp:=PySem.W.Fast.tw14364793385576792824
noncomputable def pQ:Pos:={line:=0,col:=0,endLine:=0,endCol:=0}
noncomputable def BM:Env:={scope:=p0.main.scope,locals:=mainNs,globals:=mainNs,cells:=[],code:=.ref 13,frame:=some 14}
noncomputable def aU:List Stmt:=behindTheImports p0
noncomputable def cE:Code:=.body aU BM
noncomputable def qe(w:World)(os:OsState):Shared:=⟨boot_heap w.params,Array.mk [],boot_drawn,boot_toks,os⟩
noncomputable def pf:BT→Nat→List Obj→BT
 |T,_,[]=>T
 |T,n,o::r=>pf (T.ins n o) (n+1) r
noncomputable def fy(w:World)(os:OsState):SharedT:=match PySem.W.Fast.tw15667345088766844465 yp p0 w 11 (some (.ref 6)) 12 (qe w os) (topStub p0)with
 |some (s,_)=>⟨pf .nil 0 s.heap.objs.toList,s.heap.objs.size,s.heap.life,s.gens,s.drawn,s.toks,s.os⟩
 |none=>⟨.nil,0,{},#[],boot_drawn,0,os⟩
noncomputable abbrev Pb:=Option (Flow×SharedT×Code×Pos)
noncomputable def lB(w:World)(n:Nat)(S:SharedT)(pos:Pos)(l:List Stmt):Pb:=PySem.W.Fast.tw10110043849684766642 yp p0 w 11 (some (.ref 6)) 1 n S (piecesOf l BM cE pos [topFrame pQ])
noncomputable abbrev fC:String:="special-get-raises"
noncomputable def sV(s:String)(t:Tok):Value:=.str (Str.ofString s) t
noncomputable def eN(P:Params)(s:String)(t:Tok)(v:Value):DictEntry:=⟨D.hash P (.str (Str.ofString s)),.str (Str.ofString s) t,v⟩
noncomputable def oT(l:List Value):Obj:=⟨.type "tuple",none,.seq ⟨l⟩ 0,#[]⟩
noncomputable def oF(l:List Value):Obj:=⟨.none,none,.fields ⟨l⟩,#[]⟩
noncomputable def fD(l:List Stmt)(nm q:String)(p:List Nat)(g:Addr)(df md co:Value):FuncData:=match dF p l with
 |some x=>⟨Str.ofString nm,Str.ofString q,x.1,.stmts x.2.1,x.2.2,g,[],df,.none,.none,md,none,co,.none,0⟩
 |none=>default
noncomputable def NJ:Nat→List String→List Value
 |_,[]=>[]
 |t,s::r=>sV s t::NJ (t+1) r
noncomputable def fB(l:List Stmt)(b t line argc:Nat)(nm q:String)(ns:Option (List String))(p:List Nat)(df md:Value)(rest:List Obj):List Obj:=
 let x:=match ns with|none=>([],Value.none,Value.none,b+2,t+3)|some n=>([oT (NJ (t+3) n),oT []],.ref (b+2),.ref (b+3),b+4,t+3+n.length)
 oT []::oF []::(x.1++[⟨.none,none,.func (fD l nm q p 0 .none .none .none),#[]⟩,⟨.type "code",none,.fields ⟨[sV nm t,sV q (t+1),sV "/claim/cut.py" (t+2),.int line 0,.int argc 0,.int 0 0,.int 0 0,.int 3 0,.ref b,.bool true,.int 181 0,.ref (b+1),.none,x.2.1,x.2.2.1,.ref x.2.2.2.1,.int x.2.2.2.2 0,.int line 0,sV "/claim/cut.py" (x.2.2.2.2+1)]⟩,#[]⟩,⟨.type "function",none,.func (fD l nm q p 3 df md (.ref (x.2.2.2.1+1))),#[]⟩]++rest)
noncomputable def tx(md:Value)(ep:Nat)(es:List DictEntry)(o:Obj):Obj:=match o.data with
 |.dict old _=>{o with data:=.dict ⟨(match old.toList with|e::r=>⟨e.hash,e.key,md⟩::r|[]=>[])++es⟩ ep}
 |_=>o
noncomputable def tL(l:List (Nat×Addr))(o:Obj):Obj:=match o.data with
 |.fields old=>{o with data:=.fields ⟨old.toList++l.flatMap λp=>[.int p.1 0,.int 0 0,.ref p.2]⟩}
 |_=>o
noncomputable abbrev oP:Obj:=⟨(.type "builtin_function_or_method"),none,(.fields ⟨[(.builtin "type.__prepare__"),(.type "type")]⟩),#[]⟩
noncomputable def Pa(P:Params)(l:List Stmt):List Obj:=fB l 15 187 1 1 "_wall" "_wall" (some ["k"]) [0] .none (sV "__main__" 164) (oT [(.type "Exception")]::oP::⟨(.type "dict"),none,(.dict ⟨[eN P "__module__" 203 (sV "kindkeep.diags" 194),eN P "__qualname__" 205 (sV "KeepError" 204),eN P "__firstlineno__" 207 (.int 5 206),eN P "__init__" 216 (.ref 36),eN P "__static_attributes__" 219 (.ref 37)]⟩ 5),#[]⟩::oT []::oF [(.int 7 0),(.int 4 0),(.ref 35)]::⟨(.type "code"),none,(.fields ⟨[(sV "KeepError" 198),(sV "KeepError" 199),(sV "/claim/cut.py" 200),(.int 5 0),(.int 0 0),(.int 0 0),(.int 0 0),(.int 0 0),(.ref 25),(.bool false),(.int 181 0),(.ref 26),.none,.none,.none,.none,(.int 201 0),(.int 5 0),(sV "/claim/cut.py" 202)]⟩),#[]⟩::⟨(.type "frame"),none,.plain,⟨[some (.ref 27),some (.ref 3),some (.ref 24),none,some (sV "kindkeep.diags" 194),none,some (.ref 0)]⟩⟩::oT [(sV "" 208)]::fB l 30 209 7 2 "__init__" "KeepError.__init__" (some ["self","text"]) [2,0] (.ref 29) (sV "kindkeep.diags" 194) (oT [(sV "number" 217),(sV "text" 218)]::⟨(.type "dict"),none,(.dict ⟨[eN P "__module__" 203 (sV "kindkeep.diags" 194),eN P "__firstlineno__" 207 (.int 5 206),eN P "__init__" 216 (.ref 36),eN P "__static_attributes__" 219 (.ref 37),eN P "__weakref__" 221 (.ref 40),eN P "__doc__" 222 .none]⟩ 3),#[]⟩::⟨(.type "type"),none,(.cls {name:="KeepError",bases:=[(.type "Exception")],mro:=[(.ref 39),(.type "Exception"),(.type "BaseException"),(.type "object")],ns:=38,qualname:="KeepError",hasDict:=true,subclasses:=[(.ref 60),(.ref 80)]}),⟨[some (.ref 22),none,some (sV "KeepError" 196),some (sV "KeepError" 204),some (.builtin "Exception.__new__"),some (.bool true)]⟩⟩::⟨(.type "getset_descriptor"),none,(.fields ⟨[(sV "__weakref__" 220),(.ref 39),(.builtin "ExceptionGroup.__weakref__"),.none]⟩),#[]⟩::⟨(.type "super"),none,(.fields ⟨[(.ref 39),(.ref 39),(.ref 39)]⟩),#[]⟩::⟨(.type "builtin_function_or_method"),none,(.fields ⟨[(.builtin "object.__init_subclass__"),(.ref 39)]⟩),#[]⟩::oT [(.ref 39)]::oP::⟨(.type "dict"),none,(.dict ⟨[eN P "__module__" 234 (sV "kindkeep.diags" 194),eN P "__qualname__" 236 (sV "TooDeep" 235),eN P "__firstlineno__" 238 (.int 10 237),eN P "__init__" 249 (.ref 57),eN P "__static_attributes__" 252 (.ref 58)]⟩ 5),#[]⟩::oT []::oF [(.int 12 0),(.int 4 0),(.ref 56)]::⟨(.type "code"),none,(.fields ⟨[(sV "TooDeep" 229),(sV "TooDeep" 230),(sV "/claim/cut.py" 231),(.int 10 0),(.int 0 0),(.int 0 0),(.int 0 0),(.int 0 0),(.ref 46),(.bool false),(.int 181 0),(.ref 47),.none,.none,.none,.none,(.int 232 0),(.int 10 0),(sV "/claim/cut.py" 233)]⟩),#[]⟩::⟨(.type "frame"),none,.plain,⟨[some (.ref 48),some (.ref 3),some (.ref 45),none,some (sV "kindkeep.diags" 194),none,some (.ref 0)]⟩⟩::oT [(.int 2589 239),(sV "" 240)]::fB l 51 241 12 3 "__init__" "TooDeep.__init__" (some ["self","number","text"]) [3,0] (.ref 50) (sV "kindkeep.diags" 194) (oT [(sV "number" 250),(sV "text" 251)]::⟨(.type "dict"),none,(.dict ⟨[eN P "__module__" 234 (sV "kindkeep.diags" 194),eN P "__firstlineno__" 238 (.int 10 237),eN P "__init__" 249 (.ref 57),eN P "__static_attributes__" 252 (.ref 58),eN P "__doc__" 253 .none]⟩ 2),#[]⟩::⟨(.type "type"),none,(.cls {name:="TooDeep",bases:=[(.ref 39)],mro:=[(.ref 60),(.ref 39),(.type "Exception"),(.type "BaseException"),(.type "object")],ns:=59,qualname:="TooDeep",hasDict:=true,subclasses:=[]}),⟨[some (.ref 43),none,some (sV "TooDeep" 227),some (sV "TooDeep" 235),some (.builtin "Exception.__new__"),some (.bool true)]⟩⟩::⟨(.type "super"),none,(.fields ⟨[(.ref 60),(.ref 60),(.ref 60)]⟩),#[]⟩::⟨(.type "builtin_function_or_method"),none,(.fields ⟨[(.builtin "object.__init_subclass__"),(.ref 60)]⟩),#[]⟩::oT [(.ref 39)]::oP::⟨(.type "dict"),none,(.dict ⟨[eN P "__module__" 263 (sV "kindkeep.diags" 194),eN P "__qualname__" 265 (sV "HostFault" 264),eN P "__firstlineno__" 267 (.int 15 266),eN P "__init__" 276 (.ref 77),eN P "__static_attributes__" 279 (.ref 78)]⟩ 5),#[]⟩::oT []::oF [(.int 17 0),(.int 4 0),(.ref 76)]::⟨(.type "code"),none,(.fields ⟨[(sV "HostFault" 258),(sV "HostFault" 259),(sV "/claim/cut.py" 260),(.int 15 0),(.int 0 0),(.int 0 0),(.int 0 0),(.int 0 0),(.ref 66),(.bool false),(.int 181 0),(.ref 67),.none,.none,.none,.none,(.int 261 0),(.int 15 0),(sV "/claim/cut.py" 262)]⟩),#[]⟩::⟨(.type "frame"),none,.plain,⟨[some (.ref 68),some (.ref 3),some (.ref 65),none,some (sV "kindkeep.diags" 194),none,some (.ref 0)]⟩⟩::oT [(sV "" 268)]::fB l 71 269 17 2 "__init__" "HostFault.__init__" (some ["self","text"]) [4,0] (.ref 70) (sV "kindkeep.diags" 194) (oT [(sV "number" 277),(sV "text" 278)]::⟨(.type "dict"),none,(.dict ⟨[eN P "__module__" 263 (sV "kindkeep.diags" 194),eN P "__firstlineno__" 267 (.int 15 266),eN P "__init__" 276 (.ref 77),eN P "__static_attributes__" 279 (.ref 78),eN P "__doc__" 280 .none]⟩ 2),#[]⟩::⟨(.type "type"),none,(.cls {name:="HostFault",bases:=[(.ref 39)],mro:=[(.ref 80),(.ref 39),(.type "Exception"),(.type "BaseException"),(.type "object")],ns:=79,qualname:="HostFault",hasDict:=true,subclasses:=[]}),⟨[some (.ref 63),none,some (sV "HostFault" 256),some (sV "HostFault" 264),some (.builtin "Exception.__new__"),some (.bool true)]⟩⟩::⟨(.type "super"),none,(.fields ⟨[(.ref 80),(.ref 80),(.ref 80)]⟩),#[]⟩::⟨(.type "builtin_function_or_method"),none,(.fields ⟨[(.builtin "object.__init_subclass__"),(.ref 80)]⟩),#[]⟩::oT [(.int 1 285),(sV "any" 375)]::oT [(.int 1 285),(sV "unknown" 376)]::oT [(.int 1 285),(sV "never" 377)]::oT [(.int 1 285),(sV "void" 378)]::oT [(.int 1 285),(sV "undefined" 379)]::oT [(.int 1 285),(sV "null" 380)]::oT [(.int 1 285),(sV "string" 381)]::oT [(.int 1 285),(sV "number" 382)]::oT [(.int 2 287),(.int 0 383),(.int 0 384)]::oT [(.int 2 287),(.int 1 385),(.int 0 386)]::oT [(.int 1 285),(sV "object" 387)]::oT []::oT []::oT []::oT []::oT []::oT [(.int 8 299),(.ref 94),(.ref 95),(.ref 96),(.ref 97),(.ref 98),(.int 0 388)]::oT [(.int 8 389),(.int 9 390)]::oT [(.int 6 295),(.ref 100)]::oT [(.int 1 285),(sV "error" 391)]::oT [(.int 2 287),(.int 0 392),(.int 1 393)]::oT [(.int 2 287),(.int 1 394),(.int 1 395)]::oT [(.ref 83),(.ref 84),(.ref 85),(.ref 86),(.ref 87),(.ref 88),(.ref 89),(.ref 90),(.ref 91),(.ref 92),(.ref 93),(.ref 99),(.ref 101),(.ref 102),(.ref 103),(.ref 104)]::oT [(.int 2 287),(.int 3 289),(.int 4 291),(.int 5 293)]::oT [(.int 2 287),(.int 3 289),(.int 4 291),(.int 5 293),(.int 8 299)]::oT [(.int 8 299),(.int 9 301),(.int 11 305),(.int 12 307),(.int 13 309)]::⟨(.type "dict"),none,(.dict ⟨[⟨3,(.int 3 329),(.int 6 369)⟩,⟨4,(.int 4 331),(.int 5 367)⟩,⟨5,(.int 5 333),(.int 4 365)⟩,⟨6,(.int 6 335),(.int 1 359)⟩,⟨7,(.int 7 337),(.int 2 361)⟩,⟨10,(.int 10 343),(.int 7 371)⟩]⟩ 6),#[]⟩::[]))))
noncomputable def Oh(P:Params):Obj→Obj:=tx (sV "kindkeep.types" 283) 63 [eN P "_wall" 193 (.ref 21),eN P "KeepError" 226 (.ref 39),eN P "TooDeep" 255 (.ref 60),eN P "HostFault" 282 (.ref 80),eN P "Y_KEY" 286 (.int 1 285),eN P "Y_BOOL" 288 (.int 2 287),eN P "Y_STR" 290 (.int 3 289),eN P "Y_NUM" 292 (.int 4 291),eN P "Y_ENUM" 294 (.int 5 293),eN P "Y_UNION" 296 (.int 6 295),eN P "Y_INTER" 298 (.int 7 297),eN P "Y_OBJ" 300 (.int 8 299),eN P "Y_REF" 302 (.int 9 301),eN P "Y_PARAM" 304 (.int 10 303),eN P "Y_ARRAY" 306 (.int 11 305),eN P "Y_TUPLE" 308 (.int 12 307),eN P "Y_SIG" 310 (.int 13 309),eN P "Y_KEYOF" 312 (.int 14 311),eN P "Y_INDEX" 314 (.int 15 313),eN P "Y_COND" 316 (.int 16 315),eN P "Y_MAPPED" 318 (.int 17 317),eN P "Y_TPL" 320 (.int 18 319),eN P "Y_ALIAS" 322 (.int 19 321),eN P "ANY" 324 (.int 0 323),eN P "UNKNOWN" 326 (.int 1 325),eN P "NEVER" 328 (.int 2 327),eN P "VOID" 330 (.int 3 329),eN P "UNDEF" 332 (.int 4 331),eN P "NULLT" 334 (.int 5 333),eN P "STRING" 336 (.int 6 335),eN P "NUMBER" 338 (.int 7 337),eN P "FALSE_T" 340 (.int 8 339),eN P "TRUE_T" 342 (.int 9 341),eN P "OBJECTT" 344 (.int 10 343),eN P "EMPTY" 346 (.int 11 345),eN P "ERR" 348 (.int 13 347),eN P "FRESH_F" 350 (.int 14 349),eN P "FRESH_T" 352 (.int 15 351),eN P "P_OPT" 354 (.int 1 353),eN P "D_OBJALIAS" 356 (.int 3 355),eN P "FAM_OTHER" 358 (.int 0 357),eN P "FAM_STR" 360 (.int 1 359),eN P "FAM_NUM" 362 (.int 2 361),eN P "FAM_BOOL" 364 (.int 3 363),eN P "FAM_NULL" 366 (.int 4 365),eN P "FAM_UNDEF" 368 (.int 5 367),eN P "FAM_VOID" 370 (.int 6 369),eN P "FAM_OBJ" 372 (.int 7 371),eN P "MAX_UNION" 374 (.int 400 373),eN P "FIRST_ROWS" 396 (.ref 105),eN P "LITERAL_ROWS" 397 (.ref 106),eN P "MARKED_ROWS" 398 (.ref 107),eN P "OBJECT_ROWS" 399 (.ref 108),eN P "KEY_FAMILIES" 406 (.ref 109)]
noncomputable def OT:Obj→Obj:=tL [(1,20),(5,27),(10,48),(15,68)]
noncomputable def ki(P:Params)(S:SharedT):SharedT:=⟨pf (((S.tree.set 2 (λz=>⟨.none,none,(.dict ⟨[eN P "type.__subclasses__.Exception.0" 223 (.int 39 0),eN P "type.__subclasses__.Exception.n" 224 (.int 1 0)]⟩ 2),#[]⟩)).set 3 (Oh P)).set 12 OT) 15 (Pa P aU),110,S.life,S.gens,S.drawn,407,S.os⟩
noncomputable def GH:Pos:=⟨70,0,70,12⟩
noncomputable def NW(P:Params)(l:List Stmt):List Obj:=oT []::oP::⟨(.type "dict"),none,(.dict ⟨[eN P "__module__" 414 (sV "kindkeep.types" 283),eN P "__qualname__" 416 (sV "TypeTable" 415),eN P "__firstlineno__" 418 (.int 71 417),eN P "__init__" 426 (.ref 123),eN P "row" 434 (.ref 130),eN P "put" 443 (.ref 137),eN P "__static_attributes__" 454 (.ref 138)]⟩ 7),#[]⟩::oT []::oF [(.int 73 0),(.int 4 0),(.ref 122),(.int 87 0),(.int 4 0),(.ref 129),(.int 90 0),(.int 4 0),(.ref 136)]::⟨(.type "code"),none,(.fields ⟨[(sV "TypeTable" 409),(sV "TypeTable" 410),(sV "/claim/cut.py" 411),(.int 71 0),(.int 0 0),(.int 0 0),(.int 0 0),(.int 0 0),(.ref 113),(.bool false),(.int 181 0),(.ref 114),.none,.none,.none,.none,(.int 412 0),(.int 71 0),(sV "/claim/cut.py" 413)]⟩),#[]⟩::⟨(.type "frame"),none,.plain,⟨[some (.ref 115),some (.ref 3),some (.ref 112),none,some (sV "kindkeep.types" 283),none,some (.ref 0)]⟩⟩::fB l 117 419 73 1 "__init__" "TypeTable.__init__" (some ["self","row"]) [56,0] .none (sV "kindkeep.types" 283) (fB l 124 427 87 2 "row" "TypeTable.row" (some ["self","t"]) [56,1] .none (sV "kindkeep.types" 283) (fB l 131 435 90 2 "put" "TypeTable.put" (some ["self","row","t"]) [56,2] .none (sV "kindkeep.types" 283) (oT [(sV "bounds" 444),(sV "decls" 445),(sV "defaults" 446),(sV "index" 447),(sV "names" 448),(sV "origins" 449),(sV "putting" 450),(sV "renamed" 451),(sV "rows" 452),(sV "shaping" 453)]::⟨(.type "dict"),none,(.dict ⟨[eN P "__module__" 414 (sV "kindkeep.types" 283),eN P "__firstlineno__" 418 (.int 71 417),eN P "__init__" 426 (.ref 123),eN P "row" 434 (.ref 130),eN P "put" 443 (.ref 137),eN P "__static_attributes__" 454 (.ref 138),eN P "__dict__" 456 (.ref 141),eN P "__weakref__" 458 (.ref 142),eN P "__doc__" 459 .none]⟩ 4),#[]⟩::⟨(.type "type"),none,(.cls {name:="TypeTable",bases:=[(.type "object")],mro:=[(.ref 140),(.type "object")],ns:=139,qualname:="TypeTable",hasDict:=true,subclasses:=[]}),⟨[none,none,some (sV "TypeTable" 407),some (sV "TypeTable" 415),some (.builtin "object.__new__"),some (.bool true)]⟩⟩::⟨(.type "getset_descriptor"),none,(.fields ⟨[(sV "__dict__" 455),(.ref 140),(.builtin "function.__dict__"),(.builtin "function.__dict__#set")]⟩),#[]⟩::⟨(.type "getset_descriptor"),none,(.fields ⟨[(sV "__weakref__" 457),(.ref 140),(.builtin "ExceptionGroup.__weakref__"),.none]⟩),#[]⟩::⟨(.type "super"),none,(.fields ⟨[(.ref 140),(.ref 140),(.ref 140)]⟩),#[]⟩::⟨(.type "builtin_function_or_method"),none,(.fields ⟨[(.builtin "object.__init_subclass__"),(.ref 140)]⟩),#[]⟩::fB l 145 462 97 2 "kind_of" "kind_of" (some ["tab","t"]) [57] .none (sV "kindkeep.types" 283) (oT [(.int 0 470)]::fB l 153 471 99 3 "str_type" "str_type" (some ["tab","text","fresh"]) [58] (.ref 152) (sV "kindkeep.types" 283) (oT [(.int 0 480)]::fB l 161 481 101 3 "num_type" "num_type" (some ["tab","n","fresh"]) [59] (.ref 160) (sV "kindkeep.types" 283) (fB l 168 490 103 1 "sorted_props" "sorted_props" none [60] .none (sV "kindkeep.types" 283) (oT []::oT []::oT []::oT []::oT [(.ref 173),(.ref 174),(.ref 175),(.ref 176),(.int 0 496)]::fB l 178 497 108 7 "obj_type" "obj_type" (some ["tab","props","calls","ctors","sindex","nindex","fresh"]) [61] (.ref 177) (sV "kindkeep.types" 283) (fB l 185 510 110 2 "func_type" "func_type" (some ["tab","sig"]) [62] .none (sV "kindkeep.types" 283) (fB l 192 518 112 2 "parts_of" "parts_of" (some ["tab","t","row"]) [63] .none (sV "kindkeep.types" 283) (fB l 199 527 119 1 "whole_of_row" "whole_of_row" (some ["row","kind"]) [64] .none (sV "kindkeep.types" 283) (fB l 206 535 128 2 "regular_twin" "regular_twin" (some ["tab","t","row"]) [65] .none (sV "kindkeep.types" 283) (fB l 213 544 133 1 "join_bools" "join_bools" (some ["got"]) [66] .none (sV "kindkeep.types" 283) (fB l 220 551 137 3 "stays_beside" "stays_beside" (some ["tab","got","t"]) [67] .none (sV "kindkeep.types" 283) (fB l 227 560 141 1 "top_of" "top_of" (some ["got","t"]) [68] .none (sV "kindkeep.types" 283) (fB l 234 568 146 2 "union" "union" none [69] .none (sV "kindkeep.types" 283) (fB l 239 574 163 2 "add_undef" "add_undef" (some ["tab","t"]) [70] .none (sV "kindkeep.types" 283) (fB l 246 582 165 2 "is_literal" "is_literal" (some ["tab","t"]) [71] .none (sV "kindkeep.types" 283) (fB l 253 590 167 2 "is_unit" "is_unit" (some ["tab","t"]) [72] .none (sV "kindkeep.types" 283) (fB l 260 598 169 2 "is_fresh" "is_fresh" (some ["tab","t","row"]) [73] .none (sV "kindkeep.types" 283) (fB l 267 607 172 2 "regular_one" "regular_one" (some ["tab","t"]) [74] .none (sV "kindkeep.types" 283) (fB l 274 615 176 2 "regular" "regular" none [75] .none (sV "kindkeep.types" 283) (fB l 279 621 180 2 "common_family" "common_family" none [76] .none (sV "kindkeep.types" 283) (fB l 284 627 184 2 "meet_family" "meet_family" (some ["tab","parts","found","part","fam"]) [77] .none (sV "kindkeep.types" 283) (fB l 291 638 193 2 "family" "family" (some ["tab","t","row","kind","whole"]) [78] .none (sV "kindkeep.types" 283) (fB l 298 649 210 1 "is_nullish_family" "is_nullish_family" (some ["fam"]) [79] .none (sV "kindkeep.types" 283) (oT [(sV "charAt" 668),(sV "concat" 669),(sV "includes" 670),(sV "indexOf" 671),(sV "length" 672),(sV "slice" 673),(sV "toLowerCase" 674),(sV "toString" 675),(sV "toUpperCase" 676)]::fB l 306 678 219 2 "all_units" "all_units" none [87] .none (sV "kindkeep.typeops" 656) (fB l 311 684 222 2 "value_literal" "value_literal" (some ["tab","t","row"]) [88] .none (sV "kindkeep.typeops" 656) (fB l 318 693 227 3 "kinds_apart" "kinds_apart" (some ["tab","s","t"]) [89] .none (sV "kindkeep.typeops" 656) (fB l 325 702 231 3 "units_clash" "units_clash" none [90] .none (sV "kindkeep.typeops" 656) ([]))))))))))))))))))))))))))))))
noncomputable def N4(P:Params):Obj→Obj:=tx (sV "kindkeep.typeops" 656) 97 [eN P "TypeTable" 461 (.ref 140),eN P "kind_of" 469 (.ref 151),eN P "str_type" 479 (.ref 159),eN P "num_type" 489 (.ref 167),eN P "sorted_props" 495 (.ref 172),eN P "obj_type" 509 (.ref 184),eN P "func_type" 517 (.ref 191),eN P "parts_of" 526 (.ref 198),eN P "whole_of_row" 534 (.ref 205),eN P "regular_twin" 543 (.ref 212),eN P "join_bools" 550 (.ref 219),eN P "stays_beside" 559 (.ref 226),eN P "top_of" 567 (.ref 233),eN P "union" 573 (.ref 238),eN P "add_undef" 581 (.ref 245),eN P "is_literal" 589 (.ref 252),eN P "is_unit" 597 (.ref 259),eN P "is_fresh" 606 (.ref 266),eN P "regular_one" 614 (.ref 273),eN P "regular" 620 (.ref 278),eN P "common_family" 626 (.ref 283),eN P "meet_family" 637 (.ref 290),eN P "family" 648 (.ref 297),eN P "is_nullish_family" 655 (.ref 304),eN P "MAX_DRAWN" 659 (.int 200 658),eN P "MEET_NEVER" 661 (.int 0 660),eN P "MEET_LEFT" 663 (.int 1 662),eN P "MEET_RIGHT" 665 (.int 2 664),eN P "MEET_BOTH" 667 (.int 3 666),eN P "PRIMITIVE_NAMES" 677 (.ref 305),eN P "all_units" 683 (.ref 310),eN P "value_literal" 692 (.ref 317),eN P "kinds_apart" 701 (.ref 324),eN P "units_clash" 707 (.ref 329)]
noncomputable def Ot:Obj→Obj:=tL [(71,115),(97,150),(99,158),(101,166),(103,171),(108,183),(110,190),(112,197),(119,204),(128,211),(133,218),(137,225),(141,232),(146,237),(163,244),(165,251),(167,258),(169,265),(172,272),(176,277),(180,282),(184,289),(193,296),(210,303),(219,309),(222,316),(227,323),(231,328)]
noncomputable def qu(P:Params)(S:SharedT):SharedT:=⟨pf (((S.tree).set 3 (N4 P)).set 12 Ot) 110 (NW P aU),330,S.life,S.gens,S.drawn,708,S.os⟩
noncomputable def Cc:Pos:=⟨231,0,239,36⟩
noncomputable def OK(P:Params)(l:List Stmt):List Obj:=fB l 330 708 240 2 "known_decl" "known_decl" (some ["tab","row"]) [91] .none (sV "kindkeep.typeops" 656) (fB l 337 716 242 2 "body_props" "body_props" (some ["tab","row","decl"]) [92] .none (sV "kindkeep.typeops" 656) (fB l 344 725 247 2 "flat_props" "flat_props" (some ["tab","t","out","seen","waiting","at","row","props","bases","prop","base"]) [93] .none (sV "kindkeep.typeops" 656) (fB l 351 742 266 3 "shapes_clash" "shapes_clash" none [94] .none (sV "kindkeep.typeops" 656) (fB l 356 748 270 4 "meet_nullish" "meet_nullish" (some ["s","t","fs","ft"]) [95] .none (sV "kindkeep.typeops" 656) (fB l 363 758 276 5 "meet_values" "meet_values" (some ["tab","s","t","fs","ft"]) [96] .none (sV "kindkeep.typeops" 656) (fB l 370 769 286 5 "meet_objects" "meet_objects" (some ["tab","s","t","fs","ft"]) [97] .none (sV "kindkeep.typeops" 656) (fB l 377 780 294 3 "meet_case" "meet_case" (some ["tab","s","t","fs","ft"]) [98] .none (sV "kindkeep.typeops" 656) (fB l 384 791 308 3 "lay_on" "lay_on" (some ["tab","kept","t","out","held","one","case"]) [99] .none (sV "kindkeep.typeops" 656) (fB l 391 804 322 2 "members_of_meet" "members_of_meet" (some ["tab","t","row","decl"]) [100] .none (sV "kindkeep.typeops" 656) (fB l 398 814 333 3 "meet_parts" "meet_parts" none [101] .none (sV "kindkeep.typeops" 656) (fB l 403 820 342 3 "meet_two" "meet_two" (some ["tab","s","t","found","left","right","crossed","one","other","met"]) [102] .none (sV "kindkeep.typeops" 656) (fB l 410 836 358 2 "inter" "inter" (some ["tab","parts","t","out","place"]) [103] .none (sV "kindkeep.typeops" 656) (fB l 417 847 367 3 "value_holds" "value_holds" (some ["tab","row","parts","kind"]) [104] .none (sV "kindkeep.typeops" 656) (fB l 424 857 372 3 "units_fit" "units_fit" (some ["tab","s","t","parts","part","row","held"]) [105] .none (sV "kindkeep.typeops" 656) (oT [(.int 0 870)]::fB l 432 871 382 3 "may_be_nullish" "may_be_nullish" (some ["tab","t","deep","part","row","bound"]) [106] (.ref 431) (sV "kindkeep.typeops" 656) (fB l 439 883 398 3 "mapped_may_be_nullish" "mapped_may_be_nullish" (some ["tab","row","deep","keys"]) [107] .none (sV "kindkeep.typeops" 656) (fB l 446 893 401 3 "meet_may_be_nullish" "meet_may_be_nullish" none [108] .none (sV "kindkeep.typeops" 656) (fB l 451 899 406 2 "not_nullish" "not_nullish" (some ["tab","t"]) [109] .none (sV "kindkeep.typeops" 656) (fB l 458 907 414 2 "remove_nullish" "remove_nullish" none [110] .none (sV "kindkeep.typeops" 656) (fB l 463 913 416 1 "literal_truth" "literal_truth" (some ["row"]) [111] .none (sV "kindkeep.typeops" 656) (fB l 470 920 420 2 "truthy_of" "truthy_of" (some ["tab","t"]) [112] .none (sV "kindkeep.typeops" 656) (fB l 477 928 425 2 "truthy_part" "truthy_part" none [113] .none (sV "kindkeep.typeops" 656) (fB l 482 934 427 2 "loose_props" "loose_props" (some ["tab","t","out","seen","waiting","at","row"]) [114] .none (sV "kindkeep.typeops" 656) (fB l 489 947 449 2 "lets_primitive" "lets_primitive" none [115] .none (sV "kindkeep.typeops" 656) (fB l 494 953 457 2 "falsy_of" "falsy_of" (some ["tab","t","row"]) [116] .none (sV "kindkeep.typeops" 656) (fB l 501 962 468 2 "falsy_part" "falsy_part" none [117] .none (sV "kindkeep.typeops" 656) (oT [(.int 1 285),(.int 2 287),(.int 3 289),(.int 4 291),(.int 5 293)]::fB l 507 973 473 2 "plain_shape" "plain_shape" (some ["tab","t","turn","row"]) [121] .none (sV "kindkeep.shapes" 968) ([]))))))))))))))))))))))))))))
noncomputable def Ox(P:Params):Obj→Obj:=tx (sV "kindkeep.hosts" 983) 129 [eN P "known_decl" 715 (.ref 336),eN P "body_props" 724 (.ref 343),eN P "flat_props" 741 (.ref 350),eN P "shapes_clash" 747 (.ref 355),eN P "meet_nullish" 757 (.ref 362),eN P "meet_values" 768 (.ref 369),eN P "meet_objects" 779 (.ref 376),eN P "meet_case" 790 (.ref 383),eN P "lay_on" 803 (.ref 390),eN P "members_of_meet" 813 (.ref 397),eN P "meet_parts" 819 (.ref 402),eN P "meet_two" 835 (.ref 409),eN P "inter" 846 (.ref 416),eN P "value_holds" 856 (.ref 423),eN P "units_fit" 869 (.ref 430),eN P "may_be_nullish" 882 (.ref 438),eN P "mapped_may_be_nullish" 892 (.ref 445),eN P "meet_may_be_nullish" 898 (.ref 450),eN P "not_nullish" 906 (.ref 457),eN P "remove_nullish" 912 (.ref 462),eN P "literal_truth" 919 (.ref 469),eN P "truthy_of" 927 (.ref 476),eN P "truthy_part" 933 (.ref 481),eN P "loose_props" 946 (.ref 488),eN P "lets_primitive" 952 (.ref 493),eN P "falsy_of" 961 (.ref 500),eN P "falsy_part" 967 (.ref 505),eN P "MOST_PLAIN" 971 (.int 40 970),eN P "PLAIN_ROWS" 972 (.ref 506),eN P "plain_shape" 982 (.ref 513),eN P "MOST_ROUNDS" 986 (.int 200 985),eN P "MOST_SHAPES" 988 (.int 40 987)]
noncomputable def Oe:Obj→Obj:=tL [(240,335),(242,342),(247,349),(266,354),(270,361),(276,368),(286,375),(294,382),(308,389),(322,396),(333,401),(342,408),(358,415),(367,422),(372,429),(382,437),(398,444),(401,449),(406,456),(414,461),(416,468),(420,475),(425,480),(427,487),(449,492),(457,499),(468,504),(473,512)]
noncomputable def uX(P:Params)(S:SharedT):SharedT:=⟨pf (((S.tree).set 3 (Ox P)).set 12 Oe) 330 (OK P aU),514,S.life,S.gens,S.drawn,989,S.os⟩
noncomputable def Nh:Pos:=⟨490,0,490,11⟩
noncomputable def Oj(P:Params)(l:List Stmt):List Obj:=oT []::oP::⟨(.type "dict"),none,(.dict ⟨[eN P "__module__" 996 (sV "kindkeep.hosts" 983),eN P "__qualname__" 998 (sV "Thin" 997),eN P "__firstlineno__" 1000 (.int 491 999),eN P "__init__" 1008 (.ref 527),eN P "force" 1016 (.ref 534),eN P "put_deferred" 1024 (.ref 541),eN P "put_cond" 1033 (.ref 548),eN P "lay_row" 1042 (.ref 555),eN P "bound" 1050 (.ref 562),eN P "shape" 1058 (.ref 569),eN P "fits" 1067 (.ref 576),eN P "lies" 1076 (.ref 583),eN P "infers" 1086 (.ref 590),eN P "tpl_fits" 1095 (.ref 597),eN P "shape_fits" 1104 (.ref 604),eN P "put_in" 1113 (.ref 611),eN P "own_sig" 1122 (.ref 618),eN P "forget" 1129 (.ref 625),eN P "list_prop" 1138 (.ref 632),eN P "list_index" 1146 (.ref 639),eN P "elem_met" 1154 (.ref 646),eN P "error_class" 1161 (.ref 653),eN P "__static_attributes__" 1167 (.ref 654)]⟩ 23),#[]⟩::oT []::oF [(.int 493 0),(.int 4 0),(.ref 526),(.int 500 0),(.int 4 0),(.ref 533),(.int 503 0),(.int 4 0),(.ref 540),(.int 506 0),(.int 4 0),(.ref 547),(.int 509 0),(.int 4 0),(.ref 554),(.int 512 0),(.int 4 0),(.ref 561),(.int 515 0),(.int 4 0),(.ref 568),(.int 518 0),(.int 4 0),(.ref 575),(.int 521 0),(.int 4 0),(.ref 582),(.int 524 0),(.int 4 0),(.ref 589),(.int 527 0),(.int 4 0),(.ref 596),(.int 530 0),(.int 4 0),(.ref 603),(.int 533 0),(.int 4 0),(.ref 610),(.int 536 0),(.int 4 0),(.ref 617),(.int 539 0),(.int 4 0),(.ref 624),(.int 542 0),(.int 4 0),(.ref 631),(.int 545 0),(.int 4 0),(.ref 638),(.int 548 0),(.int 4 0),(.ref 645),(.int 551 0),(.int 4 0),(.ref 652)]::⟨(.type "code"),none,(.fields ⟨[(sV "Thin" 991),(sV "Thin" 992),(sV "/claim/cut.py" 993),(.int 491 0),(.int 0 0),(.int 0 0),(.int 0 0),(.int 0 0),(.ref 517),(.bool false),(.int 181 0),(.ref 518),.none,.none,.none,.none,(.int 994 0),(.int 491 0),(sV "/claim/cut.py" 995)]⟩),#[]⟩::⟨(.type "frame"),none,.plain,⟨[some (.ref 519),some (.ref 3),some (.ref 516),none,some (sV "kindkeep.hosts" 983),none,some (.ref 0)]⟩⟩::fB l 521 1001 493 2 "__init__" "Thin.__init__" (some ["self","tab"]) [125,0] .none (sV "kindkeep.hosts" 983) (fB l 528 1009 500 2 "force" "Thin.force" (some ["self","t"]) [125,1] .none (sV "kindkeep.hosts" 983) (fB l 535 1017 503 2 "put_deferred" "Thin.put_deferred" (some ["self","row"]) [125,2] .none (sV "kindkeep.hosts" 983) (fB l 542 1025 506 3 "put_cond" "Thin.put_cond" (some ["self","row","mapping"]) [125,3] .none (sV "kindkeep.hosts" 983) (fB l 549 1034 509 3 "lay_row" "Thin.lay_row" (some ["self","row","mapping"]) [125,4] .none (sV "kindkeep.hosts" 983) (fB l 556 1043 512 2 "bound" "Thin.bound" (some ["self","t"]) [125,5] .none (sV "kindkeep.hosts" 983) (fB l 563 1051 515 2 "shape" "Thin.shape" (some ["self","t"]) [125,6] .none (sV "kindkeep.hosts" 983) (fB l 570 1059 518 3 "fits" "Thin.fits" (some ["self","s","t"]) [125,7] .none (sV "kindkeep.hosts" 983) (fB l 577 1068 521 3 "lies" "Thin.lies" (some ["self","s","t"]) [125,8] .none (sV "kindkeep.hosts" 983) (fB l 584 1077 524 4 "infers" "Thin.infers" (some ["self","pids","check","ext"]) [125,9] .none (sV "kindkeep.hosts" 983) (fB l 591 1087 527 3 "tpl_fits" "Thin.tpl_fits" (some ["self","s","t"]) [125,10] .none (sV "kindkeep.hosts" 983) (fB l 598 1096 530 3 "shape_fits" "Thin.shape_fits" (some ["self","s","t"]) [125,11] .none (sV "kindkeep.hosts" 983) (fB l 605 1105 533 3 "put_in" "Thin.put_in" (some ["self","t","mapping"]) [125,12] .none (sV "kindkeep.hosts" 983) (fB l 612 1114 536 3 "own_sig" "Thin.own_sig" (some ["self","s","erased"]) [125,13] .none (sV "kindkeep.hosts" 983) (fB l 619 1123 539 1 "forget" "Thin.forget" (some ["self"]) [125,14] .none (sV "kindkeep.hosts" 983) (fB l 626 1130 542 3 "list_prop" "Thin.list_prop" (some ["self","t","name"]) [125,15] .none (sV "kindkeep.hosts" 983) (fB l 633 1139 545 2 "list_index" "Thin.list_index" (some ["self","t"]) [125,16] .none (sV "kindkeep.hosts" 983) (fB l 640 1147 548 2 "elem_met" "Thin.elem_met" (some ["self","kinds"]) [125,17] .none (sV "kindkeep.hosts" 983) (fB l 647 1155 551 1 "error_class" "Thin.error_class" (some ["self"]) [125,18] .none (sV "kindkeep.hosts" 983) (oT [(sV "deep" 1162),(sV "lib" 1163),(sV "most_deep" 1164),(sV "most_rounds" 1165),(sV "tab" 1166)]::⟨(.type "dict"),none,(.dict ⟨[eN P "__module__" 996 (sV "kindkeep.hosts" 983),eN P "__firstlineno__" 1000 (.int 491 999),eN P "__init__" 1008 (.ref 527),eN P "force" 1016 (.ref 534),eN P "put_deferred" 1024 (.ref 541),eN P "put_cond" 1033 (.ref 548),eN P "lay_row" 1042 (.ref 555),eN P "bound" 1050 (.ref 562),eN P "shape" 1058 (.ref 569),eN P "fits" 1067 (.ref 576),eN P "lies" 1076 (.ref 583),eN P "infers" 1086 (.ref 590),eN P "tpl_fits" 1095 (.ref 597),eN P "shape_fits" 1104 (.ref 604),eN P "put_in" 1113 (.ref 611),eN P "own_sig" 1122 (.ref 618),eN P "forget" 1129 (.ref 625),eN P "list_prop" 1138 (.ref 632),eN P "list_index" 1146 (.ref 639),eN P "elem_met" 1154 (.ref 646),eN P "error_class" 1161 (.ref 653),eN P "__static_attributes__" 1167 (.ref 654),eN P "__dict__" 1169 (.ref 657),eN P "__weakref__" 1171 (.ref 658),eN P "__doc__" 1172 .none]⟩ 4),#[]⟩::⟨(.type "type"),none,(.cls {name:="Thin",bases:=[(.type "object")],mro:=[(.ref 656),(.type "object")],ns:=655,qualname:="Thin",hasDict:=true,subclasses:=[(.ref 691)]}),⟨[none,none,some (sV "Thin" 989),some (sV "Thin" 997),some (.builtin "object.__new__"),some (.bool true)]⟩⟩::⟨(.type "getset_descriptor"),none,(.fields ⟨[(sV "__dict__" 1168),(.ref 656),(.builtin "function.__dict__"),(.builtin "function.__dict__#set")]⟩),#[]⟩::⟨(.type "getset_descriptor"),none,(.fields ⟨[(sV "__weakref__" 1170),(.ref 656),(.builtin "ExceptionGroup.__weakref__"),.none]⟩),#[]⟩::⟨(.type "super"),none,(.fields ⟨[(.ref 656),(.ref 656),(.ref 656)]⟩),#[]⟩::⟨(.type "builtin_function_or_method"),none,(.fields ⟨[(.builtin "object.__init_subclass__"),(.ref 656)]⟩),#[]⟩::oT [(.ref 656)]::oP::⟨(.type "dict"),none,(.dict ⟨[eN P "__module__" 1182 (sV "kindkeep.hosts" 983),eN P "__qualname__" 1184 (sV "RefHost" 1183),eN P "__firstlineno__" 1186 (.int 553 1185),eN P "shape" 1194 (.ref 674),eN P "fits" 1203 (.ref 681),eN P "lies" 1212 (.ref 688),eN P "__static_attributes__" 1213 (.ref 689)]⟩ 7),#[]⟩::oT []::oF [(.int 555 0),(.int 4 0),(.ref 673),(.int 558 0),(.int 4 0),(.ref 680),(.int 561 0),(.int 4 0),(.ref 687)]::⟨(.type "code"),none,(.fields ⟨[(sV "RefHost" 1177),(sV "RefHost" 1178),(sV "/claim/cut.py" 1179),(.int 553 0),(.int 0 0),(.int 0 0),(.int 0 0),(.int 0 0),(.ref 664),(.bool false),(.int 181 0),(.ref 665),.none,.none,.none,.none,(.int 1180 0),(.int 553 0),(sV "/claim/cut.py" 1181)]⟩),#[]⟩::⟨(.type "frame"),none,.plain,⟨[some (.ref 666),some (.ref 3),some (.ref 663),none,some (sV "kindkeep.hosts" 983),none,some (.ref 0)]⟩⟩::fB l 668 1187 555 2 "shape" "RefHost.shape" (some ["self","t"]) [126,0] .none (sV "kindkeep.hosts" 983) (fB l 675 1195 558 3 "fits" "RefHost.fits" (some ["self","s","t"]) [126,1] .none (sV "kindkeep.hosts" 983) (fB l 682 1204 561 3 "lies" "RefHost.lies" (some ["self","s","t"]) [126,2] .none (sV "kindkeep.hosts" 983) (oT []::⟨(.type "dict"),none,(.dict ⟨[eN P "__module__" 1182 (sV "kindkeep.hosts" 983),eN P "__firstlineno__" 1186 (.int 553 1185),eN P "shape" 1194 (.ref 674),eN P "fits" 1203 (.ref 681),eN P "lies" 1212 (.ref 688),eN P "__static_attributes__" 1213 (.ref 689),eN P "__doc__" 1214 .none]⟩ 2),#[]⟩::⟨(.type "type"),none,(.cls {name:="RefHost",bases:=[(.ref 656)],mro:=[(.ref 691),(.ref 656),(.type "object")],ns:=690,qualname:="RefHost",hasDict:=true,subclasses:=[]}),⟨[some (.ref 661),none,some (sV "RefHost" 1175),some (sV "RefHost" 1183),some (.builtin "object.__new__"),some (.bool true)]⟩⟩::⟨(.type "super"),none,(.fields ⟨[(.ref 691),(.ref 691),(.ref 691)]⟩),#[]⟩::⟨(.type "builtin_function_or_method"),none,(.fields ⟨[(.builtin "object.__init_subclass__"),(.ref 691)]⟩),#[]⟩::[]))))))))))))))))))))))
noncomputable def OC(P:Params):Obj→Obj:=tx (sV "kindkeep.hosts" 983) 131 [eN P "Thin" 1174 (.ref 656),eN P "RefHost" 1216 (.ref 691)]
noncomputable def OL:Obj→Obj:=tL [(491,519),(553,666)]
noncomputable def ze(P:Params)(S:SharedT):SharedT:=⟨pf (((S.tree).set 3 (OC P)).set 12 OL) 514 (Oj P aU),694,S.life,S.gens,S.drawn,1217,S.os⟩
noncomputable def Nn:Pos:=⟨553,0,562,17⟩
noncomputable def Ob(P:Params)(l:List Stmt):List Obj:=oT [(.int 1 359),(.int 2 361),(.int 3 363)]::oT [(.int 4 365),(.int 5 367),(.int 6 369)]::fB l 696 1221 566 2 "plain_value" "plain_value" (some ["tab","t","row"]) [130] .none (sV "kindkeep.narrowplain" 1217) (fB l 703 1230 577 4 "plain_meets" "plain_meets" (some ["tab","s","t","strict","fs","ft","one","other"]) [131] .none (sV "kindkeep.narrowplain" 1217) (fB l 710 1244 589 2 "is_nullish_kind" "is_nullish_kind" none [132] .none (sV "kindkeep.narrowplain" 1217) (fB l 715 1250 592 3 "sharpen" "sharpen" none [133] .none (sV "kindkeep.narrowplain" 1217) (fB l 720 1256 600 3 "narrow_plain_truthy" "narrow_plain_truthy" (some ["tab","t","yes"]) [134] .none (sV "kindkeep.narrowplain" 1217) (fB l 727 1265 604 4 "nullish_side" "nullish_side" none [135] .none (sV "kindkeep.narrowplain" 1217) (fB l 732 1271 619 3 "unknown_equal" "unknown_equal" none [136] .none (sV "kindkeep.narrowplain" 1217) (fB l 737 1277 631 4 "plain_equal_yes" "plain_equal_yes" none [137] .none (sV "kindkeep.narrowplain" 1217) (fB l 742 1283 642 3 "plain_equal_no" "plain_equal_no" (some ["tab","t","other","value","out","part","same"]) [138] .none (sV "kindkeep.narrowplain" 1217) (fB l 749 1296 654 5 "narrow_plain_equal" "narrow_plain_equal" (some ["tab","t","other","yes","strict"]) [139] .none (sV "kindkeep.narrowplain" 1217) (oT [(.int 10 303),(.int 15 313),(.int 16 315)]::oT [(.int 1 359),(.int 2 361),(.int 3 363),(.int 4 365),(.int 5 367),(.int 6 369)]::fB l 758 1311 665 2 "narrow_is_primitive" "narrow_is_primitive" (some ["tab","t"]) [143] .none (sV "kindkeep.narrow" 1307) (fB l 765 1319 667 2 "all_primitive" "all_primitive" none [144] .none (sV "kindkeep.narrow" 1307) (fB l 770 1325 669 2 "is_loose" "is_loose" none [145] .none (sV "kindkeep.narrow" 1307) (fB l 775 1331 674 4 "part_meets" "part_meets" (some ["host","s","t","strict","tab","fs","ft"]) [146] .none (sV "kindkeep.narrow" 1307) (fB l 782 1344 685 3 "narrow_truthy" "narrow_truthy" (some ["host","t","yes"]) [147] .none (sV "kindkeep.narrow" 1307) (fB l 789 1353 687 2 "bound_parts" "bound_parts" (some ["host","part","bound"]) [148] .none (sV "kindkeep.narrow" 1307) (fB l 796 1362 690 4 "equal_part" "equal_part" none [149] .none (sV "kindkeep.narrow" 1307) (fB l 801 1368 698 3 "unlike_nullish" "unlike_nullish" (some ["host","t","other","tab","kept","out","part"]) [150] .none (sV "kindkeep.narrow" 1307) ([]))))))))))))))))))
noncomputable def O2(P:Params):Obj→Obj:=tx (sV "kindkeep.narrow" 1307) 153 [eN P "COERCED" 1219 (.ref 694),eN P "NULLISH" 1220 (.ref 695),eN P "plain_value" 1229 (.ref 702),eN P "plain_meets" 1243 (.ref 709),eN P "is_nullish_kind" 1249 (.ref 714),eN P "sharpen" 1255 (.ref 719),eN P "narrow_plain_truthy" 1264 (.ref 726),eN P "nullish_side" 1270 (.ref 731),eN P "unknown_equal" 1276 (.ref 736),eN P "plain_equal_yes" 1282 (.ref 741),eN P "plain_equal_no" 1295 (.ref 748),eN P "narrow_plain_equal" 1306 (.ref 755),eN P "FREE_ROWS" 1309 (.ref 756),eN P "PRIMITIVES" 1310 (.ref 757),eN P "narrow_is_primitive" 1318 (.ref 764),eN P "all_primitive" 1324 (.ref 769),eN P "is_loose" 1330 (.ref 774),eN P "part_meets" 1343 (.ref 781),eN P "narrow_truthy" 1352 (.ref 788),eN P "bound_parts" 1361 (.ref 795),eN P "equal_part" 1367 (.ref 800),eN P "unlike_nullish" 1380 (.ref 807)]
noncomputable def OA:Obj→Obj:=tL [(566,701),(577,708),(589,713),(592,718),(600,725),(604,730),(619,735),(631,740),(642,747),(654,754),(665,763),(667,768),(669,773),(674,780),(685,787),(687,794),(690,799),(698,806)]
noncomputable def G4(P:Params)(S:SharedT):SharedT:=⟨pf (((S.tree).set 3 (O2 P)).set 12 OA) 694 (Ob P aU),808,S.life,S.gens,S.drawn,1381,S.os⟩
noncomputable def Nk:Pos:=⟨698,0,706,26⟩
noncomputable def ON(P:Params)(l:List Stmt):List Obj:=fB l 808 1381 707 3 "rest_of_bound" "rest_of_bound" none [151] .none (sV "kindkeep.narrow" 1307) (fB l 813 1387 713 3 "may_hold_nullish" "may_hold_nullish" (some ["tab","part","one","fam"]) [152] .none (sV "kindkeep.narrow" 1307) (fB l 820 1397 720 5 "narrow_equal" "narrow_equal" none [153] .none (sV "kindkeep.narrow" 1307) (oT [(sV "e" 1405),(sV "a" 1406),(sV "b" 1407),(sV "0" 1408),(sV "E.A" 1409),(sV "F.A" 1410),(sV "E.B" 1411),(sV "~a" 1412),(sV "~0" 1413),(sV "~E.A" 1414),(sV "false" 1415),(sV "true" 1416),(sV "~true" 1417),(sV "undefined" 1418),(sV "null" 1419),(sV "void" 1420),(sV "string" 1421),(sV "number" 1422),(sV "X" 1423),(sV "Y" 1424),(sV "Z" 1425),(sV "V" 1426),(sV "W" 1427),(sV "~X" 1428),(sV "{}" 1429),(sV "object" 1430)]::oT [(sV "e" 1432),(sV "a" 1433),(sV "b" 1434),(sV "0" 1435),(sV "E.A" 1436),(sV "F.A" 1437),(sV "E.B" 1438),(sV "false" 1439),(sV "true" 1440),(sV "undefined" 1441),(sV "null" 1442)]::oT [(sV "x" 1444),(sV "v" 1445),(sV "y" 1446),(sV "xz" 1447),(sV "vz" 1448),(sV "yz" 1449),(sV "z" 1450)]::fB l 828 1452 736 2 "_law_take" "_law_take" (some ["d","n","at","size"]) [158] .none (sV "law_xm0524_01" 1403) (fB l 835 1462 741 1 "_law_plain" "_law_plain" (some ["name"]) [159] .none (sV "law_xm0524_01" 1403) (fB l 842 1469 743 1 "_law_points" "_law_points" none [160] .none (sV "law_xm0524_01" 1403) (fB l 847 1475 748 1 "_law_held" "_law_held" none [161] .none (sV "law_xm0524_01" 1403) (fB l 852 1481 753 2 "_law_both" "_law_both" none [162] .none (sV "law_xm0524_01" 1403) (fB l 857 1487 755 1 "_law_less" "_law_less" none [163] .none (sV "law_xm0524_01" 1403) (fB l 862 1493 768 3 "_law_units" "_law_units" none [164] .none (sV "law_xm0524_01" 1403) (fB l 867 1499 775 1 "_law_values" "_law_values" none [165] .none (sV "law_xm0524_01" 1403) (fB l 872 1505 777 2 "_law_equal" "_law_equal" none [166] .none (sV "law_xm0524_01" 1403) (fB l 877 1511 793 2 "_law_unlike" "_law_unlike" none [167] .none (sV "law_xm0524_01" 1403) (fB l 882 1517 799 1 "_law_true" "_law_true" none [168] .none (sV "law_xm0524_01" 1403) (fB l 887 1523 803 1 "_law_false" "_law_false" (some ["s","out","part"]) [169] .none (sV "law_xm0524_01" 1403) (fB l 894 1532 811 3 "_law_tag" "_law_tag" none [170] .none (sV "law_xm0524_01" 1403) (fB l 899 1538 813 2 "_law_made" "_law_made" (some ["w","name","tab","plain","fresh"]) [171] .none (sV "law_xm0524_01" 1403) (fB l 906 1549 834 2 "_law_at" "_law_at" (some ["w","name","t"]) [172] .none (sV "law_xm0524_01" 1403) (fB l 913 1558 840 3 "_law_table" "_law_table" none [173] .none (sV "law_xm0524_01" 1403) (fB l 918 1564 853 2 "_law_said" "_law_said" none [174] .none (sV "law_xm0524_01" 1403) (fB l 923 1570 858 2 "_law_name" "_law_name" none [175] .none (sV "law_xm0524_01" 1403) (fB l 928 1576 863 3 "_law_meets" "_law_meets" none [176] .none (sV "law_xm0524_01" 1403) (fB l 933 1582 877 3 "_law_tests" "_law_tests" (some ["w","kinds","how","host","s","t","want"]) [177] .none (sV "law_xm0524_01" 1403) (fB l 940 1595 885 1 "law" "law" none [178] .none (sV "law_xm0524_01" 1403) ([]))))))))))))))))))))))))
noncomputable def N7(P:Params):Obj→Obj:=tx (sV "law_xm0524_01" 1403) 180 [eN P "rest_of_bound" 1386 (.ref 812),eN P "may_hold_nullish" 1396 (.ref 819),eN P "narrow_equal" 1402 (.ref 824),eN P "_law_NAMES" 1431 (.ref 825),eN P "_law_UNITS" 1443 (.ref 826),eN P "_law_THINGS" 1451 (.ref 827),eN P "_law_take" 1461 (.ref 834),eN P "_law_plain" 1468 (.ref 841),eN P "_law_points" 1474 (.ref 846),eN P "_law_held" 1480 (.ref 851),eN P "_law_both" 1486 (.ref 856),eN P "_law_less" 1492 (.ref 861),eN P "_law_units" 1498 (.ref 866),eN P "_law_values" 1504 (.ref 871),eN P "_law_equal" 1510 (.ref 876),eN P "_law_unlike" 1516 (.ref 881),eN P "_law_true" 1522 (.ref 886),eN P "_law_false" 1531 (.ref 893),eN P "_law_tag" 1537 (.ref 898),eN P "_law_made" 1548 (.ref 905),eN P "_law_at" 1557 (.ref 912),eN P "_law_table" 1563 (.ref 917),eN P "_law_said" 1569 (.ref 922),eN P "_law_name" 1575 (.ref 927),eN P "_law_meets" 1581 (.ref 932),eN P "_law_tests" 1594 (.ref 939),eN P "law" 1600 (.ref 944)]
noncomputable def NZ:Obj→Obj:=tL [(707,811),(713,818),(720,823),(736,833),(741,840),(743,845),(748,850),(753,855),(755,860),(768,865),(775,870),(777,875),(793,880),(799,885),(803,892),(811,897),(813,904),(834,911),(840,916),(853,921),(858,926),(863,931),(877,938),(885,943)]
noncomputable def Nj(P:Params)(S:SharedT):SharedT:=⟨pf (((S.tree).set 3 (N7 P)).set 12 NZ) 808 (ON P aU),945,S.life,S.gens,S.drawn,1601,S.os⟩
noncomputable def Nz:Pos:=⟨885,0,907,29⟩
noncomputable def cJ(w:World)(os:OsState):SharedT:=Nj w.params (G4 w.params (ze w.params (uX w.params (qu w.params (ki w.params (fy w os))))))
noncomputable def dK(S:SharedT):gr:=λa=>match blt a S.n with|true=>(S.tree.get a).bind alive|false=>none
noncomputable def fu(S:SharedT):Frag:=(List.range S.n).filterMap λa=>(dK S a).map λo=>(a,o)
noncomputable def q0:Program:=view PySem.Challenge.pw_xm0524_01 [178]
noncomputable def pH:List Str:=[Str.ofString "_wall","__name__","KeepError","Exception","TooDeep",Str.ofString "HostFault","Y_KEY","Y_BOOL","Y_STR","Y_NUM",Str.ofString "Y_ENUM","Y_UNION","Y_INTER","Y_OBJ","Y_REF",Str.ofString "Y_PARAM","Y_ARRAY","Y_TUPLE","Y_SIG","Y_KEYOF","Y_INDEX",Str.ofString "Y_COND","Y_MAPPED","Y_TPL","Y_ALIAS","ANY",Str.ofString "UNKNOWN","NEVER","VOID","UNDEF","NULLT","STRING",Str.ofString "NUMBER","FALSE_T","TRUE_T","OBJECTT","EMPTY",Str.ofString "ERR","FRESH_F","FRESH_T","P_OPT","D_OBJALIAS","FAM_OTHER",Str.ofString "FAM_STR","FAM_NUM","FAM_BOOL","FAM_NULL","FAM_UNDEF",Str.ofString "FAM_VOID","FAM_OBJ","MAX_UNION","FIRST_ROWS","LITERAL_ROWS",Str.ofString "MARKED_ROWS","OBJECT_ROWS","KEY_FAMILIES","TypeTable","kind_of",Str.ofString "str_type","num_type","sorted_props","obj_type","func_type","parts_of",Str.ofString "whole_of_row","regular_twin","join_bools","stays_beside","top_of",Str.ofString "union","add_undef","is_literal","is_unit","is_fresh","regular_one",Str.ofString "regular","common_family","meet_family","family","is_nullish_family",Str.ofString "MAX_DRAWN","MEET_NEVER","MEET_LEFT","MEET_RIGHT","MEET_BOTH","PRIMITIVE_NAMES",Str.ofString "all_units","value_literal","kinds_apart","units_clash","known_decl",Str.ofString "body_props","flat_props","shapes_clash","meet_nullish","meet_values",Str.ofString "meet_objects","meet_case","lay_on","members_of_meet","meet_parts",Str.ofString "meet_two","inter","value_holds","units_fit","may_be_nullish","mapped_may_be_nullish",Str.ofString "meet_may_be_nullish","not_nullish","remove_nullish","literal_truth","truthy_of",Str.ofString "truthy_part","loose_props","lets_primitive","falsy_of","falsy_part","MOST_PLAIN",Str.ofString "PLAIN_ROWS","plain_shape","MOST_ROUNDS","MOST_SHAPES","Thin",Str.ofString "RefHost","COERCED","NULLISH","plain_value","plain_meets","is_nullish_kind",Str.ofString "sharpen","narrow_plain_truthy","nullish_side","unknown_equal","plain_equal_yes",Str.ofString "plain_equal_no","narrow_plain_equal","FREE_ROWS","PRIMITIVES","narrow_is_primitive",Str.ofString "all_primitive","is_loose","part_meets","narrow_truthy","bound_parts",Str.ofString "equal_part","unlike_nullish","rest_of_bound","may_hold_nullish","narrow_equal","_law_NAMES",Str.ofString "_law_UNITS","_law_THINGS","_law_take","_law_plain","_law_points",Str.ofString "_law_held","_law_both","_law_less","_law_units","_law_values","_law_equal",Str.ofString "_law_unlike","_law_true","_law_false","_law_tag","_law_made",Str.ofString "_law_at","_law_table","_law_said","_law_name","_law_meets","_law_tests"]
end Kk
namespace Kk
open PySem PySem.W PyProof.Rows PySem.Calls
theorem J9(w:World)(os:OsState):PySem.W.Fast.tw15667345088766844465 yp p0 w 11 (some (.ref 6)) 12 (qe w os) (topStub p0)=some ((fy w os).abs,⟨PySem.W.Fast.tw11892475500146522536 yp cE,cE,pQ,[topFrame pQ]⟩):=by kernel_rfl
theorem En(w:World)(os:OsState):PySem.W.Fast.tw10110043849684766642 yp p0 w 11 (some (.ref 6)) 1 1 (fy w os) (blockOf aU BM cE pQ [topFrame pQ])=some (.next,fy w os,cE,pQ):=by kernel_rfl
theorem LI(w:World)(s:Shared)(pos:Pos):topRun treeTable p0 w 11 (some (.ref 6)) 2 s ⟨doneF .next,cE,pos,[topFrame pQ]⟩=some s:=by kernel_rfl
theorem Il(w:World):((boot_heap w.params).isNs mainGlobals,(boot_heap w.params).objs.size,(boot_heap w.params).nsMap mainGlobals "__annotations__")=(true,11,some (.ref 6)):=by kernel_rfl
theorem Pw:(eK.all λt=>(dF t.2.2.1 aU).any (tq t.1))=true:=by kernel_rfl
theorem Px:eK.map (λt=>(dF t.2.2.1 aU).map λx=>x.2.1.map (jo cx 60 x.2.2.names))=eK.map λt=>some t.1.body:=by kernel_rfl
theorem Py(T:Setting)(f g:Nat→Value)(o:FuncData):eK.map (pF aU T f g o)=eK.map (mj aU f g):=by kernel_rfl
theorem Pp:(gp.all λt=>(dF t.2.2.1 aU).any (tq t.1))=true:=by kernel_rfl
theorem PE(T:Setting)(f g:Nat→Value)(o:FuncData):gp.map (pF aU T f g o)=gp.map (mj aU f g):=by kernel_rfl
theorem PC:gp.map (λt=>(dF t.2.2.1 aU).map λx=>(x.2.1,x.2.2.names))=[some (mX (gh Aq),gz),some (jH (gh BV),fF),some (qK (gh Bw),ja)]:=by kernel_rfl
theorem Bn(w:World)(os:OsState):lB (w.withFollow fC false) 1500 (fy (w.withFollow fC false) os) pQ (aU.take 56)=some (.next,ki (w.withFollow fC false).params (fy (w.withFollow fC false) os),cE,GH):=by kernel_rfl
theorem DI(w:World)(os:OsState):lB (w.withFollow fC true) 1500 (fy (w.withFollow fC true) os) pQ (aU.take 56)=some (.next,ki (w.withFollow fC true).params (fy (w.withFollow fC true) os),cE,GH):=by kernel_rfl
theorem OH(w:World)(os:OsState):lB w 1250 (ki w.params (fy w os)) GH ((aU.drop 56).take 35)=some (.next,qu w.params (ki w.params (fy w os)),cE,Cc):=by kernel_rfl
theorem O7(w:World)(os:OsState):lB w 1000 (qu w.params (ki w.params (fy w os))) Cc ((aU.drop 91).take 34)=some (.next,uX w.params (qu w.params (ki w.params (fy w os))),cE,Nh):=by kernel_rfl
theorem NU(w:World)(os:OsState):lB w 1200 (uX w.params (qu w.params (ki w.params (fy w os)))) Nh ((aU.drop 125).take 2)=some (.next,ze w.params (uX w.params (qu w.params (ki w.params (fy w os)))),cE,Nn):=by kernel_rfl
theorem OZ(w:World)(os:OsState):lB w 700 (ze w.params (uX w.params (qu w.params (ki w.params (fy w os))))) Nn ((aU.drop 127).take 24)=some (.next,G4 w.params (ze w.params (uX w.params (qu w.params (ki w.params (fy w os))))),cE,Nk):=by kernel_rfl
theorem OW(w:World)(os:OsState):lB w 800 (G4 w.params (ze w.params (uX w.params (qu w.params (ki w.params (fy w os)))))) Nk ((aU.drop 151).take 28)=some (.next,Nj w.params (G4 w.params (ze w.params (uX w.params (qu w.params (ki w.params (fy w os)))))),cE,Nz):=by kernel_rfl
theorem KZ(w:World)(os:OsState):(staticsOk (importedModules p0.main.body) (boot_heap w.params) (cJ w os).abs.heap,namesBound p0 (cJ w os).abs.heap,gensDone (cJ w os).abs,laidKept (boot_heap w.params) (cJ w os).abs.heap)=(true,true,true,true):=by kernel_rfl
theorem Lc(w:World)(os:OsState):PySem.W.Fast.tw4187177175401517315 q0 pH (importedModules p0.main.body) (λz=>true) true (cJ w os).abs=openGood q0 pH:=by kernel_rfl
theorem IK(w:World)(os:OsState):eK.map (λt=>(jS (dK (cJ w os)) t.2.1).map pB)=eK.map λt=>(dF t.2.2.1 aU).map (o6 t.2.2.2):=by kernel_rfl
theorem Ib(w:World)(os:OsState):(eK.all (λt=>(jS (dK (cJ w os)) t.2.1).any (vF (dK (cJ w os)))),eK.all λt=>(jS (dK (cJ w os)) t.2.1).any λfd=>(BH (dK (cJ w os)) fd).any λdV=>qJ (dK (cJ w os)) t.1.dflts dV)=(true,true):=by kernel_rfl
theorem Od(w:World)(os:OsState):(cx.consts.all λp=>p.1==gC||fW (fu (cJ w os)) (dK (cJ w os)) p)=true:=by kernel_rfl
theorem OG(w:World)(os:OsState):((cx.fns.zip c9).all λp=>!dX p.1||jd (fu (cJ w os)) p.1 p.2)=true:=by kernel_rfl
theorem Pe(w:World)(os:OsState):Bx.map (λq=>PySem.W.findIn (fu (cJ w os)) (.ref q.1) (b6 q.2))=[Dn,some none,CP,some (some (.ref 123)),some (some (.ref 137)),some none,some none,Dn,some none,CP,some (some (.ref 527)),some (some (.ref 534)),some (some (.ref 681)),some none]:=by kernel_rfl
noncomputable def Lg(K:Frag)(L:gr):List Bool:=[plainGet K 140 "rows",plainGet K 140 "index",plainGet K 691 "tab",hasDictIn K 140,hasDictIn K 691,plainOver K 140,plainOver K 691,makesIn K 140,makesIn K 691,keepIn K (.ref 140),keepIn K (.ref 691),jd K gC 109,jd K (b6 "TypeTable") 140,jd K (b6 "RefHost") 691,jd K (b6 "law") 944,fW K L (b6 "FIRST_ROWS",.tp ax),fW K L (b6 "MOST_ROUNDS",.int 200),fW K L (b6 "MOST_SHAPES",.int 40),(K.lookup sysModules).isSome]
theorem OQ(w:World)(os:OsState):Lg (fu (cJ w os)) (dK (cJ w os))=List.replicate 19 true:=by kernel_rfl
theorem N5(w:World)(os:OsState):Bt.map (λx=>takerIn (fu (cJ w os)) 140 (b6 x))=Bt.map λz=>some none:=by kernel_rfl
theorem O6(w:World)(os:OsState):BP.map (λx=>takerIn (fu (cJ w os)) 691 (b6 x))=BP.map λz=>some none:=by kernel_rfl
theorem OJ(w:World)(os:OsState):[123,137,527,534,681].map (λa=>typeIn (fu (cJ w os)) (.ref a))=List.replicate 5 (some (.type "function")):=by kernel_rfl
theorem Ol(w:World)(os:OsState):(fu (cJ w os)).lookup 109=some (PySem.W.dictOf (tN.map λe=>⟨e.1,.int e.1 e.2.1,.int e.2.2.1 e.2.2.2⟩) 6):=by kernel_rfl
theorem O0(w:World)(os:OsState):tH.map (λx=>nsIn (fu (cJ w os)) mainGlobals (b6 x))=List.replicate 8 (some none):=by kernel_rfl
theorem Pf(w:World)(os:OsState):gp.map (λt=>(jS (dK (cJ w os)) t.2.1).map pB)=gp.map λt=>(dF t.2.2.1 aU).map (o6 t.2.2.2):=by kernel_rfl
theorem Po(w:World)(os:OsState):(gp.all (λt=>(jS (dK (cJ w os)) t.2.1).any (vF (dK (cJ w os)))),gp.all λt=>(jS (dK (cJ w os)) t.2.1).any λfd=>(BH (dK (cJ w os)) fd).any λdV=>qJ (dK (cJ w os)) t.1.dflts dV)=(true,true):=by kernel_rfl
section
variable{os:OsState}{S:SharedT}
theorem uH{f:gr}{a:Addr}:∀l:List Nat,(a∈l→(l.filterMap λb=>(f b).map λo=>(b,o)).lookup a=f a)∧(a∉l→(l.filterMap λb=>(f b).map λo=>(b,o)).lookup a=none)
 |[]=>⟨λh=>(az h),λz=>rfl⟩
 |b::l=>by
  refine U2 (uH (f:=f) (a:=a) l) λh1 h2=>?_;by_cases e:a=b
  ·subst e;refine⟨λz=>?_,λh=>absurd mh h⟩;cases q:f a with
   |none=>
    rw[List.filterMap_cons_none (by rw[q];rfl)];by_cases m:a∈l
    ·rw[h1 m,q]
    ·exact h2 m
   |some o=>rw[List.filterMap_cons_some (b:=(a,o)) (by rw[q];rfl),RB,R3]
  ·have go:((b::l).filterMap λb=>(f b).map λo=>(b,o)).lookup a=(l.filterMap λb=>(f b).map λo=>(b,o)).lookup a:=by
    cases q:f b with
    |none=>rw[List.filterMap_cons_none (by rw[q];rfl)]
    |some o=>rw[List.filterMap_cons_some (b:=(b,o)) (by rw[q];rfl),RB,R5.mpr e]
   rw[go];exact⟨λh=>h1 ((P4.mp h).resolve_left e),λh=>h2 λm=>h (mt m)⟩
theorem Ma:lk (fu S)=dK S:=funext λa=>by
 refine U2 (uH (f:=dK S) (a:=a) (List.range S.n)) λh1 h2=>?_;by_cases h:a<S.n
 ·exact h1 (QM.mpr h)
 ·refine(h2 λm=>h (QM.mp m)).trans ?_;delta dK
  rw[show blt a S.n=false from Qj.mpr λe=>h (P6 e)]
theorem IT:(fu S).In S.abs.heap:=λa o e=>by
 have e:dK S a=some o:=(QX Ma a).symm.trans e;unfold dK at e;cases q:blt a S.n with
 |false=>rw[q]at e;exact ah e
 |true=>rw[q]at e;refine X2 (Qm.mp e) λo' h1 h2=>?_;exact(abs_get (P6 q) h1).trans h2
theorem G8{α β:Type}{a c:α}{b d:β}(h:(a,b)=(c,d)):a=c∧b=d:=⟨Qb Prod.fst h,Qb Prod.snd h⟩
theorem xy:jT aU (fu (cJ w os))∧mw aU (fu (cJ w os)):=by have e:lk (fu (cJ w os))=dK (cJ w os):=Ma;refine U2 (G8 (Ib w os)) λa1 a2=>?_;refine U2 (G8 (Po w os)) λb1 b2=>?_;have q:=OQ w os;have v:=IK w os;have c:=Od w os;have v3:=Pf w os;rw[← e]at a1 a2 b1 b2 q v c v3;exact⟨⟨⟨v,a1,a2⟩,c,OG w os⟩,⟨Pe w os,q,N5 w os,O6 w os,OJ w os,⟨v3,b1,b2⟩,Ol w os,O0 w os⟩⟩
theorem Kz:vP aU:=⟨⟨Pw,Py⟩,Px⟩
theorem JP:BW aU:=⟨⟨Pp,PE⟩,PC⟩
theorem mB{pos':Pos}(h:lB w n S pos l=some (.next,S',cE,pos')):segRun treeTable p0 w 11 (some (.ref 6)) 1 n S.abs (piecesOf l BM cE pos [topFrame pQ])=some (.next,S'.abs,cE,pos'):=by unfold lB yp at h;rw[← Fast.te10110043849684766642,← Fast.te14364793385576792824]at h;exact segRun_of h
theorem OE(w:World)(os:OsState):lB w 1500 (fy w os) pQ (aU.take 56)=some (.next,ki w.params (fy w os),cE,GH):=by
 have e:=World.withFollow_self w fC;cases hb:w.params.followText fC with
 |false=>rw[hb]at e;have:=Bn w os;rw[e]at this;exact this
 |true=>rw[hb]at e;have:=DI w os;rw[e]at this;exact this
theorem tn:aU.take 56++((aU.drop 56).take 35++((aU.drop 91).take 34++((aU.drop 125).take 2++((aU.drop 127).take 24++((aU.drop 151).take 28++[])))))=aU:=by kernel_rfl
noncomputable abbrev j6:Nat:=12+(1+(1500+(1250+(1000+(1200+(700+(800+2)))))))
theorem HA(w:World)(os:OsState):topRun treeTable p0 w 11 (some (.ref 6)) j6 (qe w os) (topStub p0)=some (cJ w os).abs:=by have pre:=J9 w os;have blk:=En w os;unfold yp at pre blk;rw[← Fast.te15667345088766844465,← Fast.te11892475500146522536,← Fast.te14364793385576792824]at pre;rw[← Fast.te10110043849684766642,← Fast.te14364793385576792824]at blk;refine go_top pre (piece_block (segRun_of blk) ?_);have k:=piece_app (mB (OE w os)) (piece_app (mB (OH w os)) (piece_app (mB (O7 w os)) (piece_app (mB (NU w os)) (piece_app (mB (OZ w os)) (piece_app (mB (OW w os)) (piece_nil (LI w _ Nz)))))));rw[tn]at k;exact k
theorem IG{s₀:Shared}(h1:(s₀.heap.isNs mainGlobals&&s₀.gens.size==0)=true) (hr:topRun treeTable p w s₀.heap.objs.size (s₀.heap.nsMap mainGlobals "__annotations__") N s₀ (topStub p)=some s₁) (h2:(staticsOk (importedModules p.main.body) s₀.heap s₁.heap&&namesBound p s₁.heap&&gensDone s₁&&laidKept s₀.heap s₁.heap)=true):topFrom treeTable p w N s₀=some s₁:=by
 delta topFrom
 rw[h1];dsimp only;rw[hr];show(match staticsOk (importedModules p.main.body) s₀.heap s₁.heap&&namesBound p s₁.heap&&gensDone s₁&&laidKept s₀.heap s₁.heap with|true=>some s₁|false=>none)=_;rw[h2]
theorem OS{a d:Bool}(h:(a,b,c,d)=(true,true,true,true)):(a&&b&&c&&d)=true:=by cases h;rfl
theorem Ho(w:World)(os:OsState):topFrom treeTable p0 w j6 (qe w os)=some (cJ w os).abs:=by
 have z:=Il w;have z1:(boot_heap w.params).isNs mainGlobals=true:=Qb (·.1) z;have z2:(boot_heap w.params).objs.size=11:=Qb (·.2.1) z;have z3:(boot_heap w.params).nsMap mainGlobals "__annotations__"=some (.ref 6):=Qb (·.2.2) z;refine IG ?_ ?_ (OS (KZ w os))
 ·show((boot_heap w.params).isNs mainGlobals&&true)=true;rw[z1];rfl
 ·show topRun treeTable p0 w (boot_heap w.params).objs.size ((boot_heap w.params).nsMap mainGlobals "__annotations__") j6 (qe w os) (topStub p0)=_;rw[z2,z3];exact HA w os
def Ft(s:Shared):Prop:=∃K:Frag,K.In s.heap∧jT aU K∧mw aU K
theorem MX:LeftO p0 q0 pH (λz=>true) Ft (λz=>True) j6:=λw=>by
 obtain⟨⟨h,gs,d,k,os⟩,e,e'⟩:=Qr.mp (boot_open (p:=p0) (N:=j6) (by kernel_rfl) rfl (λs=>by kernel_rfl) w);cases e';delta openEnds
 rw[e];show(topFrom treeTable p0 w j6 (qe w os)).map _=_;rw[Ho];have l:=Lc w os;rw[← Fast.te4187177175401517315]at l;have f:Ft (cJ w os).abs=True:=eq_true ⟨_,IT,xy.1,xy.2⟩;show some (openSeen q0 pH (importedModules p0.main.body) (λz=>true) true (cJ w os).abs,Ft (cJ w os).abs)=_;rw[l,f]
end
theorem OP:∃d kwd,defOf q0 PySem.Challenge.rw_xm0524_01.row.name=some (d,kwd)∧PySem.Challenge.rw_xm0524_01.row.prog.theDef PySem.Challenge.rw_xm0524_01.row.name=some (d.params,d.body,d.scope)∧kwWritten? d.params.kwonlyargs d.params.kw_defaults=some kwd:=⟨_,_,by rfl,by rfl,by rfl⟩
theorem I5:chainsOk q0=true:=by decide +kernel
end Kk
open PySem PySem.W
namespace Kk
theorem said0:PySem.Challenge.rw_xm0524_01.wellSaid=true:=by
 delta OpenLaw.wellSaid OpenRow.wellSaid OpenRow.partSaid looksOpen
 repeat' with_reducible refine look_both ?_ ?_
 all_goals
  try rw[Fast.te11788848310118352699]
  try rw[Fast.te12862048085361865435]
  try rw[Fast.te8377067652309620493]
  try rw[R.allR_eq]
  try rw[Fast.te18344453789297297638]
  try rw[Fast.te3471404346716756564]
  try rw[Fast.sDec_eq]
  try rw[Fast.te14412699480532031325]
  try rw[Fast.te8326940854005059898]
  try rw[Fast.te5923862056798008813]
  try rw[Fast.te17691160309236699985]
  try rw[R.filterR_eq]
  try rw[Fast.te13343964577679436407]
  try rw[Fast.te17119622794617984870]
  try rw[Fast.te17868728402115742887]
  try rw[Fast.te4857012375875476094]
  try rw[Fast.named_eq]
  try rw[Fast.te13582783067957832011]
  try rw[R.anyR_eq]
  try rw[Fast.te12749700546528644094]
  try rw[Fast.te10501279942588096481]
  try rw[Fast.te8179353310426384613]
  try rw[Fast.te797321630700447069]
  try rw[Fast.te9572597257264208301]
  try rw[Fast.te9558739934217749035]
  try rw[Fast.te16286561074155671207]
  try rw[Fast.te6984425678791042302]
  try rw[Fast.te17095254045102204799]
  try rw[Fast.te12879404354523853263]
  try rw[Fast.te482687673346738481]
  try rw[Fast.te10792542408131684335]
  try rw[Fast.te7723801398212525404]
  as_aux_lemma=>kernel_rfl
end Kk
namespace Kk
open PySem PySem.W PyProof.Rows PySem.Calls
noncomputable abbrev oD:=PySem.Challenge.rw_xm0524_01.row
theorem M3(s:Shared):RecFacts oD.records s.heap:=recFacts_of (R:=oD.records) (s:=s) rfl
theorem F7:opening p0=plainProg p0.main.scope.names:=by kernel_rfl
theorem Kc:bearImports (behindTheImports p0)=false:=by kernel_rfl
theorem MB:(plainProg p0.main.scope.names).tameTopW=true:=by kernel_rfl
theorem Mw:oD.prog.bare:=(⟨rfl,rfl,rfl,rfl,rfl,by kernel_rfl⟩:p0.bare)
theorem M7:LeftO oD.prog q0 pH (λz=>true) Ft (λz=>True) j6:=MX
theorem JL:opensWell oD.prog=true:=by show((opening p0).tameTopW && !bearImports (behindTheImports p0))=true;rw[F7,Kc,MB];rfl
theorem Ji:(frees oD.toRowW&&oD.within.isEmpty)=true:=by kernel_rfl
theorem PB:(chainsOk q0&&opensWell oD.prog&&(frees oD.toRowW&&oD.within.isEmpty))=true:=by rw[I5,Ji,JL]
theorem Pk:PySem.Challenge.rw_xm0524_01.row.toRowW.promised:=by w_witness2
theorem row_holds(said:oD.wellSaid=true):oD.Holds:=by
 refine Y3 OP λd kwd h1 h2 h3=>?_;refine PySem.W.holds_openX (XP:=λ_ _=>True) M7 (λ_ _=>trivial) (λ_ _ _ _ _=>trivial) h1 h2 h3 (λs _=>M3 s) rfl said PB Mw Pk ?_;intro w s₀ s₁ mg mb G e0 fa o pm cd doc dV kV ho hd hcd hD hmg hg args vals as L hpre hlay hrd hwl hlo;refine X3 (of_eq_true e0) λK X FA FB=>?_;have X:=X.keeps L.keeps;have hlaw:mg "law"=some (.ref fa):=by rw[defOf_name h1]at hmg;exact hmg
 clear ho hd hcd hD;wrow_args hpre hlay hrd hwl hlo
 rename_i ns _ _ _ _ _ _ _ a vs _ hL _ _ _ hI _ hn _;refine wpAny_mono (FX FA FB Kz JP X G.T.g G.T.b G.T.nolimit G.T.builtins hlaw (by omega) hI (PySem.W.X.script_obj L hL) (J7 (by omega) (Qi _) λ_=>rfl)) (λv s' hv=>?_) λ_ _ hf=>hf.elim;obtain⟨rfl,hk,ho,hge⟩:=hv;refine⟨.inl ⟨_,.bool true,[],rfl,λ_=>rfl,.bool true,?_,λ_=>⟨R9,λ_ h=>(nomatch h)⟩⟩,.of_keep hk,ho,.of_eq (hge.trans hg)⟩;delta RowW.claim
 dsimp only;rw[Rq];refine⟨by first|rfl|kernel_rfl|decide,?_⟩;first|rfl|kernel_rfl|(simp;done)
end Kk
end Tactic
theorem PySem.Challenge.cw_xm0524_01_holds : PySem.Challenge.rw_xm0524_01.Holds := by
 exact PySem.W.holds_law Tactic.Kk.said0 Tactic.Kk.row_holds
