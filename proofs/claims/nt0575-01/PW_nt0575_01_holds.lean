import PyProof.Rows.All
import Wide.All
import OpenK.AllK
import Wide.FinOn
import Lean
import PySem.Challenge.RW_nt0575_01
set_option Elab.async false
set_option maxRecDepth 100000
set_option maxHeartbeats 4000000
set_option linter.unusedVariables false
set_option linter.unusedSimpArgs false
set_option genSizeOf false
set_option genCtorIdx false
set_option genInjectivity false
set_option bootstrap.genMatcherCode false
set_option compiler.extract_closed false
open List (mem_map range replicate mem_append mem_append_left mem_append_right map_append getElem?_eq_getElem take_nil drop_nil map_cons getElem?_append_left mem_iff_getElem? getElem?_set length_set getElem?_eq_none length_append foldl replicate_succ foldl_cons flatten_cons find?_cons nodup_append map_nil mem_singleton getD_eq_getElem?_getD getElem?_map any_cons isEmpty_iff length_map mem_range getElem_mem ext_getElem? length_cons nodup_nil filter_cons nodup_cons lookup_cons zip_cons_cons length_drop getElem?_drop forIn_cons append_nil mem_filterMap mem_cons not_mem_nil drop_drop drop_eq_getElem_cons forIn_nil mem_reverse mem_of_mem_take Nodup getElem?_set_self mem_flatMap map_inj_left drop_eq_nil_iff append_assoc getElem?_range mem_cons_self length_range map_const' getElem_map getElem_range range_succ getElem?_inj sum_append sum_cons Perm ext_getElem pairwise_map length_take take_add_one take_length map_take sum_replicate_nat)
open Nat (ble log2_lt le_add_right zero_le lt_succ_of_lt le_of_not_lt le_succ not_lt_zero lt_of_succ_lt_succ le_add_left succ_ne_zero lt_of_succ_lt ble_eq_true_of_le lt_of_not_le le_of_lt_succ succ_pos mod_lt div_le_div_right div_pos two_pow_pos sub_le eq_zero_of_not_pos succ_le_succ)
open Int (natCast_nonneg toNat_natCast ofNat_lt ofNat_le ofNat natCast_succ ofNat_fmod ofNat_fdiv natCast_mul natCast_add ofNat_sub)
open Bool (false_eq_true true_bne false_bne or_eq_true_iff not_eq_true' and_eq_true_iff)
open Option (map_eq_some_iff isSome_map isSome_iff_exists elim none_or isNone_iff_eq_none)
namespace Mine.Internal
def ao:=@Nat.le_trans
def aw:=@PySem.wpAny_bind
def a7:=@PySem.wpAny_pure
def bE:=@Option.some.inj
def eK:=@Nat.le_of_ble_eq_true
def cF:=@Nat.le_of_lt
def gm:=@PySem.Heap.get?_push_of_some
def gk:=@PySem.Heap.get?_push_size
def fX:=@List.mem_cons_of_mem
def fh:=@of_decide_eq_true
def dW:=@List.map_congr_left
def d5:=@Nat.lt_of_lt_of_le
def eO:=@List.mem_cons_self
def fP:=@List.mem_of_getElem?
def fx:=@Nat.lt_succ_self
def f7:=@Int.natCast_nonneg
def aP{a b:Bool}:=Iff.mp (@Bool.and_eq_true_iff a b)
def bz{α:Type _}{a b:α}:=Iff.mp (@List.mem_singleton α a b)
def bt{α:Type _}{b:α}{l:List α}{a:α}:=Iff.mp (@List.mem_cons α b l a)
def d0{α:Type _}{a:α}{l:List α}{i:Nat}(h:l[i]?=some a):=List.getElem?_eq_some_iff.mp h
def fO{α:Type _}{p:α->Bool}{l:List α}:=Iff.mp (@List.all_eq_true α p l)
def dH{n m:Nat}:=Iff.mpr (@Nat.not_lt n m)
section
theorem cC{T:Prop}(h:∀G:Prop,(T->G)->G):T:=h T id
section
variable{P:Prop}{α β γ δ ε ζ η θ:Sort _}
theorem cH{p0 p1:Prop}(h:p0/\p1)(k:p0->p1->P):P:=k h.1 h.2
theorem eL{p0:α->Prop}(h:∃u,p0 u)(k:∀u,p0 u->P):P:=h.elim λu h=>k u h
theorem bH{p0 p1 p2:Prop}(h:p0/\p1/\p2)(k:p0->p1->p2->P):P:=k h.1 h.2.1 h.2.2
theorem pP{p0:Prop}{p1:α->Prop}(h:p0/\∃u,p1 u)(k:p0->∀u,p1 u->P):P:=by obtain⟨h0,u,h1⟩:=h;exact k h0 u h1
theorem ak{p0 p1:α->Prop}(h:∃u,p0 u/\p1 u)(k:∀u,p0 u->p1 u->P):P:=h.elim λu h=>k u h.1 h.2
theorem aT{p0 p1:α->Prop}(u:α)(h0:p0 u)(h1:p1 u):∃u,p0 u/\p1 u:=⟨u,h0,h1⟩
theorem iN{p0:α->β->Prop}(h:∃u v,p0 u v)(k:∀u v,p0 u v->P):P:=h.elim λu h=>h.elim λv h=>k u v h
theorem ml{p0:α->β->Prop}(u:α)(v:β)(h0:p0 u v):∃u v,p0 u v:=⟨u,v,h0⟩
theorem g7{p0 p1 p2 p3:Prop}(h:p0/\p1/\p2/\p3)(k:p0->p1->p2->p3->P):P:=k h.1 h.2.1 h.2.2.1 h.2.2.2
theorem rB{p0 p1 p2 p3:Prop}(h0:p0)(h1:p1)(h2:p2)(h3:p3):p0/\p1/\p2/\p3:=⟨h0,h1,h2,h3⟩
theorem NB{p0 p1:Prop}{p2:α->Prop}(h:p0/\p1/\∃u,p2 u)(k:p0->p1->∀u,p2 u->P):P:=by obtain⟨h0,h1,u,h2⟩:=h;exact k h0 h1 u h2
theorem cN{p0:Prop}{p1 p2:α->Prop}(h:p0/\∃u,p1 u/\p2 u)(k:p0->∀u,p1 u->p2 u->P):P:=by obtain⟨h0,u,h1,h2⟩:=h;exact k h0 u h1 h2
theorem jn{p0:Prop}{p1 p2:α->Prop}(h0:p0)(u:α)(h1:p1 u)(h2:p2 u):p0/\∃u,p1 u/\p2 u:=⟨h0,u,h1,h2⟩
theorem cA{p0 p1 p2:α->Prop}(h:∃u,p0 u/\p1 u/\p2 u)(k:∀u,p0 u->p1 u->p2 u->P):P:=h.elim λu h=>k u h.1 h.2.1 h.2.2
theorem gw{p0 p1 p2:α->Prop}(u:α)(h0:p0 u)(h1:p1 u)(h2:p2 u):∃u,p0 u/\p1 u/\p2 u:=⟨u,h0,h1,h2⟩
theorem NA{p0:α->Prop}{p1:α->β->Prop}(h:∃u,p0 u/\∃v,p1 u v)(k:∀u,p0 u->∀v,p1 u v->P):P:=by obtain⟨u,h0,v,h1⟩:=h;exact k u h0 v h1
theorem cw{p0 p1:α->β->Prop}(h:∃u v,p0 u v/\p1 u v)(k:∀u v,p0 u v->p1 u v->P):P:=h.elim λu h=>h.elim λv h=>k u v h.1 h.2
theorem ef{p0 p1:α->β->Prop}(u:α)(v:β)(h0:p0 u v)(h1:p1 u v):∃u v,p0 u v/\p1 u v:=⟨u,v,h0,h1⟩
theorem mR{p0:α->β->γ->Prop}(h:∃u v w,p0 u v w)(k:∀u v w,p0 u v w->P):P:=h.elim λu h=>h.elim λv h=>h.elim λw h=>k u v w h
theorem ve{p0:α->β->γ->Prop}(u:α)(v:β)(w:γ)(h0:p0 u v w):∃u v w,p0 u v w:=⟨u,v,w,h0⟩
theorem qo{p0 p1 p2 p3 p4:Prop}(h:p0/\p1/\p2/\p3/\p4)(k:p0->p1->p2->p3->p4->P):P:=k h.1 h.2.1 h.2.2.1 h.2.2.2.1 h.2.2.2.2
theorem lL{p0:Prop}{p1 p2 p3:α->Prop}(h:p0/\∃u,p1 u/\p2 u/\p3 u)(k:p0->∀u,p1 u->p2 u->p3 u->P):P:=by obtain⟨h0,u,h1,h2,h3⟩:=h;exact k h0 u h1 h2 h3
theorem i3{p0:Prop}{p1 p2 p3:α->Prop}(h0:p0)(u:α)(h1:p1 u)(h2:p2 u)(h3:p3 u):p0/\∃u,p1 u/\p2 u/\p3 u:=⟨h0,u,h1,h2,h3⟩
theorem fT{p0:Prop}{p1 p2:α->β->Prop}(h:p0/\∃u v,p1 u v/\p2 u v)(k:p0->∀u v,p1 u v->p2 u v->P):P:=by obtain⟨h0,u,v,h1,h2⟩:=h;exact k h0 u v h1 h2
theorem nM{p0 p1 p2 p3:α->Prop}(h:∃u,p0 u/\p1 u/\p2 u/\p3 u)(k:∀u,p0 u->p1 u->p2 u->p3 u->P):P:=h.elim λu h=>k u h.1 h.2.1 h.2.2.1 h.2.2.2
theorem vg{p0 p1 p2 p3:α->Prop}(u:α)(h0:p0 u)(h1:p1 u)(h2:p2 u)(h3:p3 u):∃u,p0 u/\p1 u/\p2 u/\p3 u:=⟨u,h0,h1,h2,h3⟩
theorem JO{p0 p1:α->Prop}{p2:α->β->Prop}(h:∃u,p0 u/\p1 u/\∃v,p2 u v)(k:∀u,p0 u->p1 u->∀v,p2 u v->P):P:=by obtain⟨u,h0,h1,v,h2⟩:=h;exact k u h0 h1 v h2
theorem A6{p0:α->Prop}{p1 p2:α->β->Prop}(h:∃u,p0 u/\∃v,p1 u v/\p2 u v)(k:∀u,p0 u->∀v,p1 u v->p2 u v->P):P:=by obtain⟨u,h0,v,h1,h2⟩:=h;exact k u h0 v h1 h2
theorem bf{p0 p1 p2:α->β->Prop}(h:∃u v,p0 u v/\p1 u v/\p2 u v)(k:∀u v,p0 u v->p1 u v->p2 u v->P):P:=h.elim λu h=>h.elim λv h=>k u v h.1 h.2.1 h.2.2
theorem i2{p0 p1 p2:α->β->Prop}(u:α)(v:β)(h0:p0 u v)(h1:p1 u v)(h2:p2 u v):∃u v,p0 u v/\p1 u v/\p2 u v:=⟨u,v,h0,h1,h2⟩
theorem fD{p0 p1:α->β->γ->Prop}(h:∃u v w,p0 u v w/\p1 u v w)(k:∀u v w,p0 u v w->p1 u v w->P):P:=h.elim λu h=>h.elim λv h=>h.elim λw h=>k u v w h.1 h.2
theorem Jx{p0 p1:α->β->γ->Prop}(u:α)(v:β)(w:γ)(h0:p0 u v w)(h1:p1 u v w):∃u v w,p0 u v w/\p1 u v w:=⟨u,v,w,h0,h1⟩
theorem A5{p0:α->β->γ->δ->Prop}(h:∃u v w x,p0 u v w x)(k:∀u v w x,p0 u v w x->P):P:=h.elim λu h=>h.elim λv h=>h.elim λw h=>h.elim λx h=>k u v w x h
theorem nE{p0:α->β->γ->δ->Prop}(u:α)(v:β)(w:γ)(x:δ)(h0:p0 u v w x):∃u v w x,p0 u v w x:=⟨u,v,w,x,h0⟩
theorem nN{p0:Prop}{p1 p2 p3:α->β->Prop}(h:p0/\∃u v,p1 u v/\p2 u v/\p3 u v)(k:p0->∀u v,p1 u v->p2 u v->p3 u v->P):P:=by obtain⟨h0,u,v,h1,h2,h3⟩:=h;exact k h0 u v h1 h2 h3
theorem jN{p0:Prop}{p1 p2 p3:α->β->Prop}(h0:p0)(u:α)(v:β)(h1:p1 u v)(h2:p2 u v)(h3:p3 u v):p0/\∃u v,p1 u v/\p2 u v/\p3 u v:=⟨h0,u,v,h1,h2,h3⟩
theorem GU{p0:Prop}{p1:α->β->γ->δ->Prop}(h:p0/\∃u v w x,p1 u v w x)(k:p0->∀u v w x,p1 u v w x->P):P:=by obtain⟨h0,u,v,w,x,h1⟩:=h;exact k h0 u v w x h1
theorem rR{p0 p1 p2 p3 p4:α->Prop}(h:∃u,p0 u/\p1 u/\p2 u/\p3 u/\p4 u)(k:∀u,p0 u->p1 u->p2 u->p3 u->p4 u->P):P:=h.elim λu h=>k u h.1 h.2.1 h.2.2.1 h.2.2.2.1 h.2.2.2.2
theorem Gd{p0 p1 p2 p3 p4:α->Prop}(u:α)(h0:p0 u)(h1:p1 u)(h2:p2 u)(h3:p3 u)(h4:p4 u):∃u,p0 u/\p1 u/\p2 u/\p3 u/\p4 u:=⟨u,h0,h1,h2,h3,h4⟩
theorem bj{p0 p1 p2 p3:α->β->Prop}(h:∃u v,p0 u v/\p1 u v/\p2 u v/\p3 u v)(k:∀u v,p0 u v->p1 u v->p2 u v->p3 u v->P):P:=h.elim λu h=>h.elim λv h=>k u v h.1 h.2.1 h.2.2.1 h.2.2.2
theorem dt{p0 p1 p2 p3:α->β->Prop}(u:α)(v:β)(h0:p0 u v)(h1:p1 u v)(h2:p2 u v)(h3:p3 u v):∃u v,p0 u v/\p1 u v/\p2 u v/\p3 u v:=⟨u,v,h0,h1,h2,h3⟩
theorem fS{p0 p1 p2:α->β->γ->Prop}(h:∃u v w,p0 u v w/\p1 u v w/\p2 u v w)(k:∀u v w,p0 u v w->p1 u v w->p2 u v w->P):P:=h.elim λu h=>h.elim λv h=>h.elim λw h=>k u v w h.1 h.2.1 h.2.2
theorem nF{p0 p1 p2:α->β->γ->Prop}(u:α)(v:β)(w:γ)(h0:p0 u v w)(h1:p1 u v w)(h2:p2 u v w):∃u v w,p0 u v w/\p1 u v w/\p2 u v w:=⟨u,v,w,h0,h1,h2⟩
theorem nK{p0 p1:α->β->γ->δ->Prop}(h:∃u v w x,p0 u v w x/\p1 u v w x)(k:∀u v w x,p0 u v w x->p1 u v w x->P):P:=h.elim λu h=>h.elim λv h=>h.elim λw h=>h.elim λx h=>k u v w x h.1 h.2
theorem CM{p0:Prop}{p1 p2 p3:α->β->γ->Prop}(h:p0/\∃u v w,p1 u v w/\p2 u v w/\p3 u v w)(k:p0->∀u v w,p1 u v w->p2 u v w->p3 u v w->P):P:=by obtain⟨h0,u,v,w,h1,h2,h3⟩:=h;exact k h0 u v w h1 h2 h3
theorem Cs{p0:α->Prop}{p1 p2 p3:α->β->γ->Prop}(u:α)(h0:p0 u)(v:β)(w:γ)(h1:p1 u v w)(h2:p2 u v w)(h3:p3 u v w):∃u,p0 u/\∃v w,p1 u v w/\p2 u v w/\p3 u v w:=⟨u,h0,v,w,h1,h2,h3⟩
theorem Cr{p0:α->Prop}{p1:α->β->γ->δ->ε->Prop}(u:α)(h0:p0 u)(v:β)(w:γ)(x:δ)(y:ε)(h1:p1 u v w x y):∃u,p0 u/\∃v w x y,p1 u v w x y:=⟨u,h0,v,w,x,y,h1⟩
theorem dh{p0 p1 p2 p3 p4:α->β->Prop}(h:∃u v,p0 u v/\p1 u v/\p2 u v/\p3 u v/\p4 u v)(k:∀u v,p0 u v->p1 u v->p2 u v->p3 u v->p4 u v->P):P:=h.elim λu h=>h.elim λv h=>k u v h.1 h.2.1 h.2.2.1 h.2.2.2.1 h.2.2.2.2
theorem dg{p0 p1 p2 p3 p4:α->β->Prop}(u:α)(v:β)(h0:p0 u v)(h1:p1 u v)(h2:p2 u v)(h3:p3 u v)(h4:p4 u v):∃u v,p0 u v/\p1 u v/\p2 u v/\p3 u v/\p4 u v:=⟨u,v,h0,h1,h2,h3,h4⟩
theorem gz{p0 p1 p2 p3:α->β->γ->Prop}(h:∃u v w,p0 u v w/\p1 u v w/\p2 u v w/\p3 u v w)(k:∀u v w,p0 u v w->p1 u v w->p2 u v w->p3 u v w->P):P:=h.elim λu h=>h.elim λv h=>h.elim λw h=>k u v w h.1 h.2.1 h.2.2.1 h.2.2.2
theorem oK{p0 p1 p2 p3:α->β->γ->Prop}(u:α)(v:β)(w:γ)(h0:p0 u v w)(h1:p1 u v w)(h2:p2 u v w)(h3:p3 u v w):∃u v w,p0 u v w/\p1 u v w/\p2 u v w/\p3 u v w:=⟨u,v,w,h0,h1,h2,h3⟩
theorem jR{p0 p1 p2:α->β->γ->δ->Prop}(h:∃u v w x,p0 u v w x/\p1 u v w x/\p2 u v w x)(k:∀u v w x,p0 u v w x->p1 u v w x->p2 u v w x->P):P:=h.elim λu h=>h.elim λv h=>h.elim λw h=>h.elim λx h=>k u v w x h.1 h.2.1 h.2.2
theorem tO{p0 p1 p2:α->β->γ->δ->Prop}(u:α)(v:β)(w:γ)(x:δ)(h0:p0 u v w x)(h1:p1 u v w x)(h2:p2 u v w x):∃u v w x,p0 u v w x/\p1 u v w x/\p2 u v w x:=⟨u,v,w,x,h0,h1,h2⟩
theorem iw{p0:α->β->γ->δ->ε->ζ->Prop}(h:∃u v w x y z,p0 u v w x y z)(k:∀u v w x y z,p0 u v w x y z->P):P:=h.elim λu h=>h.elim λv h=>h.elim λw h=>h.elim λx h=>h.elim λy h=>h.elim λz h=>k u v w x y z h
theorem zS{p0:Prop}{p1 p2 p3 p4:α->β->γ->Prop}(h:p0/\∃u v w,p1 u v w/\p2 u v w/\p3 u v w/\p4 u v w)(k:p0->∀u v w,p1 u v w->p2 u v w->p3 u v w->p4 u v w->P):P:=by obtain⟨h0,u,v,w,h1,h2,h3,h4⟩:=h;exact k h0 u v w h1 h2 h3 h4
theorem gA{p0 p1 p2 p3 p4 p5:α->β->Prop}(h:∃u v,p0 u v/\p1 u v/\p2 u v/\p3 u v/\p4 u v/\p5 u v)(k:∀u v,p0 u v->p1 u v->p2 u v->p3 u v->p4 u v->p5 u v->P):P:=h.elim λu h=>h.elim λv h=>k u v h.1 h.2.1 h.2.2.1 h.2.2.2.1 h.2.2.2.2.1 h.2.2.2.2.2
theorem zD{p0 p1 p2 p3 p4:α->β->γ->Prop}(u:α)(v:β)(w:γ)(h0:p0 u v w)(h1:p1 u v w)(h2:p2 u v w)(h3:p3 u v w)(h4:p4 u v w):∃u v w,p0 u v w/\p1 u v w/\p2 u v w/\p3 u v w/\p4 u v w:=⟨u,v,w,h0,h1,h2,h3,h4⟩
theorem mQ{p0 p1 p2 p3:α->β->γ->δ->Prop}(h:∃u v w x,p0 u v w x/\p1 u v w x/\p2 u v w x/\p3 u v w x)(k:∀u v w x,p0 u v w x->p1 u v w x->p2 u v w x->p3 u v w x->P):P:=h.elim λu h=>h.elim λv h=>h.elim λw h=>h.elim λx h=>k u v w x h.1 h.2.1 h.2.2.1 h.2.2.2
theorem zC{p0 p1 p2 p3:α->β->γ->δ->Prop}(u:α)(v:β)(w:γ)(x:δ)(h0:p0 u v w x)(h1:p1 u v w x)(h2:p2 u v w x)(h3:p3 u v w x):∃u v w x,p0 u v w x/\p1 u v w x/\p2 u v w x/\p3 u v w x:=⟨u,v,w,x,h0,h1,h2,h3⟩
theorem rQ{p0 p1 p2:α->β->γ->δ->ε->Prop}(h:∃u v w x y,p0 u v w x y/\p1 u v w x y/\p2 u v w x y)(k:∀u v w x y,p0 u v w x y->p1 u v w x y->p2 u v w x y->P):P:=h.elim λu h=>h.elim λv h=>h.elim λw h=>h.elim λx h=>h.elim λy h=>k u v w x y h.1 h.2.1 h.2.2
theorem zB{p0 p1 p2:α->β->γ->δ->ε->Prop}(u:α)(v:β)(w:γ)(x:δ)(y:ε)(h0:p0 u v w x y)(h1:p1 u v w x y)(h2:p2 u v w x y):∃u v w x y,p0 u v w x y/\p1 u v w x y/\p2 u v w x y:=⟨u,v,w,x,y,h0,h1,h2⟩
theorem mP{p0 p1:α->β->γ->δ->ε->ζ->Prop}(h:∃u v w x y z,p0 u v w x y z/\p1 u v w x y z)(k:∀u v w x y z,p0 u v w x y z->p1 u v w x y z->P):P:=h.elim λu h=>h.elim λv h=>h.elim λw h=>h.elim λx h=>h.elim λy h=>h.elim λz h=>k u v w x y z h.1 h.2
theorem ru{p0 p1:α->β->γ->δ->ε->ζ->Prop}(u:α)(v:β)(w:γ)(x:δ)(y:ε)(z:ζ)(h0:p0 u v w x y z)(h1:p1 u v w x y z):∃u v w x y z,p0 u v w x y z/\p1 u v w x y z:=⟨u,v,w,x,y,z,h0,h1⟩
theorem gP{p0:Prop}{p1 p2 p3 p4 p5:α->β->γ->Prop}(h:p0/\∃u v w,p1 u v w/\p2 u v w/\p3 u v w/\p4 u v w/\p5 u v w)(k:p0->∀u v w,p1 u v w->p2 u v w->p3 u v w->p4 u v w->p5 u v w->P):P:=by obtain⟨h0,u,v,w,h1,h2,h3,h4,h5⟩:=h;exact k h0 u v w h1 h2 h3 h4 h5
theorem xu{p0 p1:α->Prop}{p2 p3 p4 p5 p6:α->β->Prop}(u:α)(h0:p0 u)(h1:p1 u)(v:β)(h2:p2 u v)(h3:p3 u v)(h4:p4 u v)(h5:p5 u v)(h6:p6 u v):∃u,p0 u/\p1 u/\∃v,p2 u v/\p3 u v/\p4 u v/\p5 u v/\p6 u v:=⟨u,h0,h1,v,h2,h3,h4,h5,h6⟩
theorem i7{p0 p1 p2 p3 p4 p5:α->β->γ->Prop}(h:∃u v w,p0 u v w/\p1 u v w/\p2 u v w/\p3 u v w/\p4 u v w/\p5 u v w)(k:∀u v w,p0 u v w->p1 u v w->p2 u v w->p3 u v w->p4 u v w->p5 u v w->P):P:=h.elim λu h=>h.elim λv h=>h.elim λw h=>k u v w h.1 h.2.1 h.2.2.1 h.2.2.2.1 h.2.2.2.2.1 h.2.2.2.2.2
theorem vz{p0 p1:α->Prop}{p2 p3 p4 p5 p6 p7:α->β->Prop}(h:∃u,p0 u/\p1 u/\∃v,p2 u v/\p3 u v/\p4 u v/\p5 u v/\p6 u v/\p7 u v)(k:∀u,p0 u->p1 u->∀v,p2 u v->p3 u v->p4 u v->p5 u v->p6 u v->p7 u v->P):P:=by obtain⟨u,h0,h1,v,h2,h3,h4,h5,h6,h7⟩:=h;exact k u h0 h1 v h2 h3 h4 h5 h6 h7
theorem vy{p0 p1 p2 p3:α->β->γ->δ->ε->ζ->Prop}(h:∃u v w x y z,p0 u v w x y z/\p1 u v w x y z/\p2 u v w x y z/\p3 u v w x y z)(k:∀u v w x y z,p0 u v w x y z->p1 u v w x y z->p2 u v w x y z->p3 u v w x y z->P):P:=h.elim λu h=>h.elim λv h=>h.elim λw h=>h.elim λx h=>h.elim λy h=>h.elim λz h=>k u v w x y z h.1 h.2.1 h.2.2.1 h.2.2.2
theorem iL{p0:α->β->Prop}{p1 p2 p3 p4 p5 p6:α->β->γ->δ->ε->Prop}(u:α)(v:β)(h0:p0 u v)(w:γ)(x:δ)(y:ε)(h1:p1 u v w x y)(h2:p2 u v w x y)(h3:p3 u v w x y)(h4:p4 u v w x y)(h5:p5 u v w x y)(h6:p6 u v w x y):∃u v,p0 u v/\∃w x y,p1 u v w x y/\p2 u v w x y/\p3 u v w x y/\p4 u v w x y/\p5 u v w x y/\p6 u v w x y:=⟨u,v,h0,w,x,y,h1,h2,h3,h4,h5,h6⟩
theorem rO{p0 p1 p2 p3 p4:α->β->γ->δ->ε->ζ->η->Prop}(h:∃u v w x y z s,p0 u v w x y z s/\p1 u v w x y z s/\p2 u v w x y z s/\p3 u v w x y z s/\p4 u v w x y z s)(k:∀u v w x y z s,p0 u v w x y z s->p1 u v w x y z s->p2 u v w x y z s->p3 u v w x y z s->p4 u v w x y z s->P):P:=h.elim λu h=>h.elim λv h=>h.elim λw h=>h.elim λx h=>h.elim λy h=>h.elim λz h=>h.elim λs h=>k u v w x y z s h.1 h.2.1 h.2.2.1 h.2.2.2.1 h.2.2.2.2
theorem rN{p0 p1 p2 p3:α->β->γ->δ->ε->ζ->η->θ->Prop}(h:∃u v w x y z s t,p0 u v w x y z s t/\p1 u v w x y z s t/\p2 u v w x y z s t/\p3 u v w x y z s t)(k:∀u v w x y z s t,p0 u v w x y z s t->p1 u v w x y z s t->p2 u v w x y z s t->p3 u v w x y z s t->P):P:=h.elim λu h=>h.elim λv h=>h.elim λw h=>h.elim λx h=>h.elim λy h=>h.elim λz h=>h.elim λs h=>h.elim λt h=>k u v w x y z s t h.1 h.2.1 h.2.2.1 h.2.2.2
theorem rq{p0 p1 p2 p3:α->β->γ->δ->ε->ζ->η->θ->Prop}(u:α)(v:β)(w:γ)(x:δ)(y:ε)(z:ζ)(s:η)(t:θ)(h0:p0 u v w x y z s t)(h1:p1 u v w x y z s t)(h2:p2 u v w x y z s t)(h3:p3 u v w x y z s t):∃u v w x y z s t,p0 u v w x y z s t/\p1 u v w x y z s t/\p2 u v w x y z s t/\p3 u v w x y z s t:=⟨u,v,w,x,y,z,s,t,h0,h1,h2,h3⟩
theorem qf{p0 p1 p2 p3 p4 p5:α->β->γ->δ->ε->ζ->η->Prop}(u:α)(v:β)(w:γ)(x:δ)(y:ε)(z:ζ)(s:η)(h0:p0 u v w x y z s)(h1:p1 u v w x y z s)(h2:p2 u v w x y z s)(h3:p3 u v w x y z s)(h4:p4 u v w x y z s)(h5:p5 u v w x y z s):∃u v w x y z s,p0 u v w x y z s/\p1 u v w x y z s/\p2 u v w x y z s/\p3 u v w x y z s/\p4 u v w x y z s/\p5 u v w x y z s:=⟨u,v,w,x,y,z,s,h0,h1,h2,h3,h4,h5⟩
theorem jM{p0 p1 p2 p3 p4 p5 p6:α->β->γ->δ->ε->ζ->η->Prop}(u:α)(v:β)(w:γ)(x:δ)(y:ε)(z:ζ)(s:η)(h0:p0 u v w x y z s)(h1:p1 u v w x y z s)(h2:p2 u v w x y z s)(h3:p3 u v w x y z s)(h4:p4 u v w x y z s)(h5:p5 u v w x y z s)(h6:p6 u v w x y z s):∃u v w x y z s,p0 u v w x y z s/\p1 u v w x y z s/\p2 u v w x y z s/\p3 u v w x y z s/\p4 u v w x y z s/\p5 u v w x y z s/\p6 u v w x y z s:=⟨u,v,w,x,y,z,s,h0,h1,h2,h3,h4,h5,h6⟩
theorem iM{p0 p1 p2 p3 p4 p5 p6 p7 p8 p9 Qj Qi Qh Qg:α->β->Prop}(h:∃u v,p0 u v/\p1 u v/\p2 u v/\p3 u v/\p4 u v/\p5 u v/\p6 u v/\p7 u v/\p8 u v/\p9 u v/\Qj u v/\Qi u v/\Qh u v/\Qg u v)(k:∀u v,p0 u v->p1 u v->p2 u v->p3 u v->p4 u v->p5 u v->p6 u v->p7 u v->p8 u v->p9 u v->Qj u v->Qi u v->Qh u v->Qg u v->P):P:=h.elim λu h=>h.elim λv h=>k u v h.1 h.2.1 h.2.2.1 h.2.2.2.1 h.2.2.2.2.1 h.2.2.2.2.2.1 h.2.2.2.2.2.2.1 h.2.2.2.2.2.2.2.1 h.2.2.2.2.2.2.2.2.1 h.2.2.2.2.2.2.2.2.2.1 h.2.2.2.2.2.2.2.2.2.2.1 h.2.2.2.2.2.2.2.2.2.2.2.1 h.2.2.2.2.2.2.2.2.2.2.2.2.1 h.2.2.2.2.2.2.2.2.2.2.2.2.2
theorem mM{p0 p1 p2 p3 p4 p5 p6 p7 p8 p9 Qj Qi Qh Qg:α->β->Prop}(u:α)(v:β)(h0:p0 u v)(h1:p1 u v)(h2:p2 u v)(h3:p3 u v)(h4:p4 u v)(h5:p5 u v)(h6:p6 u v)(h7:p7 u v)(h8:p8 u v)(h9:p9 u v)(YB:Qj u v)(YA:Qi u v)(Yz:Qh u v)(Yy:Qg u v):∃u v,p0 u v/\p1 u v/\p2 u v/\p3 u v/\p4 u v/\p5 u v/\p6 u v/\p7 u v/\p8 u v/\p9 u v/\Qj u v/\Qi u v/\Qh u v/\Qg u v:=⟨u,v,h0,h1,h2,h3,h4,h5,h6,h7,h8,h9,YB,YA,Yz,Yy⟩
theorem A7{p0 p1:Prop}{p2 p3:α->Prop}(h:p0/\p1/\∃u,p2 u/\p3 u)(k:p0->p1->∀u,p2 u->p3 u->P):P:=by obtain⟨h0,h1,u,h2,h3⟩:=h;exact k h0 h1 u h2 h3
theorem AS{p0 p1:Prop}{p2 p3:α->Prop}(h0:p0)(h1:p1)(u:α)(h2:p2 u)(h3:p3 u):p0/\p1/\∃u,p2 u/\p3 u:=⟨h0,h1,u,h2,h3⟩
theorem A8{p0 p1 p2:Prop}{p3:α->Prop}(h:p0/\p1/\p2/\∃u,p3 u)(k:p0->p1->p2->∀u,p3 u->P):P:=by obtain⟨h0,h1,h2,u,h3⟩:=h;exact k h0 h1 h2 u h3
theorem AU{p0 p1 p2:Prop}{p3:α->Prop}(h0:p0)(h1:p1)(h2:p2)(u:α)(h3:p3 u):p0/\p1/\p2/\∃u,p3 u:=⟨h0,h1,h2,u,h3⟩
theorem gO{p0 p1 p2:α->β->γ->δ->ε->ζ->Prop}(h:∃u v w x y z,p0 u v w x y z/\p1 u v w x y z/\p2 u v w x y z)(k:∀u v w x y z,p0 u v w x y z->p1 u v w x y z->p2 u v w x y z->P):P:=h.elim λu h=>h.elim λv h=>h.elim λw h=>h.elim λx h=>h.elim λy h=>h.elim λz h=>k u v w x y z h.1 h.2.1 h.2.2
theorem pO{p0 p1 p2 p3 p4 p5 p6:α->β->Prop}(h:∃u v,p0 u v/\p1 u v/\p2 u v/\p3 u v/\p4 u v/\p5 u v/\p6 u v)(k:∀u v,p0 u v->p1 u v->p2 u v->p3 u v->p4 u v->p5 u v->p6 u v->P):P:=h.elim λu h=>h.elim λv h=>k u v h.1 h.2.1 h.2.2.1 h.2.2.2.1 h.2.2.2.2.1 h.2.2.2.2.2.1 h.2.2.2.2.2.2
theorem nL{p0 p1 p2 p3 p4 p5 p6 p7:α->β->Prop}(h:∃u v,p0 u v/\p1 u v/\p2 u v/\p3 u v/\p4 u v/\p5 u v/\p6 u v/\p7 u v)(k:∀u v,p0 u v->p1 u v->p2 u v->p3 u v->p4 u v->p5 u v->p6 u v->p7 u v->P):P:=h.elim λu h=>h.elim λv h=>k u v h.1 h.2.1 h.2.2.1 h.2.2.2.1 h.2.2.2.2.1 h.2.2.2.2.2.1 h.2.2.2.2.2.2.1 h.2.2.2.2.2.2.2
theorem vf{p0 p1 p2 p3 p4 p5 p6 p7:α->β->Prop}(u:α)(v:β)(h0:p0 u v)(h1:p1 u v)(h2:p2 u v)(h3:p3 u v)(h4:p4 u v)(h5:p5 u v)(h6:p6 u v)(h7:p7 u v):∃u v,p0 u v/\p1 u v/\p2 u v/\p3 u v/\p4 u v/\p5 u v/\p6 u v/\p7 u v:=⟨u,v,h0,h1,h2,h3,h4,h5,h6,h7⟩
theorem Gb{p0:α->β->γ->δ->ε->Prop}(u:α)(v:β)(w:γ)(x:δ)(y:ε)(h0:p0 u v w x y):∃u v w x y,p0 u v w x y:=⟨u,v,w,x,y,h0⟩
theorem rS{p0 p1:Prop}{p2 p3 p4:α->Prop}{p5:α->β->Prop}(h:p0/\p1/\∃u,p2 u/\p3 u/\p4 u/\∃v,p5 u v)(k:p0->p1->∀u,p2 u->p3 u->p4 u->∀v,p5 u v->P):P:=by obtain⟨h0,h1,u,h2,h3,h4,v,h5⟩:=h;exact k h0 h1 u h2 h3 h4 v h5
theorem ry{p0 p1:Prop}{p2 p3 p4:α->Prop}{p5:α->β->Prop}(h0:p0)(h1:p1)(u:α)(h2:p2 u)(h3:p3 u)(h4:p4 u)(v:β)(h5:p5 u v):p0/\p1/\∃u,p2 u/\p3 u/\p4 u/\∃v,p5 u v:=⟨h0,h1,u,h2,h3,h4,v,h5⟩
theorem fU{p0 p1:Prop}{p2 p3 p4 p5 p6:α->β->γ->Prop}(h:p0/\p1/\∃u v w,p2 u v w/\p3 u v w/\p4 u v w/\p5 u v w/\p6 u v w)(k:p0->p1->∀u v w,p2 u v w->p3 u v w->p4 u v w->p5 u v w->p6 u v w->P):P:=by obtain⟨h0,h1,u,v,w,h2,h3,h4,h5,h6⟩:=h;exact k h0 h1 u v w h2 h3 h4 h5 h6
theorem ik{p0 p1:Prop}{p2 p3 p4 p5 p6:α->β->γ->Prop}(h0:p0)(h1:p1)(u:α)(v:β)(w:γ)(h2:p2 u v w)(h3:p3 u v w)(h4:p4 u v w)(h5:p5 u v w)(h6:p6 u v w):p0/\p1/\∃u v w,p2 u v w/\p3 u v w/\p4 u v w/\p5 u v w/\p6 u v w:=⟨h0,h1,u,v,w,h2,h3,h4,h5,h6⟩
theorem xK{p0 p1:Prop}{p2 p3 p4:α->Prop}(h:p0/\p1/\∃u,p2 u/\p3 u/\p4 u)(k:p0->p1->∀u,p2 u->p3 u->p4 u->P):P:=by obtain⟨h0,h1,u,h2,h3,h4⟩:=h;exact k h0 h1 u h2 h3 h4
theorem rA{p0 p1:Prop}{p2 p3 p4:α->Prop}(h0:p0)(h1:p1)(u:α)(h2:p2 u)(h3:p3 u)(h4:p4 u):p0/\p1/\∃u,p2 u/\p3 u/\p4 u:=⟨h0,h1,u,h2,h3,h4⟩
theorem ix{p0 p1:Prop}{p2 p3:α->Prop}{p4:α->β->Prop}(h:p0/\p1/\∃u,p2 u/\p3 u/\∃v,p4 u v)(k:p0->p1->∀u,p2 u->p3 u->∀v,p4 u v->P):P:=by obtain⟨h0,h1,u,h2,h3,v,h4⟩:=h;exact k h0 h1 u h2 h3 v h4
theorem jO{p0 p1:Prop}{p2 p3:α->Prop}{p4:α->β->Prop}(h0:p0)(h1:p1)(u:α)(h2:p2 u)(h3:p3 u)(v:β)(h4:p4 u v):p0/\p1/\∃u,p2 u/\p3 u/\∃v,p4 u v:=⟨h0,h1,u,h2,h3,v,h4⟩
theorem nO{p0:Prop}{p1 p2 p3 p4:α->Prop}(h:p0/\∃u,p1 u/\p2 u/\p3 u/\p4 u)(k:p0->∀u,p1 u->p2 u->p3 u->p4 u->P):P:=by obtain⟨h0,u,h1,h2,h3,h4⟩:=h;exact k h0 u h1 h2 h3 h4
theorem xw{p0:Prop}{p1 p2 p3 p4:α->Prop}(h0:p0)(u:α)(h1:p1 u)(h2:p2 u)(h3:p3 u)(h4:p4 u):p0/\∃u,p1 u/\p2 u/\p3 u/\p4 u:=⟨h0,u,h1,h2,h3,h4⟩
theorem jr{p0 p1 p2 p3 p4 p5 p6 p7:α->β->γ->Prop}(h:∃u v w,p0 u v w/\p1 u v w/\p2 u v w/\p3 u v w/\p4 u v w/\p5 u v w/\p6 u v w/\p7 u v w)(k:∀u v w,p0 u v w->p1 u v w->p2 u v w->p3 u v w->p4 u v w->p5 u v w->p6 u v w->p7 u v w->P):P:=h.elim λu h=>h.elim λv h=>h.elim λw h=>k u v w h.1 h.2.1 h.2.2.1 h.2.2.2.1 h.2.2.2.2.1 h.2.2.2.2.2.1 h.2.2.2.2.2.2.1 h.2.2.2.2.2.2.2
theorem jm{p0 p1 p2 p3 p4 p5 p6 p7:α->β->γ->Prop}(u:α)(v:β)(w:γ)(h0:p0 u v w)(h1:p1 u v w)(h2:p2 u v w)(h3:p3 u v w)(h4:p4 u v w)(h5:p5 u v w)(h6:p6 u v w)(h7:p7 u v w):∃u v w,p0 u v w/\p1 u v w/\p2 u v w/\p3 u v w/\p4 u v w/\p5 u v w/\p6 u v w/\p7 u v w:=⟨u,v,w,h0,h1,h2,h3,h4,h5,h6,h7⟩
theorem rt{p0 p1:α->β->γ->δ->ε->ζ->Prop}{p2 p3 p4:α->β->γ->δ->ε->ζ->η->Prop}(u:α)(v:β)(w:γ)(x:δ)(y:ε)(z:ζ)(h0:p0 u v w x y z)(h1:p1 u v w x y z)(s:η)(h2:p2 u v w x y z s)(h3:p3 u v w x y z s)(h4:p4 u v w x y z s):∃u v w x y z,p0 u v w x y z/\p1 u v w x y z/\∃s,p2 u v w x y z s/\p3 u v w x y z s/\p4 u v w x y z s:=⟨u,v,w,x,y,z,h0,h1,s,h2,h3,h4⟩
theorem CN{p0 p1:Prop}{p2 p3 p4:α->β->Prop}(h:p0/\p1/\∃u v,p2 u v/\p3 u v/\p4 u v)(k:p0->p1->∀u v,p2 u v->p3 u v->p4 u v->P):P:=by obtain⟨h0,h1,u,v,h2,h3,h4⟩:=h;exact k h0 h1 u v h2 h3 h4
theorem tQ{p0 p1:Prop}{p2 p3 p4:α->β->Prop}(h0:p0)(h1:p1)(u:α)(v:β)(h2:p2 u v)(h3:p3 u v)(h4:p4 u v):p0/\p1/\∃u v,p2 u v/\p3 u v/\p4 u v:=⟨h0,h1,u,v,h2,h3,h4⟩
theorem nP{p0 p1:Prop}{p2 p3 p4 p5 p6 p7:α->β->Prop}(h:p0/\p1/\∃u v,p2 u v/\p3 u v/\p4 u v/\p5 u v/\p6 u v/\p7 u v)(k:p0->p1->∀u v,p2 u v->p3 u v->p4 u v->p5 u v->p6 u v->p7 u v->P):P:=by obtain⟨h0,h1,u,v,h2,h3,h4,h5,h6,h7⟩:=h;exact k h0 h1 u v h2 h3 h4 h5 h6 h7
theorem nG{p0 p1:Prop}{p2 p3 p4 p5 p6 p7:α->β->Prop}(h0:p0)(h1:p1)(u:α)(v:β)(h2:p2 u v)(h3:p3 u v)(h4:p4 u v)(h5:p5 u v)(h6:p6 u v)(h7:p7 u v):p0/\p1/\∃u v,p2 u v/\p3 u v/\p4 u v/\p5 u v/\p6 u v/\p7 u v:=⟨h0,h1,u,v,h2,h3,h4,h5,h6,h7⟩
theorem rT{p0 p1:Prop}{p2 p3 p4 p5 p6:α->Prop}(h:p0/\p1/\∃u,p2 u/\p3 u/\p4 u/\p5 u/\p6 u)(k:p0->p1->∀u,p2 u->p3 u->p4 u->p5 u->p6 u->P):P:=by obtain⟨h0,h1,u,h2,h3,h4,h5,h6⟩:=h;exact k h0 h1 u h2 h3 h4 h5 h6
theorem rz{p0 p1:Prop}{p2 p3 p4 p5 p6:α->Prop}(h0:p0)(h1:p1)(u:α)(h2:p2 u)(h3:p3 u)(h4:p4 u)(h5:p5 u)(h6:p6 u):p0/\p1/\∃u,p2 u/\p3 u/\p4 u/\p5 u/\p6 u:=⟨h0,h1,u,h2,h3,h4,h5,h6⟩
theorem tZ{p0 p1 p2:Prop}{p3 p4:α->β->Prop}(h:p0/\p1/\p2/\∃u v,p3 u v/\p4 u v)(k:p0->p1->p2->∀u v,p3 u v->p4 u v->P):P:=by obtain⟨h0,h1,h2,u,v,h3,h4⟩:=h;exact k h0 h1 h2 u v h3 h4
theorem tR{p0 p1 p2:Prop}{p3 p4:α->β->Prop}(h0:p0)(h1:p1)(h2:p2)(u:α)(v:β)(h3:p3 u v)(h4:p4 u v):p0/\p1/\p2/\∃u v,p3 u v/\p4 u v:=⟨h0,h1,h2,u,v,h3,h4⟩
theorem tY{p0 p1:Prop}{p2:α->β->γ->δ->Prop}(h:p0/\p1/\∃u v w x,p2 u v w x)(k:p0->p1->∀u v w x,p2 u v w x->P):P:=by obtain⟨h0,h1,u,v,w,x,h2⟩:=h;exact k h0 h1 u v w x h2
end
theorem cT{α:Type _}{a:α}{P:Prop}(h:none=some a):P:=by cases h
theorem IA{α:Type _}{a:α}{P:Prop}(h:some a=none):P:=by cases h
theorem mO{P:Prop}(h:false=true):P:=by cases h
theorem PA{P:Prop}(h:true=false):P:=by cases h
theorem dC{α:Type _}{β:Type _}{f:α->β}{l:List α}{b:β}{G:Prop}(h:b∈l.map f)(k:∀a,a∈l->f a=b->G):G:=ak (mem_map.mp h) k
theorem dw{α:Type _}{β:Type _}{f:α->β}{o:Option α}{b:β}{G:Prop}(h:o.map f=some b)(k:∀a,o=some a->f a=b->G):G:=ak (map_eq_some_iff.mp h) k
theorem dD{α:Type _}{β:Type _}{f:α->Option β}{o:Option α}{b:β}{G:Prop}(h:o.bind f=some b)(k:∀a,o=some a->f a=some b->G):G:=ak (Option.bind_eq_some_iff.mp h) k
theorem uc{a b:Bool}{G:Prop}(h:(a&&b)=true)(k:a=true->b=true->G):G:=cH (aP h) k
end
end Mine.Internal
set_option genCtorIdx false
set_option genInjectivity false
set_option genSizeOf false
set_option backward.match.sparseCases false
namespace Mine.Internal
open PySem
inductive V where
 |none|bool (b:Bool)|int (i:Int)|str (s:Str)|bytes (b:List UInt8)
 |tup (vs:List V)|gN (vs:List V)|hK (a b c:Int)
 |fn (n:Str)|cls (n:Str)|bi (n:String)|ty (n:String)|ref (i:Nat)
noncomputable def V.ctorIdx(v:V):Nat:=V.casesOn v 0 (λ_=>1) (λ_=>2) (λ_=>3) (λ_=>4) (λ_=>5) (λ_=>6) (λ_ _ _=>7) (λ_=>8) (λ_=>9) (λ_=>10) (λ_=>11) (λ_=>12)
theorem V.int.inj{a b:Int}(h:V.int a=V.int b):a=b:=by injection h
structure Ao where
 sc:Scope
 env:List (Str×V)
 target:Str
 elt:Expr
 pre:Option (List Stmt×Expr)
 it:Nat
inductive aL where
 |lst (vs:List V)
 |cG (es:List (Int×V)) (n:Nat)
 |jt (es:List (List Int×V))
 |ins (c:Str) (fs:List (Str×V))
 |bar (b:List UInt8)
 |set (es:List Int)
 |gen (g:Ao)
 |busy
 |sy (a c:Int) (n:Nat)
noncomputable def aL.ctorIdx(v:aL):Nat:=aL.casesOn v (λ_=>0) (λ_ _=>1) (λ_=>2) (λ_ _=>3) (λ_=>4) (λ_=>5) (λ_=>6) 7 (λ_ _ _=>8)
theorem aL.lst.inj{a b:List V}(h:aL.lst a=aL.lst b):a=b:=by injection h
noncomputable abbrev af:=List aL
noncomputable def M(α:Type):=af->Option (α×af)
namespace M
noncomputable def pure{α:Type}(a:α):M α:=λσ=>some (a,σ)
noncomputable def bind{α β:Type}(m:M α)(f:α->M β):M β:=λσ=>match m σ with|some (a,aE)=>f a aE|none=>none
noncomputable def fail{α:Type}:M α:=λ_=>none
end M
noncomputable instance:Monad M:={pure:=M.pure,bind:=M.bind}
noncomputable def cM(n:Nat):Bool:=ble n 16000000
noncomputable def dq(c:aL):M V:=λσ=>some (.ref σ.length,σ++[c])
noncomputable def dE(vs:List V):M V:=if cM vs.length then dq (.lst vs)else M.fail
noncomputable def dP(i:Nat):M aL:=λσ=>match σ[i]? with|some c=>some (c,σ)|none=>none
noncomputable def iE(i:Nat)(c:aL):M Unit:=λσ=>some ((),σ.set i c)
noncomputable def a8{α:Type}(o:Option α):M α:=λσ=>match o with|some a=>some (a,σ)|none=>none
inductive Fl where
 |next|brk|cont|ret (v:V)
noncomputable def Fl.ctorIdx(v:Fl):Nat:=Fl.casesOn v 0 1 2 (λ_=>3)
structure ar where
 own:List (Str×V)
 up:List (Str×V)
noncomputable def look(x:Str):List (Str×V)->Option V
 |[]=>none
 |(y,v)::r=>if x==y then some v else look x r
noncomputable def put(x:Str)(v:V):List (Str×V)->List (Str×V)
 |[]=>[(x,v)]
 |(y,u)::r=>if x==y then(y,v)::r else(y,u)::put x v r
structure kI where
 ps:List Str
 ds:List V
 body:List Stmt
 sc:Scope
noncomputable def rU:Const->Option V
 |.none=>some .none
 |.bool b=>some (.bool b)
 |.int i=>some (.int i)
 |.str s=>some (.str s)
 |.bytes b=>some (.bytes b)
 |_=>none
noncomputable def bU:List V->Option (List Int)
 |[]=>some []
 |.int i::r=>(bU r).map (i:: ·)
 |_::_=>none
noncomputable def QA:V->Option (List Int ⊕ Int)
 |.int i=>some (.inr i)
 |.tup vs=>(bU vs).map .inl
 |_=>none
section
variable{K:Type}[DecidableEq K]
noncomputable def aV(k:K):List (K×V)->Option V
 |[]=>none
 |(a,v)::r=>if a=k then some v else aV k r
noncomputable def iR(k:K)(v:V)(es:List (K×V)):List (K×V):=
 if es.any (λe=>decide (e.1=k))then es.map (λe=>if e.1=k then(e.1,v)else e)else es++[(k,v)]
noncomputable def Ah(k:K)(es:List (K×V)):List (K×V):=es.filter λe=>decide (e.1≠k)
end
noncomputable def fe(i:Int):Bool:=ble i.natAbs 18446744073709551615
noncomputable def FJ:List Int->List Int->Bool
 |[],[]=>false
 |[],_::_=>true
 |_::_,[]=>false
 |a::r,b::s=>if a=b then FJ r s else decide (a<b)
noncomputable def Ip(a b:V):Bool:=match QA a,QA b with
 |some (.inr x),some (.inr y)=>decide (x<y)
 |some (.inl x),some (.inl y)=>FJ x y
 |_,_=>false
noncomputable def qe{α:Type}(lt:Nat->Nat->Bool):PySem.W.KasT α->α
 |.ret a=>a
 |.ask i j k=>qe lt (k (lt i j))
noncomputable def pb(l:List V):List V:=
 if l.length<2 then l else(qe (λi j=>Ip (l.getD i .none) (l.getD j .none)) (PySem.W.kas_sort l.length)).toList.map λi=>l.getD i .none
noncomputable def mB(a b c:Int):Option Nat:=if decide (0<c)&&(Builtin.Range.small a b c&&ble ((b-a+c-1)/c).toNat 4000000)then some ((b-a+c-1)/c).toNat else none
noncomputable def j5(a b c:Int):Option (List V):=(mB a b c).map λn=>(range n).map λ(k:Nat)=>V.int (a+c*(k:Int))
noncomputable def gL:V->M (List V)
 |.tup vs=>pure vs
 |.gN vs=>pure vs
 |.ref i=>do match<-dP i with
  |.lst vs=>pure vs
  |_=>M.fail
 |_=>M.fail
noncomputable def Cd:List Int->Option Int
 |[]=>none
 |a::r=>some (r.foldl (λm x=>if m<x then x else m) a)
noncomputable def oG:List Int->Option Int
 |[]=>none
 |a::r=>some (r.foldl (λm x=>if x<m then x else m) a)
inductive gE where
 |items (vs:List V)
 |list (i k:Nat)
 |dict (i m l k:Nat)
 |gen (i:Nat)
noncomputable def gE.ctorIdx(v:gE):Nat:=gE.casesOn v (λ_=>0) (λ_ _=>1) (λ_ _ _ _=>2) (λ_=>3)
noncomputable def aQ:V->M (gE×Nat)
 |.tup vs=>pure (.items vs,vs.length+1)
 |.hK a b c=>a8 (j5 a b c)>>=λvs=>pure (.items vs,vs.length+1)
 |.bytes b=>pure (.items (b.map λx=>.int x.toNat),b.length+1)
 |.ref i=>dP i>>=λc=>match c with
  |.lst vs=>pure (.list i 0,vs.length+1)
  |.cG es n=>pure (.dict i n es.length 0,es.length+1)
  |.gen _=>pure (.gen i,64)
  |_=>M.fail
 |_=>M.fail
noncomputable def FT(v:V):M (List V):=match v with
 |.ref i=>do match<-dP i with
  |.lst vs=>pure vs
  |.cG es _=>pure (es.map λe=>.int e.1)
  |.jt es=>pure (es.map λe=>.tup (e.1.map .int))
  |_=>M.fail
 |_=>M.fail
noncomputable def vU:V->Option Int
 |.int i=>some i
 |_=>none
noncomputable def WD:V->Option Nat
 |.ref i=>some i
 |_=>none
noncomputable def S7:V->Option (List V)
 |.tup vs=>some vs
 |_=>none
noncomputable def WE:V->Option (List UInt8)
 |.bytes b=>some b
 |_=>none
noncomputable def isNone:V->Bool
 |.none=>true
 |_=>false
noncomputable def cL:aL->Option (List V)
 |.lst vs=>some vs
 |_=>none
noncomputable def cD:aL->Option (List (Int×V)×Nat)
 |.cG es n=>some (es,n)
 |_=>none
noncomputable def cB:aL->Option (List UInt8)
 |.bar b=>some b
 |_=>none
noncomputable def cS:aL->Option (List Int)
 |.set es=>some es
 |_=>none
noncomputable def cI:aL->Option (Str×List (Str×V))
 |.ins c fs=>some (c,fs)
 |_=>none
noncomputable def nk:V->Bool
 |.bi _=>false
 |_=>true
noncomputable def f6(v:V):M Int:=a8 (vU v)
noncomputable def yx(v:V):M Nat:=a8 (WD v)
noncomputable def KW(v:V):M (List Int):=a8 ((S7 v).bind bU)
noncomputable def getL(i:Nat):M (List V):=dP i>>=λc=>a8 (cL c)
noncomputable def getD(i:Nat):M (List (Int×V)×Nat):=dP i>>=λc=>a8 (cD c)
noncomputable def vo(i:Nat):M (List UInt8):=dP i>>=λc=>a8 (cB c)
noncomputable def Gz(i:Nat):M (List Int):=dP i>>=λc=>a8 (cS c)
noncomputable def zL(i:Nat):M (Str×List (Str×V)):=dP i>>=λc=>a8 (cI c)
noncomputable def need(b:Bool):M Unit:=λσ=>if b then some ((),σ)else none
noncomputable def Kc:List V->Option Unit
 |[]=>some ()
 |_=>none
noncomputable def jW:List V->Option V
 |[v]=>some v
 |_=>none
noncomputable def Ag:List V->Option (V×V)
 |[v,u]=>some (v,u)
 |_=>none
noncomputable def Y0:List V->Option (V×V×V)
 |[v,u,w]=>some (v,u,w)
 |_=>none
noncomputable def isInt(v:V):Bool:=(vU v).isSome
noncomputable def rn(v:V):Bool:=((S7 v).bind Ag).any λp=>isInt p.1&&isInt p.2
noncomputable def jG(l:List V):Bool:=l.all isInt||l.all rn
noncomputable def RX(v:V):M V:=match v with
 |.bytes b=>need (cM b.length)>>=λ_=>pure (.int b.length)
 |.ref i=>dP i>>=λc=>match c with
  |.lst vs=>need (cM vs.length)>>=λ_=>pure (.int vs.length)
  |.cG es _=>need (cM es.length)>>=λ_=>pure (.int es.length)
  |_=>M.fail
 |v=>gL v>>=λvs=>need (cM vs.length)>>=λ_=>pure (.int vs.length)
noncomputable def bInts(v:V):M (List Int):=gL v>>=λvs=>a8 (bU vs)
noncomputable def Bf(v:V):M V:=FT v>>=λvs=>need (jG vs&&ble vs.length 6)>>=λ_=>dq (.lst (pb vs))
noncomputable def aU(n:String)(args:List V):M V:=
 if n="len" then a8 (jW args)>>=RX
 else if n="abs" then a8 (jW args)>>=λv=>f6 v>>=λi=>pure (.int (if i<0 then -i else i))
 else if n="sum" then a8 (jW args)>>=λv=>bInts v>>=λns=>pure (.int ns.sum)
 else if n="sorted" then a8 (jW args)>>=Bf
 else if n="max" then(match jW args with
  |some v=>bInts v>>=λns=>a8 (Cd ns)>>=λm=>pure (.int m)
  |none=>a8 (Ag args)>>=λp=>f6 p.1>>=λa=>f6 p.2>>=λb=>pure (.int (if a<b then b else a)))
 else if n="min" then(match jW args with
  |some v=>bInts v>>=λns=>a8 (oG ns)>>=λm=>pure (.int m)
  |none=>a8 (Ag args)>>=λp=>f6 p.1>>=λa=>f6 p.2>>=λb=>pure (.int (if b<a then b else a)))
 else M.fail
noncomputable def Vg(v:V):M V:=match v with
 |.int i=>pure (.int i)
 |.bool b=>pure (.int (if b then 1 else 0))
 |_=>M.fail
noncomputable def Hq(args:List V):M V:=match args with
 |[b]=>f6 b>>=λb=>pure (.hK 0 b 1)
 |[a,b]=>f6 a>>=λa=>f6 b>>=λb=>pure (.hK a b 1)
 |[a,b,c]=>f6 a>>=λa=>f6 b>>=λb=>f6 c>>=λc=>need (decide (0<c)&&fe c)>>=λ_=>pure (.hK a b c)
 |_=>M.fail
noncomputable def RW(v:V):M V:=match v with
 |.hK a b c=>a8 (j5 a b c)>>=dE
 |_=>M.fail
noncomputable def Hp(v:V):M V:=match v with
 |.tup vs=>pure (.tup vs)
 |.gN vs=>need (cM vs.length)>>=λ_=>pure (.tup vs)
 |.ref i=>getL i>>=λvs=>need (cM vs.length)>>=λ_=>pure (.tup vs)
 |_=>M.fail
noncomputable def aX(n:String)(args:List V):M V:=
 if n="int" then a8 (jW args)>>=Vg
 else if n="range" then Hq args
 else if n="list" then a8 (jW args)>>=RW
 else if n="tuple" then a8 (jW args)>>=Hp
 else if n="set" then a8 (Kc args)>>=λ_=>dq (.set [])
 else if n="bytearray" then a8 (Kc args)>>=λ_=>dq (.bar [])
 else if n="bytes" then a8 (jW args)>>=λv=>yx v>>=λi=>vo i>>=λb=>need (cM b.length)>>=λ_=>pure (.bytes b)
 else M.fail
noncomputable def g8(i:Int):Nat:=if i.natAbs=0 then 0 else i.natAbs.log2+1
set_option genCtorIdx true in
inductive Am where
 |bits|app|get|qT|pop|add|Dj|Dh
noncomputable def Am.name:Am->String
 |.bits=>"int.bit_length"
 |.app=>"list.append"
 |.get=>"dict.get"
 |.qT=>"dict.setdefault"
 |.pop=>"dict.pop"
 |.add=>"set.add"
 |.Dj=>"bytearray.append"
 |.Dh=>"bytearray.extend"
noncomputable def cZ:aL->List (Str×Am)
 |.lst _=>[("append",.app)]
 |.cG .. =>[("get",.get),("setdefault",.qT),("pop",.pop)]
 |.jt _=>[("get",.get),("setdefault",.qT)]
 |.set _=>[("add",.add)]
 |.bar _=>[("append",.Dj),("extend",.Dh)]
 |_=>[]
noncomputable def Um(o:V)(n:Str):M Am:=match o with
 |.int _=>need (n=="bit_length")>>=λ_=>pure .bits
 |.ref i=>dP i>>=λc=>a8 ((cZ c).lookup n)
 |_=>M.fail
noncomputable def Va(i:Nat)(k d:V):M V:=getD i>>=λes=>f6 k>>=λk=>pure ((aV k es.1).getD d)
noncomputable def eS(id:Am)(o:V)(vs:List V):M V:=match id with
 |.bits=>f6 o>>=λi=>a8 (Kc vs)>>=λ_=>pure (.int (g8 i))
 |.app=>yx o>>=λi=>a8 (jW vs)>>=λv=>getL i>>=λus=>need (cM us.length)>>=λ_=>iE i (.lst (us++[v]))>>=λ_=>pure .none
 |.get=>yx o>>=λi=>match jW vs with
  |some k=>dP i>>=λc=>match c with
   |.cG es _=>f6 k>>=λk=>pure ((aV k es).getD .none)
   |.jt es=>KW k>>=λk=>pure ((aV k es).getD .none)
   |_=>M.fail
  |none=>a8 (Ag vs)>>=λp=>Va i p.1 p.2
 |.qT=>yx o>>=λi=>a8 (Ag vs)>>=λp=>KW p.1>>=λk=>dP i>>=λc=>match c with
  |.cG es _=>need es.isEmpty>>=λ_=>iE i (.jt [(k,p.2)])>>=λ_=>pure p.2
  |.jt es=>match aV k es with
   |some v=>pure v
   |none=>need (cM es.length)>>=λ_=>iE i (.jt (es++[(k,p.2)]))>>=λ_=>pure p.2
  |_=>M.fail
 |.pop=>yx o>>=λi=>a8 (jW vs)>>=λk=>f6 k>>=λk=>getD i>>=λes=>a8 (aV k es.1)>>=λv=>need (cM es.1.length)>>=λ_=>iE i (.cG (Ah k es.1) (es.2+1))>>=λ_=>pure v
 |.add=>yx o>>=λi=>a8 (jW vs)>>=λk=>f6 k>>=λk=>Gz i>>=λes=>need (ble es.length 1000)>>=λ_=>iE i (.set (if es.contains k then es else es++[k]))>>=λ_=>pure .none
 |.Dj=>yx o>>=λi=>a8 (jW vs)>>=λk=>f6 k>>=λx=>vo i>>=λb=>need (decide (0<=x/\x<256)&&cM b.length)>>=λ_=>iE i (.bar (b++[UInt8.ofNat x.toNat]))>>=λ_=>pure .none
 |.Dh=>yx o>>=λi=>a8 (jW vs)>>=λk=>a8 (WE k)>>=λc=>vo i>>=λb=>need (cM (b.length+c.length))>>=λ_=>iE i (.bar (b++c))>>=λ_=>pure .none
noncomputable def LF(op:Operator)(x y:Int):M V:=match op with
 |.Add=>pure (.int (x+y))
 |.Sub=>pure (.int (x-y))
 |.Mult=>need (fe y)>>=λ_=>pure (.int (x*y))
 |.Mod=>need (decide (y≠0)&&fe y)>>=λ_=>pure (.int (x.fmod y))
 |.FloorDiv=>need (decide (y≠0)&&fe y)>>=λ_=>pure (.int (x.fdiv y))
 |.Pow=>need (decide (0<=y/\y<=1000000)&&fe x)>>=λ_=>pure (.int (x^y.toNat))
 |.LShift=>need (decide (0<=y/\y<=1000000)&&fe x)>>=λ_=>pure (.int (x*2^y.toNat))
 |.RShift=>need (decide (0<=y))>>=λ_=>pure (.int (x.fdiv (2^y.toNat)))
 |.BitAnd=>need (decide (0<=x/\0<=y))>>=λ_=>pure (.int ((x.toNat&&&y.toNat:Nat):Int))
 |.BitOr=>need (decide (0<=x/\0<=y))>>=λ_=>pure (.int ((x.toNat|||y.toNat:Nat):Int))
 |_=>M.fail
noncomputable def RS(op:Operator)(u:List V)(b:V):M V:=match op with
 |.Add=>yx b>>=λj=>getL j>>=λv=>dE (u++v)
 |.Mult=>f6 b>>=λy=>need (decide (0<=y/\y<=1000000))>>=λ_=>dE (replicate y.toNat u).flatten
 |_=>M.fail
noncomputable def ai(op:Operator)(a b:V):M V:=match a with
 |.int x=>f6 b>>=λy=>LF op x y
 |.ref i=>getL i>>=λu=>RS op u b
 |_=>M.fail
noncomputable def lg:List (Int×V)->List (Int×V)->Option Bool
 |[],_=>some true
 |(k,v)::r,d=>(vU v).bind λx=>match aV k d with
  |some w=>(vU w).bind λy=>(lg r d).map λb=>(x==y)&&b
  |none=>some false
noncomputable def Hb(ne:Bool)(a b:V):M Bool:=match a with
 |.int x=>f6 b>>=λy=>pure (decide (x=y))
 |.tup u=>a8 (bU u)>>=λx=>KW b>>=λy=>need (x.length==y.length)>>=λ_=>pure (decide (x=y))
 |.ref i=>yx b>>=λj=>dP i>>=λc=>match c with
  |.lst u=>getL j>>=λv=>need (!ne&&v.isEmpty)>>=λ_=>pure u.isEmpty
  |.cG u _=>getD j>>=λv=>if u.length=v.1.length then a8 (lg u v.1)else pure false
  |_=>M.fail
 |_=>M.fail
noncomputable def Ua(c k:V):M Bool:=yx c>>=λi=>f6 k>>=λx=>dP i>>=λc=>match c with
 |.cG es _=>pure (aV x es).isSome
 |.set es=>need (ble es.length 1000)>>=λ_=>pure (es.contains x)
 |_=>M.fail
noncomputable def cX(op:CmpOp)(a b:V):M Bool:=match op with
 |.Eq=>Hb false a b
 |.NotEq=>Hb true a b>>=λx=>pure !x
 |.Lt=>f6 a>>=λx=>f6 b>>=λy=>pure (decide (x<y))
 |.LtE=>f6 a>>=λx=>f6 b>>=λy=>pure (decide (x<=y))
 |.Gt=>f6 a>>=λx=>f6 b>>=λy=>pure (decide (y<x))
 |.GtE=>f6 a>>=λx=>f6 b>>=λy=>pure (decide (y<=x))
 |.Is=>need (isNone b)>>=λ_=>pure (isNone a)
 |.IsNot=>need (isNone b)>>=λ_=>pure !(isNone a)
 |.In=>Ua b a
 |.NotIn=>Ua b a>>=λx=>pure !x
noncomputable def idx(i:Int):M Nat:=need (decide (0<=i/\i<1000000))>>=λ_=>pure i.toNat
noncomputable def aR(o k:V):M V:=match o with
 |.bytes b=>f6 k>>=λi=>idx i>>=λn=>need (cM b.length)>>=λ_=>a8 b[n]?>>=λx=>pure (.int x.toNat)
 |.ref j=>dP j>>=λc=>match c with
  |.lst vs=>f6 k>>=λi=>idx i>>=λn=>a8 vs[n]?
  |.cG es _=>f6 k>>=λi=>a8 (aV i es)
  |.jt es=>KW k>>=λt=>a8 (aV t es)
  |_=>M.fail
 |.tup vs=>f6 k>>=λi=>idx i>>=λn=>a8 vs[n]?
 |.gN vs=>f6 k>>=λi=>idx i>>=λn=>a8 vs[n]?
 |_=>M.fail
noncomputable def CP{α:Type}(l:List α)(lo hi:Option Int):Option (List α):=
 match lo,hi with
 |some a,none=>if 0<=a/\a<=l.length then some (l.drop a.toNat)else none
 |none,some b=>if 0<=b/\b<=l.length then some (l.take b.toNat)else none
 |some a,some b=>if 0<=a/\a<=b/\b<=l.length then some ((l.drop a.toNat).take (b-a).toNat)else none
 |none,none=>none
noncomputable def rb(o:V)(lo hi:Option Int):M V:=match o with
 |.bytes b=>need (cM b.length)>>=λ_=>a8 (CP b lo hi)>>=λc=>pure (.bytes c)
 |.ref j=>getL j>>=λvs=>need (cM vs.length)>>=λ_=>a8 (CP vs lo hi)>>=λw=>dE w
 |_=>M.fail
noncomputable def iI(o k v:V):M Unit:=yx o>>=λj=>dP j>>=λc=>match c with
 |.lst vs=>f6 k>>=λi=>idx i>>=λn=>need (Nat.blt n vs.length)>>=λ_=>iE j (.lst (vs.set n v))
 |.cG es m=>match vU k with
  |some i=>need (cM es.length)>>=λ_=>iE j (.cG (iR i v es) (if(aV i es).isSome then m else m+1))
  |none=>KW k>>=λt=>need es.isEmpty>>=λ_=>iE j (.jt [(t,v)])
 |.jt es=>KW k>>=λt=>need (cM es.length)>>=λ_=>iE j (.jt (iR t v es))
 |_=>M.fail
noncomputable def iC:V->M Bool
 |.bool b=>pure b
 |_=>M.fail
structure G where
 gl:Str->Option V
 fn:Str->Option kI
 cV:Str->Str->Option kI
 attrs:List (Str×Str)
structure f5 where
 E:Scope->ar->Expr->M V
 T:Scope->ar->Expr->M Bool
 S:Scope->ar->Stmt->M (Fl×ar)
 C:kI->List V->M V
noncomputable def f5.none:f5:=⟨λ_ _ _=>M.fail,λ_ _ _=>M.fail,λ_ _ _=>M.fail,λ_ _=>M.fail⟩
section
variable(g:G)(ih:f5)
noncomputable def gV(sc:Scope)(env:ar):List Expr->M (List V)
 |[]=>pure []
 |e::r=>do
  let v<-ih.E sc env e;let vs<-gV sc env r
  pure (v::vs)
set_option backward.match.sparseCases true in
noncomputable def dx(sc:Scope)(env:ar):List Stmt->M (Fl×ar)
 |[]=>pure (.next,env)
 |s::r=>do
  let (f,kj)<-ih.S sc env s
  match f with
  |.next=>dx sc kj r
  |f=>pure (f,kj)
noncomputable def jK(sc:Scope)(env:ar)(x:Str):M V:=match sc.names.lookup x with
 |some .local|some .cell=>a8 (look x env.own)
 |some .free=>a8 (look x env.up)
 |some .globalImplicit=>a8 (g.gl x)
 |_=>M.fail
noncomputable def putN(sc:Scope)(env:ar)(x:Str)(v:V):M ar:=match sc.names.lookup x with
 |some .local|some .cell=>pure {env with own:=put x v env.own}
 |_=>M.fail
noncomputable def eF(sc:Scope):ar->List Expr->List V->M ar
 |env,[],[]=>pure env
 |env,.Name x _::ts,v::vs=>do eF sc (<-putN sc env x v) ts vs
 |_,_,_=>M.fail
noncomputable def bY(e:Expr):Bool:= !Nat.beq e.ctorIdx 7
noncomputable def fJ(e:Expr):Bool:=if h:e.ctorIdx=16 then Expr.Call.elim e h λf a k _=>!(Nat.beq f.ctorIdx 23&&a.isEmpty&&k.isEmpty)else true
noncomputable def mi(f:kI)(args:List V):Option (List (Str×V)):=
 if args.length<=f.ps.length/\f.ps.length<=args.length+f.ds.length then
  some (f.ps.zip (args++f.ds.drop (args.length+f.ds.length-f.ps.length)))
 else none
noncomputable def cx(f:V)(args:List V):M V:=match f with
 |.fn n=>match g.fn n with
  |some fi=>ih.C fi args
  |none=>M.fail
 |.cls c=>match g.cV c "__init__" with
  |some fi=>do
   let o<-dq (.ins c [])
   match<-ih.C fi (o::args)with
   |.none=>pure o
   |_=>M.fail
  |none=>M.fail
 |.bi n=>aU n args
 |.ty n=>aX n args
 |_=>M.fail
noncomputable def aB(o:V)(a:Str):M V:=yx o>>=λi=>zL i>>=λp=>need (g.attrs.contains (p.1,a))>>=λ_=>a8 (look a p.2)>>=λv=>need (nk v)>>=λ_=>pure v
noncomputable def bq(o:V)(a:Str)(v:V):M Unit:=yx o>>=λi=>zL i>>=λp=>need (g.attrs.contains (p.1,a)&&cM p.2.length)>>=λ_=>iE i (.ins p.1 (put a v p.2))
set_option backward.match.sparseCases true in
noncomputable def xj(sc:Scope)(env:ar)(op:BoolOp):List Expr->M V
 |[]=>M.fail
 |[e]=>ih.E sc env e
 |e::r=>do
  let v<-ih.E sc env e;let t<-iC v
  match op,t with
  |.And,false|.Or,true=>pure v
  |_,_=>xj sc env op r
set_option backward.match.sparseCases true in
noncomputable def FE(sc:Scope)(env:ar)(op:BoolOp):List Expr->M Bool
 |[]=>pure (op== .And)
 |e::r=>do
  let t<-ih.T sc env e
  match op,t with
  |.And,false=>pure false
  |.Or,true=>pure true
  |_,_=>FE sc env op r
noncomputable def jg(sc:Scope)(env:ar)(l:V):List CmpOp->List Expr->M Bool
 |[op],[r]=>do
  let v<-ih.E sc env r
  if bY r then cX op l v else M.fail
 |op::B4::ops,r::r'::rs=>do
  let v<-ih.E sc env r;let c<-cX op l v
  if c then jg sc env v (B4::ops) (r'::rs)else pure false
 |_,_=>M.fail
noncomputable def eg(sc:Scope)(env:ar)(t:Expr)(v:V):M ar:=match t with
 |.Name x _=>putN sc env x v
 |.Attribute o a _=>do
  let ov<-ih.E sc env o
  bq g ov a v
  pure env
 |.Subscript o k _=>do
  let ov<-ih.E sc env o;let kv<-ih.E sc env k
  iI ov kv v
  pure env
 |.Tuple ts _ _=>match v with
  |.tup vs=>eF sc env ts vs
  |_=>M.fail
 |_=>M.fail
noncomputable def uO(ts:List Expr)(v:Expr):Bool:=match ts with
 |[t]=>!Nat.beq t.ctorIdx 25||if h:v.ctorIdx=25 then Expr.Tuple.elim v h λvs _ _=>vs.all (foldedForSure 8)||!vs.all (constantsAlone 8)else true
 |_=>false
set_option backward.match.sparseCases true in
noncomputable def NL(sc:Scope)(env:ar)(cu:Scope):List (Str×V):=cu.names.filterMap λp=>match p.2 with
 |.free=>match sc.names.lookup p.1 with
  |some .cell=>(look p.1 env.own).map (p.1, ·)
  |some .free=>(look p.1 env.up).map (p.1, ·)
  |_=>none
 |_=>none
noncomputable def z5(i:Nat):M Unit:=dP i>>=λc=>match c with
 |.busy=>pure ()
 |_=>M.fail
noncomputable def RF(j:Nat):M (Int×Int×Nat):=dP j>>=λc=>match c with
 |.sy a c n=>pure (a,c,n)
 |_=>M.fail
noncomputable def nH(i:Nat)(q:Ao)(env:List (Str×V))(j:Nat):M (Option V):=RF j>>=λr=>match r.2.2 with
 |0=>z5 i>>=λ_=>pure Option.none
 |n+1=>do
  iE j (.sy (r.1+r.2.1) r.2.1 n)
  let kj<-putN q.sc ⟨env,[]⟩ q.target (.int r.1);let w<-ih.E q.sc kj q.elt
  z5 i
  need (kj.own.all (λp=>q.sc.names.lookup p.1==some .local))
  iE i (.gen {q with env:=kj.own,pre:=Option.none,it:=j})
  pure (some w)
noncomputable def YE(f:Fl):Option {_u:Unit //f=.next}:=match f with
 |.next=>some ⟨(),rfl⟩
 |_=>none
noncomputable def TV(v:V):Option {r:Int×Int×Int //v=.hK r.1 r.2.1 r.2.2}:=match v with
 |.hK a b c=>some ⟨(a,b,c),rfl⟩
 |_=>none
noncomputable def Qp(c:aL):M Nat:=λσ=>some (σ.length,σ++[c])
noncomputable def oR(q:Ao):M (List (Str×V)×Nat):=match q.pre with
 |none=>pure (q.env,q.it)
 |some p=>dx ih q.sc ⟨q.env,[]⟩ p.1>>=λx=>a8 (YE x.1)>>=λ_=>ih.E q.sc x.2 p.2>>=λv=>a8 (TV v)>>=λr=>a8 (mB r.1.1 r.1.2.1 r.1.2.2)>>=λn=>Qp (.sy r.1.1 r.1.2.2 n)>>=λj=>pure (x.2.own,j)
noncomputable def qm(i:Nat):M (Option V):=do match<-dP i with
 |.gen q=>do
  iE i .busy
  let x<-oR ih q
  nH ih i q x.1 x.2
 |_=>M.fail
noncomputable def aJ:gE->M (Option (V×gE))
 |.items vs=>match vs with
  |[]=>pure none
  |v::r=>pure (some (v,.items r))
 |.list i k=>getL i>>=λvs=>match vs[k]? with
  |none=>pure none
  |some v=>pure (some (v,.list i (k+1)))
 |.dict i m l k=>getD i>>=λes=>need (es.2==m&&es.1.length==l)>>=λ_=>match es.1[k]? with
  |none=>pure none
  |some p=>pure (some (.int p.1,.dict i m l (k+1)))
 |.gen i=>qm ih i>>=λo=>match o with
  |none=>pure none
  |some v=>pure (some (v,.gen i))
noncomputable def w8(turn:V->ar->M (Fl×ar)):Nat->gE->ar->M (Fl×ar)
 |0,_,_=>M.fail
 |n+1,st,env=>aJ ih st>>=λo=>match o with
  |none=>pure (.next,env)
  |some p=>turn p.1 env>>=λx=>match x.1 with
   |.next|.cont=>w8 turn n p.2 x.2
   |.brk=>pure (.next,x.2)
   |.ret w=>pure (.ret w,x.2)
noncomputable def over(turn:V->ar->M (Fl×ar))(kW:gE×Nat)(env:ar):M (Fl×ar):=w8 ih turn kW.2 kW.1 env
noncomputable def oj(test:ar->M Bool)(body:ar->M (Fl×ar)):Nat->ar->M (Fl×ar)
 |0,_=>M.fail
 |n+1,env=>do
  if<-test env then
   let (f,kj)<-body env
   match f with
   |.next|.cont=>oj test body n kj
   |.brk=>pure (.next,kj)
   |.ret w=>pure (.ret w,kj)
  else pure (.next,env)
noncomputable def mG(sc:Scope)(env:ar):List Expr->M Bool
 |[]=>pure true
 |e::r=>do if<-ih.T sc env e then mG sc env r else pure false
noncomputable def d6(a:Nat)(w:V):M Unit:=getL a>>=λvs=>need (cM vs.length)>>=λ_=>iE a (.lst (vs++[w]))
noncomputable def oV(sc cu:Scope):Bool:=cu.kind== .function&&cu.names.all λp=>match p.2 with
 |.local=>cu.names.lookup p.1==some .local
 |.cell=>cu.names.lookup p.1==some .cell
 |.free=>sc.names.lookup p.1==some .cell||sc.names.lookup p.1==some .free
 |_=>true
noncomputable def nA(sc:Scope)(env:ar)(elt:Expr)(c:Comprehension)(cu:Scope):M V:=match c with
 |⟨t,it,ifs,Ht⟩=>if Ht==0&&bY it&&oV sc cu then do
  let x<-ih.E sc env it;let kW<-aQ x;let acc<-dq (.lst [])
  match acc with
  |.ref a=>do
   let _<-over ih (λv e=>do
    let e'<-eg g ih cu e t v
    if<-mG ih cu e' ifs then
     let w<-ih.E cu e' elt
     d6 a w
     pure (.next,e')
    else pure (.next,e')) kW ⟨[],NL sc env cu⟩
   pure acc
  |_=>M.fail else M.fail
noncomputable def ow(sc:Scope)(env:ar):Option Expr->M (Option Int)
 |none=>pure none
 |some e=>do
  let v<-ih.E sc env e;let i<-f6 v
  pure (some i)
noncomputable def Hw(e:Expr):Option Str:=if h:e.ctorIdx=23 then Expr.Name.elim e h λx _=>some x else none
noncomputable def yb(s:Stmt):Option (Str×Arguments×List Stmt×Scope):=if h:s.ctorIdx=0 then Stmt.FunctionDef.elim s h λy a body _ _ _ sc _ _ _=>some (y,a,body,sc)else none
noncomputable def Bg(s:Stmt):Option (Str×List Stmt):=if h:s.ctorIdx=2 then Stmt.ClassDef.elim s h λy bs _ body _ _ _ _ _ _ _=>if bs.isEmpty then some (y,body)else none else none
noncomputable def Hu(s:Stmt):Option (Str×Expr):=if h:s.ctorIdx=5 then Stmt.Assign.elim s h λts e _=>(ts.head?.bind Hw).map λx=>(x,e)else none
noncomputable def TF(s:Stmt):Option {p:(Expr×Expr×List Stmt)×Pos //s=.For p.1.1 p.1.2.1 p.1.2.2 [] p.2}:=if h:s.ctorIdx=9 then Stmt.For.elim (motive_2:=λs=>Option {p:(Expr×Expr×List Stmt)×Pos //s=.For p.1.1 p.1.2.1 p.1.2.2 [] p.2}) s h λt it b o p=>(match o with
 |[]=>some ⟨((t,it,b),p),rfl⟩
 |_::_=>none)else none
noncomputable def Xi(e:Expr):Option {p:Str×Pos //e=.Name p.1 p.2}:=if h:e.ctorIdx=23 then Expr.Name.elim (motive_1:=λe=>Option {p:Str×Pos //e=.Name p.1 p.2}) e h λx p=>some ⟨(x,p),rfl⟩ else none
noncomputable def Xj(s:Stmt):Option {p:Expr×Pos //s=.Expr p.1 p.2}:=if h:s.ctorIdx=24 then Stmt.Expr.elim (motive_2:=λs=>Option {p:Expr×Pos //s=.Expr p.1 p.2}) s h λx p=>some ⟨(x,p),rfl⟩ else none
noncomputable def Xh(e:Expr):Option {p:Expr×Pos //e=.Yield (some p.1) p.2}:=if h:e.ctorIdx=13 then Expr.Yield.elim (motive_1:=λe=>Option {p:Expr×Pos //e=.Yield (some p.1) p.2}) e h λx p=>(match x with
 |some x=>some ⟨(x,p),rfl⟩
 |none=>none)else none
noncomputable def v1{α:Type}(l:List α):Option {x:α //l= [x]}:=match l with
 |[x]=>some ⟨x,rfl⟩
 |_=>none
noncomputable def v2{α:Type}(l:List α):Option {x:α×α //l= [x.1,x.2]}:=match l with
 |[x,y]=>some ⟨(x,y),rfl⟩
 |_=>none
theorem RG{b:List Stmt}{s f:Stmt}{t it:Expr}{d:List Stmt}{fp:Pos}{x:Str}{px:Pos}{u:Stmt}{e:Expr}{sp:Pos}{y:Expr}{yp:Pos}(h1:b= [s,f])(h2:f=.For t it d [] fp)(h3:t=.Name x px)(h4:d= [u])(h5:u=.Expr e sp)(h6:e=.Yield (some y) yp):b= [s,.For (.Name x px) it [.Expr (.Yield (some y) yp) sp] [] fp]:=by
 subst h6;subst h5;subst h4;subst h3;subst h2;exact h1
noncomputable def JJ(b:List Stmt):Option {p:Stmt×Str×Expr×Expr // ∃px yp sp fp,b= [p.1,.For (.Name p.2.1 px) p.2.2.1 [.Expr (.Yield (some p.2.2.2) yp) sp] [] fp]}:=
 (v2 b).bind λq=>(TF q.1.2).bind λf=>(Xi f.1.1.1).bind λx=>(v1 f.1.1.2.2).bind λs=>(Xj s.1).bind λe=>(Xh e.1.1).map λy=>
  ⟨(q.1.1,x.1.1,f.1.1.2.1,y.1.1),x.1.2,y.1.2,e.1.2,f.1.2,RG q.2 f.2 x.2 s.2 e.2 y.2⟩
noncomputable def rH(f:kI)(env:List (Str×V)):Option Ao:=(JJ f.body).bind λp=>if f.sc.names.all (λp=>p.2== .local||p.2== .globalImplicit)&&bY p.1.2.2.1 then some ⟨f.sc,env,p.1.2.1,p.1.2.2.2,some ([p.1.1],p.1.2.2.1),0⟩ else none
noncomputable def az(ov:V)(n:Str):M (kI ⊕ Am):=match ov with
 |.ref i=>dP i>>=λc=>match c with
  |.ins c fs=>match g.cV c n with
   |some fi=>need (look n fs).isNone>>=λ_=>pure (.inl fi)
   |none=>M.fail
  |c=>a8 ((cZ c).lookup n)>>=λid=>pure (.inr id)
 |_=>Um ov n>>=λid=>pure (.inr id)
noncomputable def mh:f5 where
 E:=λsc env e=>match e with
  |.Constant c _ _=>a8 (rU c)
  |.Name x _=>if x=="__debug__" then M.fail else jK g sc env x
  |.BinOp l op r _=>do
   let a<-ih.E sc env l;let b<-ih.E sc env r
   ai op a b
  |.UnaryOp .USub x _=>do
   let v<-ih.E sc env x;let i<-f6 v
   pure (.int (-i))
  |.IfExp t b o _=>do if<-ih.T sc env t then ih.E sc env b else ih.E sc env o
  |.BoolOp op vs _=>xj ih sc env op vs
  |.Compare l ops cs _=>do
   let v<-ih.E sc env l
   pure (.bool (<-jg ih sc env v ops cs))
  |.List es _=>do dE (<-gV ih sc env es)
  |.Tuple es _ _=>do
   let vs<-gV ih sc env es
   if cM vs.length then pure (.tup vs)else M.fail
  |.Dict [] [] _=>dq (.cG [] 0)
  |.Subscript o (.Slice lo hi none _) _=>do
   let ov<-ih.E sc env o;let l<-ow ih sc env lo;let h<-ow ih sc env hi
   rb ov l h
  |.Subscript _ (.Slice ..) _=>M.fail
  |.Subscript o k _=>do
   let ov<-ih.E sc env o;let kv<-ih.E sc env k
   aR ov kv
  |.Attribute o a _=>if fJ o then do aB g (<-ih.E sc env o) a else M.fail
  |.Call (.Attribute o n ap) args [] pos=>if fJ o&&ap.endLine==pos.line&&ble args.length 20 then do
   let ov<-ih.E sc env o
   match<-az g ov n with
   |.inl fi=>do ih.C fi (ov::(<-gV ih sc env args))
   |.inr id=>do eS id ov (<-gV ih sc env args)
   else M.fail
  |.Call f args [] _=>do
   let fv<-ih.E sc env f;let vs<-gV ih sc env args
   cx g ih fv vs
  |.ListComp elt [c] cu _=>nA g ih sc env elt c cu
  |_=>M.fail
 T:=λsc env e=>match e with
  |.UnaryOp .Not x _=>do pure !(<-ih.T sc env x)
  |.BoolOp op vs _=>FE ih sc env op vs
  |.Compare l ops cs _=>do
   let v<-ih.E sc env l
   jg ih sc env v ops cs
  |.IfExp .. =>M.fail
  |e=>do iC (<-ih.E sc env e)
 S:=λsc env s=>match s with
  |.Expr e _=>match e with
   |.Call .. =>do
    let _<-ih.E sc env e
    pure (.next,env)
   |_=>M.fail
  |.Pass _=>pure (.next,env)
  |.Break _=>pure (.brk,env)
  |.Continue _=>pure (.cont,env)
  |.Return none _=>pure (.ret .none,env)
  |.Return (some e) _=>do pure (.ret (<-ih.E sc env e),env)
  |.Assign [t] e _=>if uO [t] e then do
   let v<-ih.E sc env e
   pure (.next,<-eg g ih sc env t v)else M.fail
  |.AugAssign (.Name x _) .Add e _=>do
   let a<-jK g sc env x;let b<-ih.E sc env e;let i<-f6 a;let j<-f6 b
   pure (.next,<-putN sc env x (.int (i+j)))
  |.If t b o _=>do if<-ih.T sc env t then dx ih sc env b else dx ih sc env o
  |.While t b [] _=>oj (λe=>ih.T sc e t) (λe=>dx ih sc e b) 64 env
  |.For t it b [] _=>if bY it then do
   let x<-ih.E sc env it;let kW<-aQ x
   over ih (λv e=>do dx ih sc (<-eg g ih sc e t v) b) kW env else M.fail
  |_=>M.fail
 C:=λf args=>match mi f args with
  |none=>M.fail
  |some own=>if f.sc.isGenerator then(do
    match rH f own with
    |some q=>dq (.gen q)
    |none=>M.fail)
   else do
   let (fl,_)<-dx ih f.sc ⟨own,[]⟩ f.body
   match fl with
   |.ret v=>pure v
   |.next=>pure .none
   |_=>M.fail
end
noncomputable def ag(g:G):Nat->f5
 |0=>f5.none
 |n+1=>mh g (ag g n)
noncomputable def prog:List Stmt:=PySem.Challenge.pw_nt0575_01.main.body
noncomputable def kc:Expr->Option V
 |.Constant c _ _=>rU c
 |.UnaryOp .USub e _=>match e with
  |.Constant (.int i) _ _=>some (.int (-i))
  |_=>none
 |_=>none
noncomputable def pL(x:Str)(l:List Stmt):Option V:=l.findSome? λst=>(Hu st).bind λp=>if x==p.1 then kc p.2 else none
noncomputable def YL(e:Expr):Option V:=match Hw e with
 |some y=>pL y prog
 |none=>kc e
noncomputable def RK(a:Arguments)(body:List Stmt)(sc:Scope):kI:=⟨a.args.map (·.arg),a.defaults.filterMap YL,body,sc⟩
noncomputable def jP(x:Str)(l:List Stmt):Option kI:=l.findSome? λst=>(yb st).bind λd=>if x==d.1 then some (RK d.2.1 d.2.2.1 d.2.2.2)else none
noncomputable def rL(x:Str)(l:List Stmt):Option (List Stmt):=l.findSome? λst=>(Bg st).bind λc=>if x==c.1 then some c.2 else none
noncomputable def lN:List Str:=["len","range","int","list","sum","max","min","sorted","tuple","set","bytes","bytearray","abs"]
noncomputable def NO:List V:=[.bi "len",.ty "range",.ty "int",.ty "list",.bi "sum",.bi "max",.bi "min",.bi "sorted",.ty "tuple",.ty "set",.ty "bytes",.ty "bytearray",.bi "abs"]
noncomputable def ly(x:Str):Option V:=(lN.zip NO).lookup x
noncomputable def glob(x:Str):Option V:=if x=="__name__" then none else match jP x prog with
 |some _=>some (.fn x)
 |none=>match rL x prog with
  |some _=>some (.cls x)
  |none=>match pL x prog with
   |some v=>some v
   |none=>ly x
noncomputable def NR:List (String×String):=[
 ("LinePredictor","samples"),("LinePredictor","kind"),("LinePredictor","middle"),("LinePredictor","tops"),("SampleGrid","rows"),
 ("LosslessWriter","slots"),("LosslessWriter","samples"),("LosslessWriter","predictor"),("LosslessWriter","sink"),
 ("Component","ident"),("Component","across"),("Component","down"),("Component","quant"),
 ("Frame","kind"),("Frame","precision"),("Frame","height"),("Frame","width"),("Frame","components"),("Frame","n"),
 ("HuffTable","counts"),("HuffTable","symbols"),("HuffTable","rows"),("HuffTable","codes"),
 ("BitWriter","full"),("BitWriter","rest"),("BitWriter","size"),("CodeSink","tables"),("CodeSink","writer"),("CountSink","counts"),
 ("Scan","places"),("Scan","dc_slots"),("Scan","ac_slots"),("Scan","start"),("Scan","end"),("Scan","high"),("Scan","low"),
 ("Plane","width"),("Plane","height"),("Plane","rows"),("Picture","model"),("Picture","precision"),("Picture","planes")]
noncomputable def vI:List (Str×Str):=NR.map λp=>(Str.ofString p.1,Str.ofString p.2)
noncomputable def gg:G where
 gl:=glob
 fn:=λx=>jP x prog
 cV:=λc m=>(rL c prog).bind (jP m)
 attrs:=vI
def Si(uH:List Int):Prop:=∃f σ,jP "law" prog=some f/\(ag gg 100).C f [.gN (uH.map .int)] []=some (.bool true,σ)
end Mine.Internal
namespace Mine.Internal
open PySem PySem.Calls PySem.W PyProof.Rows
noncomputable def zh:Value->Option V
 |.none=>some .none
 |.bool b=>some (.bool b)
 |.int i _=>some (.int i)
 |.str x _=>some (.str x)
 |.bytes b _=>some (.bytes b.toList)
 |.builtin n=>some (.bi n)
 |.type n=>some (.ty n)
 |_=>none
noncomputable abbrev pV:=FuncBody×Scope×Bool×List Str×Option (List (Option V))
noncomputable def EE(v:Value):Option {a:Addr //v=.ref a}:=match v with
 |.ref a=>some ⟨a,rfl⟩
 |_=>none
noncomputable def TB(v:Value):Option {x:Str // ∃t,v=.str x t}:=match v with
 |.str x t=>some ⟨x,t,rfl⟩
 |_=>none
noncomputable def VM(v:Value):Option {n:String //v=.type n}:=match v with
 |.type n=>some ⟨n,rfl⟩
 |_=>none
noncomputable def Xk(v:Value):Option {n:String //v=.builtin n}:=match v with
 |.builtin n=>some ⟨n,rfl⟩
 |_=>none
noncomputable def TC(v:Value):Option {_n:Unit //v=.none}:=match v with
 |.none=>some ⟨(),rfl⟩
 |_=>none
noncomputable def Vc(d:Data):Option {vs:Array Value //d=.fields vs}:=match d with
 |.fields vs=>some ⟨vs,rfl⟩
 |_=>none
noncomputable def U9(d:Data):Option {x:Array Value×Nat //d=.seq x.1 x.2}:=match d with
 |.seq xs n=>some ⟨(xs,n),rfl⟩
 |_=>none
noncomputable def Vb(d:Data):Option {fd:FuncData //d=.func fd}:=match d with
 |.func fd=>some ⟨fd,rfl⟩
 |_=>none
noncomputable def G9(h:Heap)(cd:Value)(q:Str):Bool:=(EE cd).any λc=>(h.get? c.1).any λo=>(Vc o.data).any λvs=>(vs.1[1]?).any λy=>(TB y).any λx=>x.1==q
noncomputable def vB(h:Heap)(v:Value):Option (List (Option V)):=if(TC v).isSome then some []else(EE v).bind λt=>(h.get? t.1).bind λo=>(VM o.cls).bind λn=>if n.1=="tuple" then(U9 o.data).map λx=>x.1.1.toList.map zh else none
noncomputable def RJ(h:Heap)(fd:FuncData):pV:=(fd.body,fd.scope,
   fd.globals==mainGlobals&&(fd.closure.isEmpty&&(fd.builtins==builtinsNs&&(G9 h fd.code fd.qualname&&(fd.params.posonlyargs.isEmpty&&(fd.params.kwonlyargs.isEmpty&&(fd.params.vararg.isNone&&fd.params.kwarg.isNone)))))),
   fd.params.args.map (·.arg),vB h fd.defaults)
noncomputable def A0(h:Heap)(a:Addr):Option pV:=(h.get? a).bind λo=>(Vb o.data).map λx=>RJ h x.1
noncomputable def xI(f:kI):pV:=(.stmts f.body,f.sc,true,f.ps,some (f.ds.map some))
noncomputable def Qw:Option NameKind->Bool
 |some .local|some .cell=>true
 |_=>false
noncomputable def RI:NameKind->Bool
 |.free=>false
 |_=>true
noncomputable def rI(f:kI):Bool:=f.sc.kind== .function&&!f.sc.isCoroutine&&decide f.ps.Nodup&&f.ps.all (λx=>Qw (f.sc.names.lookup x))&&ble f.ds.length f.ps.length&&f.sc.names.all (λp=>RI p.2)&&decide (f.sc.names.map (·.1)).Nodup
noncomputable def g9(h:Heap)(n:Str):Option Addr:=(h.nsMap mainGlobals n).bind λv=>(EE v).map (·.1)
noncomputable def nI:List Str:=prog.filterMap λst=>(yb st).map (·.1)
noncomputable def eC:List Str:=prog.filterMap λst=>(Bg st).map (·.1)
noncomputable def uZ:List Str:=(prog.filterMap λst=>(Hu st).map (·.1)).filter λx=>(pL x prog).isSome&&x !="__name__"
noncomputable def gu:List (Str×Str):=eC.flatMap λc=>((rL c prog).getD []).filterMap λst=>(yb st).map λd=>(c,d.1)
noncomputable def MR(h:Heap)(a:Addr):List Addr:=match h.get? a with
 |some ⟨_,_,.dict es _,_⟩=>es.toList.filterMap λe=>match e.val with
   |.ref b=>some b
   |_=>none
 |_=>[]
noncomputable def Ke(h:Heap):List Addr:=eC.flatMap λc=>match g9 h c with
 |some C=>(match h.get? C with
   |some ⟨_,_,.cls cd,_⟩=>C::cd.ns::MR h cd.ns
   |_=>[])
 |none=>[]
noncomputable def k7(h:Heap):Frag:=(Ke h).filterMap λa=>(h.get? a).map λo=>(a,o)
noncomputable def Q0(x:Option (Option Value)):Bool:=x.any Option.isNone
noncomputable def Q1(n:String)(x:Option (Option Value)):Bool:=x.any λy=>y.any λv=>(Xk v).any (·.1==n)
noncomputable def K0(x:Option (Option Value)):Option Addr:=x.bind λy=>y.bind λv=>(EE v).map (·.1)
noncomputable def Ga(x:Option Value):Bool:=x.any λv=>(VM v).any (·.1=="function")
noncomputable def LB(K:Frag)(h:Heap)(c:Str):Bool:=(g9 h c).any λC=>plainGet K C Str.empty&&(hasDictIn K C&&(Q1 "object.__setattr__" (findIn K (.ref C) "__setattr__")&&(plainOver K C&&(makesIn K C&&(keepIn K (.ref C)&&vI.all λp=>p.1 !=c||Q0 (findIn K (.ref C) p.2))))))
noncomputable def Fx(K:Frag)(h:Heap)(p:Str×Str):Option Addr:=(g9 h p.1).bind λC=>K0 (findIn K (.ref C) p.2)
noncomputable def AQ(K:Frag)(h:Heap)(p:Str×Str):Option pV:=(Fx K h p).bind λa=>if Ga (typeIn K (.ref a))then A0 h a else none
noncomputable abbrev Oc:=List Bool×List (Option pV)×List (Option pV)×List (Option V)×List (Option V)
noncomputable def uG(h:Heap):Oc:=(eC.map (LB (k7 h) h),nI.map (λn=>(g9 h n).bind (A0 h)),gu.map (AQ (k7 h) h),uZ.map (λx=>(h.nsMap mainGlobals x).bind zh),
 lN.map λx=>if(h.nsMap mainGlobals x).isNone then(h.nsMap builtinsNs x).bind zh else none)
noncomputable def nj:Oc:=(eC.map (λ_=>true),nI.map (λn=>(jP n prog).map xI),gu.map (λp=>(gg.cV p.1 p.2).map xI),uZ.map (λx=>pL x prog),lN.map ly)
noncomputable abbrev pw:Program:=PySem.Challenge.pw_nt0575_01
abbrev lw:OpenLaw:=PySem.Challenge.rw_nt0575_01
noncomputable def qM:Program:=view pw [92]
noncomputable def rd:List Str:=(pw.main.scope.names.map (·.1)).filter λn=>!(["law","__name__","Exception"]:List Str).contains n
noncomputable def T0(P:Params):BT:=((((((((((BT.nil.ins 0 (boot_o_0 P)).ins 1 (boot_o_1 P)).ins 2 (boot_o_2 P)).ins 3 (boot_o_3 P)).ins 4 (boot_o_4 P)).ins 5 (boot_o_5 P)).ins 6 (boot_o_6 P)).ins 7 (boot_o_7 P)).ins 8 (boot_o_8 P)).ins 9 (boot_o_9 P)).ins 10 (boot_o_10 P)
theorem Ob(P:Params):absHeap (T0 P) 11 {}=boot_heap P:=by kernel_rfl
noncomputable def Vm(s:Shared):Bool:=recOk lw.row.toRowW.records s
noncomputable def WJ(s:Shared):Oc:=uG s.heap
noncomputable def PK(h:Heap):List (Option V)×List (Option V):=(uZ.map λx=>(h.nsMap mainGlobals x).bind zh,lN.map λx=>if(h.nsMap mainGlobals x).isNone then(h.nsMap builtinsNs x).bind zh else none)
noncomputable def PJ(h:Heap):List Bool×List (Option pV):=(eC.map (LB (k7 h) h),nI.map λn=>(g9 h n).bind (A0 h))
noncomputable def PI(h:Heap):List (Option pV):=gu.map (AQ (k7 h) h)
theorem PO:∀(w:World),(λos=>(segRunT treeTable pw w 11 (some (.ref 6)) 0 14000 ⟨T0 w.params,11,{}, #[],boot_drawn,boot_toks,os⟩ (topStub pw)).map λr=>(staticsOk (importedModules pw.main.body) (boot_heap w.params) r.2.1.abs.heap&&namesBound pw r.2.1.abs.heap&&gensDone r.2.1.abs&&laidKept (boot_heap w.params) r.2.1.abs.heap,openSeen qM rd (importedModules pw.main.body) Vm true r.2.1.abs,PK r.2.1.abs.heap))=λ_=>some (true,openGood qM rd,(uZ.map λx=>pL x prog,lN.map ly)):=by
 rw[PySem.W.Fast.te10110043849684766642,PySem.W.Fast.te14364793385576792824,PySem.W.Fast.te4187177175401517315];intro w
 kernel_rfl
theorem PN:∀(w:World),(λos=>(segRunT treeTable pw w 11 (some (.ref 6)) 0 14000 ⟨T0 w.params,11,{}, #[],boot_drawn,boot_toks,os⟩ (topStub pw)).map λr=>PJ r.2.1.abs.heap)=λ_=>some (eC.map λ_=>true,nI.map λn=>(jP n prog).map xI):=by
 rw[PySem.W.Fast.te10110043849684766642,PySem.W.Fast.te14364793385576792824];intro w
 kernel_rfl
theorem PM:∀(w:World),(λos=>(segRunT treeTable pw w 11 (some (.ref 6)) 0 14000 ⟨T0 w.params,11,{}, #[],boot_drawn,boot_toks,os⟩ (topStub pw)).map λr=>PI r.2.1.abs.heap)=λ_=>some (gu.map λp=>(gg.cV p.1 p.2).map xI):=by
 rw[PySem.W.Fast.te10110043849684766642,PySem.W.Fast.te14364793385576792824];intro w
 kernel_rfl
end Mine.Internal
set_option backward.match.sparseCases true
namespace Mine.Internal
open PySem PySem.Calls PySem.W PyProof.Rows
section
noncomputable def vH:List String:=["bytearray.__contains__","bytearray.__mod__","bytearray.__rmod__","_struct.pack_into.held","bytearray.find.held"]++Builtin.Bytes.decodersThatHold
set_option backward.match.sparseCases false in
noncomputable def f9:Code->Bool
 |.builtin id _=>!vH.contains id
 |_=>true
def Cl(l:List (Code×Pos)):Prop:=∀x∈l,f9 x.1=true
def bJ{α:Type}(M:Model)(A:Around)(t:Sem α)(Q:α->Shared->Prop)(s:Shared):Prop:=
 ∀Γ p,Γ.In A->f9 Γ.code=true->Cl Γ.below->Sem.wp M Γ t (λa _ s'=>Q a s') (λ_ _ _=>False) p s
def T6(Q:Flow->Shared->Prop)(r:Result)(s:Shared):Prop:=match r with
 |.ok f=>Q f s
 |.error _=>False
def aW(M:Model)(A:Around)(c:Code)(Q:Flow->Shared->Prop)(s:Shared):Prop:=
 ∀Γ p,Γ.code=c->Γ.Below A->Cl Γ.below->wpCode M Γ (T6 Q) p s
section
variable{α β:Type}{M:Model}{A:Around}{s:Shared}
theorem N.of{t:Sem α}{Q:α->Shared->Prop}(h:wpAny M A t Q (λ_ _=>False) s):bJ M A t Q s:=λΓ p fY _ _=>h Γ p fY
theorem aW.of{c:Code}{Q:Flow->Shared->Prop}(h:codeAny M A c (T6 Q) s):aW M A c Q s:=λΓ p hc fY _=>h Γ p hc fY
theorem N.pure{a:α}{Q:α->Shared->Prop}(h:Q a s):bJ M A (pure a) Q s:=λ_ _ _ _ _=>h
theorem N.mono{t:Sem α}{Q Q':α->Shared->Prop}(h:bJ M A t Q s)(hQ:∀a s,Q a s->Q' a s):bJ M A t Q' s:=
 λΓ p fY hc hb=>Sem.wp_mono M Γ t (λa _ s=>hQ a s) (λ_ _ _ x=>x) p s (h Γ p fY hc hb)
theorem N.bind{m:Sem α}{f:α->Sem β}{Q:β->Shared->Prop}(h:bJ M A m (λa s'=>bJ M A (f a) Q s') s):bJ M A (m>>=f) Q s:=λΓ p fY hc hb=>by
 rw[Sem.wp_bind'];exact Sem.wp_mono M Γ m (λa p' s' h'=>h' Γ p' fY hc hb) (λ_ _ _ h'=>h') p s (h Γ p fY hc hb)
theorem N.seq{m:Sem α}{f:α->Sem β}{P:α->Shared->Prop}{Q:β->Shared->Prop}(h:bJ M A m P s)(k:∀a s',P a s'->bJ M A (f a) Q s'):bJ M A (m>>=f) Q s:=
 N.bind (N.mono h k)
theorem N.onRaise{m:Sem α}{k:Value->Sem Unit}{Q:α->Shared->Prop}(h:bJ M A m Q s):bJ M A (m.onRaise k) Q s:=λΓ p fY hc hb=>by
 rw[Sem.wp_onRaise];exact Sem.wp_mono M Γ m (λ_ _ _ h'=>h') (λ_ _ _ h'=>h'.elim) p s (h Γ p fY hc hb)
theorem N.attempt{m:Sem α}{Q:Except Value α->Shared->Prop}(h:bJ M A m (λa=>Q (.ok a)) s):bJ M A m.attempt Q s:=λΓ p fY hc hb=>by
 rw[Sem.wp_attempt];exact Sem.wp_mono M Γ m (λ_ _ _ h'=>h') (λ_ _ _ h'=>h'.elim) p s (h Γ p fY hc hb)
theorem N.holding{vs:List Value}{m:Sem α}{Q:α->Shared->Prop}(h:bJ M A m Q s):bJ M A (holding vs m) Q s:=λΓ p fY hc hb=>by rw[Sem.wp_holding];exact h Γ p fY hc hb
theorem N.keep{vs:List Value}{m:Sem α}{Q:α->Shared->Prop}(h:bJ M A m Q s):bJ M A (m.keep vs) Q s:=λΓ p fY hc hb=>by rw[Sem.wp_keep];exact h Γ p fY hc hb
theorem N.standAt{pos:Pos}{Q:Unit->Shared->Prop}(h:Q () s):bJ M A (standAt pos) Q s:=λ_ _ _ _ _=>h
theorem N.point{Q:Unit->Shared->Prop}(h:Q () s):bJ M A point Q s:=λ_ _ _ _ _=>h
theorem N.rule{tag:String}{Q:Unit->Shared->Prop}(h:Q () s):bJ M A (rule tag) Q s:=λ_ _ _ _ _=>h
theorem N.at'{pos:Pos}{f:Unit->Sem α}{Q:α->Shared->Prop}(h:bJ M A (f ()) Q s):bJ M A (PySem.standAt pos>>=f) Q s:=N.bind (N.standAt h)
theorem N.stack{Q:List (Code×Pos)->Shared->Prop}(h:∀st,Cl st->Q st s):bJ M A stack Q s:=λΓ p fY hc hb=>by
 refine(?_:Q ((Γ.code,p)::Γ.below) s);refine h _ λx hx=>?_
 rcases bt hx with rfl|hx
 ·exact hc
 ·exact hb x hx
theorem N.release{vs keep:List Value}{Q:Unit->Shared->Prop}(h:Q () s):bJ M A (release vs keep) Q s:=λΓ p _ _ _=>by
 refine(?_:Sem.wp M Γ (release.go keep _) _ _ p s);have:∀(l:List Value),Sem.wp M Γ (release.go keep l) (λa _ s'=>Q a s') (λ_ _ _=>False) p s:=λl=>by
  induction l with
  |nil=>exact h
  |cons a l ih=>
   induction l using List.casesOn with
   |nil=>exact h
   |cons b l=>
    refine(?_:Sem.wp M Γ (PySem.holding _ PySem.point>>=λ_=>release.go keep (b::l)) _ _ p s);rw[Sem.wp_bind',Sem.wp_holding];exact ih
 exact this _
theorem N.operate{vs:List Value}{m:Sem Value}{Q:Value->Shared->Prop}(h:bJ M A m Q s):bJ M A (operate vs m) Q s:=
 N.seq (N.holding h) λr s' h'=>N.bind (N.release (N.pure h'))
theorem aW.mono{c:Code}{Q Q':Flow->Shared->Prop}(h:aW M A c Q s)(hQ:∀f s,Q f s->Q' f s):aW M A c Q' s:=
 λΓ p hc fY hb=>wpCode_mono (λr s'=>by induction r using Except.casesOn with|ok f=>exact hQ f s'|error=>exact id) (h Γ p hc fY hb)
theorem N.run{c:Code}{Q:Flow->Shared->Prop}(hc:aW M A c Q s):bJ M A (run c) Q s:=λΓ p fY h1 h2=>by
 rw[Sem.wp_run];have:=hc (Γ.enter c none p) p rfl (fY.enter c none p (by intro x;exact cT x)) (λx hx=>by
  rcases bt (show x∈(Γ.code,p)::Γ.below from hx)with rfl|hx
  ·exact h1
  ·exact h2 x hx)
 exact wpCode_mono (λr s'=>by induction r using Except.casesOn<;>exact id) this
def pG(Q:Value->Shared->Prop)(f:Flow)(s:Shared):Prop:=match f with
 |.ret v=>Q v s
 |_=>False
theorem N.runValue{c:Code}{Q:Value->Shared->Prop}(hc:aW M A c (pG Q) s):bJ M A (runValue c) Q s:=by
 unfold PySem.runValue;refine N.seq (N.run hc) λf s' h=>?_
 induction f using Flow.casesOn with
 |ret v=>exact N.pure h
 |_=>exact h.elim
theorem N.call{f:Value}{pos:List Value}{kw:List (Str×Value)}{Q:Value->Shared->Prop}(hc:aW M A (.call f ⟨pos,kw⟩) (pG Q) s):bJ M A (call f pos kw) Q s:=N.runValue hc
theorem N.runOwn{c:Code}{env:Env}{Q:Flow->Shared->Prop}(hc:aW M A c Q s):bJ M A (runOwn c env) Q s:=N.onRaise (N.run hc)
def rM(M:Model)(A:Around)(Q:Flow->Shared->Prop)(fin:PySem.Fin)(s:Shared):Prop:=match fin with
 |.done f=>Q f s
 |.again c'=>c'.quiet=true/\aW M A c' Q s
theorem aW.tree{c:Code}{Q:Flow->Shared->Prop}(h:bJ M (A.under c) (M.den c) (rM M A Q) s)(gH:f9 c=true:=by rfl):aW M A c Q s:=λΓ p hc fY hb=>by
 rw[wpCode_iff_wp,hc];refine Sem.wp_mono M Γ _ (λfin p' s' h'=>?_) (λ_ _ _ h'=>h'.elim) p s (h Γ p (hc▸fY.in) (hc▸gH) hb)
 induction fin using PySem.Fin.casesOn with
 |done f=>exact h'
 |again c'=>exact⟨h'.1,h'.2 (Γ.goto c') p' rfl (fY.goto c') hb⟩
theorem aW.loop{c:Code}{Q:Flow->Shared->Prop}(hq:c.quiet=true)(I:Nat->Shared->Prop)(turn:∀n s,I n s->bJ M (A.under c) (M.den c) (λfin s'=>match fin with|.done f=>Q f s'|.again c'=>(c'=c/\∃m,m<n/\I m s')\/(c'.quiet=true/\aW M A c' Q s')) s)
  (n:Nat) (h:I n s) (gH:f9 c=true:=by rfl):aW M A c Q s:=by
 induction n using Nat.strongRecOn generalizing s with
 |ind n ih=>
  refine aW.tree (N.mono (turn n s h) λfin s' hf=>?_) gH
  induction fin using PySem.Fin.casesOn with
  |done f=>exact hf
  |again c'=>
   rcases hf with⟨rfl,m,hm,hI⟩|hf
   ·exact⟨hq,ih m hm hI⟩
   ·exact hf
end
section
variable{prog:Program}{w:World}{A:Around}{s:Shared}{env:Env}
theorem aW.func{body:List Stmt}{Q:Flow->Shared->Prop}(h:bJ (model prog w) (A.deeper env) (execs body env) (λf s'=>Q (.ret (match f with|.ret v=>v|_=>.none)) s') s):aW (model prog w) A (.func body env) Q s:=by
 refine aW.tree ?_;refine(?_:bJ _ (A.deeper env) (do point;match<-(execs body env).onRaise (leaving env)with|.ret v=>ret v|_=>ret .none) _ s)
 refine N.bind (N.point (N.seq (N.onRaise h) λf s' h'=>?_))
 induction f using Flow.casesOn<;>exact N.pure h'
theorem aW.NM{a:Addr}{args:Args}{o:Obj}{fd:FuncData}{body:List Stmt}{Q:Flow->Shared->Prop}(Gh:A.depth<recursionLimit)(ho:s.heap.get? a=some o)(oP:o.data=.func fd)(zI:fd.scope.isCoroutine=false)(Gp:fd.scope.isGenerator=false)(Gv:fd.body=.stmts body)(Cy:s.heap.CodeRec fd.code fd.qualname)(h:bJ (model prog w) A.in1 (bindArgs fd args) (λbinds ax=>bJ (model prog w) A.in1 (newFunctionEnv fd.scope fd.globals fd.closure binds (fd.qualname++".<locals>.") (some a) fd.code none fd.builtins) (λenv aY=>aY.heap.NoLimit/\aW (model prog w) A (.func body env) Q aY) ax) s):aW (model prog w) A (.call (.ref a) args) Q s:=by
 refine aW.tree ?_;refine(?_:bJ _ A.in1 (callAny (.ref a) args) _ s);skip;refine N.seq (P:=λo' s'=>o'=o/\s'=s) (N.of (wpAny_load ho ⟨rfl,rfl⟩)) ?_;rintro _ _ ⟨rfl,rfl⟩;(refine mQ Cy λc oc vs tq hc X7 Yo hq=>?_;clear Cy);simp only[oP,callFunction,zI,Gp,Gv,hc];rw[hc]at h;refine N.bind (m:=field (.ref c) 1) (N.of (wpAny_field X7 Yo hq ?_));refine N.bind (N.pure ?_);exact N.bind (N.mono h λbinds ax jo=>N.bind (N.mono jo λenv aY gM=>N.bind (N.of (wpAny_enterFrame gM.1 Gh (show bJ _ _ _ _ _ from N.pure ⟨rfl,gM.2⟩)))))
theorem aW.block{stmts:List Stmt}{Q:Flow->Shared->Prop}(h:bJ (model prog w) A (execs stmts env) Q s):aW (model prog w) A (.block stmts env) Q s:=by
 refine aW.tree ?_;refine(?_:bJ _ _ (do return Fin.done (<-(execs stmts env).onRaise (λx=>do noteFrame x env;theTreesLotGoes x))) _ s);exact N.seq (N.onRaise h) λf s' h'=>N.pure h'
theorem aW.forLoop{Q:Flow->Shared->Prop}{target:Expr}{it:Value}{body orelse:List Stmt}(I:Nat->Shared->Prop)(turn:∀n s,I n s->bJ (model prog w) A (pyNext it) (λr ax=>match r with
   |none=>bJ (model prog w) A (execs orelse env) Q ax
   |some v=>bJ (model prog w) A (letOwnedTupleGo target it v) (λ_ wL=>bJ (model prog w) A (assign target env v) (λ_ aY=>bJ (model prog w) A (execs body env) (λf d8=>match f with
      |.next|.cont=>∃m,m<n/\I m d8
      |.brk=>Q .next d8
      |.ret v=>Q (.ret v) d8) aY) wL) ax) s)
  (n:Nat) (h:I n s):aW (model prog w) A (.forLoop target it body orelse env) Q s:=by
 refine aW.loop rfl I (λn s hI=>?_) n h;refine(?_:bJ _ A ((forTurn target it body orelse env).onRaise (λx=>do noteFrame x env;theTreesLotGoes x)) _ s);refine N.onRaise ?_;skip;refine N.bind (N.standAt (N.seq (N.onRaise (turn n s hI)) λr ax jo=>?_))
 induction r using Option.casesOn with
 |none=>exact N.pure (.inr ⟨rfl,aW.block jo⟩)
 |some v=>
  refine N.seq jo λ_ wL Ge=>N.seq Ge λ_ aY gM=>N.seq gM λf d8 kH=>?_
  induction f using Flow.casesOn with
  |next=>exact N.pure (.inl ⟨rfl,kH⟩)
  |cont=>exact N.pure (.inl ⟨rfl,kH⟩)
  |brk=>exact N.pure kH
  |ret v=>exact N.pure kH
theorem aW.whileLoop{Q:Flow->Shared->Prop}{test:Expr}{body orelse:List Stmt}(I:Nat->Shared->Prop)(turn:∀n s,I n s->bJ (model prog w) A (isTrue test env (eval test env)) (λb aY=>match b with
    |true=>bJ (model prog w) A (execs body env) (λf d8=>match f with
      |.next|.cont=>∃m,m<n/\I m d8
      |.brk=>Q .next d8
      |.ret v=>Q (.ret v) d8) aY
    |false=>bJ (model prog w) A (execs orelse env) Q aY) s)
  (n:Nat) (h:I n s):aW (model prog w) A (.whileLoop test body orelse env) Q s:=by
 refine aW.loop rfl I (λn s hI=>?_) n h;refine(?_:bJ _ A ((whileTurn test body orelse env).onRaise (λx=>do noteFrame x env;theTreesLotGoes x)) _ s);refine N.onRaise ?_;skip;refine N.seq (turn n s hI) λb aY gM=>?_
 induction b using Bool.casesOn with
 |false=>exact N.seq gM λf d8 kH=>N.pure kH
 |true=>
  refine N.seq gM λf d8 kH=>?_
  induction f using Flow.casesOn with
  |next=>exact N.pure (.inl ⟨rfl,kH⟩)
  |cont=>exact N.pure (.inl ⟨rfl,kH⟩)
  |brk=>exact N.pure kH
  |ret v=>exact N.pure kH
theorem aW.builtin{id:String}{args:Args}{b:Builtin}{Q:Flow->Shared->Prop}(hq:plainId id=true)(hb:entryFor table id=some b)(h:bJ (model prog w) A.in1 (b args) (rM (model prog w) A Q) s)(gH:f9 (.builtin id args)=true:=by rfl):aW (model prog w) A (.builtin id args) Q s:=by
 refine aW.tree ?_ gH;rw[Around.under_plainId hq args];show bJ _ _ (match entryFor table id with|some b=>b args|none=>unsupported ((withoutEnding? id "#data").getD id)) _ s
 refine Eq.symm hb▸?_;exact h
theorem aW.xT{id:String}{args:Args}{b:Builtin}{Q:Flow->Shared->Prop}(hq:plainId id=true)(hb:entryFor table id=some b)(hc:∀Q':Unit->Shared->Prop,Q' () s->wpAny (model prog w) A.in1 (checkBuiltinCall id args) Q' (λ_ _=>False) s)(h:bJ (model prog w) A.in1 (b args) (rM (model prog w) A Q) s)(gH:f9 (.builtin id args)=true:=by rfl):aW (model prog w) A (.call (.builtin id) args) Q s:=by
 refine aW.tree ?_;refine(?_:bJ _ A.in1 (do checkBuiltinCall id args;again (.builtin id args)) _ s);exact N.bind (N.of (hc _ (show bJ _ _ _ _ _ from N.pure ⟨plainId_quiet hq args,aW.builtin hq hb h gH⟩)))
theorem N.qN{T:String}{name:Str}{id:String}{b:Builtin}{self:Value}{rest:List Value}{Q:Value->Shared->Prop}(sl:Slot T name id)(hT:s.TypeIs self T)(hb:entryFor table id=some b)(ha:argsOk id ⟨self::rest,[]⟩)(h:bJ (model prog w) A.in1 (b ⟨self::rest,[]⟩) (rM (model prog w) A (pG Q)) s)(gH:f9 (.builtin id ⟨self::rest,[]⟩)=true:=by rfl):bJ (model prog w) A (PySem.call (.builtin id) (self::rest)) Q s:=
 N.call (aW.xT sl.plain hb (λQ' hQ=>sl.check _ _ _ _ _ _ _ _ hT ha hQ) h gH)
theorem N.special{T:String}{name:Str}{id:String}{b:Builtin}{self:Value}{rest:List Value}{Q:Option Value->Shared->Prop}(sl:Slot T name id)(hT:s.TypeIs self T)(hb:entryFor table id=some b)(ha:argsOk id ⟨self::rest,[]⟩)(h:bJ (model prog w) A.in1 (b ⟨self::rest,[]⟩) (rM (model prog w) A (pG λv=>Q (some v))) s)(gH:f9 (.builtin id ⟨self::rest,[]⟩)=true:=by rfl):bJ (model prog w) A (callSpecial? self name rest) Q s:=by
 simp only[callSpecial?];refine N.bind (N.of (wpAny_specialOf hT sl.lookup ?_));simp only[sl.bind];exact N.holding (N.bind (N.pure (N.bind (N.mono (N.qN sl hT hb ha h gH) λv s' h'=>N.pure h'))))
end
def qA{α:Type}(M:Model)(A:Around)(t:Sem α)(Q:α->Shared->Prop)(E:Value->Shared->Prop)(s:Shared):Prop:=
 ∀Γ p,Γ.In A->f9 Γ.code=true->Cl Γ.below->Sem.wp M Γ t (λa _ s'=>Q a s') (λe _ s'=>E e s') p s
def t5(M:Model)(A:Around)(c:Code)(R:Result->Shared->Prop)(s:Shared):Prop:=
 ∀Γ p,Γ.code=c->Γ.Below A->Cl Γ.below->wpCode M Γ R p s
section
variable{α β:Type}{M:Model}{A:Around}{E:Value->Shared->Prop}{s:Shared}
theorem X.of{t:Sem α}{Q:α->Shared->Prop}(h:wpAny M A t Q E s):qA M A t Q E s:=λΓ p fY _ _=>h Γ p fY
theorem X.bind{m:Sem α}{f:α->Sem β}{Q:β->Shared->Prop}(h:qA M A m (λa s'=>qA M A (f a) Q E s') E s):qA M A (m>>=f) Q E s:=λΓ p fY hc hb=>by
 rw[Sem.wp_bind'];exact Sem.wp_mono M Γ m (λa p' s' h'=>h' Γ p' fY hc hb) (λ_ _ _ h'=>h') p s (h Γ p fY hc hb)
theorem X.pure{a:α}{Q:α->Shared->Prop}(h:Q a s):qA M A (pure a) Q E s:=λ_ _ _ _ _=>h
theorem X.mono{t:Sem α}{Q Q':α->Shared->Prop}(h:qA M A t Q E s)(hQ:∀a s,Q a s->Q' a s):qA M A t Q' E s:=
 λΓ p fY hc hb=>Sem.wp_mono M Γ t (λa _ s=>hQ a s) (λ_ _ _ x=>x) p s (h Γ p fY hc hb)
theorem X.holding{vs:List Value}{m:Sem α}{Q:α->Shared->Prop}(h:qA M A m Q E s):qA M A (PySem.holding vs m) Q E s:=λΓ p fY hc hb=>by rw[Sem.wp_holding];exact h Γ p fY hc hb
theorem N.Hs{m:Sem α}{Q:Except Value α->Shared->Prop}(h:qA M A m (λa=>Q (.ok a)) (λe=>Q (.error e)) s):bJ M A m.attempt Q s:=λΓ p fY hc hb=>by
 rw[Sem.wp_attempt];exact h Γ p fY hc hb
theorem X.call{f:Value}{pos:List Value}{Q:Value->Shared->Prop}(hc:t5 M A (.call f ⟨pos,[]⟩) (λr s'=>match r with|.ok (.ret v)=>Q v s'|.ok _=>False|.error e=>E e s') s):qA M A (PySem.call f pos) Q E s:=λΓ p fY h1 h2=>by
 refine(?_:Sem.wp M Γ (PySem.runValue _) _ _ p s);rw[Sem.wp_runValue];exact hc (Γ.enter _ none p) p rfl (fY.enter _ none p (by intro x;exact cT x)) λx hx=>by
  rcases bt (show x∈(Γ.code,p)::Γ.below from hx)with rfl|hx
  ·exact h1
  ·exact h2 x hx
theorem t5.tree{c:Code}{R:Result->Shared->Prop}(h:qA M (A.under c) (M.den c) (λfin s'=>match fin with|.done f=>R (.ok f) s'|.again c'=>c'.quiet=true/\t5 M A c' R s') (λe s'=>R (.error e) s') s)
  (gH:f9 c=true:=by rfl):t5 M A c R s:=λΓ p hc fY hb=>by
 rw[wpCode_iff_wp,hc];refine Sem.wp_mono M Γ _ (λfin p' s' h'=>?_) (λ_ _ _ h'=>h') p s (h Γ p (hc▸fY.in) (hc▸gH) hb)
 induction fin using PySem.Fin.casesOn with
 |done f=>exact h'
 |again c'=>exact⟨h'.1,h'.2 (Γ.goto c') p' rfl (fY.goto c') hb⟩
end
section
variable{prog:Program}{w:World}{A:Around}{E:Value->Shared->Prop}{s:Shared}
theorem X.special{T:String}{name:Str}{id:String}{b:Builtin}{self:Value}{rest:List Value}{Q:Option Value->Shared->Prop}(sl:Slot T name id)(hT:s.TypeIs self T)(hb:entryFor table id=some b)(ha:argsOk id ⟨self::rest,[]⟩)(h:qA (model prog w) A.in1 (b ⟨self::rest,[]⟩) (λfin s'=>∃v,fin=.done (.ret v)/\Q (some v) s') E s)(gH:f9 (.builtin id ⟨self::rest,[]⟩)=true:=by rfl):qA (model prog w) A (callSpecial? self name rest) Q E s:=by
 simp only[callSpecial?];refine X.bind (X.of (wpAny_specialOf hT sl.lookup ?_));simp only[sl.bind];refine X.holding (X.bind (X.pure (X.bind (X.call (Q:=λv s'=>qA (model prog w) A (Pure.pure (some v)) Q E s') (t5.tree ?_)))));refine(?_:qA _ A.in1 (do checkBuiltinCall id ⟨self::rest,[]⟩;again (.builtin id ⟨self::rest,[]⟩)) _ _ s);refine X.bind (X.of (sl.check _ _ _ _ _ _ _ _ hT ha (show qA _ _ _ _ _ _ from X.pure ⟨plainId_quiet sl.plain _,t5.tree ?_ gH⟩)))
 rw[Around.under_plainId sl.plain];show qA _ _ (match entryFor table id with|some b=>b _|none=>unsupported ((withoutEnding? id "#data").getD id)) _ _ s
 rw[hb];refine X.mono h λfin s' hf=>?_;(refine ak hf λv DQ hv=>?_;clear hf;subst DQ);exact X.pure hv
end
end
section
def dZ(M:Model)(A:Around)(Φ:End->Shared->Prop)(c:Code)(t:Sem PySem.Fin)(fs:List Frame)(s:Shared):Prop:=
 ∀Γ p,Γ.code=c->Γ.Woken A->Cl Γ.below->∃e s',Runs M Γ p t fs s e s'/\Φ e s'
def OF(fs:List Frame):Prop:=Cl (fs.map Frame.where_)
section
variable{M:Model}{A:Around}{Φ:End->Shared->Prop}{c:Code}{fs:List Frame}{s:Shared}
theorem fH{α:Type}{m:Sem α}{K:α->Sem PySem.Fin}{ae:Value->Sem PySem.Fin}{gd lv}(hf:OF fs)(h:bJ M (A.over c fs) m (λa s'=>dZ M A Φ c (K a) fs s') s)(gH:f9 c=true:=by rfl):dZ M A Φ c (m.wrap K ae gd lv) fs s:=by
 rintro Γ p rfl fY hb;exact runs_wrap_of_wp K ae gd lv m (h (Γ.over fs) p (fY.over fs) gH (λx hx=>by
  rcases mem_append.mp (show x∈fs.map Frame.where_++Γ.below from hx)with hx|hx
  ·exact hf x hx
  ·exact hb x hx)) (λa p' s' h'=>h' Γ p' rfl fY hb) (λx p' s' h'=>h'.elim)
theorem qj{k:Unit->Sem PySem.Fin}(h:dZ M A Φ c (k ()) fs s):dZ M A Φ c (.at p' k) fs s:=by
 rintro Γ p rfl fY hb;exact runs_wrap_of_wp k .raise id id (standAt p') (show Sem.wp M (Γ.over fs) (standAt p') (λa _ s'=>dZ M A Φ Γ.code (k a) fs s') (λ_ _ _=>False) p s from h)
  (λa p' s' h'=>h' Γ p' rfl fY hb) (λx p' s' h'=>h'.elim)
theorem yV{k:Unit->Sem PySem.Fin}(h:dZ M A Φ c (k ()) fs s):dZ M A Φ c (.point l k) fs s:=by
 rintro Γ p rfl fY hb;exact runs_wrap_of_wp k .raise id (λ_=>l) point (show Sem.wp M (Γ.over fs) point (λa _ s'=>dZ M A Φ Γ.code (k a) fs s') (λ_ _ _=>False) p s from h)
  (λa p' s' h'=>h' Γ p' rfl fY hb) (λx p' s' h'=>h'.elim)
theorem BN{h g l}{k:Result->Sem PySem.Fin}(hc:∀p,dZ M A Φ c' (M.den c') (.ret k h g l c p []::fs) s):dZ M A Φ c (.call c' h g l k) fs s:=by
 rintro Γ p rfl fY hb;refine cw (hc p (Γ.goto c') p rfl (fY.goto c') hb) λe s' hr he=>?_;exact(ef e s' (runs_call_seg hr) he)
theorem BL{k h g l c₁ Qe kp}(r:Result)(hk:dZ M A Φ c₁ (k r) fs s):dZ M A Φ c (leafOf r) (.ret k h g l c₁ Qe kp::fs) s:=by
 rintro Γ p rfl fY hb;refine cw (hk (Γ.goto c₁) Qe rfl (fY.goto c₁) hb) λe s' hr he=>?_;exact(ef e s' (Runs.pop r hr) he)
theorem qS(hq:c'.quiet=true)(hc:dZ M A Φ c' (M.den c') fs s):dZ M A Φ c (.pure (.again c')) fs s:=by
 rintro Γ p rfl fY hb;refine cw (hc (Γ.goto c') p rfl (fY.goto c') hb) λe s' hr he=>?_;exact(ef e s' (Runs.head (c₁:=c') (λ_ _ x=>.again hq x) hr) he)
theorem EV(r:Result)(h:Φ (.ret r) s):dZ M A Φ c (leafOf r) [] s:=by
 rintro Γ p rfl _ _;exact(ef (.ret r) s (Runs.leaf r) h)
theorem yU{v g l}{k:Resume->Sem PySem.Fin}(Rm:splitAtGen fs=none)(h:∀p,Φ (.susp v g l k c p fs) s):dZ M A Φ c (.yield v g l k) fs s:=by
 rintro Γ p rfl _ _;exact(ef _ s (Runs.yield' fs Rm) (h p))
def HY(M:Model)(A:Around)(Φ:End->Shared->Prop)(gs:GenState)(s:Shared):Prop:=
 match gs with
 |.fresh c=>dZ M A Φ c (M.den c) [] s
 |.suspended k _ c _ fs _=>dZ M A Φ c (k (.send .none)) fs s
 |_=>False
theorem X.resume{E:Value->Shared->Prop}{α:Type}{k:GenResult->Sem α}{Q:α->Shared->Prop}(hg:s.gens[g]?=some gs)(Lu:HY M A Φ gs (s.setGen g .running))(SK:∀e ax,Φ e ax->e.quiet=true/\qA M A (k e.result) Q E (ax.setGen g e.genState)):qA M A (.resume g (.send .none) l k) Q E s:=by
 intro Γ p fY hc hb;rw[Sem.wp_resume];have hB:∀c,(Γ.wake c p).Woken A:=λc=>fY.wake c p;have CA:Cl ((Γ.code,p)::Γ.below):=λx hx=>by
  rcases bt hx with rfl|hx
  ·exact hc
  ·exact hb x hx
 induction gs using GenState.casesOn with
 |fresh c=>
  refine cw (Lu (Γ.wake c p) p rfl (hB c) CA) λfZ ax hr he=>?_;refine cH (SK fZ ax he) λq f=>?_;exact(ef _ _ (by unfold Wakes;refine Eq.symm hg▸?_;exact(dt fZ ax hr q rfl rfl)) (f Γ p fY hc hb))
 |suspended uV Xz c₀ T4 Wy cl=>
  refine cw (Lu (Γ.wake c₀ p) T4 rfl (hB c₀) CA) λfZ ax hr he=>?_;obtain⟨q,f⟩:=SK fZ ax he;exact(ef _ _ (by unfold Wakes;refine Eq.symm hg▸?_;exact(dt fZ ax hr q rfl rfl)) (f Γ p fY hc hb))
 |running=>exact Lu.elim
 |finished=>exact Lu.elim
end
section
variable{prog:Program}{w:World}{A:Around}{Φ:End->Shared->Prop}{fs:List Frame}{s:Shared}{env:Env}{c:Code}{K:Flow->Sem PySem.Fin}{ae:Value->Sem PySem.Fin}{gd:Bool->Bool}{lv:List Value->List Value}
theorem w4{Q:Option Value->Shared->Prop}(hh:A.handled=none)(hl:s.heap.NoLimit)(Gh:A.depth<recursionLimit)(hg:s.heap.IsGen a g)(Wm:s.gens[g]?=some gs)(Lu:HY (model prog w) A.in1 Φ gs (s.setGen g .running))(SK:∀e ax,Φ e ax->e.quiet=true/\match e with
   |.ret r=>r=.ok (.ret .none)/\∀h',(∀b o,ax.heap.get? b=some o->h'.get? b=some o)->Q none {ax.setGen g .finished with heap:=h'}
   |.susp v g' l' k' c' p' fs'=>Q (some v) (ax.setGen g (End.susp v g' l' k' c' p' fs').genState)):
  bJ (model prog w) A (pyNext (.ref a)) Q s:=by
 unfold pyNext;refine N.bind (N.Hs (X.special (name:=Str.ofString "__next__") slot_gen_next hg.typeIs entry_gen_next (args_gen_next _) ?_));refine(?_:qA _ _ (Builtin.Generator.genWake (.ref a) (.send .none)) _ _ s);unfold Builtin.Generator.genWake;refine X.bind (X.holding (X.of (wpAny_genNumber hg (show qA _ _ _ _ _ _ from X.bind (X.of (wpAny_genState Wm ?_))))))
 induction gs using GenState.casesOn with
 |running=>exact Lu.elim
 |finished=>exact Lu.elim
 |_=>
  refine X.bind (X.of (wpAny_roomToWake hl Gh ?_));refine(?_:qA _ _ (.resume g (.send .none) [] _) _ _ s);refine X.resume Wm Lu λe ax he=>?_;refine cH (SK e ax he) λhq hP=>?_;refine⟨hq,?_⟩
  induction e using End.casesOn with
  |ret r=>
   (refine cH hP λTg hp=>?_;clear hP;subst Tg);refine X.of ?_;refine(?_:wpAny _ _ (newExc (.type "StopIteration") []>>=_) _ _ _);refine aw ?_;simp only[newExc,newTuple];refine aw (wpAny_newObj_type ?_ (by size_fits));refine aw (m:=firstArgMember _ _) (wpAny_of_eq (a:=Value.none) (by first|rfl|(simp only[firstArgMember];rfl)) ?_)
   refine wpAny_newObj_type ?_ (by size_fits);delta raiseNew;refine aw (aw (wpAny_handled ?_));refine Eq.symm (show A.in1.handled=none from hh)▸?_
   refine wpAny_throw ?_;refine N.bind (N.of (wpAny_isInstance (T:="StopIteration") (b:=true) ⟨_,gk _ rfl,rfl⟩ isSubtype_stop ?_));exact N.pure (hp _ λb o hb=>gm _ (gm _ hb))
  |susp v g' l' k' c' p' fs'=>exact X.pure (aT v rfl (N.pure hP))
theorem BM(h:dZ (model prog w) A Φ (.func body env) ((execs body env).wrap (λf=>.pure (.done (.ret (match f with|.ret v=>v|_=>.none)))) (λe=>(leaving env e).wrap (λ_=>.raise e) .raise id id) id id) fs s):
  dZ (model prog w) A Φ (.func body env) ((model prog w).den (.func body env)) fs s:=by
 show dZ _ A Φ _ (.point [] λ_=>((execs body env).onRaise (leaving env))>>=_) fs s;refine yV ?_;rw[Sem.onRaise_eq_wrap,Sem.bind_eq_wrap',Sem.wrap_wrap];rw[Sem.wrap_congr (execs body env) _ _ (K':=λf=>.pure (.done (.ret (match f with|.ret v=>v|_=>.none))))
  (H':=λe=>(leaving env e).wrap (λ_=>.raise e) .raise id id) (λf=>by induction f using Flow.casesOn<;>rfl) (λe=>by rw[Sem.bind_eq_wrap,Sem.wrap_wrap];rfl)]
 exact h
theorem BK{st:Stmt}{rest:List Stmt}(hf:OF fs)(h:bJ (model prog w) (A.over c fs) (exec st env) (λf s'=>f=.next/\dZ (model prog w) A Φ c ((execs rest env).wrap K ae gd lv) fs s') s)(gH:f9 c=true:=by rfl):dZ (model prog w) A Φ c ((execs (st::rest) env).wrap K ae gd lv) fs s:=by
 rw[execs_cons_wrap];refine fH hf (N.mono h λf s' h'=>?_) gH;obtain⟨rfl,h'⟩:=h';exact h'
noncomputable abbrev AZ(env:Env)(K:Flow->Sem PySem.Fin)(ae:Value->Sem PySem.Fin)(gd:Bool->Bool)(lv:List Value->List Value)(r:Result):Sem PySem.Fin:=
 ((match r with|.ok f=>(.pure f:Sem Flow)|.error e=>.raise e).onRaise λ(x:Value)=>do
    if(<-field x 1)==Value.none then unsupported "frame.own-activation:exception-without-traceback"
    setFlight x env.frame).wrap K ae gd lv
theorem EW{target iter:Expr}{body orelse:List Stmt}{pos:Pos}(hf:OF fs)(hit:∀x,foldedSetIterable iter env x=pure x)(h:bJ (model prog w) (A.over c fs) (eval iter env) (λx ax=>bJ (model prog w) (A.over c fs) (pyIter x) (λit aY=>∀p,dZ (model prog w) A Φ (.forLoop target it body orelse env) ((model prog w).den (.forLoop target it body orelse env)) (.ret (AZ env K ae gd lv) none (gd false) (lv []) c p []::fs) aY) ax) s)(gH:f9 c=true:=by rfl):dZ (model prog w) A Φ c ((exec (.For target iter body orelse pos) env).wrap K ae gd lv) fs s:=by
 show dZ _ A Φ c (.at pos λ_=>((eval iter env>>=λx=>foldedSetIterable iter env x>>=λx=>standAt iter.pos>>=λ_=>holding [x] (pyIter x)>>=λit=>runOwn (.forLoop target it body orelse env) env)).wrap K ae gd lv) fs s;refine qj ?_;rw[Sem.bind_eq_wrap',Sem.wrap_wrap];refine fH hf (N.mono h λx ax jo=>?_) gH;rw[hit];show dZ _ A Φ c (.at iter.pos λ_=>((holding [x] (pyIter x)>>=λit=>runOwn (.forLoop target it body orelse env) env)).wrap K ae gd lv) fs ax;refine qj ?_;rw[Sem.bind_eq_wrap',Sem.wrap_wrap];exact fH hf (N.holding (N.mono jo λit aY gM=>BN gM)) gH
def An(prog:Program)(w:World)(gs:GenState)(fs:List Frame)(target:Expr)(it:Value)(body:List Stmt)(env:Env):Prop:=
 ∀A Φ s,dZ (model prog w) A Φ (.forLoop target it body [] env) ((model prog w).den (.forLoop target it body [] env)) fs s->HY (model prog w) A Φ gs s
theorem uF{x:Str}{px yp sp:Pos}{it:Value}{e:Expr}(hf:OF fs)(Rm:splitAtGen fs=none)(UQ:fs.any Frame.guarded=false)(zI:env.scope.isCoroutine=false)(hi:interactive env=false)(h:bJ (model prog w) (A.over (.forLoop (.Name x px) it [.Expr (.Yield (some e) yp) sp] [] env) fs) (pyNext it) (λr ax=>match r with
   |none=>∀c,dZ (model prog w) A Φ c (leafOf (.ok .next)) fs ax
   |some v=>bJ (model prog w) (A.over (.forLoop (.Name x px) it [.Expr (.Yield (some e) yp) sp] [] env) fs) (assign (.Name x px) env v) (λ_ aY=>
     bJ (model prog w) (A.over (.forLoop (.Name x px) it [.Expr (.Yield (some e) yp) sp] [] env) fs) (eval e env) (λu d8=>
      ∀k l c p,(End.susp u false l k c p fs).quiet=true->An prog w (End.susp u false l k c p fs).genState fs (.Name x px) it [.Expr (.Yield (some e) yp) sp] env->Φ (.susp u false l k c p fs) d8) aY) ax) s):
  dZ (model prog w) A Φ (.forLoop (.Name x px) it [.Expr (.Yield (some e) yp) sp] [] env) ((model prog w).den (.forLoop (.Name x px) it [.Expr (.Yield (some e) yp) sp] [] env)) fs s:=by
 have hy:∀v,yieldOut env v=yieldValue v:=λv=>by simp only[yieldOut,zI,false_eq_true,if_false]
 have e1:exec (.Expr (.Yield (some e) yp) sp) env=(standAt sp>>=λ_=>(eval e env>>=λv=>(standAt yp>>=λ_=>yieldValue v))>>=λx=>dropValue (.Yield (some e) yp) sp x):=by
  rw[exec_Expr env _ sp hi rfl];show(standAt sp>>=λ_=>(eval e env>>=λv=>(standAt yp>>=λ_=>yieldOut env v))>>=λx=>dropValue (.Yield (some e) yp) sp x)=_;simp only[hy]
 refine(?_:dZ _ A Φ _ ((forTurn (.Name x px) it [.Expr (.Yield (some e) yp) sp] [] env).onRaise (λx=>do noteFrame x env;theTreesLotGoes x)) fs s);unfold forTurn;rw[Sem.onRaise_eq_wrap,Sem.bind_eq_wrap',Sem.wrap_wrap];refine fH hf (N.standAt ?_);rw[Sem.bind_eq_wrap',Sem.wrap_wrap];refine fH hf (N.onRaise (N.mono h λr ax jo=>?_))
 induction r using Option.casesOn with
 |none=>
  refine qS rfl ?_;exact jo (.block [] env)
 |some v=>
  refine(?_:dZ _ A Φ _ ((((pure ():Sem PUnit)>>=λ_=>assign (.Name x px) env v>>=λ_=>execs [.Expr (.Yield (some e) yp) sp] env>>=_):Sem PySem.Fin).wrap _ _ _ _) fs ax);rw[Sem.bind_eq_wrap',Sem.wrap_wrap];refine fH hf (N.pure ?_);rw[Sem.bind_eq_wrap',Sem.wrap_wrap];refine fH hf (N.mono jo λ_ aY gM=>?_);rw[Sem.bind_eq_wrap',Sem.wrap_wrap,execs_cons_wrap,e1];show dZ _ A Φ _ (.at sp λ_=>(((eval e env>>=λv=>(standAt yp>>=λ_=>yieldValue v))>>=λx=>dropValue (.Yield (some e) yp) sp x)).wrap _ _ _ _) fs aY;refine qj ?_;rw[Sem.bind_eq_wrap',Sem.bind_eq_wrap',Sem.wrap_wrap,Sem.wrap_wrap];refine fH hf (N.mono gM λu d8 kH=>?_);refine qj (yU Rm λp=>kH _ _ _ _ (by simp[End.quiet,UQ]) ?_);intro A' Xc s' hs;refine(?_:dZ _ A' Xc _ _ fs s');exact qS rfl hs
end
end
section
theorem M.bind_some{α β:Type}{m:M α}{f:α->M β}{σ aE:af}{b:β}(h:(m>>=f) σ=some (b,aE)):∃a au,m σ=some (a,au)/\f a au=some (b,aE):=by
 have h':(match m σ with|some (a,au)=>f a au|none=>none)=some (b,aE):=h
 split at h'
 ·rename_i a au e;exact(ef a au e h')
 ·exact cT h'
theorem M.aA{α β:Type}{m:M α}{f:α->M β}{σ aE:af}{b:β}{G:Prop}(h:(m>>=f) σ=some (b,aE))(k:∀a au,m σ=some (a,au)->f a au=some (b,aE)->G):G:=cw (M.bind_some h) k
theorem M.Be{α β:Type}{m:M α}{f:α->M β}{σ au:af}{a:α}(h:m σ=some (a,au)):(m>>=f) σ=f a au:=by
 show(match m σ with|some (a,au)=>f a au|none=>none)=_
 rw[h]
theorem M.aM{α:Type}{a b:α}{σ aE:af}(h:(pure a:M α) σ=some (b,aE)):a=b/\σ=aE:=by
 have h':some (a,σ)=some (b,aE):=h;cases h';exact⟨rfl,rfl⟩
theorem M.lG{α:Type}{a b:α}{σ aE:af}{G:Prop}(h:(pure a:M α) σ=some (b,aE))(k:a=b->σ=aE->G):G:=cH (M.aM h) k
theorem M.CK{α:Type}{b:α}{σ aE:af}(h:(M.fail:M α) σ=some (b,aE)):False:=by exact cT h
theorem cJ{α:Type}{o:Option α}{a:α}{σ aE:af}(h:a8 o σ=some (a,aE)):o=some a/\σ=aE:=by
 skip
 induction o using Option.casesOn with
 |none=>exact cT h
 |some b=>cases h;exact⟨rfl,rfl⟩
theorem gx{i:Nat}{c:aL}{σ aE:af}(h:dP i σ=some (c,aE)):σ[i]?=some c/\σ=aE:=by
 unfold dP at h
 split at h
 ·rename_i c' e;cases h;exact⟨e,rfl⟩
 ·exact cT h
theorem iu{c:aL}{v:V}{σ aE:af}(h:dq c σ=some (v,aE)):v=.ref σ.length/\aE=σ++[c]:=by cases h;exact⟨rfl,rfl⟩
theorem tB{vs:List V}{v:V}{σ aE:af}(h:dE vs σ=some (v,aE)):v=.ref σ.length/\aE=σ++[.lst vs]/\vs.length<=16000000:=by
 unfold dE at h
 split at h
 ·rename_i e;cases h;exact⟨rfl,rfl,eK e⟩
 ·exact cT h
theorem jF{i:Nat}{c:aL}{u:Unit}{σ aE:af}(h:iE i c σ=some (u,aE)):aE=σ.set i c:=by cases h;rfl
structure Gr where
 prog:Program
 w:World
 K:Frag
 g:G
 mg:Str->Option Value
 mb:Str->Option Value
 eN:Shared
 fa:Str->Option Addr
 ca:Str->Option Addr
 low:∃b o,2<=b/\eN.heap.get? b=some o
noncomputable abbrev bo:=List (Addr×Addr)
noncomputable def cW(Z:bo):List Addr:=Z.map (·.1)++Z.map (·.2)
theorem bK{Z:bo}{i:Nat}{p:Addr×Addr}(h:Z[i]?=some p):p.1∈cW Z/\p.2∈cW Z:=
 ⟨mem_append_left _ (List.mem_map_of_mem (fP h)),mem_append_right _ (List.mem_map_of_mem (fP h))⟩
theorem k8(Z r:bo)(a:Addr):a∈cW (Z++r)↔a∈cW Z\/a∈cW r:=by
 simp only[cW,map_append,mem_append];constructor
 ·rintro((h|h)|(h|h))<;>simp[h]
 ·rintro((h|h)|(h|h))<;>simp[h]
noncomputable abbrev iB(xs:Array Value):Obj:={cls:=.type "tuple",data:=.seq xs}
def bg{α β:Type}(P:α->β->Prop)(l:List α)(m:List β):Prop:=l.length=m.length/\∀(i:Nat)(a:α)(b:β),l[i]?=some a->m[i]?=some b->P a b
section
variable{α β:Type}{P Q:α->β->Prop}{l:List α}{m:List β}
theorem bg.nil:bg P [] []:=⟨rfl,λi a b h=>by exact cT h⟩
theorem bg.cons{a:α}{b:β}(h:P a b)(t:bg P l m):bg P (a::l) (b::m):=⟨congrArg (· +1) t.1,λi x y hx hy=>by
 induction i using Nat.casesOn with
 |zero=>obtain rfl:=bE hx;obtain rfl:=bE hy;exact h
 |succ i=>exact t.2 i x y hx hy⟩
theorem bg.nil_inv(h:bg P [] m):m= []:=List.eq_nil_of_length_eq_zero h.1.symm
theorem bg.fM{a:α}(h:bg P (a::l) m):∃b r,m=b::r/\P a b/\bg P l r:=by
 induction m using List.casesOn with
 |nil=>cases h.1
 |cons b r=>exact⟨b,r,rfl,h.2 0 a b rfl rfl,Nat.succ.inj h.1,λi x y hx hy=>h.2 (i+1) x y hx hy⟩
theorem bg.ind{motive:(l:List α)->(m:List β)->bg P l m->Prop}(nil:motive [] [] .nil)(cons:∀(a:α)(b:β)(l:List α)(m:List β)(h:P a b)(t:bg P l m),motive l m t->motive (a::l) (b::m) (.cons h t)){l:List α}{m:List β}(t:bg P l m):motive l m t:=by
 induction l generalizing m with
 |nil=>cases t.nil_inv;exact nil
 |cons a l ih=>
  (refine bf (t.fM) λb r Er h t'=>?_;subst Er);exact cons a b l r h t' (ih t')
theorem bg.imp(f:∀a b,P a b->Q a b)(h:bg P l m):bg Q l m:=⟨h.1,λi a b x y=>f _ _ (h.2 i a b x y)⟩
theorem bg.get(h:bg P l m){i:Nat}{a:α}(e:l[i]?=some a):∃b,m[i]?=some b/\P a b:=by
 have hi:i<m.length:=h.1▸(d0 e).1;exact⟨m[i],getElem?_eq_getElem hi,h.2 i a _ e (getElem?_eq_getElem hi)⟩
theorem bg.got(h:bg P l m){i:Nat}{b:β}(e:m[i]?=some b):∃a,l[i]?=some a/\P a b:=by
 have hi:i<l.length:=h.1▸(d0 e).1;exact⟨l[i],getElem?_eq_getElem hi,h.2 i _ b (getElem?_eq_getElem hi) e⟩
theorem bg.append{l':List α}{m':List β}(h:bg P l m)(h':bg P l' m'):bg P (l++l') (m++m'):=by
 induction h using bg.ind with
 |nil=>exact h'
 |cons a b l m h t ih=>exact .cons h ih
theorem bg.set(h:bg P l m)(i:Nat){a:α}{b:β}(hp:P a b):bg P (l.set i a) (m.set i b):=by
 induction h using bg.ind generalizing i with
 |nil=>exact .nil
 |cons x y l m h t ih=>
  induction i using Nat.casesOn with
  |zero=>exact .cons hp t
  |succ i=>exact .cons h (ih i)
theorem bg.take(h:bg P l m)(n:Nat):bg P (l.take n) (m.take n):=by
 induction h using bg.ind generalizing n with
 |nil=>rw[take_nil,take_nil];exact .nil
 |cons x y l m h t ih=>
  induction n using Nat.casesOn with
  |zero=>exact .nil
  |succ n=>exact .cons h (ih n)
theorem bg.drop(h:bg P l m)(n:Nat):bg P (l.drop n) (m.drop n):=by
 induction h using bg.ind generalizing n with
 |nil=>rw[drop_nil,drop_nil];exact .nil
 |cons x y l m h t ih=>
  induction n using Nat.casesOn with
  |zero=>exact .cons h t
  |succ n=>exact ih n
theorem bg.map{VI VH:Type}{Q':VI->VH->Prop}{f:α->VI}{g:β->VH}(hf:∀a b,P a b->Q' (f a) (g b))(h:bg P l m):bg Q' (l.map f) (m.map g):=by
 induction h using bg.ind with
 |nil=>exact .nil
 |cons a b l m h t ih=>exact .cons (hf _ _ h) ih
theorem bg.FD{γ:Type}{f:α->γ}{g:β->γ}(hf:∀a b,P a b->f a=g b)(h:bg P l m):l.map f=m.map g:=by
 induction h using bg.ind with
 |nil=>rfl
 |cons a b l m h t ih=>rw[map_cons,map_cons,hf _ _ h,ih]
end
inductive aI(R:Gr)(Z:bo)(h:Heap):V->Value->Prop
 |none:aI R Z h .none .none
 |bool (b:Bool):aI R Z h (.bool b) (.bool b)
 |int (i:Int) (t:Tok):aI R Z h (.int i) (.int i t)
 |str (x:Str) (t:Tok):aI R Z h (.str x) (.str x t)
 |bytes (b:List UInt8) (t:Tok):aI R Z h (.bytes b) (.bytes b.toArray t)
 |BD {a:Addr} {vs:List V} {xs:List Value}:a∉cW Z->h.get? a=some (iB xs.toArray)->vs.length=xs.length->(∀(i:Nat)(v:V)(x:Value),vs[i]?=some v->xs[i]?=some x->aI R Z h v x)->aI R Z h (.tup vs) (.ref a)
 |gN {a:Addr} {ns:List Int} {xs:List Value}:R.eN.heap.IsList a xs.toArray->IntsAre xs ns->aI R Z h (.gN (ns.map .int)) (.ref a)
 |hK {r:Addr} {a b c:Int} {t u v:Tok}:r∉cW Z->IsRange h r a b c t u v->aI R Z h (.hK a b c) (.ref r)
 |fn {n:Str} {a:Addr}:R.fa n=some a->aI R Z h (.fn n) (.ref a)
 |cls {n:Str} {a:Addr}:R.ca n=some a->aI R Z h (.cls n) (.ref a)
 |bi (n:String):aI R Z h (.bi n) (.builtin n)
 |ty (n:String):aI R Z h (.ty n) (.type n)
 |ref {i:Nat} {p:Addr×Addr}:Z[i]?=some p->aI R Z h (.ref i) (.ref p.1)
def aD(R:Gr)(Z:bo)(h:Heap)(vs:List V)(xs:List Value):Prop:=bg (aI R Z h) vs xs
theorem aI.tup{R:Gr}{Z:bo}{h:Heap}{a:Addr}{vs:List V}{xs:List Value}(n:a∉cW Z)(o:h.get? a=some (iB xs.toArray))(v:aD R Z h vs xs):aI R Z h (.tup vs) (.ref a):=.BD n o v.1 v.2
theorem aD.nil{R:Gr}{Z:bo}{h:Heap}:aD R Z h [] []:=bg.nil
theorem aD.cons{R:Gr}{Z:bo}{h:Heap}{v:V}{x:Value}{vs:List V}{xs:List Value}(a:aI R Z h v x)(r:aD R Z h vs xs):aD R Z h (v::vs) (x::xs):=bg.cons a r
structure bu(X:List Addr)(Z:bo)(s:Shared)(aH:bo)(s':Shared):Prop where
 pre:∃r,aH=Z++r
 new:∀a∈cW aH,a∉cW Z->s.heap.get? a=none
 keep:∀a o,s.heap.get? a=some o->a∉cW Z->a∉X->s'.heap.get? a=some o
 live:∀a∈X,∀o,s.heap.get? a=some o->a∉cW Z->∃o',s'.heap.get? a=some o'
 gen:∀(i:Nat)(p:Addr×Addr)(k:Nat),Z[i]?=some p->s.heap.IsGen p.1 k->s'.heap.IsGen p.1 k
theorem bu.refl(X:List Addr)(Z:bo)(s:Shared):bu X Z s Z s:=⟨⟨[],by simp⟩,λ_ h n=>absurd h n,λ_ _ e _ _=>e,λ_ _ o e _=>⟨o,e⟩,λ_ _ _ _ h=>h⟩
theorem bu.tok{X:List Addr}{Z:bo}{s:Shared}(t:Nat):bu X Z s Z {s with toks:=t}:=⟨⟨[],by simp⟩,λ_ h n=>absurd h n,λ_ _ e _ _=>e,λ_ _ o e _=>⟨o,e⟩,λ_ _ _ _ h=>h⟩
theorem bu.stays{X:List Addr}{Z aH:bo}{s s':Shared}(x:bu X Z s aH s'){a:Addr}{o:Obj}(e:s.heap.get? a=some o)(n:a∉cW Z):∃o',s'.heap.get? a=some o':=by
 by_cases q:a∈X
 ·exact x.live a q o e n
 ·exact⟨o,x.keep a o e n q⟩
theorem bu.out{X:List Addr}{Z aH:bo}{s s':Shared}(x:bu X Z s aH s'){a:Addr}{o:Obj}(e:s.heap.get? a=some o)(n:a∉cW Z):a∉cW aH:=λq=>by
 have:=x.new a q n;exact IA (Eq.trans e.symm this)
theorem bu.get{X:List Addr}{Z aH:bo}{s s':Shared}(x:bu X Z s aH s'){i:Nat}{p:Addr×Addr}(h:Z[i]?=some p):aH[i]?=some p:=by
 obtain⟨r,rfl⟩:=x.pre;rw[getElem?_append_left (List.getElem?_eq_some_iff.mp h).1];exact h
theorem bu.trans{X:List Addr}{Z aN cn:bo}{s ax aY:Shared}(x:bu X Z s aN ax)(y:bu X aN ax cn aY):bu X Z s cn aY:=by
 obtain⟨r,hr⟩:=x.pre;obtain⟨r',oM⟩:=y.pre;refine⟨⟨r++r',by rw[oM,hr];simp⟩,λa h n=>?_,λa o e n m=>y.keep a o (x.keep a o e n m) (x.out e n) m,λa q o e n=>?_,λi p k hp h=>y.gen i p k (x.get hp) (x.gen i p k hp h)⟩
 ·by_cases q:a∈cW aN
  ·exact x.new a q n
  ·have h1:=y.new a h q;cases e:s.heap.get? a with
   |none=>rfl
   |some o=>
    obtain⟨o',e'⟩:=x.stays e n;exact cT (Eq.trans h1.symm e')
 ·refine eL (x.stays e n) λo' e'=>?_;exact y.stays e' (x.out e n)
theorem bu.weaken{X Y:List Addr}{Z aH:bo}{s s':Shared}(x:bu X Z s aH s')(h:∀a∈X,a∈Y):bu Y Z s aH s':=
 ⟨x.pre,x.new,λa o e n m=>x.keep a o e n λq=>m (h a q),λ_ _ _ e n=>x.stays e n,x.gen⟩
theorem bu.drop{X Y:List Addr}{Z aN cn:bo}{s ax aY:Shared}(x:bu X Z s aN ax)(y:bu (Y++X) aN ax cn aY)(h:∀a∈Y,s.heap.get? a=none):bu X Z s cn aY:=by
 have z:=(x.weaken (Y:=Y++X) λa q=>mem_append_right _ q).trans y;exact⟨z.pre,z.new,λa o e n m=>z.keep a o e n λq=>by
  rcases mem_append.mp q with q|q
  ·exact cT (Eq.trans (h a q).symm e)
  ·exact m q,λa q o e n=>z.stays e n,z.gen⟩
noncomputable def Vs:Data->Prop
 |.dict .. =>True
 |.cell _=>True
 |_=>False
def yr(o:Obj):Prop:=Vs o.data\/(o.cls≠.type "tuple"/\o.cls≠.type "range")
def fF(X:List Addr)(h:Heap):Prop:=∀a∈X,∃o,h.get? a=some o/\yr o
theorem fF.nil(h:Heap):fF [] h:=λ_ q=>nomatch q
theorem bu.Lh{X:List Addr}{Z aH:bo}{s s':Shared}(x:bu X Z s aH s')(ox:fF X s.heap){a:Addr}{o:Obj}(e:s.heap.get? a=some o)(n:a∉cW Z)(h: ¬ yr o):s'.heap.get? a=some o:=
 x.keep a o e n λq=>let ⟨o',ho,h1⟩:=ox a q;h (bE (ho.symm.trans e)▸h1)
theorem aI.mono{R:Gr}{X:List Addr}{Z aH:bo}{s s':Shared}(x:bu X Z s aH s')(ox:fF X s.heap){v:V}{y:Value}(h:aI R Z s.heap v y):aI R aH s'.heap v y:=by
 induction h with
 |none=>exact .none
 |bool b=>exact .bool b
 |int i t=>exact .int i t
 |str x t=>exact .str x t
 |bytes b t=>exact .bytes b t
 |BD n e l _ ih=>exact .BD (x.out e n) (x.Lh ox e n λh=>h.elim id λh=>h.1 rfl) l ih
 |gN l i=>exact .gN l i
 |hK n e=>exact .hK (x.out e n) (x.Lh ox e n λh=>h.elim id λh=>h.2 rfl)
 |fn h=>exact .fn h
 |cls h=>exact .cls h
 |bi n=>exact .bi n
 |ty n=>exact .ty n
 |ref h=>exact .ref (x.get h)
theorem aD.mono{R:Gr}{X:List Addr}{Z aH:bo}{s s':Shared}(x:bu X Z s aH s')(ox:fF X s.heap){v:List V}{y:List Value}(h:aD R Z s.heap v y):aD R aH s'.heap v y:=bg.imp (λ_ _ r=>r.mono x ox) h
section
variable{R:Gr}{Z:bo}{h:Heap}
theorem aD.length{vs:List V}{xs:List Value}(r:aD R Z h vs xs):vs.length=xs.length:=r.1
theorem aD.get{vs:List V}{xs:List Value}(r:aD R Z h vs xs){i:Nat}{v:V}(e:vs[i]?=some v):∃x,xs[i]?=some x/\aI R Z h v x:=bg.get r e
theorem aD.append{vs us:List V}{xs ys:List Value}(r:aD R Z h vs xs)(t:aD R Z h us ys):aD R Z h (vs++us) (xs++ys):=bg.append r t
theorem aD.set{vs:List V}{xs:List Value}(r:aD R Z h vs xs)(i:Nat){v:V}{x:Value}(hv:aI R Z h v x):aD R Z h (vs.set i v) (xs.set i x):=bg.set r i hv
theorem aD.take(n:Nat){vs:List V}{xs:List Value}(r:aD R Z h vs xs):aD R Z h (vs.take n) (xs.take n):=bg.take r n
theorem aD.drop(n:Nat){vs:List V}{xs:List Value}(r:aD R Z h vs xs):aD R Z h (vs.drop n) (xs.drop n):=bg.drop r n
theorem aD.fM{v:V}{vs:List V}{xs:List Value}(r:aD R Z h (v::vs) xs):∃x ys,xs=x::ys/\aI R Z h v x/\aD R Z h vs ys:=bg.fM r
theorem aD.zero{xs:List Value}(r:aD R Z h [] xs):xs= []:=bg.nil_inv r
end
theorem pH{v:V}{r:List V}{ns:List Int}(e:bU (v::r)=some ns):∃i ms,v=.int i/\bU r=some ms/\ns=i::ms:=by
 induction v using V.casesOn with
 |int i=>
  simp only[bU]at e;refine ak (map_eq_some_iff.mp e) λms h1 h2=>?_;exact(i2 i ms rfl h1 h2.symm)
 |_=>exact cT e
theorem aI.int_inv{R:Gr}{Z:bo}{h:Heap}{i:Int}{x:Value}(r:aI R Z h (.int i) x):∃t,x=.int i t:=by cases r;exact⟨_,rfl⟩
theorem aD.ints{R:Gr}{Z:bo}{h:Heap}{vs:List V}:∀{xs:List Value}{ns:List Int},aD R Z h vs xs->bU vs=some ns->IntsAre xs ns:=by
 induction vs with
 |nil=>intro xs ns r e;cases r.zero;obtain rfl:=bE e;exact .nil
 |cons v r ih=>
  intro xs ns q e;(refine bf (pH e) λi ms O1 h1 DX=>?_;subst O1;subst DX);(refine bf (q.fM) λx ys qw a t=>?_;subst qw);obtain⟨u,rfl⟩:=a.int_inv;exact .cons i u (ih t h1)
noncomputable abbrev kZ(R:Gr):KeyKind R.prog R.w Int:=intKind R.prog R.w
noncomputable abbrev jC(R:Gr):HeapKind R.prog R.w (List Int):=tupleKind (intKind R.prog R.w)
def n5(R:Gr)(Z:bo)(h:Heap)(es:List (Int×V))(xs:List (Int×Value)):Prop:=bg (λe k=>e.1=k.1/\aI R Z h e.2 k.2) es xs
def oh(R:Gr)(Z:bo)(h:Heap)(es:List (List Int×V))(xs:List (List Int×Addr×Value)):Prop:=bg (λe k=>e.1=k.1/\aI R Z h (.tup (k.1.map .int)) (.ref k.2.1)/\aI R Z h e.2 k.2.2) es xs
def vV(R:Gr)(Z:bo)(h:Heap)(es:List (Str×V))(xs:List DictEntry):Prop:=bg (λe k=>(∃t,k.key=.str e.1 t)/\aI R Z h e.2 k.val) es xs
def DG(env:Env)(fs:List Frame):Prop:=
 ∃body p ae,fs= [.ret (AZ env (λf=>.pure (.done (.ret (match f with|.ret v=>v|_=>.none)))) ae id id) none false [] (.func body env) p []]
def Bo(R:Gr)(Z:bo)(q:Ao)(gs:GenState)(env:Env):Prop:=match q.pre with
 |some (ss,it)=>bY it=true/\∃px yp sp fp,gs=.fresh (.func (ss++[.For (.Name q.target px) it [.Expr (.Yield (some q.elt) yp) sp] [] fp]) env)
 |none=>∃I J fs px yp sp,Z[q.it]?=some (I,J)/\DG env fs/\An R.prog R.w gs fs (.Name q.target px) (.ref I) [.Expr (.Yield (some q.elt) yp) sp] env/\gs.bare=true
structure H0(R:Gr)(Z:bo)(s:Shared)(p:Addr×Addr)(q:Ao)(k:Nat)(gs:GenState)(qual:Str)(f:Addr)(sC:Value)(m:Str->Option Value):Prop where
 ne:p.1≠p.2
 gen:s.heap.IsGen p.1 k
 st:s.gens[k]?=some gs
 kind:q.sc.kind=.function
 xO:q.sc.isCoroutine=false
 names:∀p∈q.sc.names,p.2=.local\/p.2=.globalImplicit
 ns:s.heap.Ns p.2 m
 own:∀x v,look x q.env=some v->q.sc.names.lookup x=some .local/\∃y,m x=some y/\aI R Z s.heap v y
 ph:Bo R Z q gs (envX qual q.sc p.2 f sC [])
noncomputable def dK(R:Gr)(Z:bo)(s:Shared)(p:Addr×Addr):aL->Prop
 |.lst vs=>p.2=p.1/\∃xs n,IsL s.heap p.1 xs n/\aD R Z s.heap vs xs.toList
 |.cG es n=>p.2=p.1/\∃eR,s.heap.DictAt (kZ R) p.1 eR n/\n5 R Z s.heap es eR
 |.jt es=>p.2=p.1/\∃xs,s.heap.DictOfH (jC R) p.1 xs/\oh R Z s.heap es xs
 |.ins c fs=>p.1≠p.2/\∃C es n,R.ca c=some C/\s.heap.get? p.1=some (instObj C p.2)/\s.heap.get? p.2=some (dictOf es n)/\vV R Z s.heap fs es/\(fs.map (·.1)).Nodup
 |.bar b=>p.2=p.1/\s.heap.get? p.1=some {cls:=.type "bytearray",data:=.bytearray b.toArray}
 |.set es=>p.2=p.1/\s.heap.SetOf (kZ R) p.1 (λk=>es.contains k) es.length/\es.Nodup
 |.gen q=>∃k gs qual f sC m,H0 R Z s p q k gs qual f sC m
 |.busy=>(∃k,s.heap.IsGen p.1 k/\k<s.gens.size)/\∃o,s.heap.get? p.2=some o
 |.sy a c n=>p.2=p.1/\IsRangeIter s.heap p.1 a n c
noncomputable def tN:aL->Bool
 |.gen _=>true
 |.busy=>true
 |_=>false
theorem n5.mono{R:Gr}{X:List Addr}{Z aH:bo}{s s':Shared}(x:bu X Z s aH s')(ox:fF X s.heap){es:List (Int×V)}{xs:List (Int×Value)}(h:n5 R Z s.heap es xs):n5 R aH s'.heap es xs:=bg.imp (λ_ _ r=>⟨r.1,r.2.mono x ox⟩) h
theorem oh.mono{R:Gr}{X:List Addr}{Z aH:bo}{s s':Shared}(x:bu X Z s aH s')(ox:fF X s.heap){es:List (List Int×V)}{xs:List (List Int×Addr×Value)}(h:oh R Z s.heap es xs):oh R aH s'.heap es xs:=bg.imp (λ_ _ r=>⟨r.1,r.2.1.mono x ox,r.2.2.mono x ox⟩) h
theorem kX{R:Gr}{xs:List Value}{ns:List Int}:IntsAre xs ns->ItemsAre (kZ R) ns xs
 |.nil=>.nil
 |.cons n t r=>.cons (intKind_is R.prog R.w n t) (kX r)
theorem zA:∀k:List Int,bU (k.map .int)=some k:=by
 intro l0
 induction l0 with
 |nil=>
  exact rfl
 |cons a r hi=>
  simp[bU,hi]
theorem oJ{vs:List V}:∀{k:List Int},bU vs=some k->vs=k.map .int:=by
 induction vs with
 |nil=>intro k e;obtain rfl:=bE e;rfl
 |cons v r ih=>
  intro k e;(refine bf (pH e) λi ms OY h1 OX=>?_;subst OY;subst OX);rw[ih h1];rfl
theorem aI.d7{R:Gr}{Z:bo}{h:Heap}{vs:List V}{y:Value}(r:aI R Z h (.tup vs) y):∃a xs,y=.ref a/\a∉cW Z/\h.get? a=some (iB xs.toArray)/\aD R Z h vs xs:=by
 cases r with|BD n o l v=>exact⟨_,_,rfl,n,o,l,v⟩
theorem BC{R:Gr}{Z:bo}{h:Heap}{k:List Int}{a:Addr}(r:aI R Z h (.tup (k.map .int)) (.ref a)):IsTupleKey (kZ R) h k a:=by
 refine bj (r.d7) λb xs e n o v=>?_;(injection e with E6;subst E6);exact⟨_,_,_,o,rfl,rfl,by simpa using kX (v.ints (zA k))⟩
theorem oh.isKey{R:Gr}{Z:bo}{h:Heap}{es:List (List Int×V)}{xs:List (List Int×Addr×Value)}(r:oh R Z h es xs)(x:List Int×Addr×Value)(q:x∈xs):IsTupleKey (kZ R) h x.1 x.2.1:=by
 refine eL (mem_iff_getElem?.mp q) λi hi=>?_;refine nM (bg.got r hi) λe _ _ h2 _=>?_;exact BC h2
theorem vV.mono{R:Gr}{X:List Addr}{Z aH:bo}{s s':Shared}(x:bu X Z s aH s')(ox:fF X s.heap){es:List (Str×V)}{xs:List DictEntry}(h:vV R Z s.heap es xs):vV R aH s'.heap es xs:=bg.imp (λ_ _ r=>⟨r.1,r.2.mono x ox⟩) h
theorem Ns.at'{h h':Heap}{a:Addr}{m:Str->Option Value}(x:h.Ns a m)(e:h'.get? a=h.get? a):h'.Ns a m:=by
 (refine fD x λo es ep ho r=>?_;clear x);exact⟨o,es,ep,e.trans ho,r⟩
theorem IsGen.at'{h h':Heap}{a:Addr}{k:Nat}(x:h.IsGen a k)(e:h'.get? a=h.get? a):h'.IsGen a k:=by
 (refine fD x λo nm qn ho r=>?_;clear x);exact⟨o,nm,qn,e.trans ho,r⟩
theorem IsGen.uniq{h:Heap}{a:Addr}{k j:Nat}(x:h.IsGen a k)(y:h.IsGen a j):k=j:=by
 (refine gz x λo nm qn ho _ hd _=>?_;clear x);(refine gz y λo' Zd Zb og _ oP _=>?_;clear y);rw[ho]at og;obtain rfl:=bE og;rw[hd]at oP;injection oP with oP
 have:=congrArg (λa:Array Value=>a[0]?) oP;have h2:(k:Int)=j:=by simpa using this
 omega
theorem dK.Ld{R:Gr}{X:List Addr}{Z aH:bo}{s s':Shared}{p:Addr×Addr}(x:bu X Z s aH s')(ox:fF X s.heap)(h1:s'.heap.get? p.1=s.heap.get? p.1)(h2:s'.heap.get? p.2=s.heap.get? p.2){c:aL}(hg:tN c=true->s.gens.size<=s'.gens.size/\∀k,s.heap.IsGen p.1 k->s'.gens[k]?=s.gens[k]?)(h:dK R Z s p c):dK R aH s' p c:=by
 induction c using aL.casesOn with
 |lst vs=>(refine fT h λe xs n hl hv=>?_;clear h);exact⟨e,xs,n,h1.trans hl,hv.mono x ox⟩
 |cG es n=>(refine cN h λe eR sX hv=>?_;clear h;(refine cw sX λo ents ho r=>?_;clear sX));exact⟨e,eR,⟨o,ents,h1.trans ho,r⟩,hv.mono x ox⟩
 |jt es=>(refine cN h λe xs Au hv=>?_;clear h;(refine i7 Au λo ents ep ho hx hd he _ hn=>?_;clear Au));exact⟨e,xs,⟨o,ents,ep,h1.trans ho,hx,hd,he,(hv.mono x ox).isKey,hn⟩,hv.mono x ox⟩
 |ins c fs=>(refine gP h λhn C es n hc ha hb hv hk=>?_;clear h);exact⟨hn,C,es,n,hc,h1.trans ha,h2.trans hb,hv.mono x ox,hk⟩
 |bar b=>obtain⟨e,ho⟩:=h;exact⟨e,h1.trans ho⟩
 |set es=>(refine bH h λe KO hn=>?_;clear h;(refine nK KO λo ents ep t ho r=>?_;clear KO));exact⟨e,⟨o,ents,ep,t,h1.trans ho,r⟩,hn⟩
 |gen q=>
  (refine iw h λk gs qual f sC m G=>?_;clear h);refine⟨k,gs,qual,f,sC,m,G.ne,IsGen.at' G.gen h1,((hg rfl).2 k G.gen).trans G.st,G.kind,G.xO,G.names,Ns.at' G.ns h2,λx' v e=>?_,?_⟩
  ·refine cN (G.own x' v e) λhl y hy hv=>?_;exact(jn hl y hy (hv.mono x ox))
  ·have:=G.ph;unfold Bo at this ⊢
   split at this
   ·exact this
   ·(refine mP this λI J fs px yp sp e r=>?_;clear this);exact(ru I J fs px yp sp (x.get e) r)
 |busy=>(refine pP h λKN o ho=>?_;clear h;(refine ak KN λk hk hl=>?_;clear KN));exact⟨⟨k,IsGen.at' hk h1,d5 hl (hg rfl).1⟩,o,h2.trans ho⟩
 |sy a c n=>(refine cH h λe ho=>?_;clear h);exact⟨e,h1.trans ho⟩
theorem dK.mono{R:Gr}{X:List Addr}{Z aH:bo}{s s':Shared}{p:Addr×Addr}(x:bu X Z s aH s')(ox:fF X s.heap)(hg:s'.gens=s.gens)(h1:s'.heap.get? p.1=s.heap.get? p.1)(h2:s'.heap.get? p.2=s.heap.get? p.2){c:aL}(h:dK R Z s p c):dK R aH s' p c:=
 h.Ld x ox h1 h2 λ_=>⟨by rw[hg];exact Nat.le_refl _,λk _=>by rw[hg]⟩
theorem dK.there{R:Gr}{Z:bo}{s:Shared}{p:Addr×Addr}{c:aL}(h:dK R Z s p c):(∃o,s.heap.get? p.1=some o)/\∃o,s.heap.get? p.2=some o:=by
 induction c using aL.casesOn with
 |lst=>(refine fT h λe _ _ hl _=>?_;clear h);exact⟨⟨_,hl⟩,e▸⟨_,hl⟩⟩
 |cG=>(refine cN h λe _ KJ _=>?_;clear h;(refine cw KJ λ_ _ ho _=>?_;clear KJ));exact⟨⟨_,ho⟩,e▸⟨_,ho⟩⟩
 |jt=>(refine cN h λe _ KI _=>?_;clear h;(refine fD KI λ_ _ _ ho _=>?_;clear KI));exact⟨⟨_,ho⟩,e▸⟨_,ho⟩⟩
 |ins=>(refine zS h λ_ _ _ _ _ ha hb _=>?_;clear h);exact⟨⟨_,ha⟩,⟨_,hb⟩⟩
 |bar=>obtain⟨e,ho⟩:=h;exact⟨⟨_,ho⟩,e▸⟨_,ho⟩⟩
 |set=>(refine bH h λe Ey _=>?_;clear h;(refine nK Ey λ_ _ _ _ ho _=>?_;clear Ey));exact⟨⟨_,ho⟩,e▸⟨_,ho⟩⟩
 |gen q=>(refine iw h λk gs qual f sC m G=>?_;clear h);refine fD (G.ns) λo _ _ ho _=>?_;refine fD (G.gen) λo' _ _ og _=>?_;exact⟨⟨_,og⟩,⟨_,ho⟩⟩
 |busy=>(refine pP h λEw o ho=>?_;clear h;(refine ak Ew λk KC _=>?_;clear Ew;(refine fD KC λo' _ _ og _=>?_;clear KC)));exact⟨⟨_,og⟩,⟨_,ho⟩⟩
 |sy=>obtain⟨e,ho⟩:=h;exact⟨⟨_,ho⟩,e▸⟨_,ho⟩⟩
theorem MS{R:Gr}{Z:bo}{s:Shared}{p:Addr×Addr}{c:aL}{k:Nat}(h:dK R Z s p c)(g:tN c=false): ¬ s.heap.IsGen p.1 k:=by
 rintro⟨o,_,_,ho,hc,_⟩;have go:∀{o':Obj},s.heap.get? p.1=some o'->o'.cls≠.type "generator"->False:=λh1 h2=>by
  obtain rfl:=bE (Eq.trans (Eq.symm ho) h1);exact h2 hc
 induction c using aL.casesOn with
 |lst=>(refine fT h λ_ _ _ hl _=>?_;clear h);exact go hl (by simp)
 |cG=>(refine cN h λ_ _ Es _=>?_;clear h;(refine bf Es λo' _ og hx _=>?_;clear Es));exact go og (by rw[hx.1];simp)
 |jt=>(refine cN h λ_ _ Ep _=>?_;clear h;(refine fS Ep λo' _ _ og hx _=>?_;clear Ep));exact go og (by rw[hx.1];simp)
 |ins=>(refine CM h λ_ _ _ _ _ ha _=>?_;clear h);exact go ha (by simp)
 |bar=>obtain⟨_,hb⟩:=h;exact go hb (by simp)
 |set=>(refine bH h λ_ hS _=>?_;clear h);refine ak ((hS.typeIs:s.TypeIs (.ref p.1) "set")) λo' og DK=>?_;exact go og (by rw[DK];decide)
 |sy=>obtain⟨_,hr⟩:=h;exact go hr (by simp)
 |gen=>exact PA g
 |busy=>exact PA g
structure aq(R:Gr)(Z:bo)(σ:af)(s:Shared):Prop where
 len:Z.length=σ.length
 base:∀a o,R.eN.heap.get? a=some o->s.heap.get? a=some o
 high:∀a∈cW Z,R.eN.heap.get? a=none/\3<=a
 cells:∀(i:Nat)(p:Addr×Addr)(c:aL),Z[i]?=some p->σ[i]?=some c->dK R Z s p c
 sep:∀(i j:Nat)(p q:Addr×Addr),Z[i]?=some p->Z[j]?=some q->i≠j->p.1≠q.1/\p.1≠q.2/\p.2≠q.1/\p.2≠q.2
 os:s.os=R.eN.os
 drawn:s.drawn=R.eN.drawn
 gens:AllBare s.gens
 CC:∀(i j:Nat)(p q:Addr×Addr)(c d:aL)(a b:Nat),Z[i]?=some p->Z[j]?=some q->σ[i]?=some c->σ[j]?=some d->tN c=true->tN d=true->s.heap.IsGen p.1 a->s.heap.IsGen q.1 b->i≠j->a≠b
theorem aq.off{R:Gr}{Z:bo}{σ:af}{s:Shared}(G:aq R Z σ s){a:Addr}{o:Obj}(e:R.eN.heap.get? a=some o):a∉cW Z:=λq=>by
 exact cT (Eq.trans ((G.high a q).1).symm e)
theorem aq.at{R:Gr}{Z:bo}{σ:af}{s:Shared}(G:aq R Z σ s){i:Nat}{c:aL}{p:Addr×Addr}(hp:Z[i]?=some p)(e:σ[i]?=some c):dK R Z s p c:=G.cells i p c hp e
theorem aq.tok{R:Gr}{Z:bo}{σ:af}{s:Shared}(G:aq R Z σ s)(t:Nat):aq R Z σ {s with toks:=t}:=
 ⟨G.len,G.base,G.high,λi p c hp hc=>(G.cells i p c hp hc).mono (bu.tok t) (fF.nil _) rfl rfl rfl,G.sep,G.os,G.drawn,G.gens,G.CC⟩
theorem aq.inner{R:Gr}{Z:bo}{σ:af}{s:Shared}(G:aq R Z σ s){i:Nat}{p:Addr×Addr}(hp:Z[i]?=some p):(∃o,s.heap.get? p.1=some o)/\∃o,s.heap.get? p.2=some o:=by
 have hi:i<σ.length:=G.len▸(d0 hp).1;exact(G.cells i p σ[i] hp (getElem?_eq_getElem hi)).there
theorem aq.live{R:Gr}{Z:bo}{σ:af}{s:Shared}(G:aq R Z σ s){a:Addr}(q:a∈cW Z):∃o,s.heap.get? a=some o:=by
 rcases mem_append.mp q with q|q
 ·obtain⟨p,hp,rfl⟩:=mem_map.mp q;obtain⟨i,hi⟩:=mem_iff_getElem?.mp hp;exact(G.inner hi).1
 ·obtain⟨p,hp,rfl⟩:=mem_map.mp q;obtain⟨i,hi⟩:=mem_iff_getElem?.mp hp;exact(G.inner hi).2
theorem aq.fresh{R:Gr}{Z:bo}{σ:af}{s:Shared}(G:aq R Z σ s):s.heap.objs.size∉cW Z:=λq=>by
 obtain⟨o,e⟩:=G.live q;exact Nat.lt_irrefl _ (Heap.lt_size e)
theorem aq.room{R:Gr}{Z:bo}{σ:af}{s:Shared}(G:aq R Z σ s):3<=s.heap.objs.size:=by
 refine cw (R.low) λb o h1 h2=>?_;have:=Heap.lt_size (G.base b o h2);simp only[Addr]at *
 omega
theorem aq.next{R:Gr}{Z:bo}{σ:af}{s:Shared}(G:aq R Z σ s):s.heap.get? s.heap.objs.size=none/\3<=s.heap.objs.size:=⟨Heap.get?_none_of_le (Nat.le_refl _),G.room⟩
theorem aq.x8{R:Gr}{X:List Addr}{Z:bo}{σ:af}{s:Shared}(G:aq R Z σ s){h':Heap}{t:Nat}(hX:∀a∈X,a∉cW Z/\R.eN.heap.get? a=none/\∃o,h'.get? a=some o)(ox:fF X s.heap)(hk:∀a o,s.heap.get? a=some o->a∉X->h'.get? a=some o):aq R Z σ {s with heap:=h',toks:=t}/\bu X Z s Z {s with heap:=h',toks:=t}:=by
 have x:bu X Z s Z {s with heap:=h',toks:=t}:=⟨⟨[],by simp⟩,λa q n=>absurd q n,λa o e _ m=>hk a o e m,λa q _ _ _=>(hX a q).2.2,λi p k hp h=>let ⟨o,nm,qn,ho,r⟩:=h;⟨o,nm,qn,hk _ o ho (λz=>(hX _ z).1 (bK hp).1),r⟩⟩;have same:∀a∈cW Z,(∃o,s.heap.get? a=some o)->h'.get? a=s.heap.get? a:=λa q Ih=>eL Ih λo e=>(hk a o e λz=>(hX a z).1 q).trans e.symm;refine⟨⟨G.len,λa o e=>hk a o (G.base a o e) (λq=>by exact cT (Eq.trans ((hX a q).2.1).symm e)),G.high,λi p c hp hc=>?_,G.sep,G.os,G.drawn,G.gens,
  λi j p q c d a b hp hq hc hd gc gd ha hb n=>G.CC i j p q c d a b hp hq hc hd gc gd (IsGen.at' ha (same _ (bK hp).1 (G.cells i p c hp hc).there.1).symm) (IsGen.at' hb (same _ (bK hq).1 (G.cells j q d hq hd).there.1).symm) n⟩,x⟩
 have C:=G.cells i p c hp hc;have th:=C.there;exact C.mono x ox rfl (same _ (bK hp).1 th.1) (same _ (bK hp).2 th.2)
theorem aq.update{R:Gr}{Z:bo}{σ:af}{s:Shared}(G:aq R Z σ s){i:Nat}{p:Addr×Addr}{c':aL}{h':Heap}{t:Nat}(hp:Z[i]?=some p)(ng:tN c'=false)(old:∃c,σ[i]?=some c/\tN c=false)(hk:∀a o,s.heap.get? a=some o->a≠p.1->a≠p.2->h'.get? a=some o)(hc:bu [] Z s Z {s with heap:=h',toks:=t}->dK R Z {s with heap:=h',toks:=t} p c'):aq R Z (σ.set i c') {s with heap:=h',toks:=t}/\bu [] Z s Z {s with heap:=h',toks:=t}:=by
 have x:bu [] Z s Z {s with heap:=h',toks:=t}:=⟨⟨[],by simp⟩,λa q n=>absurd q n,λa o e n _=>hk a o e (λq=>n (q▸(bK hp).1)) (λq=>n (q▸(bK hp).2)),(λ_ q=>nomatch q),λj q k hq h=>by
  by_cases e:j=i
  ·subst e;replace hq:=Eq.trans (Eq.symm hp) hq;obtain rfl:=bE hq;(refine ak old λc h1 h2=>?_;clear old);exact absurd h (MS (G.cells _ p c hp h1) h2)
  ·refine g7 (G.sep j i q p hq hp e) λs1 s2 _ _=>?_;(refine fD h λo nm qn ho r=>?_;clear h);exact⟨o,nm,qn,hk _ o ho s1 s2,r⟩⟩
 have KY:∀(j:Nat)(q:Addr×Addr)(c:aL),Z[j]?=some q->σ[j]?=some c->i≠j->h'.get? q.1=s.heap.get? q.1:=λj q c hq hj e=>by
  refine g7 (G.sep j i q p hq hp (Ne.symm e)) λs1 s2 _ _=>?_;obtain⟨o,ho⟩:=(G.cells j q c hq hj).there.1;exact(hk _ o ho s1 s2).trans ho.symm
 have look:∀(j:Nat)(c:aL),(σ.set i c')[j]?=some c->tN c=true->i≠j/\σ[j]?=some c:=λj c hj g=>by
  replace hj:=Eq.trans (Eq.symm (getElem?_set)) hj;by_cases e:i=j
  ·replace hj:=Eq.trans (Eq.symm (if_pos e)) hj
   split at hj
   ·obtain rfl:=bE hj;replace g:=Eq.trans (Eq.symm ng) g;exact mO g
   ·exact cT hj
  ·rw[if_neg e]at hj;exact⟨e,hj⟩
 refine⟨⟨by rw[length_set];exact G.len,λa o e=>hk a o (G.base a o e) (λq=>G.off e (q▸(bK hp).1)) (λq=>G.off e (q▸(bK hp).2)),
  G.high,λj q c hq hj=>?_,G.sep,G.os,G.drawn,G.gens,λj k q r c d a b hq hr hc hd gc gd ha hb n=>by
   refine cH (look j c hc gc) λn1 hc=>?_;obtain⟨n2,hd⟩:=look k d hd gd;exact G.CC j k q r c d a b hq hr hc hd gc gd (IsGen.at' ha (KY j q c hq hc n1).symm) (IsGen.at' hb (KY k r d hr hd n2).symm) n⟩,x⟩
 rw[getElem?_set]at hj;by_cases e:i=j
 ·subst e;replace hj:=Eq.trans (Eq.symm (if_pos rfl)) hj;replace hq:=Eq.trans (Eq.symm hp) hq;obtain rfl:=bE hq
  split at hj
  ·obtain rfl:=bE hj;exact hc x
  ·exact cT hj
 ·rw[if_neg e]at hj;have C:=G.cells j q c hq hj;refine g7 (G.sep j i q p hq hp (Ne.symm e)) λs1 s2 s3 s4=>?_;have same:∀a,a≠p.1->a≠p.2->(∃o,s.heap.get? a=some o)->h'.get? a=s.heap.get? a:=λa n1 n2 Ig=>eL Ig λo e=>(hk a o e n1 n2).trans e.symm;have th:=C.there;exact C.mono x (fF.nil _) rfl (same _ s1 s2 th.1) (same _ s3 s4 th.2)
theorem vq{R:Gr}{Z:bo}{s:Shared}{p:Addr×Addr}{c:aL}{k:Nat}(C:dK R Z s p c)(g:tN c=true)(h:s.heap.IsGen p.1 k):k<s.gens.size:=by
 induction c using aL.casesOn with
 |gen q=>
  (refine iw C λj gs qual f sC m D=>?_;clear C);rw[IsGen.uniq h D.gen];exact(Array.getElem?_eq_some_iff.mp D.st).1
 |busy=>
  obtain⟨⟨j,hj,hl⟩,_⟩:=C;rw[IsGen.uniq h hj];exact hl
 |_=>exact mO g
theorem fR{α:Type}{l:List α}{x y:α}{j:Nat}(e:(l++[x])[j]?=some y):(j<l.length/\l[j]?=some y)\/(j=l.length/\y=x):=by
 rcases Nat.lt_trichotomy j l.length with h|h|h
 ·rw[getElem?_append_left h]at e;exact .inl ⟨h,e⟩
 ·rw[h,List.getElem?_append_right (Nat.le_refl _),Nat.sub_self]at e;exact .inr ⟨h,(bE e).symm⟩
 ·rw[getElem?_eq_none (by rw[length_append];exact h)]at e;exact cT e
theorem tV{Z:bo}{p:Addr×Addr}{a:Addr}(h:a∈cW (Z++[p])):a∈cW Z\/a=p.1\/a=p.2:=by
 rw[k8]at h
 simpa[cW] using h
theorem aq.push{R:Gr}{Z:bo}{σ:af}{s:Shared}(G:aq R Z σ s){p:Addr×Addr}{c:aL}{h':Heap}{t:Nat}{g':Array GenState}(bare:AllBare g')(sz:s.gens.size<=g'.size)(hg:∀k,k<s.gens.size->g'[k]?=s.gens[k]?)(hn:tN c=true->∀k,h'.IsGen p.1 k->s.gens.size<=k)(hk:∀a o,s.heap.get? a=some o->h'.get? a=some o)(h1:s.heap.get? p.1=none/\3<=p.1)(h2:s.heap.get? p.2=none/\3<=p.2)(hc:bu [] Z s (Z++[p]) {s with heap:=h',toks:=t,gens:=g'}->dK R (Z++[p]) {s with heap:=h',toks:=t,gens:=g'} p c):aq R (Z++[p]) (σ++[c]) {s with heap:=h',toks:=t,gens:=g'}/\bu [] Z s (Z++[p]) {s with heap:=h',toks:=t,gens:=g'}:=by
 have x:bu [] Z s (Z++[p]) {s with heap:=h',toks:=t,gens:=g'}:=⟨⟨[p],rfl⟩,λa q n=>by
  rcases tV q with q|rfl|rfl
  ·exact absurd q n
  ·exact h1.1
  ·exact h2.1,λa o e _ _=>hk a o e,(λ_ q=>nomatch q),λj q k hq h=>let ⟨o,nm,qn,ho,r⟩:=h;⟨o,nm,qn,hk _ o ho,r⟩⟩
 have Qm:∀a,s.heap.get? a=none->R.eN.heap.get? a=none:=λa e=>by
  cases h:R.eN.heap.get? a with
  |none=>rfl
  |some o=>exact IA (Eq.trans (G.base a o h).symm e)
 have same:∀a,(∃o,s.heap.get? a=some o)->h'.get? a=s.heap.get? a:=λa Ie=>eL Ie λo e=>(hk a o e).trans e.symm;have ne:∀a b,(∃o,s.heap.get? a=some o)->s.heap.get? b=none->a≠b:=λa b Ib hb q=>eL Ib λo e=>by
  replace e:=(hb▸(q▸e));exact cT e
 have old:∀(j:Nat)(q:Addr×Addr)(d:aL)(k:Nat),Z[j]?=some q->σ[j]?=some d->tN d=true->h'.IsGen q.1 k->k<s.gens.size/\s.heap.IsGen q.1 k:=λj q d k hq hd gd Lv=>by
  have C:=G.cells j q d hq hd;have Lv:=IsGen.at' Lv (same _ C.there.1).symm;exact⟨vq C gd Lv,Lv⟩
 refine⟨⟨by simp[G.len],λa o e=>hk a o (G.base a o e),λa q=>?_,λj q d hq hd=>?_,λi j q r hq hr Wj=>?_,G.os,G.drawn,bare,λi j q r c' d a b hq hr DK hd gc gd ha hb n=>?_⟩,x⟩
 ·rcases tV q with q|rfl|rfl
  ·exact G.high a q
  ·exact⟨Qm _ h1.1,h1.2⟩
  ·exact⟨Qm _ h2.1,h2.2⟩
 ·rcases fR hq with⟨hj,hq⟩|⟨hj,rfl⟩
  ·rcases fR hd with⟨_,oP⟩|⟨sN,_⟩
   ·have C:=G.cells j q d hq oP;exact C.Ld x (fF.nil _) (same _ C.there.1) (same _ C.there.2) λgd=>⟨sz,λk Lv=>hg k (vq C gd Lv)⟩
   ·exact absurd (G.len▸hj) (by rw[sN];exact Nat.lt_irrefl _)
  ·rcases fR hd with⟨sN,_⟩|⟨_,rfl⟩
   ·exact absurd sN (by rw[hj,G.len];exact Nat.lt_irrefl _)
   ·exact hc x
 ·rcases fR hq with⟨_,AW⟩|⟨hi,rfl⟩
  ·have t:=G.inner AW
   rcases fR hr with⟨_,oM⟩|⟨_,rfl⟩
   ·exact G.sep i j q r AW oM Wj
   ·exact⟨ne _ _ t.1 h1.1,ne _ _ t.1 h2.1,ne _ _ t.2 h1.1,ne _ _ t.2 h2.1⟩
  ·rcases fR hr with⟨_,oM⟩|⟨hj,_⟩
   ·have t:=G.inner oM;exact⟨(ne _ _ t.1 h1.1).symm,(ne _ _ t.2 h1.1).symm,(ne _ _ t.1 h2.1).symm,(ne _ _ t.2 h2.1).symm⟩
   ·exact absurd (hi.trans hj.symm) Wj
 ·have cs:∀(j:Nat)(q:Addr×Addr)(d:aL)(k:Nat),(Z++[p])[j]?=some q->(σ++[c])[j]?=some d->tN d=true->h'.IsGen q.1 k->(Z[j]?=some q/\σ[j]?=some d/\k<s.gens.size/\s.heap.IsGen q.1 k)\/(j=Z.length/\s.gens.size<=k):=λj q d k hq hd gd h=>by
   rcases fR hd with⟨hj,oP⟩|⟨hj,rfl⟩
   ·rcases fR hq with⟨_,AW⟩|⟨sN,_⟩
    ·exact .inl ⟨AW,oP,old j q d k AW oP gd h⟩
    ·exact absurd hj (by rw[sN,G.len];exact Nat.lt_irrefl _)
   ·rcases fR hq with⟨sN,_⟩|⟨sN,rfl⟩
    ·exact absurd sN (by(refine Eq.symm hj▸?_;refine Eq.symm (G.len)▸?_);exact Nat.lt_irrefl _)
    ·exact .inr ⟨sN,hn gd k h⟩
  rcases cs i q c' a hq DK gc ha with⟨a1,a2,a3,a4⟩|⟨a1,a2⟩
  ·rcases cs j r d b hr hd gd hb with⟨b1,b2,b3,b4⟩|⟨b1,b2⟩
   ·exact G.CC i j q r c' d a b a1 b1 a2 b2 gc gd a4 b4 n
   ·exact Nat.ne_of_lt (d5 a3 b2)
  ·rcases cs j r d b hr hd gd hb with⟨b1,b2,b3,b4⟩|⟨b1,b2⟩
   ·exact Nat.ne_of_gt (d5 b3 a2)
   ·exact absurd (a1.trans b1.symm) n
theorem aq.alloc{R:Gr}{Z:bo}{σ:af}{s:Shared}(G:aq R Z σ s){p:Addr×Addr}{c:aL}{h':Heap}{t:Nat}(ng:tN c=false)(hk:∀a o,s.heap.get? a=some o->h'.get? a=some o)(h1:s.heap.get? p.1=none/\3<=p.1)(h2:s.heap.get? p.2=none/\3<=p.2)(hc:bu [] Z s (Z++[p]) {s with heap:=h',toks:=t}->dK R (Z++[p]) {s with heap:=h',toks:=t} p c):aq R (Z++[p]) (σ++[c]) {s with heap:=h',toks:=t}/\bu [] Z s (Z++[p]) {s with heap:=h',toks:=t}:=
 G.push G.gens (Nat.le_refl _) (λ_ _=>rfl) (λh=>by replace h:=Eq.trans (Eq.symm ng) h;exact mO h) hk h1 h2 hc
end
section
def o6{α β:Type}(R:Gr)(A:Around)(X:List Addr)(Z:bo)(σ:af)(s:Shared)(t:Sem α)(m:M β)(rel:bo->Shared->β->α->Prop):Prop:=
 ∀(b:β)(aE:af),m σ=some (b,aE)->∀(Q:α->Shared->Prop)(E:Value->Shared->Prop),
  (∀aH s' a,aq R aH aE s'->bu X Z s aH s'->rel aH s' b a->Q a s')->wpAny (model R.prog R.w) A t Q E s
abbrev RV(R:Gr):bo->Shared->V->Value->Prop:=λZ s v x=>aI R Z s.heap v x
abbrev WL(R:Gr):bo->Shared->List V->List Value->Prop:=λZ s v x=>aD R Z s.heap v x
abbrev RB:bo->Shared->Bool->Bool->Prop:=λ_ _ b c=>c=b
abbrev Kv:bo->Shared->Bool->Value->Prop:=λ_ _ b c=>c=.bool b
abbrev RU:bo->Shared->Unit->Unit->Prop:=λ_ _ _ _=>True
structure br(A:Around)(n:Nat):Prop where
 handled:A.handled=none
 depth:A.depth+2*n<900
 units:A.units+20*n+100<9900
theorem br.mono(r:br A n)(h:m<=n):br A m:=⟨r.handled,by have:=r.depth;omega,by have:=r.units;omega⟩
def ab(R:Gr)(X:List Addr)(Z:bo)(σ:af)(s:Shared){α β:Type}(W:(α->Shared->Prop)->Prop)(m:M β)(rel:bo->Shared->β->α->Prop):Prop:=
 ∀(b:β)(aE:af),m σ=some (b,aE)->∀Q:α->Shared->Prop,(∀aH s' a,aq R aH aE s'->bu X Z s aH s'->rel aH s' b a->Q a s')->W Q
def Ends(R:Gr)(X:List Addr)(Z:bo)(s:Shared){α β:Type}(W:(α->Shared->Prop)->Prop)(rel:bo->Shared->β->α->Prop)(b:β)(aE:af):Prop:=
 ∀Q:α->Shared->Prop,(∀aH s' a,aq R aH aE s'->bu X Z s aH s'->rel aH s' b a->Q a s')->W Q
section
variable{α β γ:Type}{R:Gr}{A:Around}{X:List Addr}{Z:bo}{σ:af}{s:Shared}{W:(α->Shared->Prop)->Prop}{rel:bo->Shared->β->α->Prop}
theorem ab.ref(h:∀E,ab R X Z σ s (λQ=>wpAny (model R.prog R.w) A t Q E s) m rel):o6 R A X Z σ s t m rel:=λb aE e Q E hQ=>h E b aE e Q hQ
theorem o6.meet(h:o6 R A X Z σ s t m rel)(E:Value->Shared->Prop):ab R X Z σ s (λQ=>wpAny (model R.prog R.w) A t Q E s) m rel:=λb aE e Q hQ=>h b aE e Q E hQ
theorem ab.fail:ab R X Z σ s W M.fail rel:=λ_ _ e=>nomatch e
theorem ab.pure(h:Ends R X Z s W rel b σ):ab R X Z σ s W (Pure.pure b) rel:=λ_ _ e Q hQ=>by
 (refine M.lG e λTu Mi=>?_;subst Tu;subst Mi);exact h Q hQ
theorem ab.opt{k:γ->M β}(h:∀b,o=some b->ab R X Z σ s W (k b) rel):ab R X Z σ s W (a8 o>>=k) rel:=λb aE e=>by
 refine M.aA e λc au e1 e2=>?_;obtain⟨h1,rfl⟩:=cJ e1;exact h c h1 b aE e2
theorem ab.B3(h:∀b,o=some b->Ends R X Z s W rel b σ):ab R X Z σ s W (a8 o) rel:=λb aE e Q hQ=>by
 (refine cH (cJ e) λh1 L9=>?_;subst L9);exact h b h1 Q hQ
theorem oC(h:need b σ=some (u,aE)):b=true/\aE=σ:=by
 skip
 induction b using Bool.casesOn with
 |true=>cases h;exact⟨rfl,rfl⟩
 |false=>exact cT h
theorem ab.need{k:Unit->M β}(h:b=true->ab R X Z σ s W (k ()) rel):ab R X Z σ s W (Mine.Internal.need b>>=k) rel:=λc aE e=>by
 refine M.aA e λu au e1 e2=>?_;obtain⟨h1,rfl⟩:=oC e1;exact h h1 c aE e2
theorem ab.dP{k:aL->M β}(h:∀c,σ[i]?=some c->ab R X Z σ s W (k c) rel):ab R X Z σ s W (Mine.Internal.dP i>>=k) rel:=λb aE e=>by
 refine M.aA e λc au e1 e2=>?_;obtain⟨h1,rfl⟩:=gx e1;exact h c h1 b aE e2
theorem ab.assoc{δ:Type}{f:γ->M δ}{k:δ->M β}(h:ab R X Z σ s W (m>>=λa=>f a>>=k) rel):ab R X Z σ s W ((m>>=f)>>=k) rel:=λb aE e=>h b aE (by
 refine M.aA e λd au e1 e2=>?_;refine M.aA e1 λc cj e3 e4=>?_;rw[M.Be e3,M.Be e4];exact e2)
theorem ab.BJ{rel:bo->Shared->Unit->α->Prop}(h:Ends R X Z s W rel () (σ.set i c)):ab R X Z σ s W (iE i c) rel:=λ_ aE e Q hQ=>by
 (have E4:=jF e;subst E4);exact h Q hQ
theorem ab.set{k:Unit->M β}(hk:∀u,k u=Pure.pure b)(h:Ends R X Z s W rel b (σ.set i c)):ab R X Z σ s W (iE i c>>=k) rel:=λ_ aE e Q hQ=>by
 refine M.aA e λu au e1 e2=>?_;rw[hk]at e2;(refine M.lG e2 λEx wm=>?_;subst Ex;subst wm);(have E9:=jF e1;subst E9);exact h Q hQ
theorem ab.new{rel:bo->Shared->V->α->Prop}(h:Ends R X Z s W rel (.ref σ.length) (σ++[c])):ab R X Z σ s W (dq c) rel:=λ_ aE e Q hQ=>by
 (refine cH (iu e) λEu Et=>?_;subst Eu;subst Et);exact h Q hQ
theorem ab.dE{rel:bo->Shared->V->α->Prop}(h:vs.length<=16000000->Ends R X Z s W rel (.ref σ.length) (σ++[.lst vs])):ab R X Z σ s W (Mine.Internal.dE vs) rel:=λ_ aE e Q hQ=>by
 (refine bH (tB e) λwi iA hz=>?_;subst wi;subst iA);exact h hz Q hQ
theorem jU(h:vU v=some i):v=.int i:=by induction v using V.casesOn<;>cases h;rfl
theorem Hv(h:WD v=some i):v=.ref i:=by induction v using V.casesOn<;>cases h;rfl
theorem ya(h:S7 v=some u):v=.tup u:=by induction v using V.casesOn<;>cases h;rfl
theorem Hx(h:WE v=some b):v=.bytes b:=by induction v using V.casesOn<;>cases h;rfl
theorem J0(h:cL c=some vs):c=.lst vs:=by induction c using aL.casesOn<;>cases h;rfl
theorem J2(h:cD c=some p):c=.cG p.1 p.2:=by induction c using aL.casesOn<;>cases h;rfl
theorem J3(h:cB c=some b):c=.bar b:=by induction c using aL.casesOn<;>cases h;rfl
theorem JZ(h:cS c=some b):c=.set b:=by induction c using aL.casesOn<;>cases h;rfl
theorem J1(h:cI c=some p):c=.ins p.1 p.2:=by induction c using aL.casesOn<;>cases h;rfl
theorem o5(h:Kc l=some u):l= []:=by
 induction l using List.casesOn with
 |nil=>rfl
 |cons=>exact cT h
theorem cP(h:jW l=some v):l= [v]:=by
 induction l using List.casesOn with
 |nil=>exact cT h
 |cons a r=>induction r using List.casesOn<;>cases h;rfl
theorem jV(h:Ag l=some p):l= [p.1,p.2]:=by
 induction l using List.casesOn with
 |nil=>exact cT h
 |cons a r=>
  induction r using List.casesOn with
  |nil=>exact cT h
  |cons b r=>induction r using List.casesOn<;>cases h;rfl
theorem ab.int{k:Int->M β}(h:∀i,v=.int i->ab R X Z σ s W (k i) rel):ab R X Z σ s W (f6 v>>=k) rel:=ab.opt λi e=>h i (jU e)
theorem ab.isRef{k:Nat->M β}(h:∀i,v=.ref i->ab R X Z σ s W (k i) rel):ab R X Z σ s W (yx v>>=k) rel:=ab.opt λi e=>h i (Hv e)
theorem ab.key{k:List Int->M β}(h:∀u t,v=.tup u->bU u=some t->ab R X Z σ s W (k t) rel):ab R X Z σ s W (KW v>>=k) rel:=ab.opt λt e=>
 let ⟨u,e1,e2⟩:=Option.bind_eq_some_iff.mp e
 h u t (ya e1) e2
theorem ab.getL{k:List V->M β}(h:∀vs,σ[i]?=some (.lst vs)->ab R X Z σ s W (k vs) rel):ab R X Z σ s W (Mine.Internal.getL i>>=k) rel:=ab.assoc (ab.dP λ_ hc=>ab.opt λvs e=>h vs (by rw[hc,J0 e]))
theorem ab.getD{k:List (Int×V)×Nat->M β}(h:∀p,σ[i]?=some (.cG p.1 p.2)->ab R X Z σ s W (k p) rel):ab R X Z σ s W (Mine.Internal.getD i>>=k) rel:=ab.assoc (ab.dP λ_ hc=>ab.opt λvs e=>h vs (by rw[hc,J2 e]))
theorem ab.vo{k:List UInt8->M β}(h:∀b,σ[i]?=some (.bar b)->ab R X Z σ s W (k b) rel):ab R X Z σ s W (Mine.Internal.vo i>>=k) rel:=ab.assoc (ab.dP λ_ hc=>ab.opt λvs e=>h vs (by rw[hc,J3 e]))
theorem ab.Gz{k:List Int->M β}(h:∀b,σ[i]?=some (.set b)->ab R X Z σ s W (k b) rel):ab R X Z σ s W (Mine.Internal.Gz i>>=k) rel:=ab.assoc (ab.dP λ_ hc=>ab.opt λvs e=>h vs (by rw[hc,JZ e]))
theorem ab.zL{k:Str×List (Str×V)->M β}(h:∀p,σ[i]?=some (.ins p.1 p.2)->ab R X Z σ s W (k p) rel):ab R X Z σ s W (Mine.Internal.zL i>>=k) rel:=ab.assoc (ab.dP λ_ hc=>ab.opt λvs e=>h vs (by rw[hc,J1 e]))
end
section
variable{R:Gr}{A:Around}{Z:bo}{σ:af}{s:Shared}{n:Nat}
theorem nh(h:fe i=true):i.natAbs<2^64:=by
 have:=eK h
 omega
theorem ta(h:fe i=true):i.natAbs.log2<9000:=by
 have h1:=nh h;by_cases h0:i.natAbs=0
 ·rw[h0];decide +kernel
 ·have:i.natAbs.log2<64:=(log2_lt h0).mpr h1
  omega
theorem Qq(h:fe y=true):IntMulOk x y:=by
 have h1:=nh h;have:Builtin.Int.intBits y<=64:=intBits_le_64 (by omega) (by omega);delta IntMulOk shortFactorBits;simp
 omega
theorem dy{Q:Value->Shared->Prop}(G:aq R Z σ s)(hQ:∀aH s' a,aq R aH σ s'->bu [] Z s aH s'->RV R aH s' (.int i) a->Q a s')(t k:Nat):Q (.int i t) {s with toks:=k}:=
 hQ Z _ _ (G.tok k) (bu.tok k) (.int i t)
theorem gW(G:aq R Z σ s){i:Nat}{p:Addr×Addr}{vs:List V}(hp:Z[i]?=some p)(hc:σ[i]?=some (.lst vs)):∃xs k,IsL s.heap p.1 xs k/\aD R Z s.heap vs xs.toList/\xs.size=vs.length:=by
 refine fT (G.at hp hc) λ_ xs k hl hv=>?_;exact(i2 xs k hl hv (by have:=hv.length;simpa using this.symm))
theorem nq(G:aq R Z σ s)(hv:aD R Z s.heap vs xs.toList)(t:Nat):aq R (Z++[(s.heap.objs.size,s.heap.objs.size)]) (σ++[.lst vs]) {s with heap:=s.heap.push {cls:=.type "list",data:=.seq xs},toks:=t}/\bu [] Z s (Z++[(s.heap.objs.size,s.heap.objs.size)]) {s with heap:=s.heap.push {cls:=.type "list",data:=.seq xs},toks:=t}/\aI R (Z++[(s.heap.objs.size,s.heap.objs.size)]) (s.heap.push {cls:=.type "list",data:=.seq xs}) (.ref σ.length) (.ref s.heap.objs.size):=by
 refine cH (G.alloc (p:=(s.heap.objs.size,s.heap.objs.size)) (c:=.lst vs) (h':=s.heap.push {cls:=.type "list",data:=.seq xs}) (t:=t) rfl
  (λa o e=>gm _ e) G.next G.next
  (λx=>⟨rfl,xs,0,gk _ rfl,hv.mono x (fF.nil _)⟩)) λg x=>?_
 refine⟨g,x,?_⟩;have:(Z++[(s.heap.objs.size,s.heap.objs.size)])[σ.length]?=some (s.heap.objs.size,s.heap.objs.size):=by rw[<-G.len];simp
 exact .ref this
theorem pK{α:Type}(xs:Array α):∀(k:Nat)(acc:Array α),(foldl (λx1 x2=>x1++x2) acc (replicate k xs)).toList=acc.toList++(replicate k xs.toList).flatten
 |0,acc=>by simp
 |k+1,acc=>by
  rw[replicate_succ,foldl_cons,pK xs k];simp[replicate_succ]
theorem aD.rep(hv:aD R Z h vs xs):∀k:Nat,aD R Z h (replicate k vs).flatten (replicate k xs).flatten
 |0=>.nil
 |k+1=>by
  rw[replicate_succ,replicate_succ,flatten_cons,flatten_cons];exact hv.append (aD.rep hv k)
theorem C7(hu:0<=u)(hv:0<=v):Builtin.bitOr u v=((u.toNat|||v.toNat:Nat):Int):=by
 have XW: ¬ 0<=Builtin.bitNot u:=by unfold Builtin.bitNot;omega
 have Na: ¬ 0<=Builtin.bitNot v:=by unfold Builtin.bitNot;omega
 have e1:Builtin.bitNot (Builtin.bitNot u)=u:=by unfold Builtin.bitNot;omega
 have e2:Builtin.bitNot (Builtin.bitNot v)=v:=by unfold Builtin.bitNot;omega
 delta Builtin.bitOr Builtin.bitAnd;simp only[XW,Na,decide_false,e1,e2];unfold Builtin.bitNot
 omega
theorem aI.cE(r:aI R Z h (.ref i) y):∃p,Z[i]?=some p/\y=.ref p.1:=by
 cases r with|ref hp=>exact⟨_,hp,rfl⟩
theorem aI.jS(r:aI R Z h (.bytes b) y):∃t,y=.bytes b.toArray t:=by
 cases r;exact⟨_,rfl⟩
theorem aI.uK(r:aI R Z h (.hK a b c) y):∃r t u v,y=.ref r/\r∉cW Z/\IsRange h r a b c t u v:=by
 cases r with|hK n o=>exact(tO _ _ _ _ rfl n o)
theorem aI.vr(r:aI R Z h (.gN vs) y):∃a ns xs,vs=ns.map .int/\y=.ref a/\R.eN.heap.IsList a xs.toArray/\IntsAre xs ns:=by
 generalize e:V.gN vs=w at r;cases r with
 |gN l i=>(injection e with E7;subst E7);exact(oK _ _ _ rfl rfl l i)
 |_=>cases e
theorem aI.none_inv(r:aI R Z h .none y):y=.none:=by cases r;rfl
theorem aI.bool_inv(r:aI R Z h (.bool b) y):y=.bool b:=by cases r;rfl
theorem Dg(rm:br A 0)(G:aq R Z σ s):o6 R A [] Z σ s (binaryOp op (.int i t) (.int j u)) (LF op i j) (RV R):=by
 refine ab.ref λE=>?_
 induction op using Operator.casesOn with
 |Add=>exact ab.pure λQ hQ=>add_int (dy G hQ _ _)
 |Sub=>exact ab.pure λQ hQ=>sub_int (dy G hQ _ _)
 |Mult=>exact ab.need λh=>ab.pure λQ hQ=>mul_int (dy G hQ _ _) (Qq h)
 |Mod=>exact ab.need λh=>ab.pure λQ hQ=>mod_int_or rm.handled (λe=>absurd e (fh (aP h).1)) λ_=>dy G hQ _ _
 |FloorDiv=>exact ab.need λh=>ab.pure λQ hQ=>floordiv_int_or rm.handled (λe=>absurd e (fh (aP h).1)) (λ_=>dy G hQ _ _) λ_=>.inl (PyProof.noPylong_of_log2 (ta (aP h).2))
 |Pow=>exact ab.need λh=>ab.pure λQ hQ=>have c:=fh (aP h).1;pow_int_small c.1 c.2 (nh (aP h).2) (dy G hQ _ _)
 |LShift=>exact ab.need λh=>ab.pure λQ hQ=>have c:=fh (aP h).1;lshift_int_small c.1 c.2 (nh (aP h).2) (dy G hQ _ _)
 |RShift=>exact ab.need λh=>ab.pure λQ hQ=>rshift_int_or rm.handled (λe=>absurd (fh h) (Int.not_le.mpr e)) λ_=>dy G hQ _ _
 |BitAnd=>
  refine ab.need λh=>ab.pure λQ hQ=>and_int ?_;have c:=fh h;rw[show Builtin.bitAnd i j=((i.toNat&&&j.toNat:Nat):Int) by unfold Builtin.bitAnd;simp[c.1,c.2]];exact dy G hQ _ _
 |BitOr=>
  refine ab.need λh=>ab.pure λQ hQ=>or_int ?_;have c:=fh h;rw[show Builtin.bitOr i j=((i.toNat|||j.toNat:Nat):Int) from C7 c.1 c.2]
  exact dy G hQ _ _
 |_=>exact ab.fail
theorem IG(hv:aD R Z h u xs.toList)(hn:xs.size=u.length):aD R Z h (replicate k u).flatten (foldl (λx1 x2=>x1++x2) #[] (replicate (if xs.isEmpty=true then 0 else k) xs)).toList:=by
 rw[pK]
 split
 ·rename_i h0;have hx:xs= #[]:=by simpa using h0
  have hu:u= []:=List.eq_nil_of_length_eq_zero (by(refine hn▸?_;refine Eq.symm hx▸?_);rfl);(refine Eq.symm hu▸?_;refine Eq.symm (show(replicate k ([]:List V)).flatten= [] by simp)▸?_);exact .nil
 ·simpa using hv.rep _
theorem yX{E:Value->Shared->Prop}{Q:Value->Shared->Prop}(hl:IsL s.heap p xs k)(h0:0<=y)(h1:y<=1000000)(hz:xs.size*y.toNat<=16000000)(h:Q (.ref s.heap.objs.size) {s with heap:=s.heap.push {cls:=.type "list",data:=.seq (foldl (λx1 x2=>x1++x2) #[] (replicate (if xs.isEmpty=true then 0 else y.toNat) xs))}}):wpAny (model R.prog R.w) A (binaryOp .Mult (.ref p) (.int y t)) Q E s:=
 wpAny_binaryOp_repeat_ref (T:="list") (U:="int") (by decide) ⟨_,hl,rfl⟩ (λs'=>typeIs_int s' y t) noFill_list_mul F.fills_int_mul F.slot_int_rmul repeat_list F.slot_int_index.lookup
  (call_meets F.slot_int_rmul (typeIs_int s y t) F.entry_int_rmul (F.args_int_rmul_2 _ _) (int___rmul___int_list y t p xs k)
   (rB hl rfl ⟨_,hl,rfl⟩ (call_meets F.slot_list_mul ⟨_,hl,rfl⟩ F.entry_list_mul (F.args_list_mul_2 _ _)
    (AutoListH.list___mul___list_int_3 p xs k y t (by simp[Builtin.List.listFitsIndex];omega) (by omega) (by simp[Builtin.List.listTooLong,sizeLine];omega)) ⟨hl,h⟩)))
theorem Hm{op:Operator}{i:Nat}{p:Addr×Addr}{u:List V}{b:V}{y:Value}(rm:br A 0)(G:aq R Z σ s)(hp:Z[i]?=some p)(hc:σ[i]?=some (.lst u))(hb:aI R Z s.heap b y):o6 R A [] Z σ s (binaryOp op (.ref p.1) y) (RS op u b) (RV R):=by
 refine ab.ref λE=>?_;refine bf (gW G hp hc) λxs k hl hv hn=>?_
 induction op using Operator.casesOn with
 |Add=>
  refine ab.isRef λj ej=>ab.getL λv hd=>ab.dE λhz Q hQ=>?_;(refine ak ((ej▸hb).cE) λq hq vY=>?_;subst vY);refine bf (gW G hq hd) λys k2 SP VZ SO=>?_;(refine bH (nq (vs:=u++v) (xs:=xs++ys) G (by rw[Array.toList_append];exact hv.append VZ) s.toks) λg x r=>?_);exact P.add_list hl SP (hQ _ _ _ g x r) (by rw[hn,SO];rw[length_append]at hz;exact ao hz (by decide))
 |Mult=>
  refine ab.int λy' ey=>ab.need λh=>ab.dE λhz Q hQ=>?_;obtain⟨t,rfl⟩:=(ey▸hb).int_inv;have c:=fh h;refine bH (nq G (IG (k:=y'.toNat) hv hn) s.toks) λg x r=>?_;exact yX hl c.1 c.2 (by rw[hn,Nat.mul_comm];simpa using hz) (hQ _ _ _ g x r)
 |_=>exact ab.fail
theorem Dc{op:Operator}{a b:V}{x y:Value}(rm:br A 0)(G:aq R Z σ s)(ha:aI R Z s.heap a x)(hb:aI R Z s.heap b y):o6 R A [] Z σ s (binaryOp op x y) (ai op a b) (RV R):=by
 refine ab.ref λE=>?_
 induction a using V.casesOn with
 |int i=>
  refine ab.int λj ej=>?_;(refine eL (ha.int_inv) λt OS=>?_;subst OS);obtain⟨u,rfl⟩:=(ej▸hb).int_inv;exact(Dg rm G).meet E
 |ref i=>
  refine ab.getL λu hc=>?_;(refine ak (ha.cE) λp hp DU=>?_;subst DU);exact(Hm rm G hp hc hb).meet E
 |_=>exact ab.fail
theorem fk(G:aq R Z σ s){i:Nat}{p:Addr×Addr}(hp:Z[i]?=some p):(p.1==sysModules)=false:=by
 have:=(G.high _ (bK hp).1).2;apply beq_eq_false_iff_ne.mpr;intro e;rw[e]at this;exact absurd this (by decide)
theorem RP{Q:Value->Shared->Prop}(G:aq R Z σ s)(hQ:∀aH s' a,aq R aH σ s'->bu [] Z s aH s'->Kv aH s' b a->Q a s')(k:Nat):Q (.bool b) {s with toks:=k}:=
 hQ Z _ _ (G.tok k) (bu.tok k) rfl
theorem oY{Q:Value->Shared->Prop}(G:aq R Z σ s)(hQ:∀aH s' a,aq R aH σ s'->bu [] Z s aH s'->Kv aH s' b a->Q a s'):Q (.bool b) s:=
 hQ Z _ _ G (bu.refl ..) rfl
theorem mA:∀{xs:List Value}{ns:List Int},IntsAre xs ns->ReadsAll h xs (ns.map PyData.int) []
 |_,_,.nil=>.nil
 |_,_,.cons n t r=>.cons (.int n t) (mA r)
theorem mf(ns ms:List Int):PySem.Spec.same (.tuple (ns.map PyData.int)) (.tuple (ms.map PyData.int))=decide (ns=ms):=by
 rw[PySem.Spec.same];exact ke_sameAll ns ms
theorem j3(ns:List Int):SeqAt.shaped (.tuple (ns.map PyData.int))=true:=by
 simp[SeqAt.shaped,PyData.canLay0,PyData.depth,ke_canLayAll0,ke_depthAll]
theorem tx:∀(ns ms:List Int),SeqAt.noMixAll (ns.map PyData.int) (ms.map PyData.int)=true
 |[],[]=>by rfl
 |[],_::_=>by rfl
 |_::_,[]=>by rfl
 |_::r,_::t=>by simp[SeqAt.noMixAll,SeqAt.noMix,tx r t]
theorem tw(ns ms:List Int):SeqAt.noMix (.tuple (ns.map PyData.int)) (.tuple (ms.map PyData.int))=true:=by
 simp only[SeqAt.noMix];exact tx ns ms
theorem n5.aV(r:n5 R Z h es eR):(Mine.Internal.aV k es=none/\valueAt eR k=none)\/∃v x,Mine.Internal.aV k es=some v/\valueAt eR k=some x/\aI R Z h v x:=by
 induction r using bg.ind with
 |nil=>exact .inl ⟨rfl,rfl⟩
 |cons a b es eR hv _ ih=>
  obtain⟨j,v⟩:=a;obtain⟨j',x⟩:=b;obtain⟨e,hv⟩:=hv;have e:j=j':=e;subst e;rw[Mine.Internal.aV,valueAt];rw[find?_cons];by_cases e:j=k
  ·rw[if_pos e,decide_eq_true e];exact .inr (i2 v x rfl rfl hv)
  ·rw[if_neg e,decide_eq_false e];exact ih
theorem n5.length(r:n5 R Z h es eR):es.length=eR.length:=r.1
theorem n5.keys(r:n5 R Z h es eR):es.map (·.1)=eR.map (·.1):=bg.FD (λ_ _ r=>r.1) r
theorem mS(G:aq R Z σ s){i n:Nat}{p:Addr×Addr}{es:List (Int×V)}(hp:Z[i]?=some p)(hc:σ[i]?=some (.cG es n)):∃eR,s.heap.DictAt (kZ R) p.1 eR n/\n5 R Z s.heap es eR:=(G.at hp hc).2
theorem xN(hd:n5 R aH s.heap d kb)(h:n5 R Z s.heap es ka)(e:lg es d=some b):KeqHits A s kb ka b:=by
 induction h using bg.ind generalizing b with
 |nil=>exact bE e▸.nil
 |cons p q es ka hv _ ih=>
  obtain⟨k,v⟩:=p;obtain⟨k',x⟩:=q;obtain⟨ek,hv⟩:=hv;have ek:k=k':=ek;subst ek;refine dD (show(vU v).bind _=some b from e) λi ei e=>?_
  obtain⟨t,rfl⟩:=((jU ei)▸hv:aI R Z s.heap (.int i) x).int_inv
  rcases hd.aV (k:=k)with⟨h1,h2⟩|⟨v',x',h1,h2,h3⟩
  ·replace e:=h1▸e;exact bE e▸.miss h2
  ·replace e:=h1▸e;refine dD (show(vU v').bind _=some b from e) λj ej e=>?_
   obtain⟨u,rfl⟩:=((jU ej)▸h3).int_inv;refine dw e λb' hb e3=>?_;have:=keq_flat (A:=A) (s:=s) (.int i t) (.int j u);rw[show PyData.eqv (.int i) (.int j)=(i==j) from rfl]at this
   exact e3▸.hit h2 this (ih hb)
theorem Zm{ne e:Bool}:(if ne then !e else e)=(ne !=e):=by induction ne using Bool.casesOn<;>induction e using Bool.casesOn<;>rfl
def MT(ne:Bool):bo->Shared->Bool->Value->Prop:=λ_ _ b c=>c=.bool (ne !=b)
theorem iZ{Q:Value->Shared->Prop}(G:aq R Z σ s)(hQ:∀aH s' a,aq R aH σ s'->bu [] Z s aH s'->MT ne aH s' b a->Q a s')(e:c=(ne !=b)):Q (.bool c) s:=
 hQ Z _ _ G (bu.refl ..) (congrArg Value.bool e)
theorem t6{ne:Bool}{a b:V}{x y:Value}(rm:br A 0)(G:aq R Z σ s)(ha:aI R Z s.heap a x)(hb:aI R Z s.heap b y):o6 R A [] Z σ s (compareOp (if ne then .NotEq else .Eq) x y) (Hb ne a b) (MT ne):=by
 refine ab.ref λE=>?_;have u1:A.units+64<cLine:=by have:=rm.units;unfold cLine;omega
 have u2:A.units<cLine:=Nat.lt_of_le_of_lt (le_add_right ..) u1
 induction a using V.casesOn with
 |int i=>
  refine ab.int λj ej=>ab.pure λQ hQ=>?_;(refine eL (ha.int_inv) λt ON=>?_;subst ON);obtain⟨u,rfl⟩:=(ej▸hb).int_inv
  induction ne using Bool.casesOn with
  |true=>exact ne_int (iZ G hQ (by by_cases h:i=j<;>simp[h]))
  |false=>exact eq_int (iZ G hQ (by by_cases h:i=j<;>simp[h]))
 |tup u=>
  refine ab.opt λns e1=>ab.key λv ms ev e2=>ab.need λ_=>ab.pure λQ hQ=>?_;(refine bj (ha.d7) λa1 xs sX n1 o1 v1=>?_;subst sX);(refine bj ((ev▸hb).d7) λa2 ys OM n2 o2 v2=>?_;subst OM);have r1:Reads s.heap _ (.tuple (ns.map PyData.int)) []:=.tuple o1 rfl rfl (mA (v1.ints e1));have r2:Reads s.heap _ (.tuple (ms.map PyData.int)) []:=.tuple o2 rfl rfl (mA (v2.ints e2))
  induction ne using Bool.casesOn with
  |true=>exact ne_dataH_same r1 r2 (j3 _) (j3 _) u1 (tw _ _) (iZ G hQ (by rw[mf,true_bne]))
  |false=>exact eq_dataH_same r1 r2 (j3 _) (j3 _) u1 (tw _ _) (iZ G hQ (by rw[mf,false_bne]))
 |ref i=>
  refine ab.isRef λj ej=>ab.dP λc e1=>?_;(refine ak (ha.cE) λp hp DN=>?_;subst DN);(refine ak ((ej▸hb).cE) λq hq Au=>?_;subst Au)
  induction c using aL.casesOn with
  |lst u=>
   refine ab.getL λv e2=>ab.need λh=>ab.pure λQ hQ=>?_;refine cH (aP h) λh3 h4=>?_;have h5:ne=false:=by simpa using h3
   have h6:v= []:=by simpa using h4
   subst h5 h6;refine bf (gW G hp e1) λxs k hl hv hn=>?_;refine bf (gW G hq e2) λys k2 SP VZ SO=>?_
   induction u using List.casesOn with
   |nil=>exact P.eq_list (e:=λ_=>true) hl SP (by rw[hn,SO]) (λj h1=>by simp[hn]at h1) u2 (iZ G hQ (by simp))
   |cons w r=>exact P.eq_list_lengths hl SP (by simp[hn,SO]) u2 (iZ G hQ (by rfl))
  |cG u n1=>
   refine ab.getD λv e2=>?_;refine ak (mS G hp e1) λka da va=>?_;refine ak (mS G hq e2) λkb db vb=>?_;have fin:∀(r e:Bool),(ka.length=kb.length->KeqHits A.in1 s kb ka r)->(ka.length==kb.length&&r)=e->Ends R [] Z s (λQ=>wpAny (model R.prog R.w) A (compareOp (if ne then .NotEq else .Eq) (.ref p.1) (.ref q.1)) Q E s) (MT ne) e σ:=λr e hits he Q hQ=>by
    induction ne using Bool.casesOn with
    |true=>exact keq_ne (fk G hp) (fk G hq) da.dictOf db.dictOf u2 hits (iZ G hQ (by rw[he,true_bne]))
    |false=>exact keq_eq (fk G hp) (fk G hq) da.dictOf db.dictOf u2 hits (iZ G hQ (by rw[he,false_bne]))
   show ab R [] Z σ s _ (if u.length=v.1.length then a8 (lg u v.1)else Pure.pure false) _;by_cases hl:u.length=v.1.length
   ·rw[if_pos hl];exact ab.B3 λe h9=>fin e e (λ_=>xN vb va h9) (by(refine(va.length)▸?_;refine(vb.length)▸?_;refine Eq.symm hl▸?_);simp)
   ·rw[if_neg hl];exact ab.pure (fin false false (λz=>absurd (by rw[va.length,vb.length];exact z) hl) (by simp))
  |_=>exact ab.fail
 |_=>exact ab.fail
end
end
section
section
variable{prog:Program}{w:World}{A:Around}{E:Value->Shared->Prop}{s:Shared}
theorem wO{l:Addr}{items:Array Value}{n:Nat}{k:Int}{t:Tok}{v:Value}{Q:Unit->Shared->Prop}(hl:IsL s.heap l items n)(h0:0<=k)(Gq:k<2^63)(hn:k<items.size)(hQ:∀h',IsL h' l (items.setIfInBounds k.toNat v) n->Heap.SameBut l s.heap h'->Q () {s with heap:=h'}):wpAny (model prog w) A (setItem (.ref l) (.int k t) v) Q E s:=by
 have hL:=hl.isList;unfold setItem
 try with_reducible refine wpAny_holding ?_
 first|refine aw (a7 ?_)|skip
 refine aw (wpAny_sequenceKey hL.typeIs (by decide) ?_);refine aw (wpAny_callSpecial?_slot (name:=Str.ofString "__setitem__") hL.typeIs slot_list_setitem
  (wpAny_call_entry slot_list_setitem hL.typeIs entry_list_setitem ?_ (args_list_setitem _ _ _)))
 refine(?_:wpAny _ _ (Builtin.List.listSubscript? (.int k t)>>=_) _ _ s);refine aw (wpAny_listSubscript_int (fitsIndex_of h0 Gq) ?_);clear Gq;obtain⟨j,rfl⟩:=Int.eq_ofNat_of_zero_le h0;have hj:j<items.size:=by omega
 have Lp:items[j]?=some items[j]:=Array.getElem?_eq_getElem hj;refine(?_:wpAny _ _ ((seqItemAt l j>>=λr=>pure (r.map (j, ·)))>>=_) _ _ s);refine aw (aw (wpAny_seqItemAt hl rfl (a7 ?_)));rw[Lp];show wpAny _ _ (setSeqItemAt l j v>>=_) _ _ s;have Rn:IsL (s.heap.update l (Obj.mapSeq (·.setIfInBounds j v))) l (items.setIfInBounds j v) n:=by
  have h:=hl.update (λa=>a.setIfInBounds j v);have e:(items.setIfInBounds j v).size=items.size:=by simp
  simpa[e] using h
 refine aw (wpAny_setSeqItemAt hl rfl ?_)
 first
  |exact aw (a7 (a7 (aT .none rfl (a7 (hQ _ Rn (Heap.SameBut.update ..))))))
  |exact a7 (aT .none rfl (a7 (hQ _ Rn (Heap.SameBut.update ..))))
variable{K:Type}[DecidableEq K]{knd:KeyKind prog w K}
theorem zU{d:Addr}{eR:List (K×Value)}{k:K}{key v:Value}{ep:Nat}{Q:Unit->Shared->Prop}(oO:knd.is k key=true)(hm:s.heap.DictAt knd d eR ep)(hQ:∀h',h'.DictAt knd d (stored eR k v) (if(valueAt eR k).isSome then ep else ep+1)->Heap.SameBut d s.heap h'->Q () {s with heap:=h',toks:=s.toks+1})(Oq:eR.length<=sizeLine):wpAny (model prog w) A (dictSet d key v) Q E s:=by
 (refine gA hm λo es ho hc hd hk hp hn=>?_;clear hm);have UT:es.size<=sizeLine:=by have e1:=hp.length;have e2:es.toList.length=es.size:=(by simp);omega
 unfold dictSet
 try with_reducible refine wpAny_holding ?_
 refine aw (knd.pyHash oO ?_);unfold dictSetHashed
 try with_reducible refine wpAny_holding ?_
 refine aw (wpAny_dictFind_of (s:={s with toks:=s.toks+1}) oO ho hd hk ?_);have Nk:(es.findIdx? λe=>knd.is k e.key)=eR.findIdx? λkv=>decide (kv.1=k):=by
  rw[<-hp.findIdx k];obtain⟨l⟩:=es;simp
 cases hi:es.findIdx? λe=>knd.is k e.key with
 |some i=>
  have hl:(es.toList.findIdx? λe=>knd.is k e.key)=some i:=by rw[<-hi];obtain⟨l⟩:=es;simp
  have hs:(valueAt eR k).isSome=true:=by
   refine cA (hp.at hl) λe _ _ he=>?_;refine Eq.symm he▸?_;rfl
  rw[if_pos hs]at hQ;refine aw (wpAny_rule (aw (wpAny_updateDict (s:={s with toks:=s.toks+1}) ho hd (wpAny_point (hQ _ ⟨_,_,Heap.get?_update_self _ ho (Obj.isFreed_of_dict (Obj.data_mapDict hd _)),
   hc.mapDict _,Obj.data_mapDict hd _,hk.modify _ _,?_,?_⟩ (Heap.SameBut.update ..))))))
  ·rw[stored,if_pos (any_of_findIdx_some (Nk▸hi))];have:=hp.modify hn hl v;obtain⟨l⟩:=es
   simpa using this
  ·rw[stored,if_pos (any_of_findIdx_some (Nk▸hi)),keys_map_store];exact hn
 |none=>
  have Nf:k∉eR.map (·.1):=not_mem_of_findIdx_none (Nk▸hi);have Rw: ¬ (eR.any λkv=>decide (kv.1=k))=true:=by
   rw[List.any_eq_true];rintro⟨kv,UL,he⟩;exact Nf (mem_map.mpr ⟨kv,UL,fh he⟩)
  have hs: ¬ (valueAt eR k).isSome=true:=by
   unfold valueAt;rw[isSome_map];intro h;obtain⟨x,hx⟩:=isSome_iff_exists.mp h;have h1:=List.find?_some hx;exact Nf (mem_map.mpr ⟨x,List.mem_of_find?_eq_some hx,fh h1⟩)
  rw[if_neg hs]at hQ;refine aw (wpAny_rule (wpAny_updateDictKeys (hz:=UT) (s:={s with toks:=s.toks+1}) ho hd (hQ _ ⟨_,_,Heap.get?_update_self _ ho (Obj.isFreed_of_dict (Obj.data_mapDictKeys hd _)),
   hc.mapDictKeys _,Obj.data_mapDictKeys hd _,hk.push oO _,?_,?_⟩ (Heap.SameBut.update ..))))
  ·rw[stored,if_neg Rw];have:=hp.append oO (knd.hash k) v;obtain⟨l⟩:=es
   simpa using this
  ·rw[stored,if_neg Rw,map_append,nodup_append];refine⟨hn,by simp,?_⟩;intro a ha b hb;simp only[map_cons,map_nil,mem_singleton]at hb;subst hb;exact λe=>Nf (e▸ha)
theorem wQ{d:Addr}{eR:List (K×Value)}{k:K}{key v:Value}{ep:Nat}{Q:Unit->Shared->Prop}(oO:knd.is k key=true)(hm:s.heap.DictAt knd d eR ep)(hQ:∀h',h'.DictAt knd d (stored eR k v) (if(valueAt eR k).isSome then ep else ep+1)->Heap.SameBut d s.heap h'->Q () {s with heap:=h',toks:=s.toks+1})(Oq:eR.length<=sizeLine):wpAny (model prog w) A (setItem (.ref d) key v) Q E s:=by
 have hT:=hm.dictOf.typeIs;unfold setItem
 try with_reducible refine wpAny_holding ?_
 refine aw (wpAny_sequenceKey hT (by decide) ?_);refine aw (wpAny_callSpecial?_slot (name:=Str.ofString "__setitem__") hT PySem.F.slot_dict_setitem
  (wpAny_call_entry PySem.F.slot_dict_setitem hT PySem.F.entry_dict_setitem ?_ (PySem.F.args_dict_setitem_3 _ _ _)))
 refine(?_:wpAny _ _ (Builtin.Dict.notOrdered "__setitem__" ⟨[.ref d,key,v],[]⟩>>=_) _ _ s);refine aw (wpAny_notOrdered_dict hT ?_);refine(?_:wpAny _ _ (dictSet d key v>>=_) _ _ s);exact aw (zU oO hm (λh' Ou rC=>a7 (aT .none rfl (a7 (hQ h' Ou rC)))) Oq)
theorem yN{d:Addr}{eR:List (K×Value)}{k:K}{key v:Value}{ep:Nat}{Q:Option DictEntry->Shared->Prop}(oO:knd.is k key=true)(hm:s.heap.DictAt knd d eR ep)(hv:valueAt eR k=some v)(hQ:∀e h',e.val=v->h'.DictAt knd d (without eR k) (ep+1)->Heap.SameBut d s.heap h'->Q (some e) {s with heap:=h',toks:=s.toks+1})(Oq:eR.length<=sizeLine):wpAny (model prog w) A (Builtin.Dict.takeOut d key) Q E s:=by
 (refine gA hm λo es ho hc hd hk hp hn=>?_;clear hm);have UT:es.size<=sizeLine:=by have e1:=hp.length;have e2:es.toList.length=es.size:=(by simp);omega
 unfold Builtin.Dict.takeOut
 try with_reducible refine wpAny_holding ?_
 refine aw (knd.pyHash oO ?_);refine aw (wpAny_dictFind_of (s:={s with toks:=s.toks+1}) oO ho hd hk ?_);cases hi:es.findIdx? λe=>knd.is k e.key with
 |none=>
  exfalso;have h1:(es.toList.find? λe=>knd.is k e.key)=none:=by
   rw[List.find?_eq_none];intro e he;have:=Array.findIdx?_eq_none_iff.mp hi e (Array.mem_toList_iff.mp he)
   simpa using this
  replace hv:=(h1▸((Eq.symm (hp.find k))▸hv));exact cT hv
 |some i=>
  have hl:(es.toList.findIdx? λe=>knd.is k e.key)=some i:=by rw[<-hi];obtain⟨l⟩:=es;simp
  refine cA (hp.at hl) λe he Zj Wn=>?_;refine aw (wpAny_dictEntries (s:={s with toks:=s.toks+1}) ho hd ?_);have Cu:es[i]?=some e:=by rw[<-he];obtain⟨l⟩:=es;simp
  refine Eq.symm Cu▸?_;refine aw (wpAny_updateDictKeys (hz:=UT) (s:={s with toks:=s.toks+1}) ho hd (a7 (hQ e _ (by rw[hv]at Wn;exact(bE Wn).symm) ⟨_,_,Heap.get?_update_self _ ho (Obj.isFreed_of_dict (Obj.data_mapDictKeys hd _)),
   hc.mapDictKeys _,Obj.data_mapDictKeys hd _,hk.erase _,?_,nodup_without hn k⟩ (Heap.SameBut.update ..))))
  have:=hp.erase hn hl;obtain⟨l⟩:=es
  simpa using this
end
end
section
section
variable{R:Gr}{A:Around}{Z:bo}{σ:af}{s:Shared}
theorem gF{Q:Value->Shared->Prop}(G:aq R Z σ s)(hv:aI R Z s.heap v x)(hQ:∀aH s' a,aq R aH σ s'->bu [] Z s aH s'->RV R aH s' v a->Q a s')(k:Nat):Q x {s with toks:=k}:=
 hQ Z _ _ (G.tok k) (bu.tok k) hv
theorem m8{Q:Value->Shared->Prop}(G:aq R Z σ s)(hv:aI R Z s.heap v x)(hQ:∀aH s' a,aq R aH σ s'->bu [] Z s aH s'->RV R aH s' v a->Q a s'):Q x s:=
 hQ Z _ _ G (bu.refl ..) hv
theorem oh.aV(r:oh R Z h es xs):(Mine.Internal.aV k es=none/\atKey xs k=none)\/∃v a x,Mine.Internal.aV k es=some v/\atKey xs k=some (a,x)/\aI R Z h v x:=by
 induction r using bg.ind with
 |nil=>exact .inl ⟨rfl,rfl⟩
 |cons p q es xs hv _ ih=>
  obtain⟨j,v⟩:=p;obtain⟨j',b,x⟩:=q;refine bH hv λe _ hv=>?_;have e:j=j':=e;subst e;unfold Mine.Internal.aV atKey;rw[find?_cons];by_cases e:j=k
  ·rw[if_pos e,decide_eq_true e];exact .inr (nF v b x rfl rfl hv)
  ·rw[if_neg e,decide_eq_false e];exact ih
theorem my(e:bU vs=some ns)(ho:s.heap.get? a=some (iB xs.toArray))(hv:aD R Z s.heap vs xs):IsTupleKey (kZ R) s.heap ns a:=
 ⟨_,_,_,ho,rfl,rfl,by simpa using kX (hv.ints e)⟩
theorem nQ(rm:br A 0)(G:aq R Z σ s)(hc:aI R Z s.heap c x)(hk:aI R Z s.heap k y):o6 R A [] Z σ s (compareOp (if ni then .NotIn else .In) y x) (Ua c k) (MT ni):=by
 refine ab.ref λE=>ab.isRef λi ei=>ab.int λj ej=>ab.dP λc e1=>?_;(refine ak ((ei▸hc).cE) λp hp Ti=>?_;subst Ti);obtain⟨t,rfl⟩:=(ej▸hk).int_inv;have here:∀{b c:Bool}{Q:Value->Shared->Prop},(∀aH s' a,aq R aH σ s'->bu [] Z s aH s'->MT ni aH s' b a->Q a s')->c=(ni !=b)->∀k,Q (.bool c) {s with toks:=k}:=
  λ{b c Q} hQ e k=>hQ Z _ _ (G.tok k) (bu.tok k) (congrArg Value.bool e)
 induction c using aL.casesOn with
 |cG es n=>
  refine ab.pure λQ hQ=>?_;refine ak (mS G hp e1) λeR dk vk=>?_;have he:(valueAt eR j).isSome=(aV j es).isSome:=by
   rcases vk.aV (k:=j)with⟨h1,h2⟩|⟨v,x,h1,h2,_⟩<;>rw[h1,h2]<;>rfl
  induction ni using Bool.casesOn with
  |true=>exact wpAny_notIn_of (intKind_is R.prog R.w j t) (fk G hp) dk.dictOf.mapOf (here hQ (by rw[he,true_bne]) _)
  |false=>exact wpAny_in_of (intKind_is R.prog R.w j t) (fk G hp) dk.dictOf.mapOf (here hQ (by rw[he,false_bne]) _)
 |set es=>
  refine ab.need λhs=>ab.pure λQ hQ=>?_;refine bH (G.at hp e1) λ_ hS _=>?_
  induction ni using Bool.casesOn with
  |true=>exact wpAny_notInSet_of (intKind_is R.prog R.w j t) rfl hS (here hQ (true_bne _).symm _)
  |false=>exact wpAny_inSet_of (intKind_is R.prog R.w j t) rfl hS (here hQ (false_bne _).symm _)
 |_=>exact ab.fail
theorem Ba{f:Int->Int->Bool}(G:aq R Z σ s)(ha:aI R Z s.heap a x)(hb:aI R Z s.heap b y)(h:∀i j t u (Q:Value->Shared->Prop) E,Q (.bool (f i j)) s->wpAny (model R.prog R.w) A (compareOp op (.int i t) (.int j u)) Q E s):o6 R A [] Z σ s (compareOp op x y) (f6 a>>=λx=>f6 b>>=λy=>pure (f x y)) Kv:=
 ab.ref λE=>ab.int λi ei=>ab.int λj ej=>ab.pure λQ hQ=>by
  obtain⟨t,rfl⟩:=(ei▸ha).int_inv;obtain⟨u,rfl⟩:=(ej▸hb).int_inv;exact h i j t u Q E (oY G hQ)
theorem F9(ha:aI R Z s.heap a x):(x== .none)=isNone a:=by cases ha<;>rfl
theorem o6.Qo(h:o6 R A [] Z σ s t m (MT true)):o6 R A [] Z σ s t (m>>=λx=>pure !x) Kv:=λb aE e Q E hQ=>by
 refine M.aA e λc au e1 e2=>?_;obtain⟨rfl,rfl⟩:=M.aM e2;exact h c au e1 Q E λaH s' a G' x' h'=>hQ aH s' a G' x' (h'.trans (by rw[true_bne]))
theorem o6.KX(h:o6 R A [] Z σ s t m (MT false)):o6 R A [] Z σ s t m Kv:=λb aE e Q E hQ=>
 h b aE e Q E λaH s' a G' x' h'=>hQ aH s' a G' x' (h'.trans (by rw[false_bne]))
theorem qs(rm:br A 0)(G:aq R Z σ s)(ha:aI R Z s.heap a x)(hb:aI R Z s.heap b y):o6 R A [] Z σ s (compareOp op x y) (cX op a b) Kv:=by
 induction op using CmpOp.casesOn with
 |Eq=>exact(t6 (ne:=false) rm G ha hb).KX
 |NotEq=>exact(t6 (ne:=true) rm G ha hb).Qo
 |Lt=>exact Ba (f:=λi j=>decide (i<j)) G ha hb λi j t u Q E h=>lt_int h
 |LtE=>exact Ba (f:=λi j=>decide (i<=j)) G ha hb λi j t u Q E h=>le_int h
 |Gt=>exact Ba (f:=λi j=>decide (j<i)) G ha hb λi j t u Q E h=>gt_int h
 |GtE=>exact Ba (f:=λi j=>decide (j<=i)) G ha hb λi j t u Q E h=>ge_int h
 |Is=>
  refine ab.ref λE=>ab.need λh=>ab.pure λQ hQ=>?_;cases b with
  |none=>
   rw[hb.none_inv];exact is_none (by rw[F9 ha];exact oY G hQ)
  |_=>exact mO h
 |IsNot=>
  refine ab.ref λE=>ab.need λh=>ab.pure λQ hQ=>?_;cases b with
  |none=>
   rw[hb.none_inv];exact isNot_none (by show Q (.bool (!(x== .none))) s;rw[F9 ha];exact oY G hQ)
  |_=>exact mO h
 |In=>exact(nQ (ni:=false) rm G hb ha).KX
 |NotIn=>exact(nQ (ni:=true) rm G hb ha).Qo
theorem ab.idx{α β:Type}{W:(α->Shared->Prop)->Prop}{rel:bo->Shared->β->α->Prop}{k:Nat->M β}(h:0<=i->i<1000000->ab R X Z σ s W (k i.toNat) rel):ab R X Z σ s W (Mine.Internal.idx i>>=k) rel:=
 ab.assoc (ab.need λc=>h (fh c).1 (fh c).2)
theorem JH(rm:br A 0)(G:aq R Z σ s)(ho:aI R Z s.heap o x)(hk:aI R Z s.heap k y)(hs:∀u v:Value,subscripted slice false u v=operate [u,v] (getItem u v)):o6 R A [] Z σ s (subscriptTail value slice x y) (aR o k) (RV R):=by
 refine ab.ref λE=>?_
 induction o using V.casesOn with
 |bytes b=>
  refine ab.int λi ei=>ab.idx λh0 h1=>ab.need λhf=>ab.opt λu h2=>ab.pure λQ hQ=>?_;obtain⟨t,rfl⟩:=ho.jS;obtain⟨t2,rfl⟩:=(ei▸hk).int_inv;have hi:=(d0 h2).1;have hz:b.length<=16000000:=eK hf;refine tail_any (typeIs_bytes s b.toArray t) FB.slot_bytes_getitem.lookup (getItem_bytes (by omega) h0 (by omega) ?_) (hs _ _);(refine Eq.symm (getD_eq_getElem?_getD)▸?_;refine Eq.symm h2▸?_);exact dy G hQ _ _
 |ref j=>
  refine ab.dP λc e1=>?_;(refine ak (ho.cE) λp hp mY=>?_;subst mY)
  induction c using aL.casesOn with
  |lst vs=>
   refine ab.int λi ei=>ab.idx λh0 h1=>ab.B3 λu h3 Q hQ=>?_;(refine eL ((ei▸hk).int_inv) λt2 we=>?_;subst we);refine bf (gW G hp e1) λxs m hl hv hn=>?_;refine ak (hv.get h3) λx hx rx=>?_;exact tail_any hl.isList.typeIs slot_list_getitem.lookup (wpAny_getItem_list hl.isList h0 (by omega) (by refine(Array.getElem?_toList)▸?_;exact hx) (m8 G rx hQ)) (hs _ _)
  |cG es n=>
   refine ab.int λi ei=>ab.B3 λu h3 Q hQ=>?_;obtain⟨t2,rfl⟩:=(ei▸hk).int_inv;refine ak (mS G hp e1) λeR dk vk=>?_
   rcases vk.aV (k:=i)with⟨h2,_⟩|⟨v,x,h2,h4,hv⟩
   ·exact cT (Eq.trans h2.symm h3)
   ·rw[h2]at h3;exact tail_any dk.dictOf.typeIs PySem.F.slot_dict_getitem.lookup (wpAny_getItem_of (intKind_is R.prog R.w i t2) dk.dictOf.mapOf h4 (gF G (bE h3▸hv) hQ _)) (hs _ _)
  |jt es=>
   refine ab.key λu ks eu h6=>ab.B3 λw h7 Q hQ=>?_;(refine bj ((eu▸hk).d7) λa1 ys wc n1 o1 v1=>?_;subst wc);refine cN (G.at hp e1) λ_ xs dk vk=>?_;have u1:A.units+1<cLine:=by have:=rm.units;unfold cLine;omega
   rcases vk.aV (k:=ks)with⟨h5,_⟩|⟨v,a,x,h5,h4,hv⟩
   ·replace h7:=Eq.trans (Eq.symm h5) h7;exact cT h7
   ·rw[h5]at h7;exact tail_any dk.typeIs PySem.F.slot_dict_getitem.lookup (wpAny_getItem_heap (tupleKind_room_in1 u1) (my h6 o1 v1) dk h4 (gF G (bE h7▸hv) hQ _)) (hs _ _)
  |_=>exact ab.fail
 |tup vs=>
  refine ab.int λi ei=>ab.idx λh0 h1=>ab.B3 λu h3 Q hQ=>?_;obtain⟨t2,rfl⟩:=(ei▸hk).int_inv;(refine bj (ho.d7) λa1 xs wb n1 o1 v1=>?_;subst wb);refine ak (v1.get h3) λx hx rx=>?_;have hT:IsTup s.heap a1 xs.toArray:=⟨_,o1,rfl,0,rfl⟩;have sq:seqIndex? i xs.toArray.size=some i.toNat:=by
   have:=(d0 hx).1;unfold seqIndex?;have h1: ¬ i<0:=by omega
   simp only[h1,if_false];simp
   omega
  exact tail_any (s:=s) ⟨_,o1,rfl⟩ PySem.F.slot_tuple_getitem.lookup (PyProof.Rows.getItem_tuple hT (by omega) (by omega) sq (by simpa using hx) (m8 G rx hQ)) (hs _ _)
 |gN vs=>
  refine ab.int λi ei=>ab.idx λh0 h1=>ab.B3 λu h3 Q hQ=>?_;obtain⟨t2,rfl⟩:=(ei▸hk).int_inv;(refine gz (ho.vr) λa ns xs O6 O5 l hi=>?_;subst O6;subst O5);have hl:s.heap.IsList a xs.toArray:=let ⟨o,ho,r⟩:=l;⟨o,G.base _ _ ho,r⟩;replace h3:=Eq.trans (Eq.symm (getElem?_map)) h3;(refine dw h3 λj hj qw=>?_;subst qw);obtain⟨t,ht⟩:=IntsAre.get hi _ _ hj;exact tail_any hl.typeIs slot_list_getitem.lookup (wpAny_getItem_list hl h0 (by omega) (by simpa using ht) (m8 G (.int j t) hQ)) (hs _ _)
 |_=>exact ab.fail
end
end
section
section
variable{R:Gr}{A:Around}{Z:bo}{σ:af}{s:Shared}
theorem qt{n:Nat}{a:Int}(h0:0<=a)(h1:a<=n):clipAt n a=a.toNat:=by
 unfold clipAt;have: ¬ a<0:=by omega
 refine Eq.symm (if_neg this)▸?_
 congr 1
 omega
theorem A9{α:Type}{l c:List α}{lo hi:Option Int}(e:CP l lo hi=some c):c=(l.drop (lo.elim 0 (clipAt l.length))).take (hi.elim l.length (clipAt l.length)-lo.elim 0 (clipAt l.length)):=by
 unfold CP at e
 split at e
 ·split at e
  ·rename_i a h;obtain rfl:=bE e;simp only[elim,qt h.1 h.2];rw[List.take_of_length_le];simp
  ·exact cT e
 ·split at e
  ·rename_i b h;obtain rfl:=bE e;simp only[elim,qt h.1 h.2];simp
  ·exact cT e
 ·split at e
  ·rename_i a b h;(injection e with E5;subst E5);simp only[elim,qt h.1 (Int.le_trans h.2.1 h.2.2),qt (Int.le_trans h.1 h.2.1) h.2.2]
   congr 1
   omega
  ·exact cT e
 ·exact cT e
theorem uz(xs:Array Value)(lo hi:Option Int):slicePick xs lo hi none=((xs.toList.drop (lo.elim 0 (clipAt xs.size))).take (hi.elim xs.size (clipAt xs.size)-lo.elim 0 (clipAt xs.size))).toArray:=by
 unfold slicePick;rw[sliceBounds_plain];simp only[sliceRange_one,pick_run]
noncomputable abbrev jE(l u:Value):Obj:={cls:=.type "slice",data:=.fields #[l,u,.none]}
theorem JQ{value:Expr}{l u:Option Expr}{p:Pos}{o:V}{x vl vu:Value}{lo hi:Option Int}(rm:br A 0)(G:aq R Z σ s)(ho:aI R Z s.heap o x)(pl:IsPart vl lo)(pu:IsPart vu hi){r:V}{aE:af}(hm:rb o lo hi σ=some (r,aE)){Q:Value->Shared->Prop}{E:Value->Shared->Prop}(hQ:∀aH s' a,aq R aH aE s'->bu [] Z s aH s'->RV R aH s' r a->Q a s'):wpAny (model R.prog R.w) A (subscriptTail value (.Slice l u none p) x (.ref s.heap.objs.size)) Q E {s with heap:=s.heap.push (jE vl vu)}:=by
 have Q5:(s.heap.push (jE vl vu)).IsSliceOf s.heap.objs.size vl vu .none:=Heap.IsSliceOf.new _ _ _ _;obtain⟨G1,x1⟩:=G.x8 (X:=[]) (h':=s.heap.push (jE vl vu)) (t:=s.toks) (λ_ q=>nomatch q) (fF.nil _) (λa o e _=>gm _ e)
 induction o using V.casesOn with
 |bytes b=>
  obtain⟨t,rfl⟩:=ho.jS;refine(ab.need λhf=>ab.opt λc h2=>ab.pure λQ hQ=>?_:ab R [] Z σ s (λQ=>wpAny (model R.prog R.w) A (subscriptTail value (.Slice l u none p) (.bytes b.toArray t) (.ref s.heap.objs.size)) Q E {s with heap:=s.heap.push (jE vl vu)}) (rb (.bytes b) lo hi) (RV R)) r aE hm Q hQ;have hz:b.length<=16000000:=eK hf;have hp:KBy.picked b.toArray lo hi=c.toArray:=by
   rw[KBc.picked_eq,A9 h2];simp
  refine tail_any (typeIs_bytes _ _ t) FB.slot_bytes_getitem.lookup (getItem_meets (typeIs_bytes _ _ _) (by decide) FB.slot_bytes_getitem FB.entry_bytes_getitem (FB.args_bytes_getitem_2 _ _) (KBc.meets_slice2 b.toArray t _ pl pu)
   ⟨Q5,ao (KBc.size_picked_le b.toArray lo hi) (ao (by simpa using hz) (by decide)),λt' k=>?_⟩) (by rfl)
  refine Eq.symm hp▸?_;exact hQ Z _ _ (G1.tok k) (x1.trans (bu.tok k)) (.bytes c t')
 |ref j=>
  (refine ak (ho.cE) λpp hp DR=>?_;subst DR);refine(ab.getL λvs e1=>ab.need λhf=>ab.opt λw h2=>ab.dE λ_ Q hQ=>?_:ab R [] Z σ s (λQ=>wpAny (model R.prog R.w) A (subscriptTail value (.Slice l u none p) (.ref pp.1) (.ref s.heap.objs.size)) Q E {s with heap:=s.heap.push (jE vl vu)}) (rb (.ref j) lo hi) (RV R)) r aE hm Q hQ;refine bf (gW G1 hp e1) λxs k hl hv hn=>?_;have XU:aD R Z (s.heap.push (jE vl vu)) w (slicePick xs lo hi none).toList:=by
   rw[uz,A9 h2,hn];exact(hv.drop _).take _
  refine bH (nq G1 XU s.toks) λg x r=>?_;have hz:vs.length<=16000000:=eK hf;exact tail_any hl.isList.typeIs slot_list_getitem.lookup (wpAny_getItem_list_slice hl.isList Q5 pl pu .none (by simp) (hQ _ _ _ g (x1.trans x) r) (by rw[hn];exact ao hz (by decide))) (by rfl)
 |_=>exact cT hm
theorem n5.isSome(r:n5 R Z h es eR):(valueAt eR k).isSome=(Mine.Internal.aV k es).isSome:=by
 rcases r.aV (k:=k)with⟨h1,h2⟩|⟨v,x,h1,h2,_⟩<;>rw[h1,h2]<;>rfl
theorem n5.any(r:n5 R Z h es eR):eR.any (λkv=>decide (kv.1=k))=es.any (λe=>decide (e.1=k)):=by
 have:=congrArg (λl:List Int=>l.any λj=>decide (j=k)) r.keys
 simpa[List.any_map,Function.comp_def] using this.symm
theorem n5.iR(hv:aI R Z h v x)(r:n5 R Z h es eR):n5 R Z h (Mine.Internal.iR k v es) (stored eR k x):=by
 unfold Mine.Internal.iR stored;rw[r.any]
 split
 ·refine bg.map (λa b L0=>cH L0 λh1 h2=>?_) r;by_cases e:a.1=k
  ·rw[if_pos e,if_pos (h1▸e)];exact⟨h1,hv⟩
  ·rw[if_neg e,if_neg (h1▸e)];exact⟨h1,h2⟩
 ·exact bg.append r (.cons ⟨rfl,hv⟩ .nil)
theorem oh.nil:oh R Z h [] []:=bg.nil
theorem oh.nodup(r:oh R Z h es xs):es.map (·.1)=xs.map (·.1):=bg.FD (λ_ _ r=>r.1) r
theorem GN{α:Type}(p:α->Bool)(l:List α):(l.find? p).isSome=l.any p:=by
 induction l with
 |nil=>rfl
 |cons a l ih=>
  rw[find?_cons,any_cons];cases p a with
  |true=>rfl
  |false=>exact ih
theorem oh.any(r:oh R Z h es xs):(atKey xs k).isSome=es.any (λe=>decide (e.1=k)):=by
 have:=congrArg (λl:List (List Int)=>l.any λj=>decide (j=k)) r.nodup;unfold atKey;rw[isSome_map,GN]
 simpa[List.any_map,Function.comp_def] using this.symm
theorem oh.append(hk:aI R Z h (.tup (k.map .int)) (.ref a))(hv:aI R Z h v x)(r:oh R Z h es xs):oh R Z h (es++[(k,v)]) (xs++[(k,a,x)]):=
 bg.append r (.cons ⟨rfl,hk,hv⟩ .nil)
theorem oh.iR(hk:aI R Z h (.tup (k.map .int)) (.ref a))(hv:aI R Z h v x){es:List (List Int×V)}{xs:List (List Int×Addr×Value)}(r:oh R Z h es xs):oh R Z h (Mine.Internal.iR k v es) (storedH xs k a x):=by
 unfold Mine.Internal.iR storedH;rw[r.any]
 split
 ·refine bg.map (λa b LR=>bH LR λh1 h2 h3=>?_) r;unfold putAt;by_cases e:a.1=k
  ·rw[if_pos e,if_pos (h1▸e)];exact⟨h1,h2,hv⟩
  ·rw[if_neg e,if_neg (h1▸e)];exact⟨h1,h2,h3⟩
 ·exact r.append hk hv
theorem n5.len(r:n5 R Z h es xs):xs.length=es.length:=r.1.symm
theorem oh.len(r:oh R Z h es xs):xs.length=es.length:=r.1.symm
theorem tX{h:Heap}{d:Addr}{n:Nat}(hd:h.DictAt (kZ R) d [] n):h.DictOfH (jC R) d []:=by
 (refine gA hd λo es ho hx he _ hp _=>?_;clear hd);refine⟨o,es,n,ho,hx,he,?_,by simp,by simp⟩;cases hh:es.toList with
 |nil=>rfl
 |cons a r=>replace hp:=hh▸hp;cases hp
theorem Bz(G:aq R Z σ s)(hp:Z[j]?=some p)(e:p.2=p.1)(hb:Heap.SameBut p.1 s.heap h')(hc:bu [] Z s Z {s with heap:=h',toks:=t}->dK R Z {s with heap:=h',toks:=t} p c')(ng:tN c'=false:=by rfl)(old:∃c,σ[j]?=some c/\tN c=false:=by exact⟨_,by assumption,rfl⟩):aq R Z (σ.set j c') {s with heap:=h',toks:=t}/\bu [] Z s Z {s with heap:=h',toks:=t}:=
 G.update hp ng old (λa o e n1 _=>(hb.2 a n1).trans e) hc
theorem IC(rm:br A 0)(G:aq R Z σ s)(ho:aI R Z s.heap o x)(hk:aI R Z s.heap k y)(hv:aI R Z s.heap v z):o6 R A [] Z σ s (setItem x y z) (iI o k v) RU:=by
 have u1:A.units+1<cLine:=by have:=rm.units;unfold cLine;omega
 refine ab.ref λE=>ab.isRef λj ej=>ab.dP λc e1=>?_;(refine ak ((ej▸ho).cE) λp hp Ek=>?_;subst Ek);have C:=G.at hp e1;have line:∀{n:Nat},cM n=true->n<=sizeLine:=λh=>ao (eK h) (by decide)
 induction c using aL.casesOn with
 |lst vs=>
  refine ab.int λi ei=>ab.idx λh0 h1=>ab.need λh2=>ab.BJ λQ hQ=>?_;obtain⟨t,rfl⟩:=(ei▸hk).int_inv;(refine fT C λep xs n hl hx=>?_;clear C);have hn:xs.size=vs.length:=by have:=hx.length;simpa using this.symm
  have h3:i.toNat<vs.length:=by simpa[Nat.blt_eq] using h2
  refine wO hl h0 (by omega) (by omega) λh' qg hb=>?_;obtain⟨G1,x1⟩:=Bz (c':=.lst (vs.set i.toNat v)) (t:=s.toks) G hp ep hb (λx=>⟨ep,_,n,qg,by
   rw[Array.toList_setIfInBounds];exact(hx.mono x (fF.nil _)).set _ (hv.mono x (fF.nil _))⟩)
  exact hQ _ _ _ G1 x1 trivial
 |cG es n=>
  (refine cN C λep eR hl hx=>?_;clear C);refine(?_:ab R [] Z σ s _ (match vU k with
   |some i=>Mine.Internal.need (cM es.length)>>=λ_=>iE j (.cG (iR i v es) (if(aV i es).isSome then n else n+1))
   |none=>KW k>>=λt=>Mine.Internal.need es.isEmpty>>=λ_=>iE j (.jt [(t,v)])) RU)
  cases hi:vU k with
  |some i=>
   refine ab.need λhf=>ab.BJ λQ hQ=>?_;obtain⟨t,rfl⟩:=(jU hi▸hk).int_inv;refine wQ (intKind_is R.prog R.w i t) hl (λh' qg hb=>?_) (by rw[hx.len];exact line hf);obtain⟨G1,x1⟩:=Bz (c':=.cG (iR i v es) (if(aV i es).isSome then n else n+1)) (t:=s.toks+1) G hp ep hb (λx=>⟨ep,_,by rw[<-hx.isSome];exact qg,(hx.mono x (fF.nil _)).iR (hv.mono x (fF.nil _))⟩);exact hQ _ _ _ G1 x1 trivial
  |none=>
   refine ab.key λu ks eu h6=>ab.need λh2=>ab.BJ λQ hQ=>?_;(refine bj ((eu▸hk).d7) λa1 ys D6 n1 o1 v1=>?_;subst D6);have h3:es= []:=isEmpty_iff.mp h2;subst h3;obtain rfl:=bg.nil_inv hx;refine wpAny_setItem_heap (tupleKind_room_in1 u1) (my h6 o1 v1) (tX hl) (λh' qg hb=>?_) (zero_le _);obtain⟨G1,x1⟩:=Bz (c':=.jt [(ks,v)]) (t:=s.toks+(jC R).draws ks) G hp ep hb (λx=>⟨ep,_,qg,(oh.nil).iR ((oJ h6▸aI.tup n1 o1 v1:aI R Z s.heap (.tup (ks.map .int)) _).mono x (fF.nil _)) (hv.mono x (fF.nil _))⟩);exact hQ _ _ _ G1 x1 trivial
 |jt es=>
  refine ab.key λu ks eu h6=>ab.need λhf=>ab.BJ λQ hQ=>?_;(refine bj ((eu▸hk).d7) λa1 ys vZ n1 o1 v1=>?_;subst vZ);(refine cN C λep xs hl hx=>?_;clear C);refine wpAny_setItem_heap (tupleKind_room_in1 u1) (my h6 o1 v1) hl (λh' qg hb=>?_) (by rw[hx.len];exact line hf);obtain⟨G1,x1⟩:=Bz (c':=.jt (iR ks v es)) (t:=s.toks+(jC R).draws ks) G hp ep hb (λx=>⟨ep,_,qg,(hx.mono x (fF.nil _)).iR ((oJ h6▸aI.tup n1 o1 v1:aI R Z s.heap (.tup (ks.map .int)) _).mono x (fF.nil _)) (hv.mono x (fF.nil _))⟩);exact hQ _ _ _ G1 x1 trivial
 |_=>exact ab.fail
theorem s7(G:aq R Z σ s)(hv:aI R Z s.heap v x):o6 R A [] Z σ s (truthy x) (iC v) RB:=by
 refine ab.ref λE=>?_
 induction v using V.casesOn with
 |bool b=>
  rw[hv.bool_inv];exact ab.pure λQ hQ=>wpAny_truthy_bool (hQ _ _ _ G (bu.refl ..) rfl)
 |_=>exact ab.fail
end
end
section
section
variable{R:Gr}{A:Around}{Z:bo}{σ:af}{s:Shared}
def n3(h:Heap)(x:Value)(items:Array Value):Prop:=(∃l,x=.ref l/\h.IsList l items)\/∃t,x=.ref t/\h.IsTuple t items
theorem aD.AN{h:Heap}{ns:List Int}{xs:List Value}(r:IntsAre xs ns):aD R Z h (ns.map .int) xs:=by
 induction r with
 |nil=>exact .nil
 |cons n t _ ih=>exact .cons (.int n t) ih
theorem pE(G:aq R Z σ s){v:V}{x:Value}{vs:List V}{aE:af}(hv:aI R Z s.heap v x)(hm:gL v σ=some (vs,aE)):aE=σ/\∃xs:List Value,n3 s.heap x xs.toArray/\aD R Z s.heap vs xs:=by
 unfold gL at hm
 induction v using V.casesOn with
 |tup us=>
  obtain⟨rfl,rfl⟩:=M.aM hm;(refine bj (hv.d7) λa xs Ei n o r=>?_;subst Ei);exact(jn rfl xs (.inr ⟨_,rfl,_,o,rfl,0,rfl⟩) r)
 |gN us=>
  obtain⟨rfl,rfl⟩:=M.aM hm;(refine gz (hv.vr) λa ns xs To Tn l hi=>?_;subst To;subst Tn);exact(jn rfl xs (.inl ⟨a,rfl,let ⟨o,ho,r⟩:=l;⟨o,G.base _ _ ho,r⟩⟩) (aD.AN hi))
 |ref i=>
  (refine ak (hv.cE) λp hp mZ=>?_;subst mZ);refine M.aA hm λc au h1 hm=>?_;(refine cH (gx h1) λe1 yC=>?_;subst yC)
  induction c using aL.casesOn with
  |lst us=>
   obtain⟨rfl,rfl⟩:=M.aM hm;refine bf (gW G hp e1) λxs k hl hv hn=>?_;exact(jn rfl xs.toList (.inl ⟨_,rfl,by simpa using hl.isList⟩) hv)
  |_=>exact cT hm
 |_=>exact cT hm
theorem mL{P:Program}{w:World}{E:Value->Shared->Prop}(hh:A.handled=none){x:Value}{items:Array Value}(hx:n3 s.heap x items){Q:Value->Shared->Prop}(h:∀I fp wr St gM,Walks P w A I fp wr items.size (λi v=>items[i]?=some v) St->St 0 gM->(∀b∈fp,b<gM.objs.size)->(∀h':Heap,(∀b o,b∉wr->gM.get? b=some o->h'.get? b=some o)->∀b o,s.heap.get? b=some o->h'.get? b=some o)->Q (.ref I) {s with heap:=gM}):wpAny (model P w) A (pyIter x) Q E s:=by
 have old:∀(ob:Obj)(h':Heap),(∀b o,b∉ [s.heap.objs.size]->(s.heap.push ob).get? b=some o->h'.get? b=some o)->∀b o,s.heap.get? b=some o->h'.get? b=some o:=λob h' hk b o e=>by
  refine hk b o (λhm=>?_) (gm _ e)
  rcases bt hm with e1|hm
  ·exact absurd (e1▸Heap.lt_size e) (Nat.lt_irrefl _)
  ·cases hm
 have fp:∀(ob:Obj){l:Addr},l<s.heap.objs.size->∀b∈ [s.heap.objs.size,l],b<(s.heap.push ob).objs.size:=λob l hl b hb=>by
  rw[Heap.size_push]
  rcases bt hb with rfl|hb
  ·exact fx _
  ·rcases bt hb with rfl|hb
   ·exact lt_succ_of_lt hl
   ·cases hb
 rcases hx with⟨l,rfl,hl⟩|⟨t,rfl,ht⟩
 ·have yy:l<s.heap.objs.size:=by refine ak (id hl) λ_ e _=>?_;exact Heap.lt_size e
  exact wpAny_pyIter_list hl (h _ _ _ _ _ (Walks.list hh _ l (Nat.ne_of_lt yy) items) ⟨⟨_,gk _ rfl,rfl,rfl⟩,hl.push _⟩ (fp _ yy) (old _))
 ·have yy:t<s.heap.objs.size:=by refine ak (id ht) λ_ e _=>?_;exact Heap.lt_size e
  exact wpAny_pyIter_tuple ht (h _ _ _ _ _ (Walks.tuple hh _ t (Nat.ne_of_lt yy) items) ⟨⟨_,gk _ rfl,rfl,rfl⟩,ht.push _⟩ (fp _ yy) (old _))
theorem fE(G:aq R Z σ s){h':Heap}{t:Nat}(hk:∀b o,s.heap.get? b=some o->h'.get? b=some o):aq R Z σ {s with heap:=h',toks:=t}/\bu [] Z s Z {s with heap:=h',toks:=t}:=
 G.x8 (X:=[]) (λ_ q=>nomatch q) (fF.nil _) (λa o e _=>hk a o e)
theorem iJ{i:Int}{Q:Value->Shared->Prop}(G:aq R Z σ s)(hQ:∀aH s' a,aq R aH σ s'->bu [] Z s aH s'->RV R aH s' (.int i) a->Q a s'){h':Heap}{t:Nat}(u:Tok)(hk:∀b o,s.heap.get? b=some o->h'.get? b=some o):Q (.int i u) {s with heap:=h',toks:=t}:=by
 refine cH (fE (t:=t) G hk) λG1 x1=>?_;exact hQ _ _ _ G1 x1 (.int i u)
theorem tF:∀(l:List Int)(a:Int),(l.foldl (λm x=>if m<x then x else m) a∈a::l)/\∀x∈a::l,x<=l.foldl (λm x=>if m<x then x else m) a
 |[],a=>⟨by simp,by simp⟩
 |b::l,a=>by
  obtain⟨h1,h2⟩:=tF l (if a<b then b else a);rw[foldl_cons];refine⟨?_,λx hx=>?_⟩
  ·rcases bt h1 with h|h
   ·rw[h];split<;>simp
   ·simp[h]
  ·have h3:=h2 (if a<b then b else a) (by simp);have h4:a<=(if a<b then b else a)/\b<=(if a<b then b else a):=by split<;>omega
   rcases bt hx with rfl|hx
   ·exact Int.le_trans h4.1 h3
   ·rcases bt hx with rfl|hx
    ·exact Int.le_trans h4.2 h3
    ·exact h2 x (fX _ hx)
theorem tC:∀(l:List Int)(a:Int),(l.foldl (λm x=>if x<m then x else m) a∈a::l)/\∀x∈a::l,l.foldl (λm x=>if x<m then x else m) a<=x
 |[],a=>⟨by simp,by simp⟩
 |b::l,a=>by
  obtain⟨h1,h2⟩:=tC l (if b<a then b else a);refine Eq.symm (foldl_cons)▸?_;refine⟨?_,λx hx=>?_⟩
  ·rcases bt h1 with h|h
   ·rw[h];split<;>simp
   ·simp[h]
  ·have h3:=h2 (if b<a then b else a) (by simp);have h4:(if b<a then b else a)<=a/\(if b<a then b else a)<=b:=by split<;>omega
   rcases bt hx with rfl|hx
   ·exact Int.le_trans h3 h4.1
   ·rcases bt hx with rfl|hx
    ·exact Int.le_trans h3 h4.2
    ·exact h2 x (fX _ hx)
theorem Ji{l:List Int}{m k:Int}(e:Cd l=some m)(h1:k∈l)(h2:∀x∈l,x<=k):k=m:=by
 cases l with
 |nil=>exact cT e
 |cons a r=>
  (injection e with P4;subst P4);refine cH (tF r a) λh3 h4=>?_;have:=h2 _ h3;have:=h4 _ h1;omega
theorem Jd{l:List Int}{m k:Int}(e:oG l=some m)(h1:k∈l)(h2:∀x∈l,k<=x):k=m:=by
 cases l with
 |nil=>exact cT e
 |cons a r=>
  (injection e with P0;subst P0);refine cH (tC r a) λh3 h4=>?_;have:=h2 _ h3;have:=h4 _ h1;omega
theorem FC{l:List Int}{m:Int}(e:Cd l=some m):0<l.length:=by induction l using List.casesOn with
 |nil=>exact cT e
 |cons a r=>simp
theorem Fs{l:List Int}{m:Int}(e:oG l=some m):0<l.length:=by induction l using List.casesOn with
 |nil=>exact cT e
 |cons a r=>simp
theorem qR{xs:List Value}{ns:List Int}(hi:IntsAre xs ns):∃ys:Array (Int×Tok),xs.toArray=intItems ys/\ns=ys.toList.map (·.1):=by
 refine eL (hi.allInts.items) λys e=>?_;exact⟨ys,e,by rw[<-hi.numsOf,<-nums_intItems,<-e]⟩
theorem Iv{E:Value->Shared->Prop}(hh:A.handled=none){x:Value}{xs:List Value}{ns:List Int}(hx:n3 s.heap x xs.toArray)(hi:IntsAre xs ns){Q:Value->Shared->Prop}(h:∀h' tk t',(∀b o,s.heap.get? b=some o->h'.get? b=some o)->Q (.int ns.sum t') {s with heap:=h',toks:=tk}):wpAny (model R.prog R.w) A (call (.builtin "sum") [x]) Q E s:=by
 (refine ak (qR hi) λys e DP=>?_;subst DP);rw[e]at hx;refine call_sum_walkG (mL (A:=A.in1) hh hx λI fp wr St gM W st hf hk=>?_);refine(qf _ _ _ _ _ _ (numAt ys) rfl W st hf (λ_ _=>intItems_at) (λh' tk t' kK=>?_));have:=h h' tk t' (hk h' kK);rw[preSum_eq,List.take_of_length_le (by simp[intItems])];exact this
theorem Jh{E:Value->Shared->Prop}(hh:A.handled=none){x:Value}{xs:List Value}{ns:List Int}(hx:n3 s.heap x xs.toArray)(hi:IntsAre xs ns)(sM:0<ns.length){Q:Value->Shared->Prop}(h:∀h' tk M t',M∈ns->(∀a∈ns,a<=M)->(∀b o,s.heap.get? b=some o->h'.get? b=some o)->Q (.int M t') {s with heap:=h',toks:=tk}):wpAny (model R.prog R.w) A (call (.builtin "max") [x]) Q E s:=by
 obtain⟨ys,e,rfl⟩:=qR hi;rw[e]at hx;have hs:(intItems ys).size=ys.size:=by simp[intItems]
 have h0:0<ys.size:=by simpa using sM
 refine call_max_walk (mL (A:=A.in1) hh hx λI fp wr St gM W st hf hk=>?_);refine(jM _ _ _ _ _ _ _ rfl W st hf (by rw[hs];exact h0) (CmpOf.ints_gt (numAt ys) (λ_ _=>intItems_at)) (λv h' tk hv kK=>?_));obtain⟨t,rfl⟩:=intItems_at hv;rw[hs];refine cH (argBest_gt (numAt ys) (ys.size-1)) λh1 h2=>?_;refine h _ tk _ t ?_ (λa ha=>?_) (hk h' kK)
 ·rw[numAt_eq];exact getD_mem (by rw[length_map,Array.length_toList];omega)
 ·obtain⟨j,hj,rfl⟩:=mem_getD ha;rw[length_map,Array.length_toList]at hj;rw[<-numAt_eq];exact h2 j (by omega)
theorem Jc{E:Value->Shared->Prop}(hh:A.handled=none){x:Value}{xs:List Value}{ns:List Int}(hx:n3 s.heap x xs.toArray)(hi:IntsAre xs ns)(sM:0<ns.length){Q:Value->Shared->Prop}(h:∀h' tk M t',M∈ns->(∀a∈ns,M<=a)->(∀b o,s.heap.get? b=some o->h'.get? b=some o)->Q (.int M t') {s with heap:=h',toks:=tk}):wpAny (model R.prog R.w) A (call (.builtin "min") [x]) Q E s:=by
 obtain⟨ys,e,rfl⟩:=qR hi;rw[e]at hx;have hs:(intItems ys).size=ys.size:=by simp[intItems]
 have h0:0<ys.size:=by simpa using sM
 refine call_min_walk (mL (A:=A.in1) hh hx λI fp wr St gM W st hf hk=>?_);refine(jM _ _ _ _ _ _ _ rfl W st hf (by rw[hs];exact h0) (CmpOf.ints_lt (numAt ys) (λ_ _=>intItems_at)) (λv h' tk hv kK=>?_));obtain⟨t,rfl⟩:=intItems_at hv;rw[hs];refine cH (argBest_lt (numAt ys) (ys.size-1)) λh1 h2=>?_;refine h _ tk _ t ?_ (λa ha=>?_) (hk h' kK)
 ·rw[numAt_eq];exact getD_mem (by rw[length_map,Array.length_toList];omega)
 ·obtain⟨j,hj,rfl⟩:=mem_getD ha;rw[length_map,Array.length_toList]at hj;rw[<-numAt_eq];exact h2 j (by omega)
end
end
section
noncomputable def CU(n:Nat){α:Type}:KasT α->Bool
 |.ret _=>true
 |.ask i j k=>decide (i<n)&&decide (j<n)&&CU n (k true)&&CU n (k false)
theorem JW:(range 7).all (λn=>CU n (kas_sort n))=true:=by decide +kernel
theorem NH(h:n<=6):CU n (kas_sort n)=true:=fO JW n (mem_range.mpr (by omega))
theorem rh{α:Type}{cX:Nat->Nat->(Bool->Shared->Prop)->Shared->Prop}{lt:Nat->Nat->Bool}{G:α->Shared->Prop}(h:∀i j C,i<n->j<n->C (lt i j) s->cX i j C s):∀t:KasT α,CU n t=true->G (qe lt t) s->t.kasWp cX G s
 |.ret _,_,g=>g
 |.ask i j k,c,g=>by
  simp only[CU,Bool.and_eq_true,decide_eq_true_eq]at c;refine h i j _ c.1.1.1 c.1.1.2 (rh h (k (lt i j)) ?_ g);cases lt i j
  ·exact c.2
  ·exact c.1.2
section
variable{R:Gr}{A:Around}{Z:bo}{σ:af}{s:Shared}{E:Value->Shared->Prop}
noncomputable def ib(lt:Nat->Nat->Bool)(xs:List Value):List Value:=if xs.length<2 then xs else(qe lt (kas_sort xs.length)).toList.map λi=>xs.getD i .none
theorem sJ{P:PySem.Fin->Shared->Prop}{lt:Nat->Nat->Bool}(ho:s.heap.get? a=some (seqObj "list" xs.toArray n))(h6:xs.length<=6)(hk:∀h':Heap,(∀b o,b≠a->s.heap.get? b=some o->h'.get? b=some o)->∃κ,(2<=xs.length->∀Q:SortKind->Shared->Prop,Q κ {s with heap:=h'}->wpAny (model R.prog R.w) A (keyKind' xs.toArray) Q E {s with heap:=h'})/\∀i j C,i<xs.length->j<xs.length->C (lt i j) {s with heap:=h'}->kas_ask R.prog R.w A κ xs i j C {s with heap:=h'})(h:P (.done (.ret .none)) {s with heap:=sortedHeap s.heap a xs (ib lt xs).toArray}):wpAny (model R.prog R.w) A (Builtin.«list.sort» ⟨[.ref a],[]⟩) P E s:=by
 rw[list_sort_plain];have ha:a<s.heap.objs.size:=Heap.lt_size ho;have hz:sizeLine=16777216:=by decide
 refine aw (listItems_at ho rfl ?_);refine aw (listUpdate_at ho rfl ?_ (by rw[List.size_toArray,hz];omega) (zero_le _));obtain⟨e1,Wb⟩:∃e1,(s.heap.update a (Obj.mapSeq λ_=> #[])).get? a=some (seqObj "list" #[] e1):=⟨_,get?_update_seq ho (λ_=> #[])⟩;refine aw (seqEpoch_at Wb rfl ?_);refine aw (wpAny_newTuple ?_ (by refine(?_:xs.length<=_);rw[hz];omega));refine aw (wpAny_newList ?_ (zero_le _));refine wpAny_holding ?_;have SN:(((s.heap.update a (Obj.mapSeq λ_=> #[])).push (seqObj "tuple" xs.toArray 0)).push (seqObj "list" #[] 0)).get? a=some (seqObj "list" #[] e1):=by
  rw[Heap.get?_push_ne _ _ _ (by rw[size_push',Heap.size_update];exact Nat.ne_of_lt (lt_succ_of_lt ha)),Heap.get?_push_ne _ _ _ (by rw[Heap.size_update];exact Nat.ne_of_lt ha)];exact Wb
 refine(?_:wpAny (model R.prog R.w) A _ P E {s with heap:=((s.heap.update a (Obj.mapSeq λ_=> #[])).push (seqObj "tuple" xs.toArray 0)).push (seqObj "list" #[] 0)});dsimp only;have keep:∀b o,b≠a->s.heap.get? b=some o->(((s.heap.update a (Obj.mapSeq λ_=> #[])).push (seqObj "tuple" xs.toArray 0)).push (seqObj "list" #[] 0)).get? b=some o:=λb o hb e=>
  gm _ (gm _ ((Heap.get?_update_ne _ _ _ _ hb).trans e))
 refine ak (hk _ keep) λκ Ni UO=>?_;by_cases h2:xs.toArray.size<2
 ·rw[if_pos h2,if_pos h2];have xB:xs.length<2:=by simpa using h2
  have e:ib lt xs=xs:=by unfold ib;exact if_pos xB
  rw[e]at h;refine aw (a7 ?_);rw[StateT.run_pure];refine aw (a7 ?_);dsimp only;refine aw (seqEpoch_at SN rfl ?_);have e2:(xs.toArray.zip xs.toArray).map (·.2)=xs.toArray:=by
   apply Array.toList_inj.mp;rw[Array.toList_map,Array.toList_zip];exact List.map_snd_zip (Nat.le_refl _)
  refine aw (listUpdate_at SN rfl ?_ (zero_le _) (by refine(?_:((xs.toArray.zip xs.toArray).map (·.2)).size<=_);rw[e2,List.size_toArray,hz];omega));simp only[bne_self_eq_false,false_eq_true,if_false];refine a7 ?_;show P (.done (.ret .none)) {s with heap:=Heap.update _ a (Obj.mapSeq λ_=>(xs.toArray.zip xs.toArray).map (·.2))};refine Eq.symm e2▸?_;exact h
 ·rw[if_neg h2,if_neg h2];have xB:2<=xs.length:=by simpa using h2
  have e:ib lt xs=(qe lt (kas_sort xs.length)).toList.map λi=>xs.getD i .none:=by unfold ib;exact if_neg (by omega)
  rw[e]at h;refine aw (Ni xB _ ?_);refine aw (wpAny_mono (kat_run (ks:=xs) (vs:=xs) (G:=λp s'=>p=qe lt (kas_sort xs.length)/\s'={s with heap:=((s.heap.update a (Obj.mapSeq λ_=> #[])).push (seqObj "tuple" xs.toArray 0)).push (seqObj "list" #[] 0)})
   (Q:=λst' s'=>∃p:Array Nat,p=qe lt (kas_sort xs.length)/\p.size=xs.length/\arrOf st'=p.map (kas_item (xs.toArray.zip xs.toArray))/\failedOf st'=none/\
    s'={s with heap:=((s.heap.update a (Obj.mapSeq λ_=> #[])).push (seqObj "tuple" xs.toArray 0)).push (seqObj "list" #[] 0)})
   rfl xB (by omega) (λp st' s' a1 a2 a3 a4=>(Gd p a4.1 a1 a2 a3 a4.2)) (rh UO _ (NH h6) ⟨rfl,rfl⟩)) ?_ λ_ _ e=>e)
  rintro⟨⟨⟩,st'⟩ s' ⟨p,rfl,hp,Ys,hf,rfl⟩;skip;rw[kat_snds rfl Ys];refine aw (seqEpoch_at SN rfl ?_);refine aw (listUpdate_at SN rfl ?_ (zero_le _) (by rw[List.size_toArray,length_map,Array.length_toList,hp,hz];omega));rw[hf];simp only[bne_self_eq_false,false_eq_true,if_false];exact a7 h
theorem yS{lt:Nat->Nat->Bool}{Q:Value->Shared->Prop}(hlen:xs.length<=6)(hc:∀(Q':List Value->Shared->Prop),(∀h' tk,(∀b o,s.heap.get? b=some o->h'.get? b=some o)->Q' xs {s with heap:=h',toks:=tk})->wpAny (model R.prog R.w) A.in1 (collect v) Q' E s)(hk:∀(h':Heap) tk,(∀b o,s.heap.get? b=some o->h'.get? b=some o)->∃κ,(2<=xs.length->∀Q:SortKind->Shared->Prop,Q κ {s with heap:=h',toks:=tk}->wpAny (model R.prog R.w) A.in1.in1 (keyKind' xs.toArray) Q E {s with heap:=h',toks:=tk})/\∀i j C,i<xs.length->j<xs.length->C (lt i j) {s with heap:=h',toks:=tk}->kas_ask R.prog R.w A.in1.in1 κ xs i j C {s with heap:=h',toks:=tk})(h:∀(D:Addr) h' tk n,s.heap.get? D=none->3<=D->(∀b o,s.heap.get? b=some o->h'.get? b=some o)->h'.get? D=some (seqObj "list" (ib lt xs).toArray n)->Q (.ref D) {s with heap:=h',toks:=tk})(h3:∃b o,2<=b/\s.heap.get? b=some o):wpAny (model R.prog R.w) A (call (.builtin "sorted") [v]) Q E s:=by
 have hz:sizeLine=16777216:=by decide
 refine Calls.call_function_entry kind_sorted plain_sorted entry_sorted (args_sorted1 _) ?_;skip;refine aw (m:=checkCount "sorted" 1 1 _) (a7 ?_);refine aw (hc _ λh1 tk Ni=>?_);refine aw (wpAny_newList ?_ (by rw[hz];omega));have hD:s.heap.get? h1.objs.size=none:=by
  cases e:s.heap.get? h1.objs.size with
  |none=>rfl
  |some o=>exact absurd (Heap.lt_size (Ni _ _ e)) (Nat.lt_irrefl _)
 have Yw:3<=h1.objs.size:=by
  (refine cw h3 λb o h2 e=>?_;clear h3);have:=Heap.lt_size (Ni _ _ e);simp only[Addr]at *
  omega
 have JA:(h1.push (seqObj "list" xs.toArray 0)).get? h1.objs.size=some (seqObj "list" xs.toArray 0):=gk _ rfl;have keep:∀b o,s.heap.get? b=some o->(h1.push (seqObj "list" xs.toArray 0)).get? b=some o:=λb o e=>gm _ (Ni b o e);have sM:∀b o,s.heap.get? b=some o->b≠h1.objs.size:=λb o e q=>by replace e:=(hD▸(q▸e));exact cT e
 refine aw (wpAny_holding (wpAny_call_entry slot_list_sort ⟨_,JA,rfl⟩ entry_list_sort
  (sJ (s:={s with heap:=h1.push (seqObj "list" xs.toArray 0),toks:=tk}) (lt:=lt) JA hlen (λh' kK=>hk h' tk λb o e=>kK b o (sM b o e) (keep b o e)) (aT _ rfl ?_)) (args_list_sort _)))
 refine a7 (aT _ rfl ?_);obtain⟨n,hn⟩:=sortedHeap_at (out:=(ib lt xs).toArray) JA;refine h _ _ tk n hD Yw (λb o e=>?_) hn;refine Eq.symm (sortedHeap_old (sM b o e) (Heap.lt_size (keep b o e)))▸?_;exact keep b o e
theorem aD.two(r:aD R Z h [.int a,.int b] xs):∃t u,xs= [.int a t,.int b u]:=by
 (refine bf (r.fM) λx r1 qy p h1=>?_;subst qy);(refine bf (h1.fM) λy r2 qx q h2=>?_;subst qx);obtain rfl:=h2.zero;obtain⟨t,rfl⟩:=p.int_inv;obtain⟨u,rfl⟩:=q.int_inv;exact(ml t u rfl)
theorem aD.getD(r:aD R Z h vs xs)(i:Nat):aI R Z h (vs.getD i .none) (xs.getD i .none):=by
 rw[getD_eq_getElem?_getD,getD_eq_getElem?_getD];cases hv:vs[i]? with
 |some v=>
  refine ak (r.get hv) λx hx hr=>?_;refine Eq.symm hx▸?_;exact hr
 |none=>
  have:xs[i]?=none:=getElem?_eq_none (r.length▸List.getElem?_eq_none_iff.mp hv);rw[this];exact .none
theorem oI(e:isInt v=true):∃i,v=.int i:=by
 obtain⟨i,h⟩:=isSome_iff_exists.mp e;exact⟨i,jU h⟩
theorem rl(e:rn v=true):∃a b,v=.tup [.int a,.int b]:=by
 unfold rn at e;cases h:(S7 v).bind Ag with
 |none=>replace e:=h▸e;exact mO e
 |some p=>
  rw[h]at e;obtain⟨h3,h4⟩:=aP (show(isInt p.1&&isInt p.2)=true from e)
  refine dD h λl h1 h2=>?_;obtain⟨a,ha⟩:=oI h3;obtain⟨b,hb⟩:=oI h4;exact(ml a b (by rw[ya h1,jV h2,ha,hb]))
theorem HI(h:r.all isInt=true):∃ns:List Int,r=ns.map .int:=by
 induction r with
 |nil=>exact⟨[],rfl⟩
 |cons a r ih=>
  obtain⟨h1,h2⟩:=aP (show(isInt a&&r.all isInt)=true from h)
  obtain⟨ns,rfl⟩:=ih h2;obtain⟨i,rfl⟩:=oI h1;exact⟨i::ns,rfl⟩
theorem Qz(e:jG vs=true):(∃ns:List Int,vs=ns.map .int)\/∀v∈vs,rn v=true:=
 (or_eq_true_iff.mp e).imp HI fO
theorem aD.Jw:∀{xs:List Value},aD R Z h (ns.map .int) xs->IntsAre xs ns:=by
 induction ns with
 |nil=>intro xs r;cases r.zero;exact .nil
 |cons n ns ih=>
  intro xs r;(refine bf (r.fM) λx ys DY p t=>?_;subst DY);obtain⟨u,rfl⟩:=p.int_inv;exact .cons n u (ih t)
theorem BW(r:aD R Z h vs xs)(q:∀v∈vs,rn v=true):∃fs:List Value,KatTups h xs fs/\fs.length=xs.length/\∀f∈fs,∃n t,f=.int n t:=by
 induction r using bg.ind with
 |nil=>exact(gw ([]) .nil rfl (λ_ q=>nomatch q))
 |cons v x vs xs p r ih=>
  (refine iN (rl (q v (.head _))) λa b Eg=>?_;subst Eg);(refine bj (p.d7) λad ys qw _ ho hv=>?_;subst qw);(refine iN (hv.two) λt u DV=>?_;subst DV);refine cA (ih λv hv=>q v (.tail _ hv)) λfs h1 h2 h3=>?_;exact(gw (.int a t::fs) (.cons ho rfl rfl rfl h1) (by simp[h2]) (λf hf=>by
   rcases bt hf with rfl|hf
   ·exact(ml a t rfl)
   ·exact h3 f hf))
theorem KatTups.kept(k:∀b o,h.get? b=some o->h'.get? b=some o):∀{vs fs:List Value},KatTups h vs fs->KatTups h' vs fs
 |[],[],_=>trivial
 |[],_::_,t=>t.elim
 |_::_,[],t=>t.elim
 |_::_,_::_,⟨⟨a,o,xs,n,e,ho,r⟩,t⟩=>⟨(tO a o xs n e (k _ _ ho) r),KatTups.kept k t⟩
theorem J6(hv:aD R Z s.heap vs xs)(hk:jG vs=true)(h':Heap)(tk:Nat)(k:∀b o,s.heap.get? b=some o->h'.get? b=some o):∃κ,(2<=xs.length->∀Q:SortKind->Shared->Prop,Q κ {s with heap:=h',toks:=tk}->wpAny (model R.prog R.w) B (keyKind' xs.toArray) Q E {s with heap:=h',toks:=tk})/\∀i j C,i<xs.length->j<xs.length->C (Ip (vs.getD i .none) (vs.getD j .none)) {s with heap:=h',toks:=tk}->kas_ask R.prog R.w B κ xs i j C {s with heap:=h',toks:=tk}:=by
 have hlen:=hv.length
 rcases Qz hk with⟨ns,rfl⟩|hp
 ·refine(aT oneType' (λh2 Q q=>?_) (λi j C hi hj c=>?_))
  ·have hI:=hv.Jw
   match xs,h2,hI with
   |_::_::_,_,hI=>refine Eq.symm (keyKind_ints hI)▸?_;exact a7 q
  ·rw[length_map]at hlen;have e:∀i,i<xs.length->∃n t,(ns.map V.int).getD i .none=.int n/\xs.getD i .none=.int n t:=λi hi=>by
    have r:=hv.getD i;have e1:(ns.map V.int).getD i .none=.int ns[i]:=by
     rw[getD_eq_getElem?_getD,getElem?_map,getElem?_eq_getElem (by omega)];rfl
    rw[e1]at r ⊢;refine eL (r.int_inv) λt e2=>?_;exact(ef _ t rfl e2)
   refine cw (e i hi) λn t e1 e2=>?_;refine cw (e j hj) λm u e3 e4=>?_;rw[e1,e3]at c;unfold kas_ask;(refine Eq.symm e2▸?_;refine Eq.symm e4▸?_);exact kat_lt_int c
 ·refine(aT (tuples' (Value.type "int" !=Value.type "tuple")) (λh2 Q q=>?_) (λi j C hi hj c=>?_))
  ·refine cA (BW hv hp) λfs t hl hf=>?_;exact kat_kind (s:={s with heap:=h',toks:=tk}) (Mine.Internal.KatTups.kept k t) (by rw[hl];exact d5 (by decide) h2) (λv hv=>by(refine iN (hf v hv) λn t D4=>?_;subst D4);exact Looks.of_pure rfl) rfl q
  ·have e:∀i,i<xs.length->∃a b ad t u,vs.getD i .none=.tup [.int a,.int b]/\xs.getD i .none=.ref ad/\h'.get? ad=some (iB [.int a t,.int b u].toArray):=λi hi=>by
    have r:=hv.getD i;have e1:vs.getD i .none∈vs:=by
     rw[getD_eq_getElem?_getD,getElem?_eq_getElem (by omega)];exact getElem_mem _
    refine iN (rl (hp _ e1)) λa b e2=>?_;rw[e2]at r ⊢;refine bj (r.d7) λad ys e3 _ ho hv=>?_;(refine iN (hv.two) λt u DN=>?_;subst DN);exact(zB a b ad t u rfl e3 (k _ _ ho))
   refine rQ (e i hi) λa b ad t u e1 e2 o1=>?_;refine rQ (e j hj) λc' d' Zp t' u' e3 e4 o2=>?_;rw[e1,e3]at c;unfold kas_ask;(refine Eq.symm e2▸?_;refine Eq.symm e4▸?_);refine kat_lt o1 rfl o2 rfl ?_;refine(?_:KatLex _ _ _ _ _ _ [(Value.int a t,Value.int c' t'),(Value.int b u,Value.int d' u')] 0 _);have cv:Ip (.tup [.int a,.int b]) (.tup [.int c',.int d'])=if a=c' then(if b=d' then false else decide (b<d'))else decide (a<c'):=rfl
   rw[cv]at c;refine kat_cons (wpAny_eqBool_int ?_);by_cases h1:a=c'
   ·subst h1;rw[if_pos rfl]at c;rw[show(a==a)=true by simp];refine kat_yes (kat_cons (wpAny_eqBool_int ?_));by_cases h2:b=d'
    ·subst h2;rw[if_pos rfl]at c;rw[show(b==b)=true by simp];exact kat_yes (kat_nil c)
    ·rw[if_neg h2]at c;rw[show(b==d')=false by simpa using h2];exact kat_no (kat_one _ _ (lt_int c))
   ·rw[if_neg h1]at c;refine Eq.symm (show(a==c')=false by simpa using h1)▸?_;exact kat_no (oneLt_int c)
theorem EP(hv:aD R Z h vs xs):aD R Z h (pb vs) (ib (λi j=>Ip (vs.getD i .none) (vs.getD j .none)) xs):=by
 unfold pb ib;rw[<-hv.length]
 split
 ·exact hv
 ·generalize (qe _ (kas_sort vs.length)).toList=l
  induction l with
  |nil=>exact .nil
  |cons a l ih=>exact .cons (hv.getD a) ih
end
end
section
def eJ(h:Heap)(d:Addr)(es:Array DictEntry)(ep:Nat):Prop:=∃o,h.get? d=some o/\o.ExactDict/\o.data=.dict es ep
theorem eJ.at'{h h':Heap}{d:Addr}{es:Array DictEntry}{ep:Nat}(x:eJ h d es ep)(k:∀o,h.get? d=some o->h'.get? d=some o):eJ h' d es ep:=
 let ⟨o,ho,r⟩:=x;⟨o,k _ ho,r⟩
theorem eJ.typeIs{s:Shared}{d:Addr}{es:Array DictEntry}{ep:Nat}(x:eJ s.heap d es ep):s.TypeIs (.ref d) "dict":=let ⟨o,ho,hc,_⟩:=x;⟨o,ho,hc.1⟩
theorem eJ.lt{h:Heap}{d:Addr}{es:Array DictEntry}{ep:Nat}(x:eJ h d es ep):d<h.objs.size:=let ⟨o,ho,_⟩:=x;Heap.lt_size ho
section
variable{prog:Program}{w:World}{A:Around}{E:Value->Shared->Prop}{s:Shared}{it d:Addr}{es:Array DictEntry}{i n ep:Nat}
theorem wZ{Q:Value->Shared->Prop}(hd:(d==sysModules)=false)(hm:eJ s.heap d es ep)(hQ:Q (.ref s.heap.objs.size) {s with heap:=s.heap.push {cls:=.type "dict_keyiterator",data:=.fields #[.ref d,.int 0 0,.int es.size 0,.int ep 0]}}):wpAny (model prog w) A (pyIter (.ref d)) Q E s:=by
 refine cA (id hm) λo ho hc Rp=>?_;have hT:=hm.typeIs;refine wpAny_pyIter_slot hT PySem.F.slot_dict_iter (wpAny_call_entry PySem.F.slot_dict_iter hT PySem.F.entry_dict_iter ?_ (PySem.F.args_dict_iter_1 _));unfold Builtin.«dict.__iter__» Builtin.Dict.dictSlotNone;refine aw (aw (wpAny_notOrdered_dict hT ?_));refine(?_:wpAny _ _ (pure (Value.ref d)) _ _ s);refine a7 ?_;refine(?_:wpAny _ _ (Builtin.Dict.showsAll d>>=_) _ _ s);unfold Builtin.Dict.showsAll;rw[if_neg (by rw[hd];exact Bool.false_ne_true)];refine aw (a7 (aw (wpAny_dictEntries ho Rp (aw (wpAny_dictEpoch ho Rp ?_)))));refine aw (wpAny_newObj_type (a7 (Cs _ rfl ("dict_keyiterator") _ ⟨_,gk _ rfl,rfl⟩ PySem.F.slot_dict_keyiterator_next.lookup ?_)))
 simpa[rawInt] using hQ
theorem q6:Builtin.Dict_items.ownsTuple "dict_keyiterator"=false:=by decide
theorem w0{e:DictEntry}{Q:Option Value->Shared->Prop}(hit:s.heap.IsKeyIter it d i es.size ep)(hm:eJ s.heap d es ep)(hx:es[i]?=some e)(hQ:∀h',h'.IsKeyIter it d (i+1) es.size ep->Heap.SameBut it s.heap h'->Q (some e.key) {s with heap:=h'}):wpAny (model prog w) A (pyNext (.ref it)) Q E s:=by
 obtain⟨o,ho,hc,hd⟩:=id hit;refine cA (id hm) λod H5 Cy yz=>?_;have Oq:i<es.size:=(Array.getElem?_eq_some_iff.mp hx).1;have rD:=q6;unfold pyNext;refine aw (wpAny_attempt (wpAny_callSpecial?_slot (name:=Str.ofString "__next__") hit.typeIs PySem.F.slot_dict_keyiterator_next
  (wpAny_call_entry PySem.F.slot_dict_keyiterator_next hit.typeIs PySem.F.entry_dict_keyiterator_next ?_ (PySem.F.args_dict_keyiterator_next_1 _))))
 refine aw (a7 (aw (aw ?_)))
 first|refine aw (wpAny_typeNameOfWhole_keyiter hit.typeIs (a7 ?_))|refine aw (wpAny_typeNameOf_keyiter hit.typeIs (a7 ?_))
 refine aw (wpAny_fieldsOf ho hd ?_);refine Eq.symm rD▸?_;show wpAny _ _ (if(Value.ref d==Value.none)=true then _ else _) _ _ s;rw[if_neg (show ¬ ((Value.ref d==Value.none)=true) from Bool.false_ne_true)]
 refine aw (a7 (aw (wpAny_dictEntries H5 yz ?_)));rw[if_neg (by simp)];refine aw (a7 (aw (wpAny_dictEpoch H5 yz ?_)));rw[if_neg (by simp)];refine a7 ?_;dsimp only;rw[if_neg (show ¬((i:Int)<0) from Int.not_lt.mpr (natCast_nonneg i)),toNat_natCast,hx]
 refine aw ?_
 first|refine aw (wpAny_typeNameOfWhole_keyiter hit.typeIs (a7 ?_))|refine aw (wpAny_typeNameOf_keyiter hit.typeIs (a7 ?_))
 refine aw (wpAny_isOneOf_keyiter hit.typeIs ?_);refine(?_:wpAny _ _ (setField (.ref it) 1 (rawInt ((i:Int)+1))>>=_) _ _ s);refine aw (wpAny_setField ho hd (by simp) ?_);have qh:(s.heap.update it (Obj.mapFields (·.setIfInBounds 1 (rawInt ((i:Int)+1))))).IsKeyIter it d (i+1) es.size ep:=
  ⟨_,Heap.get?_update_self _ ho (Obj.isFreed_of_fields (Obj.data_mapFields hd _)),(Obj.cls_mapFields ..).trans hc,by rw[Obj.data_mapFields hd];simp[rawInt]⟩
 refine aw (wpAny_holding (aw (wpAny_isOneOf_keyiter (s:={s with heap:=s.heap.update it (Obj.mapFields (·.setIfInBounds 1 (rawInt ((i:Int)+1))))}) qh.typeIs ?_)));refine(?_:wpAny _ _ (pure e.key) _ _ _);exact a7 (a7 (aT _ rfl (a7 (hQ _ qh (Heap.SameBut.update ..)))))
theorem IJ{Q:Option Value->Shared->Prop}(hh:A.handled=none)(hit:s.heap.IsKeyIter it d i es.size ep)(hm:eJ s.heap d es ep)(hx:es[i]?=none)(hQ:∀h',Heap.ExtBut it s.heap h'->Q none {s with heap:=h'}):wpAny (model prog w) A (pyNext (.ref it)) Q E s:=by
 obtain⟨o,ho,hc,hd⟩:=id hit;refine cA (id hm) λod H5 Cy yz=>?_;have rD:=q6;unfold pyNext;refine aw (wpAny_attempt (wpAny_callSpecial?_slot (name:=Str.ofString "__next__") hit.typeIs PySem.F.slot_dict_keyiterator_next
  (wpAny_call_entry PySem.F.slot_dict_keyiterator_next hit.typeIs PySem.F.entry_dict_keyiterator_next ?_ (PySem.F.args_dict_keyiterator_next_1 _))))
 refine aw (a7 (aw (aw ?_)))
 first|refine aw (wpAny_typeNameOfWhole_keyiter hit.typeIs (a7 ?_))|refine aw (wpAny_typeNameOf_keyiter hit.typeIs (a7 ?_))
 refine aw (wpAny_fieldsOf ho hd ?_);refine Eq.symm rD▸?_;show wpAny _ _ (if(Value.ref d==Value.none)=true then _ else _) _ _ s;rw[if_neg (show ¬ ((Value.ref d==Value.none)=true) from Bool.false_ne_true)]
 refine aw (a7 (aw (wpAny_dictEntries H5 yz ?_)));rw[if_neg (by simp)];refine aw (a7 (aw (wpAny_dictEpoch H5 yz ?_)));rw[if_neg (by simp)];refine a7 ?_;dsimp only;rw[if_neg (show ¬((i:Int)<0) from Int.not_lt.mpr (natCast_nonneg i)),toNat_natCast,hx]
 refine aw ?_
 first|refine aw (wpAny_typeNameOfWhole_keyiter hit.typeIs (a7 ?_))|refine aw (wpAny_typeNameOf_keyiter hit.typeIs (a7 ?_))
 refine(?_:wpAny _ _ (setField (.ref it) 0 .none>>=_) _ _ s);refine aw (wpAny_setField ho hd (by simp) ?_);show wpAny _ _ (newExc (.type "StopIteration") []>>=_) _ _ _;refine aw ?_;simp only[newExc,newTuple];refine aw (wpAny_newObj_type ?_ (by size_fits));refine aw (m:=firstArgMember _ _) (wpAny_of_eq (a:=Value.none) (by first|rfl|(simp only[firstArgMember];rfl)) ?_)
 refine wpAny_newObj_type ?_ (by size_fits);delta raiseNew;refine aw (wpAny_handled ?_);refine Eq.symm (show A.in1.handled=none from hh)▸?_
 refine aw (a7 (wpAny_throw ?_));refine aw (wpAny_isInstance (T:="StopIteration") (b:=true) ⟨_,gk _ rfl,rfl⟩ isSubtype_stop ?_);exact a7 (hQ _ (((Heap.SameBut.update ..).extBut.push _).push _))
theorem BS(hh:A.handled=none)(I d:Addr)(sM:d≠I)(es:Array DictEntry)(ep:Nat):Walks prog w A I [I,d] [I] es.size (λi v=>∃e,es[i]?=some e/\v=e.key) (λi h=>h.IsKeyIter I d i es.size ep/\eJ h d es ep) where
 sub:=λb hb=>by simp at hb;simp[hb]
 frame:=λ_ _ _ st hk=>⟨st.1.at λo e=>hk I (by simp) o e,st.2.at' λo e=>hk d (by simp) o e⟩
 item:=λi s Q E hi st hQ=>by
  refine w0 st.1 st.2 (e:=es[i]) (by simp[hi]) λh' qh rC=>?_;exact hQ _ h' s.toks ⟨_,by simp[hi],rfl⟩ ⟨qh,st.2.at' λo e=>rC.extBut d o sM e⟩ λb o hb e=>rC.extBut b o (λh=>hb (by simp[h])) e
 done:=λs Q E st hQ=>IJ hh st.1 st.2 (by simp) λh' Cu=>hQ h' s.toks λb o hb e=>Cu b o (λh=>hb (by simp[h])) e
 self:=λ_ _ _ _ st hQ=>wpAny_pyIter_keyiter st.1 hQ
theorem IH(lo:(d==sysModules)=false):KdlSrc prog w "dict" d d es.size (λi v=>∃e,es[i]?=some e/\v=e.key) (λh=>eJ h d es ep) where
 type:=λ_ hm=>hm.typeIs
 there:=λ_ hm=>⟨hm.lt,hm.lt⟩
 keep:=λ_ _ hm hk=>hm.at' λo e=>hk d (.inl rfl) o e
 notList:=by decide
 notTuple:=by decide
 hint:=λ_ _ _ _ hm hq=>kdl_hint_dict hm.typeIs hq
 iter:=λ_ _ hh hm=>(i2 _ _ (λ_ _ hq=>wZ lo hm hq) (BS hh _ d (Nat.ne_of_lt hm.lt) es ep) ⟨⟨_,gk _ rfl,rfl,rfl⟩,hm.at' λo e=>gm _ e⟩)
theorem pB{Q:List Value->Shared->Prop}(lo:(d==sysModules)=false)(hh:A.handled=none)(hm:eJ s.heap d es ep)(hn:es.size<=sizeLine)(h:∀h' tk,(∀b o,s.heap.get? b=some o->h'.get? b=some o)->Q (es.toList.map (·.key)) {s with heap:=h',toks:=tk}):wpAny (model prog w) A (collect (.ref d)) Q E s:=
 kdu_collect (IH lo) hh hm hn λh' tk acc k ia=>by
  have:acc.toList=es.toList.map (·.key):=by
   apply ext_getElem?;intro j;by_cases hj:j<acc.size
   ·refine ak (ia.2 j acc[j] (by simp[hj])) λe he hv=>?_;rw[getElem?_map,Array.getElem?_toList,Array.getElem?_toList,he,Array.getElem?_eq_getElem hj,hv]
    rfl
   ·have e1:es.size<=j:=by have:=ia.1;omega
    rw[getElem?_map,Array.getElem?_toList,Array.getElem?_toList,Array.getElem?_eq_none e1,Array.getElem?_eq_none (by omega)]
    rfl
  refine Eq.symm this▸?_;exact h h' tk k
end
end
section
section
variable{R:Gr}{A:Around}{Z:bo}{σ:af}{s:Shared}
theorem Js(e:(kZ R).is k v=true):∃t,v=.int k t:=by
 have:Value.isInt k v=true:=e
 induction v using Value.casesOn with
 |int i t=>exact⟨t,by have:i=k:=(by simpa[Value.isInt] using this);rw[this]⟩
 |_=>simp[Value.isInt]at this
theorem mD(r:Pairs (kZ R) es eR):bg (λ(k:Int×Value) (e:DictEntry)=>∃t,e.key=.int k.1 t) eR es:=by
 induction r with
 |nil=>exact .nil
 |cons h1 h2 _ ih=>exact .cons (Js h1) ih
theorem FP(r:Pairs (kZ R) es eR)(q:n5 R Z s.heap us eR):aD R Z s.heap (us.map λe=>.int e.1) (es.map (·.key)):=by
 have e:(us.map λe=>V.int e.1)=eR.map λk=>V.int k.1:=bg.FD (λ_ _ h=>congrArg V.int h.1) q;rw[e];exact bg.map (λk e Mk=>eL Mk λt h=>by rw[h];exact .int _ t) (mD r)
theorem FO(r:oh R Z s.heap us xs):aD R Z s.heap (us.map λe=>.tup (e.1.map .int)) ((xs.map (entryOfKey (jC R))).map (·.key)):=by
 rw[List.map_map];exact bg.map (λa b Mj=>bH Mj λh1 h2 _=>by refine Eq.symm h1▸?_;exact h2) r
theorem MW(G:aq R Z σ s):∃b o,2<=b/\s.heap.get? b=some o:=let ⟨b,o,h,e⟩:=R.low;(ef b o h (G.base _ _ e))
theorem AR(G:aq R Z σ s)(hv:aD R Z s.heap vs xs)(hD:s.heap.get? D=none)(h3:3<=D)(k:∀b o,s.heap.get? b=some o->h'.get? b=some o)(ho:h'.get? D=some (seqObj "list" xs.toArray n)):aq R (Z++[(D,D)]) (σ++[.lst vs]) {s with heap:=h',toks:=tk}/\bu [] Z s (Z++[(D,D)]) {s with heap:=h',toks:=tk}/\aI R (Z++[(D,D)]) h' (.ref σ.length) (.ref D):=by
 refine cH (G.alloc (p:=(D,D)) (c:=.lst vs) (h':=h') (t:=tk) rfl k ⟨hD,h3⟩ ⟨hD,h3⟩ (λx=>⟨rfl,xs.toArray,n,ho,by simpa using hv.mono x (fF.nil _)⟩)) λg x=>?_;refine⟨g,x,?_⟩;have:(Z++[(D,D)])[σ.length]?=some (D,D):=by rw[<-G.len];simp
 exact .ref this
theorem yT(hh:A.handled=none)(G:aq R Z σ s)(hv:aI R Z s.heap v x)(hm:Bf v σ=some (r,aE)){Q:Value->Shared->Prop}{E:Value->Shared->Prop}(hQ:∀aH s' a,aq R aH aE s'->bu [] Z s aH s'->RV R aH s' r a->Q a s'):wpAny (model R.prog R.w) A (call (.builtin "sorted") [x]) Q E s:=by
 refine M.aA hm λvs au h1 Gm=>?_;have key:∃xs:List Value,aD R Z s.heap vs xs/\au=σ/\(xs.length<=6->∀(Q':List Value->Shared->Prop),(∀h' tk,(∀b o,s.heap.get? b=some o->h'.get? b=some o)->Q' xs {s with heap:=h',toks:=tk})->wpAny (model R.prog R.w) A.in1 (collect x) Q' E s):=by
  have hz:sizeLine=16777216:=by decide
  unfold FT at h1
  induction v using V.casesOn with
  |ref i=>
   (refine ak (hv.cE) λp hp mZ=>?_;subst mZ);refine M.aA h1 λc cj h2 h1=>?_;obtain⟨e1,rfl⟩:=gx h2;have C:=G.at hp e1
   induction c using aL.casesOn with
   |lst us=>
    obtain⟨rfl,rfl⟩:=M.aM h1;(refine fT C λ_ xs k hl hx=>?_;clear C);refine(gw xs.toList hx rfl (λhn Q' q=>?_));refine collect_list (vs:=xs.toList) (by simpa using hl.isList) (q _ _ λb o e=>?_) (by omega);rw[Heap.get?_update_ne _ _ _ _ (Nat.ne_of_lt (Heap.lt_size e))];exact gm _ e
   |cG us n=>
    obtain⟨rfl,rfl⟩:=M.aM h1;(refine cC λW2 QR=>?_;(refine cN C λ_ eR KH hx=>?_;clear C;(refine gA KH λo es ho hc hd hk vT rE=>?_;clear KH));refine QR ?_);refine(gw (es.toList.map (·.key)) (FP vT hx) rfl (λhn Q' q=>?_));rw[length_map,Array.length_toList]at hn;exact pB (fk G hp) hh ⟨o,ho,hc,hd⟩ (by omega) q
   |jt us=>
    obtain⟨rfl,rfl⟩:=M.aM h1;(refine cC λWZ QP=>?_;(refine cN C λ_ xs KD hx=>?_;clear C;(refine i7 KD λo es ep ho hc hd he hk rE=>?_;clear KD));refine QP ?_);refine(gw (es.toList.map (·.key)) (by rw[he];exact FO hx) rfl (λhn Q' q=>?_));rw[length_map,Array.length_toList]at hn;exact pB (fk G hp) hh ⟨o,ho,hc,hd⟩ (by omega) q
   |_=>exact cT h1
  |_=>exact cT h1
 (refine cA key λxs hx wc UX=>?_;clear key;subst wc);refine M.aA Gm λ_ cj h2 UK=>?_;obtain⟨hk,rfl⟩:=oC h2;obtain⟨Ni,UO⟩:=aP hk;have h6:xs.length<=6:=by rw[<-hx.length];exact eK UO
 (refine cH (iu UK) λPb D7=>?_;subst Pb;subst D7);refine yS (lt:=λi j=>Ip (vs.getD i .none) (vs.getD j .none)) h6 (UX h6) (λh' tk k=>J6 hx Ni h' tk k) (λD h' tk n hD h3 k ho=>?_) (MW G);refine bH (AR (tk:=tk) G (EP hx) hD h3 k ho) λg x1 rr=>?_;exact hQ _ _ _ g x1 rr
end
end
section
section
variable{R:Gr}{A:Around}{Z:bo}{σ:af}{s:Shared}
theorem i6{n:Nat}(h:cM n=true):n<=16000000:=eK h
theorem aD.one{h:Heap}{v:V}{xs:List Value}(r:aD R Z h [v] xs):∃x,xs= [x]/\aI R Z h v x:=by
 obtain⟨x,ys,rfl,p,r⟩:=r.fM;obtain rfl:=r.zero;exact(aT x rfl p)
theorem aD.OB{h:Heap}{v u:V}{xs:List Value}(r:aD R Z h [v,u] xs):∃x y,xs= [x,y]/\aI R Z h v x/\aI R Z h u y:=by
 obtain⟨x,ys,rfl,p,r⟩:=r.fM;(refine ak (r.one) λy L4 q=>?_;subst L4);exact(i2 x y rfl p q)
theorem aD.Xv{h:Heap}{v u t:V}{xs:List Value}(r:aD R Z h [v,u,t] xs):∃x y z,xs= [x,y,z]/\aI R Z h v x/\aI R Z h u y/\aI R Z h t z:=by
 obtain⟨x,ys,rfl,p,r⟩:=r.fM;(refine bf (r.OB) λy z yB q w=>?_;subst yB);exact(oK x y z rfl p q w)
theorem Jk{E:Value->Shared->Prop}{x:Value}{items:Array Value}(hx:n3 s.heap x items)(hn:items.size<=16000000){Q:Value->Shared->Prop}(h:Q (.int items.size (s.toks+1)) {s with toks:=s.toks+1+1}):wpAny (model R.prog R.w) A (call (.builtin "len") [x]) Q E s:=by
 rcases hx with⟨l,rfl,hl⟩|⟨t,rfl,ht⟩
 ·exact Calls.call_len_list hl (by omega) h
 ·exact PyProof.Rows.len_tuple ht (by omega) h
theorem uS{v:V}{x:Value}{vs:List V}{aE:af}(G:aq R Z σ s)(hv:aI R Z s.heap v x)(hm:gL v σ=some (vs,aE)):aE=σ/\∃xs:List Value,n3 s.heap x xs.toArray/\aD R Z s.heap vs xs/\xs.length=vs.length:=by
 refine cN (pE G hv hm) λe xs h1 h2=>?_;exact(i3 e xs h1 h2 h2.length.symm)
theorem sL{v:V}{x:Value}{ns:List Int}{vs:List V}{au:af}(G:aq R Z σ s)(hv:aI R Z s.heap v x)(h1:gL v σ=some (vs,au))(e:bU vs=some ns):au=σ/\∃xs:List Value,n3 s.heap x xs.toArray/\IntsAre xs ns:=by
 refine cN (pE G hv h1) λe1 xs h2 h3=>?_;exact(jn e1 xs h2 (h3.ints e))
theorem gy{n:Nat}(h:cM n=true):n<=sizeLine:=ao (i6 h) (by decide)
theorem Hr{v:V}{x:Value}(G:aq R Z σ s)(hx:aI R Z s.heap v x):o6 R A [] Z σ s (call (.builtin "len") [x]) (RX v) (RV R):=by
 refine ab.ref λE=>?_;have seq:∀{v:V}{x:Value},aI R Z s.heap v x->ab R [] Z σ s (λQ=>wpAny (model R.prog R.w) A (call (.builtin "len") [x]) Q E s) (gL v>>=λvs=>need (cM vs.length)>>=λ_=>pure (.int vs.length)) (RV R):=λ{v x} hx b aE hm=>by
  refine M.aA hm λus au h1 Gm=>?_;refine lL (uS G hx h1) λe ys h2 h3 h4=>?_;rw[e]at Gm;have mk:ab R [] Z σ s (λQ=>wpAny (model R.prog R.w) A (call (.builtin "len") [x]) Q E s) (need (cM us.length)>>=λ_=>Pure.pure (V.int us.length)) (RV R):=ab.need λhf=>ab.pure λQ hQ=>by
   have:=i6 hf;refine Jk h2 (by simp;omega) ?_;rw[List.size_toArray,h4];exact dy G hQ _ _
  exact mk b aE Gm
 induction v using V.casesOn with
 |bytes b=>
  refine ab.need λhf=>ab.pure λQ hQ=>?_;obtain⟨t,rfl⟩:=hx.jS;have:=i6 hf;refine KBw.len_K (ks:=KBw.bInts b.toArray) rfl (by rw[KBw.ints_length];simp;omega) ?_;rw[KBw.ints_length,show((b.toArray.size:Nat):Int)=(b.length:Int) by simp];exact dy G hQ _ _
 |ref i=>
  refine ab.dP λc e1=>?_;(refine ak (hx.cE) λp hp Ek=>?_;subst Ek)
  induction c using aL.casesOn with
  |lst us=>
   refine ab.need λhf=>ab.pure λQ hQ=>?_;refine bf (gW G hp e1) λys k hl hy hn=>?_;have:=i6 hf;refine Calls.call_len_list hl.isList (by omega) ?_;rw[hn];exact dy G hQ _ _
  |cG us m=>
   refine ab.need λhf=>ab.pure λQ hQ=>?_;refine ak (mS G hp e1) λeR dk vk=>?_;have:=i6 hf;refine call_len_dict (fk G hp) dk.dictOf (by rw[vk.len];omega) ?_;rw[vk.len];exact dy G hQ _ _
  |_=>exact ab.fail
 |_=>exact seq hx
theorem ab.ints{α β:Type}{W:(α->Shared->Prop)->Prop}{rel:bo->Shared->β->α->Prop}{v:V}{x:Value}{k:List Int->M β}(G:aq R Z σ s)(hx:aI R Z s.heap v x)(h:∀ns xs,n3 s.heap x (List.toArray xs)->IntsAre xs ns->ab R [] Z σ s W (k ns) rel):ab R [] Z σ s W (bInts v>>=k) rel:=λb aE hm=>by
 refine M.aA hm λns au h1 h2=>?_;refine M.aA h1 λvs cj h3 h4=>?_;(refine cH (cJ h4) λe Pt=>?_;subst Pt);(refine cN (sL G hx h3 e) λEd ys h5 h6=>?_;subst Ed);exact h ns ys h5 h6 b aE h2
theorem CZ{n:String}{vs:List V}{xs:List Value}(rm:br A 0)(G:aq R Z σ s)(hv:aD R Z s.heap vs xs):o6 R A [] Z σ s (call (.builtin n) xs) (aU n vs) (RV R):=by
 have hh:=rm.handled;refine ab.ref λE=>?_;unfold aU
 split
 ·rename_i hn;subst hn;refine ab.opt λv ev=>?_;(refine ak ((cP ev▸hv).one) λx Ea hx=>?_;subst Ea);exact(Hr G hx).meet E
 split
 ·rename_i hn;subst hn;refine ab.opt λv ev=>ab.int λi ei=>ab.pure λQ hQ=>?_;(refine ak ((cP ev▸hv).one) λx wm hx=>?_;subst wm);obtain⟨t,rfl⟩:=(ei▸hx).int_inv;exact call_abs_int λu tk=>dy G hQ u tk
 split
 ·rename_i hn;subst hn;refine ab.opt λv ev=>?_;(refine ak ((cP ev▸hv).one) λx D7 hx=>?_;subst D7);exact ab.ints G hx λns ys h3 h4=>ab.pure λQ hQ=>Iv hh h3 h4 λh' tk t' k=>iJ G hQ t' k
 split
 ·rename_i hn;subst hn;refine ab.opt λv ev=>?_;(refine ak ((cP ev▸hv).one) λx D5 hx=>?_;subst D5);exact λr aE hm Q hQ=>yT hh G hx hm hQ
 split
 ·rename_i hn;subst hn;cases ev:jW vs with
  |some v=>
   (refine ak ((cP ev▸hv).one) λx D2 hx=>?_;subst D2);refine ab.ints G hx λns ys h5 h6=>ab.opt λm e=>ab.pure λQ hQ=>?_;exact Jh hh h5 h6 (FC e) λh' tk M t' hM zJ k=>by rw[Ji e hM zJ];exact iJ G hQ t' k
  |none=>
   refine ab.opt λp ep=>ab.int λa ea=>ab.int λb eb=>ab.pure λQ hQ=>?_;(refine bf ((jV ep▸hv).OB) λx y wa hx hy=>?_;subst wa);obtain⟨t,rfl⟩:=(ea▸hx).int_inv;obtain⟨u,rfl⟩:=(eb▸hy).int_inv;refine max_two_ints hh λh' tk k=>?_;by_cases c:a<b
   ·rw[if_pos c]at hQ;rw[if_pos (show b > a from c)]
    exact iJ G hQ u k
   ·rw[if_neg c]at hQ;rw[if_neg (show ¬ b > a from c)]
    exact iJ G hQ t k
 split
 ·rename_i hn;subst hn;cases ev:jW vs with
  |some v=>
   (refine ak ((cP ev▸hv).one) λx O8 hx=>?_;subst O8);refine ab.ints G hx λns ys h5 h6=>ab.opt λm e=>ab.pure λQ hQ=>?_;exact Jc hh h5 h6 (Fs e) λh' tk M t' hM zJ k=>by rw[Jd e hM zJ];exact iJ G hQ t' k
  |none=>
   refine ab.opt λp ep=>ab.int λa ea=>ab.int λb eb=>ab.pure λQ hQ=>?_;(refine bf ((jV ep▸hv).OB) λx y O7 hx hy=>?_;subst O7);obtain⟨t,rfl⟩:=(ea▸hx).int_inv;obtain⟨u,rfl⟩:=(eb▸hy).int_inv;refine min_two_ints hh λh' tk k=>?_;by_cases c:b<a
   ·rw[if_pos c]at hQ ⊢;exact iJ G hQ u k
   ·rw[if_neg c]at hQ ⊢;exact iJ G hQ t k
 ·exact ab.fail
end
end
section
section
variable{prog:Program}{w:World}{A:Around}{s:Shared}
theorem S6{α:Type}{M:Model}{A:Around}{s:Shared}{t:Sem α}{a:α}{Q:α->Shared->Prop}(e:t=Pure.pure a)(h:Q a s):bJ M A t Q s:=e▸N.pure h
theorem pQ{id:String}{args:Args}{b:Builtin}(hb:entryFor table id=some b):(model prog w).den (.builtin id args)=b args:=by
 show(match entryFor table id with|some b=>b args|none=>unsupported ((withoutEnding? id "#data").getD id))=_
 rw[hb]
theorem rM.mono{M:Model}{A:Around}{fin:PySem.Fin}{s:Shared}{Q Q':Flow->Shared->Prop}(h:rM M A Q fin s)(hQ:∀f s,Q f s->Q' f s):rM M A Q' fin s:=by
 induction fin using PySem.Fin.casesOn with
 |done f=>exact hQ f s h
 |again c=>exact⟨h.1,h.2.mono hQ⟩
theorem z4{T newId vd:String}{Bi:Builtin}{Q Q₁:Value->Shared->Prop}(ft:TypeCalled T newId vd)(Yp:checkTypeCall T ⟨[],[]⟩=pure ())(Nz:entryFor table vd=some Bi)(UH:aW (model prog w) A.in1 (.call (.builtin newId) ⟨[.type T],[]⟩) (pG Q₁) s)(Rb:∀obj ax,Q₁ obj ax->ax.TypeIs obj T/\argsOk vd ⟨[obj],[]⟩/\bJ (model prog w) A.in1.in1 (Bi ⟨[obj],[]⟩) (rM (model prog w) A.in1 (pG λr aY=>r=.none/\Q obj aY)) ax)(gH:∀obj,f9 (.builtin vd ⟨[obj],[]⟩)=true):bJ (model prog w) A (PySem.call (.type T) []) Q s:=by
 refine iN (ft.mro) λc tl UJ=>?_;refine N.call (aW.tree ?_);refine(?_:bJ _ _ (callAny (.type T) _) _ s);refine N.pure ⟨Code.quiet_builtin _ (by decide +kernel),aW.tree ?_ (by rfl)⟩;rw[Around.under_plain (weight_type_call_type T [] []) rfl];rw[pQ F.entry_type_call];unfold Builtin.«type.__call__»;simp only[ft.notType,false_eq_true,if_false,ft.canCreate];refine N.bind (S6 Yp ?_);refine N.bind (S6 UJ ?_);simp only[List.isEmpty_cons,false_eq_true,if_false];refine N.bind (S6 ft.made ?_);refine N.bind (N.pure ?_);refine N.bind (N.holding (N.call (aW.mono UH λf ax jo=>?_)))
 induction f using Flow.casesOn with
 |ret obj=>
  refine bH (Rb obj ax jo) λhT vj hi=>?_;refine N.bind (N.of (wpAny_isInstance hT ft.sub ?_));simp only[Bool.not_true,false_eq_true,if_false];refine N.seq (P:=λo s'=>∃r,o=some r/\r=.none/\Q obj s') (N.holding (N.special ft.init hT Nz vj (N.mono hi λfin s' h'=>h'.mono λf aY gM=>?_) (gH obj))) ?_
  ·induction f using Flow.casesOn with
   |ret v=>exact⟨v,rfl,gM⟩
   |_=>exact gM.elim
  ·rintro _ aY ⟨r,rfl,rfl,hq⟩;exact N.pure hq
 |_=>exact jo.elim
end
end
end Mine.Internal
namespace Mine.Internal
open PySem PySem.Calls PySem.W PyProof.Rows Builtin Builtin.Bytes
section
namespace BA
theorem BH:Slot "bytearray" "__init__" "bytearray.__init__":=
 .of (owner:="bytearray") (n:="__init__") (by rw[typeLookup_type,builtinLookup_eq_fast];kernel_rfl) (by decide +kernel) (by decide +kernel) (by decide +kernel)
  (by first|exact .inl (by decide +kernel)|exact .inr (by decide +kernel)) (by rw[isSubtype_type];kernel_rfl)
theorem pj:Slot "bytearray" "append" "bytearray.append":=
 .of (owner:="bytearray") (n:="append") (by rw[typeLookup_type,builtinLookup_eq_fast];kernel_rfl) (by decide +kernel) (by decide +kernel) (by decide +kernel)
  (by first|exact .inl (by decide +kernel)|exact .inr (by decide +kernel)) (by rw[isSubtype_type];kernel_rfl)
theorem pf:Slot "bytearray" "extend" "bytearray.extend":=
 .of (owner:="bytearray") (n:="extend") (by rw[typeLookup_type,builtinLookup_eq_fast];kernel_rfl) (by decide +kernel) (by decide +kernel) (by decide +kernel)
  (by first|exact .inl (by decide +kernel)|exact .inr (by decide +kernel)) (by rw[isSubtype_type];kernel_rfl)
theorem wH:typeOf (.builtin "bytearray.append")=pure (.type "method_descriptor"):=by show builtinType _=_;rw[builtinType_eq_fast];kernel_rfl
theorem wG:typeOf (.builtin "bytearray.extend")=pure (.type "method_descriptor"):=by show builtinType _=_;rw[builtinType_eq_fast];kernel_rfl
theorem zR:entryFor table "bytearray.__init__"=some Builtin.«bytearray.__init__» :=entryFor_of_tree (by kernel_rfl)
theorem vw:entryFor table "bytearray.append"=some Builtin.«bytearray.append» :=entryFor_of_tree (by kernel_rfl)
theorem vv:entryFor table "bytearray.extend"=some Builtin.«bytearray.extend» :=entryFor_of_tree (by kernel_rfl)
theorem CL:entryFor table "bytearray.__new__"=some Builtin.«list.__new__» :=
 entryFor_alias (id':="list.__new__") (by kernel_rfl) rfl (by decide +kernel) (by kernel_rfl)
theorem Dt(a:Value):argsOk "bytearray.__init__" ⟨[a],[]⟩:=by unfold argsOk;kernel_rfl
theorem yf(a b:Value):argsOk "bytearray.append" ⟨[a,b],[]⟩:=by unfold argsOk;kernel_rfl
theorem ye(a b:Value):argsOk "bytearray.extend" ⟨[a,b],[]⟩:=by unfold argsOk;kernel_rfl
theorem mro:mroOf (.type "bytearray")=pure [.type "bytearray",.type "object"]:=by rw[mroOf_type];kernel_rfl
theorem zo:typeLookup (.type "bytearray") "__new__"=pure (some (.builtin "bytearray.__new__")):=by rw[typeLookup_type,builtinLookup_eq_fast];kernel_rfl
theorem sub_self:isSubtype (.type "bytearray") (.type "bytearray")=pure true:=by rw[isSubtype_type];kernel_rfl
theorem called:TypeCalled "bytearray" "bytearray.__new__" "bytearray.__init__":=
 ⟨by decide +kernel,by decide +kernel,(ml _ _ mro),madeBy_type mro zo (by decide +kernel),by decide +kernel,sub_self,BH⟩
theorem typeCall:checkTypeCall "bytearray" ⟨[],[]⟩=pure ():=by kernel_rfl
theorem I7:checkBuiltinCall "bytearray.__new__" ⟨[.type "bytearray"],[]⟩=pure ():=by kernel_rfl
theorem tm:plainId "bytearray.__new__"=true:=by decide +kernel
theorem BX:("bytearray.__new__".splitOn ".__new__").headD ""="bytearray":=by rw[split_bytearray];rfl
theorem rf:typeLookup (.type "bytearray") "__release_buffer__"=pure (some (.builtin "bytearray.__release_buffer__")):=by rw[typeLookup_type,builtinLookup_eq_fast];kernel_rfl
theorem ji:typeLookup (.type "bytearray") "__buffer__"=pure (some (.builtin "bytearray.__buffer__")):=by rw[typeLookup_type,builtinLookup_eq_fast];kernel_rfl
theorem dz:typeLookup (.type "bytes") "__buffer__"=pure (some (.builtin "bytes.__buffer__")):=by rw[typeLookup_type,builtinLookup_eq_fast];kernel_rfl
theorem ju:typeLookup (.type "bytes") "__release_buffer__"=pure none:=by rw[typeLookup_type,builtinLookup_eq_fast];kernel_rfl
theorem uR:typeLookup (.type "bytearray") "__bytes__"=pure none:=by rw[typeLookup_type,builtinLookup_eq_fast];kernel_rfl
theorem uQ:typeLookup (.type "bytearray") "__index__"=pure none:=by rw[typeLookup_type,builtinLookup_eq_fast];kernel_rfl
end BA
noncomputable abbrev eU(b:Array UInt8):Obj:={cls:=.type "bytearray",data:=.bytearray b}
section
variable{prog:Program}{w:World}{A:Around}{s:Shared}{a:Addr}{b:Array UInt8}
theorem lO(h:s.heap.get? a=some (eU b)):s.TypeIs (.ref a) "bytearray":=⟨_,h,rfl⟩
theorem N.exported{Q:Bool->Shared->Prop}(h:Q false s):bJ (model prog w) A (Bytes.exported (.ref a)) Q s:=by
 unfold Bytes.exported;refine N.bind (N.stack λst X0=>N.pure ?_);have key:∀f:Code×Pos->Bool,(∀x:Code×Pos,f9 x.1=true->f x=false)->Q (st.any f) s:=λf hf=>by
  have:st.any f=false:=by
   rw[List.any_eq_false];intro x hx;rw[hf x (X0 x hx)];exact Bool.false_ne_true
  rw[this];exact h
 refine key _ λx hc=>?_;obtain⟨c,p⟩:=x
 induction c using Code.casesOn with
 |builtin id args=>
  have hb:vH.contains id=false:=(not_eq_true' _).mp hc;have ne:∀i,vH.contains i=true->¬id=i:=λi hi e=>Bool.false_ne_true (hb.symm.trans (e▸hi));have hd:Bytes.decodersThatHold.contains id=false:=by
   unfold vH at hb;rw[List.contains_eq_any_beq,List.any_append,Bool.or_eq_false_iff]at hb;rw[List.contains_eq_any_beq];exact hb.2
  obtain⟨pos,kw⟩:=args;delta Bytes.exported.match_1;show dite (id="bytearray.__contains__") _ _=false;refine Eq.trans (dif_neg (ne "bytearray.__contains__" (by decide))) (Eq.trans (dif_neg (ne "bytearray.__mod__" (by decide))) (Eq.trans (dif_neg (ne "bytearray.__rmod__" (by decide))) (Eq.trans (dif_neg (ne "_struct.pack_into.held" (by decide))) (Eq.trans (dif_neg (ne "bytearray.find.held" (by decide))) ?_))))
  induction pos using List.casesOn with
  |nil=>rfl
  |cons v r=>exact(congrArg (Bytes.sameRef v _&& ·) hd).trans (Bool.and_false _)
 |_=>rfl
theorem nS(hb:s.heap.get? a=some (eU b)){Q:Unit->Shared->Prop}(h:Q () s):bJ (model prog w) A (checkResize (.ref a)) Q s:=by
 unfold checkResize;refine N.bind (m:=Bytes.exported (.ref a)<||> _) (N.bind (N.exported ?_));refine N.bind (N.of (aw (wpAny_load hb (a7 ?_))));exact N.pure (N.pure h)
end
end
section
section
variable{prog:Program}{w:World}{A:Around}{s:Shared}{a:Addr}{b:Array UInt8}
theorem xQ{Q₁:Value->Shared->Prop}(h:Q₁ (.ref s.heap.objs.size) {s with heap:=s.heap.push (eU #[])}):codeAny (model prog w) A (.call (.builtin "bytearray.__new__") ⟨[.type "bytearray"],[]⟩) (T6 (pG Q₁)) s:=by
 refine codeAny_of_tree ?_;refine(?_:wpAny _ A.in1 (do checkBuiltinCall "bytearray.__new__" ⟨[.type "bytearray"],[]⟩;again (.builtin "bytearray.__new__" ⟨[.type "bytearray"],[]⟩)) _ _ s);refine aw (wpAny_of_eq BA.I7 (a7 ⟨plainId_quiet BA.tm _,codeAny_builtin_stack BA.CL rfl λp st=>?_⟩));refine Eq.symm (Around.under_plainId BA.tm _)▸?_;have XZ:=BA.sub_self;have rD:=BA.BX;obtain⟨hp,g,d,tk,os⟩:=s;simp only[rD]
 wp_walk
 exact h
theorem vc{v:Value}{name:String}{T:String}(hT:s.TypeIs v T){Q:Bool->Shared->Prop}(hl:typeLookup (.type T) (name:Str)=pure (some (.builtin (T++"."++name))))(he:(T++"."++name).endsWith ("."++name)=true)(hd:(T++"."++name).dropRight (name.length+1)=T)(hs:isSubtype (.type T) (.type T)=pure true)(h:Q true s):wpAny (model prog w) A (slotIsOwn v name) Q (λ_ _=>False) s:=by
 unfold slotIsOwn;refine aw (wpAny_specialOf hT hl ?_);simp only[he,Bool.not_true,false_eq_true,if_false,hd];exact wpAny_isInstance hT hs h
theorem r7{f:Array UInt8->Array UInt8}{Q:Unit->Shared->Prop}(hb:s.heap.get? a=some (eU b))(hz:(f b).size<=sizeLine)(h:∀h',h'.get? a=some (eU (f b))->Heap.SameBut a s.heap h'->Q () {s with heap:=h'}):wpAny (model prog w) A (Bytes.write (.ref a) f) Q (λ_ _=>False) s:=by
 show wpAny _ _ (updateBytearray a f) _ _ _;skip;refine aw (wpAny_load hb ?_);refine aw (wpAny_update hb ?_);have hn:(s.heap.update a (Obj.mapBytearray f)).get? a=some (eU (f b)):=Heap.get?_update_self _ hb rfl;refine wpAny_lookBehind hn ?_ (h _ hn (Heap.SameBut.update ..));refine(?_:(if(f b).size > sizeLine then some _ else none)=none);exact if_neg (by omega)
theorem Dl{Q:Value->Shared->Prop}(hb:s.heap.get? a=some (eU b))(h0:0<=x)(h1:x<256)(hz:b.size<sizeLine)(h:∀h',h'.get? a=some (eU (b.push x.toNat.toUInt8))->Heap.SameBut a s.heap h'->Q .none {s with heap:=h'}):bJ (model prog w) A (PySem.call (.builtin "bytearray.append") [.ref a,.int x t]) Q s:=by
 refine N.qN BA.pj (lO hb) BA.vw (BA.yf _ _) ?_;skip;refine N.bind (m:=selfAndOne _ _) (N.pure ?_);refine N.bind (m:=byteValue _) (N.of ?_);skip;refine aw (m:=asIndex _) (a7 ?_);rw[if_neg (by simp;omega)];refine a7 ?_;refine N.bind (nS hb ?_);exact N.bind (N.of (r7 hb (by simp;omega) λh' e hs=>N.pure (h h' e hs)))
theorem ju{Q:Bool->Shared->Prop}(h:Q false s):wpAny (model prog w) A (ownRelease (.bytes c t)) Q (λ_ _=>False) s:=by
 skip;refine aw (aw (wpAny_specialOf (typeIs_bytes s c t) BA.ju (a7 ?_)));exact a7 h
theorem dz{Q:Option (Array UInt8)->Shared->Prop}(h:Q (some c) s):wpAny (model prog w) A (buffer? id' (.bytes c t) full) Q (λ_ _=>False) s:=by
 unfold buffer?;have hT:=typeIs_bytes s c t;refine aw (wpAny_specialOf hT BA.dz ?_);refine aw (vc (T:="bytes") (name:="__buffer__") hT BA.dz (by decide +kernel) (by decide +kernel) (by rw[isSubtype_type];kernel_rfl) ?_);skip;refine aw (wpAny_specialOf hT BA.dz ?_);refine aw (ju ?_);refine aw (m:=payload _) (a7 ?_);exact a7 h
theorem Dk{Q:Value->Shared->Prop}(hb:s.heap.get? a=some (eU b))(hz:b.size+c.size<=sizeLine)(h:∀h',h'.get? a=some (eU (b++c))->Heap.SameBut a s.heap h'->Q .none {s with heap:=h'}):bJ (model prog w) A (PySem.call (.builtin "bytearray.extend") [.ref a,.bytes c t]) Q s:=by
 refine N.qN BA.pf (lO hb) BA.vv (BA.ye _ _) ?_;skip;have hT:=typeIs_bytes s c t;refine N.bind (m:=selfAndOne _ _) (N.pure ?_);refine N.bind (N.of (wpAny_specialOf hT BA.dz ?_));refine N.bind (N.rule ?_);refine N.bind (m:=payload _) (N.bind (m:=payload? _) (N.bind (N.of (wpAny_load hb (show bJ _ _ _ _ _ from N.pure (show bJ _ _ _ _ _ from N.pure ?_))))))
 refine N.seq (P:=λr s'=>r=some (c,none)/\s'=s) ?_ ?_
 ·skip;refine N.bind (N.attempt (N.of ?_))
  ·skip;refine aw (wpAny_specialOf hT BA.dz ?_);refine aw (vc (T:="bytes") (name:="__buffer__") hT BA.dz (by decide +kernel) (by decide +kernel) (by rw[isSubtype_type];kernel_rfl) ?_);skip;refine aw (wpAny_specialOf hT BA.dz ?_);refine aw (dz (a7 ?_));exact N.pure ⟨rfl,rfl⟩
 ·rintro _ _ ⟨rfl,rfl⟩;have fin:bJ (model prog w) A.in1 (Bytes.write (.ref a) (· ++c)>>=λ_=>ret .none) (rM (model prog w) A (pG Q)) _:=
   N.bind (N.of (r7 hb (by simpa using hz) λh' e hs=>N.pure (h h' e hs)))
  show bJ _ _ (if(!c.isEmpty)=true then(checkResize (.ref a)>>=λ_=>Bytes.write (.ref a) (· ++c)>>=λ_=>ret .none)else(Bytes.write (.ref a) (· ++c)>>=λ_=>ret .none)) _ _
  split
  ·exact N.bind (nS hb fin)
  ·exact fin
theorem r8(hb:s.heap.get? a=some (eU b)){Q:Bool->Shared->Prop}(h:Q false s):wpAny (model prog w) A (ownRelease (.ref a)) Q (λ_ _=>False) s:=by
 unfold ownRelease;refine aw (vc (T:="bytearray") (name:="__release_buffer__") (lO hb) BA.rf (by decide +kernel) (by decide +kernel) BA.sub_self ?_);exact a7 h
theorem JY{Q:Value->Shared->Prop}(h:∀h',h'.get? s.heap.objs.size=some (eU #[])->(∀b o,s.heap.get? b=some o->h'.get? b=some o)->Q (.ref s.heap.objs.size) {s with heap:=h'}):bJ (model prog w) A (PySem.call (.type "bytearray") []) Q s:=by
 refine z4 BA.called BA.typeCall BA.zR (Q₁:=λv ax=>v=.ref s.heap.objs.size/\ax={s with heap:=s.heap.push (eU #[])}) (aW.of (xQ ⟨rfl,rfl⟩)) ?_ (λ_=>rfl);rintro _ _ ⟨rfl,rfl⟩;have hb:(s.heap.push (eU #[])).get? s.heap.objs.size=some (eU #[]):=gk _ rfl;refine⟨lO (s:={s with heap:=s.heap.push (eU #[])}) hb,BA.Dt _,?_⟩;unfold Builtin.«bytearray.__init__»;refine N.bind (N.of (r8 (s:={s with heap:=s.heap.push (eU #[])}) hb ?_));refine N.bind (m:=Bytes.bindOptional _ _ _ _ _) (S6 (a:=[none,none,none]) (by kernel_rfl) ?_);refine N.bind (m:=checkCodecArg _ _ _ _) (N.pure ?_);refine N.bind (m:=checkCodecArg _ _ _ _) (N.pure ?_);refine N.bind (m:=Bytes.exported (.ref _)<||> _) (N.bind (N.exported ?_));refine N.bind (N.of (aw (wpAny_load (s:={s with heap:=s.heap.push (eU #[])}) hb (a7 ?_))));refine N.pure ?_;refine N.bind (N.of (r7 (s:={s with heap:=s.heap.push (eU #[])}) (f:=λ_=> #[]) hb (by decide) λh' e hs=>?_));refine N.pure ⟨rfl,h h' e λc o ho=>?_⟩;exact hs.extBut c o (Nat.ne_of_lt (Heap.lt_size ho)) (gm _ ho)
end
end
section
section
variable{prog:Program}{w:World}{A:Around}{s:Shared}{a:Addr}{b:Array UInt8}{E:Value->Shared->Prop}
theorem z8{id':String}{full:Bool}(hb:s.heap.get? a=some (eU b)){Q:Option (Array UInt8)->Shared->Prop}(h:Q (some b) s):wpAny (model prog w) A (buffer? id' (.ref a) full) Q (λ_ _=>False) s:=by
 unfold buffer?;have hT:=lO hb;refine aw (wpAny_specialOf hT BA.ji ?_);refine aw (vc (T:="bytearray") (name:="__buffer__") hT BA.ji (by decide +kernel) (by decide +kernel) BA.sub_self ?_);skip;refine aw (wpAny_specialOf hT BA.ji ?_);refine aw (r8 hb ?_);refine aw (m:=payload _) (aw (m:=payload? _) (aw (wpAny_load hb (a7 (a7 ?_)))));exact a7 h
theorem Hh{Q:Value->Shared->Prop}(hb:s.heap.get? a=some (eU b))(hz:b.size<=sizeLine)(hQ:Q (.bytes b s.toks) {s with toks:=s.toks+1}):codeAny (model prog w) A (.call (.builtin "bytes.__new__") ⟨[.type "bytes",.ref a],[]⟩) (wants Q (λ_ _=>False)) s:=by
 refine codeAny_of_tree ?_;refine(?_:wpAny _ A.in1 (do checkBuiltinCall "bytes.__new__" ⟨[.type "bytes",.ref a],[]⟩;again (.builtin "bytes.__new__" ⟨[.type "bytes",.ref a],[]⟩)) _ _ s);refine aw (wpAny_of_eq (F.bm_newCall _) (a7 ⟨plainId_quiet F.bm_plain _,codeAny_builtin F.bm_entry ?_⟩));refine Eq.symm (Around.under_plainId F.bm_plain _)▸?_;have hT:=lO hb;skip;refine aw (wpAny_of_eq (a:=true) rfl ?_);refine bm_if_false rfl ?_;refine aw (wpAny_of_eq F.bm_sub ?_);refine bm_if_false rfl ?_;refine aw (wpAny_of_eq (F.bm_bind _) ?_);refine aw (wpAny_of_eq (a:=()) rfl ?_);refine aw (wpAny_of_eq (a:=()) rfl ?_);refine bm_if_false rfl ?_;refine aw (wpAny_specialOf hT BA.uR ?_);refine aw (aw ?_);refine(?_:wpAny _ _ (load a>>=_) _ _ _);refine aw (wpAny_load hb (a7 (a7 ?_)));refine bm_if_false rfl ?_;refine aw (wpAny_specialOf hT BA.uQ ?_);refine bm_if_true rfl ?_
 first
  |refine(?_:wpAny _ _ (Builtin.Bytes.buffer? "bytes.__new__" (.ref a) true>>=_) _ _ _)
  |(refine aw ?_;show wpAny _ _ (Builtin.Bytes.buffer? "bytes.__new__" (.ref a) true>>=_) _ _ _)
 refine aw (z8 hb ?_);refine aw (wpAny_rule ?_);refine aw (wpAny_mkBytes ?_ hz)
 first
  |exact a7 hQ
  |(show wpAny _ _ (if(Value.type "bytes"==Value.type "bytes")=true then _ else _) _ _ _;refine bm_if_true (by decide) ?_;exact a7 hQ)
  |exact aw (a7 (a7 hQ))
theorem xU{Q:Value->Shared->Prop}(hb:s.heap.get? a=some (eU b))(hz:b.size<=sizeLine)(hQ:Q (.bytes b s.toks) {s with toks:=s.toks+1}):wpAny (model prog w) A (call (.type "bytes") [.ref a]) Q (λ_ _=>False) s:=by
 refine callType_codes (Q₁:=λobj ax=>ax.TypeIs obj "bytes"/\Q obj ax) F.bm_called (F.bm_typeCall _) F.entry_object_init
  (Hh hb hz ⟨PySem.W.typeIs_bytes _ _ _,hQ⟩) λobj ax jo=>?_
 exact⟨jo.1,F.args_object_init_2 obj _,object_init_meets F.bm_called.init.lookup F.bm_called.made (by decide) prog w A.in1 _ ax ⟨jo.1,rfl,jo.2⟩⟩
end
end
end Mine.Internal
namespace Mine.Internal
open PySem PySem.Calls PySem.W PyProof.Rows
section
def aj{α β:Type}(R:Gr)(A:Around)(X:List Addr)(Z:bo)(σ:af)(s:Shared)(t:Sem α)(m:M β)(rel:bo->Shared->β->α->Prop):Prop:=
 ∀(b:β)(aE:af),m σ=some (b,aE)->∀(Q:α->Shared->Prop),(∀aH s' a,aq R aH aE s'->bu X Z s aH s'->rel aH s' b a->Q a s')->bJ (model R.prog R.w) A t Q s
theorem ab.mz{α β:Type}{R:Gr}{A:Around}{X:List Addr}{Z:bo}{σ:af}{s:Shared}{t:Sem α}{m:M β}{rel:bo->Shared->β->α->Prop}(h:ab R X Z σ s (λQ=>bJ (model R.prog R.w) A t Q s) m rel):aj R A X Z σ s t m rel:=h
theorem o6.toN{α β:Type}{R:Gr}{A:Around}{X:List Addr}{Z:bo}{σ:af}{s:Shared}{t:Sem α}{m:M β}{rel:bo->Shared->β->α->Prop}(h:o6 R A X Z σ s t m rel):aj R A X Z σ s t m rel:=
 λb aE e Q hQ=>N.of (h b aE e Q _ hQ)
section
variable{R:Gr}{A:Around}{Z:bo}{σ:af}{s:Shared}
theorem tA(G:aq R Z σ s)(o:Obj)(t:Nat):aq R Z σ {s with heap:=s.heap.push o,toks:=t}/\bu [] Z s Z {s with heap:=s.heap.push o,toks:=t}:=
 fE G λb o' e=>gm _ e
theorem uJ(G:aq R Z σ s){Q:Value->Shared->Prop}(hQ:∀aH s' x,aq R aH σ s'->bu [] Z s aH s'->RV R aH s' (.hK a b c) x->Q x s'):Q (.ref s.heap.objs.size) {s with heap:=s.heap.push {cls:=.type "range",data:=.fields #[.int a t,.int b u,.int c v]},toks:=tk}:=by
 refine cH (tA G {cls:=.type "range",data:=.fields #[.int a t,.int b u,.int c v]} tk) λg x=>?_;exact hQ _ _ _ g x (.hK (t:=t) (u:=u) (v:=v) (G.fresh) (gk _ rfl))
theorem Az(G:aq R Z σ s){vs:List V}{xs:List Value}{h':Heap}{tk:Nat}(hv:aD R Z s.heap vs xs)(hk:∀b o,s.heap.get? b=some o->h'.get? b=some o){Q:Value->Shared->Prop}(hQ:∀aH s' x,aq R aH σ s'->bu [] Z s aH s'->RV R aH s' (.tup vs) x->Q x s'):Q (.ref h'.objs.size) {s with heap:=h'.push (iB xs.toArray),toks:=tk}:=by
 have kK:∀b o,s.heap.get? b=some o->(h'.push (iB xs.toArray)).get? b=some o:=λb o e=>gm _ (hk b o e);obtain⟨g,x⟩:=fE (h':=h'.push (iB xs.toArray)) (t:=tk) G kK;refine hQ _ _ _ g x (.tup (λq=>?_) (gk _ rfl) (hv.mono x (fF.nil _)));obtain⟨o,e⟩:=G.live q;exact Nat.lt_irrefl _ (Heap.lt_size (hk _ _ e))
theorem je(hc:0<c):Builtin.Range.rangeSize a b c=(((b-a+c-1)/c).toNat:Int):=by
 unfold Builtin.Range.rangeSize;refine Eq.symm (if_pos hc)▸?_
 split
 ·rename_i h;have e:(b-a+c-1)=(b-a-1)+1*c:=by omega
  rw[e,Int.add_mul_ediv_right _ _ (by omega)];have:0<=(b-a-1)/c:=Int.ediv_nonneg (by omega) (by omega)
  omega
 ·rename_i h;have:(b-a+c-1)/c<=0:=by
   have h1:b-a+c-1<1*c:=by omega
   have:=(Int.ediv_lt_iff_lt_mul hc).mpr h1
   omega
  omega
theorem kO(h:mB a b c=some n):0<c/\Builtin.Range.small a b c=true/\n=((b-a+c-1)/c).toNat/\n<=4000000:=by
 unfold mB at h
 split at h
 ·rename_i hc;refine uc hc λh1 h2=>?_;refine uc h2 λh3 h4=>?_;have e:=bE h;exact(rB (fh h1) h3 e.symm (e▸eK h4))
 ·exact cT h
theorem zy(h:ItemsOf (λi v=>∃t,v=.int (a+i*c) t) acc n)(Z:bo)(hp:Heap):aD R Z hp ((range n).map λ(k:Nat)=>V.int (a+c*(k:Int))) acc.toList:=by
 (refine cH h λhs hi=>?_;clear h);have:∀(l:List Value)(k:Nat),(∀i v,l[i]?=some v->∃t,v=Value.int (a+((k+i:Nat):Int)*c) t)->aD R Z hp ((List.range' k l.length).map λ(k:Nat)=>V.int (a+c*(k:Int))) l:=by
  intro l
  induction l with
  |nil=>intro k _;exact .nil
  |cons v r ih=>
   intro k hk;rw[length_cons,List.range'_succ,map_cons];refine .cons ?_ (ih (k+1) λi v e=>?_)
   ·obtain⟨t,e⟩:=hk 0 v rfl;rw[e,show a+((k+0:Nat):Int)*c=a+c*(k:Int) by rw[Int.mul_comm];rfl];exact .int _ t
   ·obtain⟨t,e⟩:=hk (i+1) v (by simpa using e);exact⟨t,by rw[e];congr 4;omega⟩
 have h2:=this acc.toList 0 λi v e=>by
  have:i<acc.size:=by have:=(d0 e).1;simpa using this
  obtain⟨t,e⟩:=hi i v (by rw[<-Array.getElem?_toList];exact e);exact⟨t,by rw[e];simp⟩
 rw[Array.length_toList,hs]at h2;rw[List.range_eq_range'];exact h2
theorem ID(G:aq R Z σ s){Q:Value->Shared->Prop}(hQ:∀aH s' x,aq R aH (σ++[.set []]) s'->bu [] Z s aH s'->RV R aH s' (.ref σ.length) x->Q x s'):Q (.ref s.heap.objs.size) {s with heap:=s.heap.push {cls:=.type "set",dict:=none,data:=.set #[] 0 (.fresh 0 0 led)}}:=by
 (refine cH (G.alloc (p:=(s.heap.objs.size,s.heap.objs.size)) (c:=.set []) (h':=s.heap.push {cls:=.type "set",dict:=none,data:=.set #[] 0 (.fresh 0 0 led)}) (t:=s.toks) rfl
  (λa o e=>gm _ e) G.next G.next
  (λx=>⟨rfl,PyProof.Rows.SetOf_congr ((PyProof.Rows.setObjOf_fresh (knd:=kZ R) led).setOf (gk _ rfl) (by unfold scanBound;omega)) (λ_=>rfl) rfl,nodup_nil⟩)) λg x=>?_)
 refine hQ _ _ _ g x ?_;have:(Z++[(s.heap.objs.size,s.heap.objs.size)])[σ.length]?=some (s.heap.objs.size,s.heap.objs.size):=by rw[<-G.len];simp
 exact .ref this
theorem NQ(G:aq R Z σ s)(hb:h'.get? s.heap.objs.size=some (eU #[]))(hk:∀b o,s.heap.get? b=some o->h'.get? b=some o){Q:Value->Shared->Prop}(hQ:∀aH s' x,aq R aH (σ++[.bar []]) s'->bu [] Z s aH s'->RV R aH s' (.ref σ.length) x->Q x s'):Q (.ref s.heap.objs.size) {s with heap:=h',toks:=tk}:=by
 refine cH (G.alloc (p:=(s.heap.objs.size,s.heap.objs.size)) (c:=.bar []) (h':=h') (t:=tk) rfl hk G.next G.next (λx=>⟨rfl,hb⟩)) λg x=>?_;refine hQ _ _ _ g x ?_;have:(Z++[(s.heap.objs.size,s.heap.objs.size)])[σ.length]?=some (s.heap.objs.size,s.heap.objs.size):=by rw[<-G.len];simp
 exact .ref this
theorem Aa{vs:List V}{xs:List Value}(G:aq R Z σ s)(hv:aD R Z s.heap vs xs):aj R A [] Z σ s (call (.type "range") xs) (Hq vs) (RV R):=by
 refine ab.mz ?_
 induction vs using List.casesOn with
 |nil=>exact ab.fail
 |cons v vs=>
  induction vs using List.casesOn with
  |nil=>
   refine ab.int λb eb=>ab.pure λQ hQ=>?_;(refine ak (hv.one) λx Pm hx=>?_;subst Pm);obtain⟨t,rfl⟩:=(eb▸hx).int_inv;exact N.of (call_range_1 (uJ G hQ))
  |cons u vs=>
   induction vs using List.casesOn with
   |nil=>
    refine ab.int λa ea=>ab.int λb eb=>ab.pure λQ hQ=>?_;(refine bf (hv.OB) λx y mY hx hy=>?_;subst mY);obtain⟨t,rfl⟩:=(ea▸hx).int_inv;obtain⟨u,rfl⟩:=(eb▸hy).int_inv;exact N.of (call_range_2 (uJ G hQ))
   |cons w vs=>
    induction vs using List.casesOn with
    |nil=>
     refine ab.int λa ea=>ab.int λb eb=>ab.int λc ec=>ab.need λhc=>ab.pure λQ hQ=>?_;(refine gz (hv.Xv) λx y z Ph hx hy hz=>?_;subst Ph);obtain⟨t,rfl⟩:=(ea▸hx).int_inv;obtain⟨u,rfl⟩:=(eb▸hy).int_inv;obtain⟨v,rfl⟩:=(ec▸hz).int_inv;obtain⟨h1,h2⟩:=aP hc;exact N.of (call_range_3 (Int.ne_of_gt (fh h1)) (uJ G hQ) (.inl (PyProof.noPylong_of_log2 (ta h2))))
    |cons=>exact ab.fail
theorem z9{v:V}{x:Value}(G:aq R Z σ s)(hx:aI R Z s.heap v x):aj R A [] Z σ s (call (.type "tuple") [x]) (Hp v) (RV R):=by
 refine ab.mz ?_;have lst:∀{us:List V}{ys:List Value}{l:Addr},s.heap.IsList l ys.toArray->aD R Z s.heap us ys->cM us.length=true->Ends R [] Z s (λQ=>bJ (model R.prog R.w) A (call (.type "tuple") [.ref l]) Q s) (RV R) (.tup us) σ:=λ{us ys l} hl h3 hf Q hQ=>
  N.of (call_tuple_list hl (λh' hk=>Az (tk:=s.toks) G h3 hk hQ) (by rw[List.size_toArray,<-h3.length];exact gy hf))
 induction v using V.casesOn with
 |tup us=>
  refine ab.pure λQ hQ=>?_;(refine bj (hx.d7) λa ys D8 hn ho hr=>?_;subst D8);exact N.of (call_tuple_same ⟨_,ho,rfl,0,rfl⟩ (m8 G hx hQ))
 |gN us=>
  refine ab.need λhf=>ab.pure ?_;(refine gz (hx.vr) λa ns ys O9 D3 l hi=>?_;subst O9;subst D3);exact lst (let ⟨o,ho,r⟩:=l;⟨o,G.base _ _ ho,r⟩) (aD.AN hi) hf
 |ref i=>
  refine ab.getL λus e1=>ab.need λhf=>ab.pure ?_;(refine ak (hx.cE) λp hp vZ=>?_;subst vZ);refine bf (gW G hp e1) λys k hl hv hn=>?_;exact lst (by simpa using hl.isList) hv hf
 |_=>exact ab.fail
theorem CX{n:String}{vs:List V}{xs:List Value}(rm:br A 0)(G:aq R Z σ s)(hv:aD R Z s.heap vs xs):aj R A [] Z σ s (call (.type n) xs) (aX n vs) (RV R):=by
 have hh:=rm.handled;refine ab.mz ?_;unfold aX
 split
 ·rename_i hn;subst hn;refine ab.opt λv ev=>?_;(refine ak ((cP ev▸hv).one) λx Pe hx=>?_;subst Pe)
  induction v using V.casesOn with
  |int i=>
   obtain⟨t,rfl⟩:=hx.int_inv;exact ab.pure λQ hQ=>N.of (call_int_int (hQ _ _ _ G (bu.refl ..) (.int _ t)))
  |bool b=>
   rw[hx.bool_inv];exact ab.pure λQ hQ=>N.of (call_int_bool (dy G hQ _ _))
  |_=>exact ab.fail
 split
 ·rename_i hn;subst hn;exact Aa G hv
 split
 ·rename_i hn;subst hn;refine ab.opt λv ev=>?_;(refine ak ((cP ev▸hv).one) λx O4 hx=>?_;subst O4)
  induction v using V.casesOn with
  |hK a b c=>
   refine ab.opt λus e=>ab.dE λhz Q hQ=>?_;(refine jR (hx.uK) λr t u w DX hn hr=>?_;subst DX);refine dw e λm em e=>?_;(refine g7 (kO em) λUY X2 DV hle=>?_;subst DV);refine N.of (call_list_range hh hr X2 (je UY) (ao hle (by decide)) λh' tk acc c' hk ho hi=>?_);refine bH (AR (tk:=tk) G (e▸zy hi Z s.heap) G.next.1 G.next.2 hk (by simpa using ho)) λg x1 rr=>?_;exact hQ _ _ _ g x1 rr
  |_=>exact ab.fail
 split
 ·rename_i hn;subst hn;refine ab.opt λv ev=>?_;(refine ak ((cP ev▸hv).one) λx DT hx=>?_;subst DT);exact z9 G hx
 split
 ·rename_i hn;subst hn;refine ab.opt λv ev=>ab.new λQ hQ=>?_;obtain rfl:=(o5 ev▸hv).zero;exact N.of (call_set_0 λled=>ID G hQ)
 split
 ·rename_i hn;subst hn;refine ab.opt λv ev=>ab.new λQ hQ=>?_;obtain rfl:=(o5 ev▸hv).zero;exact JY λh' hb hk=>NQ (tk:=s.toks) G hb hk hQ
 split
 ·rename_i hn;subst hn;refine ab.opt λv ev=>ab.isRef λi ei=>ab.vo λb e1=>ab.need λhf=>ab.pure λQ hQ=>?_;(refine ak ((cP ev▸hv).one) λx DW hx=>?_;subst DW);(refine ak ((ei▸hx).cE) λp hp DP=>?_;subst DP);refine N.of (xU (G.at hp e1).2 (by simpa using gy hf) ?_);exact hQ Z _ _ (G.tok _) (bu.tok _) (.bytes b _)
 ·exact ab.fail
end
end
section
section
variable{R:Gr}{A:Around}{Z:bo}{σ:af}{s:Shared}
theorem C9(i:Int):(Builtin.Int.intBits i:Int)=g8 i:=by
 unfold Builtin.Int.intBits g8;by_cases h:i=0
 ·subst h;rfl
 ·have:i.natAbs≠0:=by omega
  simp[h]
theorem sb{E:Value->Shared->Prop}{Q:Value->Shared->Prop}(hl:IsL s.heap a xs n)(hz:xs.size<=sizeLine)(h:∀h' m,IsL h' a (xs.push x) m->Heap.SameBut a s.heap h'->Q .none {s with heap:=h'}):wpAny (model R.prog R.w) A (call (.builtin "list.append") [.ref a,x]) Q E s:=by
 refine call_meets PySem.F.slot_list_append ⟨_,hl,rfl⟩ PySem.F.entry_list_append (PySem.F.args_list_append_2 _ _) (AutoListH.list_append_list_val_0 a xs n x hz) ⟨hl,?_⟩;exact h _ _ (Heap.get?_update_self _ hl rfl) (Heap.SameBut.update ..)
theorem n5.without(r:n5 R Z h es eR):n5 R Z h (Ah k es) (PySem.without eR k):=by
 unfold Ah PySem.without
 induction r using bg.ind with
 |nil=>exact bg.nil
 |cons a b es eR hv _ ih=>
  rw[filter_cons,filter_cons,<-hv.1]
  split
  ·exact bg.cons hv ih
  ·exact ih
theorem II{E:Value->Shared->Prop}{Q:Value->Shared->Prop}(hm:s.heap.DictAt (kZ R) a eR ep)(hv:valueAt eR k=some v)(hz:eR.length<=sizeLine)(h:∀h',h'.DictAt (kZ R) a (PySem.without eR k) (ep+1)->Heap.SameBut a s.heap h'->Q v {s with heap:=h',toks:=s.toks+1}):wpAny (model R.prog R.w) A (call (.builtin "dict.pop") [.ref a,.int k t]) Q E s:=by
 refine wpAny_call_entry PySem.F.slot_dict_pop hm.dictOf.typeIs PySem.F.entry_dict_pop ?_ (PySem.F.args_dict_pop_2 _ _);unfold Builtin.«dict.pop»;refine aw ?_;unfold Builtin.Dict.keyAndDefault;refine aw (wpAny_notOrdered_dict hm.dictOf.typeIs ?_);refine(?_:wpAny _ _ (pure (a,Value.int k t,none)) _ _ s);refine a7 ?_;simp only[show(keyPart (.int k t)).isSome=true from rfl,if_true]
 refine aw (a7 ?_);simp only[false_eq_true,if_false];refine aw (yN (intKind_is R.prog R.w k t) hm hv (λe h' he Ou rC=>?_) hz);simp only[Option.isNone_some,false_eq_true,if_false];exact aw (wpAny_letGo (a7 (aT e.val rfl (by rw[he];exact h h' Ou rC))))
theorem iF{E:Value->Shared->Prop}{Q:Value->Shared->Prop}(hd:(d==sysModules)=false)(hu:(jC R).room A.in1)(oO:(jC R).is s.heap k a)(hm:s.heap.DictOfH (jC R) d xs)(hz:atKey xs k=none->xs.length<=sizeLine)(h1:∀p,atKey xs k=some p->Q p.2 {s with toks:=s.toks+(jC R).draws k})(h2:atKey xs k=none->∀h',h'.DictOfH (jC R) d (xs++[(k,a,v)])->Heap.SameBut d s.heap h'->Q v {s with heap:=h',toks:=s.toks+(jC R).draws k}):wpAny (model R.prog R.w) A (call (.builtin "dict.setdefault") [.ref d,.ref a,v]) Q E s:=by
 refine wpAny_call_entry PySem.F.slot_dict_setdefault hm.typeIs PySem.F.entry_dict_setdefault ?_ (PySem.F.args_dict_setdefault_3 _ _ _);unfold Builtin.«dict.setdefault»;refine aw ?_;unfold Builtin.Dict.keyAndDefault;refine aw (wpAny_notOrdered_dict hm.typeIs ?_);refine(?_:wpAny _ _ (pure (d,Value.ref a,some v)) _ _ s);refine a7 ?_;refine(?_:wpAny _ _ (if(d==sysModules)=true then _ else(dictSetDefault d (.ref a) v>>=_)) _ _ s);rw[if_neg (by rw[hd];exact Bool.false_ne_true)];(refine i7 hm λo es ep ho hc yz he Wi hn=>?_;clear hm);refine aw ?_;unfold dictSetDefault;refine wpAny_holding ?_;refine aw ((jC R).pyHash hu oO (aw (wpAny_dictFind_heap (s:={s with toks:=s.toks+(jC R).draws k}) hu oO ho yz he Wi hn ?_ ?_)))
 ·intro JB;refine aw (wpAny_rule (aw (wpAny_updateDictKeys (hz:=by have e:=size_of_entries he;have:=hz (atKey_none_of_get JB);omega) (s:={s with toks:=s.toks+(jC R).draws k}) ho yz (a7 (a7 (aT v rfl (h2 (atKey_none_of_get JB) _
   ⟨_,_,ep+1,Heap.get?_update_self _ ho (Obj.isFreed_of_dict (Obj.data_mapDictKeys yz _)),hc.mapDictKeys _,Obj.data_mapDictKeys yz _,?_,?_,?_⟩ (Heap.SameBut.update ..))))))))
  ·simp[he,entryOfKey]
  ·intro x hx
   rcases mem_append.mp hx with hx|hx
   ·exact(jC R).keeps (Wi x hx) ho yz (Heap.SameBut.update ..)
   ·simp only[mem_singleton]at hx;subst hx;exact(jC R).keeps oO ho yz (Heap.SameBut.update ..)
  ·rw[map_append,nodup_append];refine⟨hn,by simp,?_⟩;intro x hx y hy;simp only[map_cons,map_nil,mem_singleton]at hy;subst hy;exact λe=>not_mem_keys_of_get JB (e▸hx)
 ·intro j p hj;refine aw (wpAny_dictEntries (s:={s with toks:=s.toks+(jC R).draws k}) ho yz ?_);(refine Eq.symm (entry_at he j)▸?_;refine Eq.symm hj▸?_);exact aw (wpAny_rule (a7 (a7 (aT _ rfl (h1 p (atKey_of_get hn hj))))))
theorem AA(e:bU u=some k)(n:a∉cW Z)(o:s.heap.get? a=some (iB xs.toArray))(v:aD R Z s.heap u xs):aI R Z s.heap (.tup (k.map .int)) (.ref a):=oJ e▸aI.tup n o v
theorem GB(rm:br A 0)(G:aq R Z σ s)(ho:aI R Z s.heap o x)(hv:aD R Z s.heap vs xs):aj R A [] Z σ s (call (.builtin "dict.get") (x::xs)) (eS .get o vs) (RV R):=by
 refine ab.mz (ab.isRef λi ei=>?_);(refine ak ((ei▸ho).cE) λp hp qz=>?_;subst qz);have u1:A.units+1<cLine:=by have:=rm.units;unfold cLine;omega
 cases ev:jW vs with
 |some k=>
  (refine ak ((cP ev▸hv).one) λy En hy=>?_;subst En);refine ab.dP λc e1=>?_
  induction c using aL.casesOn with
  |cG es n=>
   refine ab.int λk ek=>ab.pure λQ hQ=>?_;(refine cC λH2 ri=>?_;obtain⟨t,rfl⟩:=(ek▸hy).int_inv;refine ri ?_);refine ak (mS G hp e1) λeR dk vk=>?_;refine N.of (call_meetsIn PySem.F.slot_dict_get dk.dictOf.typeIs PySem.F.entry_dict_get (PySem.F.args_dict_get_2 _ _) (meets_dict_get (kZ R) p.1 (intKind_is R.prog R.w k t) (fk G hp)) (aT _ dk.dictOf.mapOf ?_))
   rcases vk.aV (k:=k)with⟨h2,h3⟩|⟨v,x,h2,h3,h4⟩
   ·replace hQ:=h2▸hQ;refine Eq.symm h3▸?_;exact gF G .none hQ _
   ·rw[h2]at hQ;refine Eq.symm h3▸?_;exact gF G h4 hQ _
  |jt es=>
   refine ab.key λu ks eu h6=>ab.pure λQ hQ=>?_;(refine bj ((eu▸hy).d7) λa ys mY hn ho hr=>?_;subst mY);refine cN (G.at hp e1) λ_ zs dk vk=>?_;refine N.of (call_meetsIn PySem.F.slot_dict_get dk.typeIs PySem.F.entry_dict_get (PySem.F.args_dict_get_2 _ _) (meetsH_dict_get (jC R) p.1 a (fk G hp)) (jN (tupleKind_room_in1 u1) ks zs (my h6 ho hr) dk ?_))
   rcases vk.aV (k:=ks)with⟨h2,h3⟩|⟨v,b,x,h2,h3,h4⟩
   ·rw[h2]at hQ;refine Eq.symm h3▸?_;exact gF G .none hQ _
   ·rw[h2]at hQ;refine Eq.symm h3▸?_;exact gF G h4 hQ _
  |_=>exact ab.fail
 |none=>
  refine ab.opt λq eq=>ab.getD λes e1=>ab.int λk ek=>ab.pure λQ hQ=>?_;(refine bf ((jV eq▸hv).OB) λy z Ee hy hz=>?_;subst Ee);(refine cC λSo FZ=>?_;(refine cC λSn FY=>?_;obtain⟨t,rfl⟩:=(ek▸hy).int_inv;refine FY ?_);refine FZ ?_);refine ak (mS G hp e1) λeR dk vk=>?_;refine N.of (call_meetsIn PySem.F.slot_dict_get dk.dictOf.typeIs PySem.F.entry_dict_get (PySem.F.args_dict_get_3 _ _ _) (meets_dict_get_default (kZ R) p.1 (intKind_is R.prog R.w k t) (fk G hp) _) (aT _ dk.dictOf.mapOf ?_))
  rcases vk.aV (k:=k)with⟨h2,h3⟩|⟨v,x,h2,h3,h4⟩
  ·replace hQ:=h2▸hQ;refine Eq.symm h3▸?_;exact gF G hz hQ _
  ·replace hQ:=h2▸hQ;refine Eq.symm h3▸?_;exact gF G h4 hQ _
theorem BO(rm:br A 0)(G:aq R Z σ s)(ho:aI R Z s.heap o x)(hv:aD R Z s.heap vs xs):aj R A [] Z σ s (call (.builtin "dict.setdefault") (x::xs)) (eS .qT o vs) (RV R):=by
 refine ab.mz (ab.isRef λi ei=>ab.opt λq eq=>ab.key λu ks eu h6=>ab.dP λc e1=>?_);(refine ak ((ei▸ho).cE) λp hp D6=>?_;subst D6);have u1:A.units+1<cLine:=by have:=rm.units;unfold cLine;omega
 (refine bf ((jV eq▸hv).OB) λy z D4 hy hz=>?_;subst D4);(refine bj ((eu▸hy).d7) λa ys wb hn ho hr=>?_;subst wb)
 induction c using aL.casesOn with
 |cG es n=>
  refine ab.need λh=>ab.set (λ_=>rfl) λQ hQ=>?_;have h3:es= []:=isEmpty_iff.mp h;subst h3;refine cN (G.at hp e1) λep eR hl hx=>?_;obtain rfl:=bg.nil_inv hx;refine N.of (iF (fk G hp) (tupleKind_room_in1 u1) (my h6 ho hr) (tX hl) (λ_=>zero_le _) (λ_ q=>nomatch q) λ_ h' qg hb=>?_)
  obtain⟨G1,x1⟩:=Bz (c':=.jt [(ks,q.2)]) (t:=s.toks+(jC R).draws ks) G hp ep hb (λx=>⟨ep,_,qg,oh.nil.append ((AA h6 hn ho hr).mono x (fF.nil _)) (hz.mono x (fF.nil _))⟩);exact hQ _ _ _ G1 x1 (hz.mono x1 (fF.nil _))
 |jt es=>
  refine cN (G.at hp e1) λep zs dk vk=>?_;refine(?_:ab R [] Z σ s _ (match aV ks es with
   |some v=>Pure.pure v
   |none=>Mine.Internal.need (cM es.length)>>=λ_=>iE i (.jt (es++[(ks,q.2)]))>>=λ_=>Pure.pure q.2) _)
  rcases vk.aV (k:=ks)with⟨h2,h3⟩|⟨v,b,x,h2,h3,h4⟩
  ·rw[h2];refine ab.need λhf=>ab.set (λ_=>rfl) λQ hQ=>?_;refine N.of (iF (fk G hp) (tupleKind_room_in1 u1) (my h6 ho hr) dk (λ_=>by rw[vk.len];exact gy hf) (λ_ q=>by replace q:=Eq.trans (Eq.symm h3) q;exact cT q) λ_ h' qg hb=>?_);obtain⟨G1,x1⟩:=Bz (c':=.jt (es++[(ks,q.2)])) (t:=s.toks+(jC R).draws ks) G hp ep hb (λx=>⟨ep,_,qg,(vk.mono x (fF.nil _)).append ((AA h6 hn ho hr).mono x (fF.nil _)) (hz.mono x (fF.nil _))⟩);exact hQ _ _ _ G1 x1 (hz.mono x1 (fF.nil _))
  ·refine Eq.symm h2▸?_;refine ab.pure λQ hQ=>?_;refine N.of (iF (fk G hp) (tupleKind_room_in1 u1) (my h6 ho hr) dk (λq=>by rw[h3]at q;exact IA q) (λq hq=>?_) λq=>by rw[h3]at q;exact IA q);rw[h3]at hq;exact bE hq▸gF G h4 hQ _
 |_=>exact ab.fail
theorem HK(G:aq R Z σ s)(ho:aI R Z s.heap o x)(hv:aD R Z s.heap vs xs):aj R A [] Z σ s (call (.builtin "set.add") (x::xs)) (eS .add o vs) (RV R):=by
 refine ab.mz (ab.isRef λi ei=>ab.opt λv ev=>ab.int λk ek=>ab.Gz λes e1=>ab.need λhf=>ab.set (λ_=>rfl) λQ hQ=>?_);(refine ak ((ei▸ho).cE) λp hp OR=>?_;subst OR);(refine ak ((cP ev▸hv).one) λy Pg hy=>?_;subst Pg);obtain⟨t,rfl⟩:=(ek▸hy).int_inv;refine bH (G.at hp e1) λep hS rE=>?_;have hle:es.length<=1000:=eK hf;refine N.of (call_set_add (intKind_is R.prog R.w k t) rfl hS (by unfold scanBound;omega) λh' hb SX=>?_);obtain⟨G1,x1⟩:=Bz (c':=.set (if es.contains k then es else es++[k])) (t:=s.toks+1) G hp ep hb (λx=>by
  by_cases hc:es.contains k=true
  ·simp only[hc,if_true]at SX ⊢;refine⟨ep,SetOf_congr SX (λj=>?_) rfl,rE⟩;by_cases e:j=k
   ·subst e;rw[hc];rfl
   ·rw[decide_eq_false e,Bool.or_false]
  ·simp only[hc,false_eq_true,if_false]at SX ⊢;refine⟨ep,SetOf_congr SX (λj=>?_) (by simp),?_⟩
   ·by_cases e:j=k
    ·subst e;simp
    ·simp[e]
   ·rw[nodup_append];refine⟨rE,by simp,λa ha b hb q=>hc ?_⟩;simp at hb;subst hb;subst q
    simpa using ha)
 exact hQ _ _ _ G1 x1 .none
theorem CY{id:Am}{o:V}{x:Value}{vs:List V}{xs:List Value}(rm:br A 0)(G:aq R Z σ s)(ho:aI R Z s.heap o x)(hv:aD R Z s.heap vs xs):aj R A [] Z σ s (call (.builtin id.name) (x::xs)) (eS id o vs) (RV R):=by
 induction id using Am.casesOn with
 |bits=>
  refine ab.mz (ab.int λi ei=>ab.opt λ_ e0=>ab.pure λQ hQ=>?_);obtain⟨t,rfl⟩:=(ei▸ho).int_inv;obtain rfl:=(o5 e0▸hv).zero;refine N.of (call_int_bit_length ?_);rw[C9];exact dy G hQ _ _
 |app=>
  refine ab.mz (ab.isRef λi ei=>ab.opt λv ev=>ab.getL λus e1=>ab.need λhf=>ab.set (λ_=>rfl) λQ hQ=>?_);(refine ak ((ei▸ho).cE) λp hp vY=>?_;subst vY);(refine ak ((cP ev▸hv).one) λy DO hy=>?_;subst DO);refine bf (gW G hp e1) λys k hl hw hn=>?_;refine N.of (sb hl (by rw[hn];exact gy hf) λh' m qg hb=>?_);obtain⟨G1,x1⟩:=Bz (c':=.lst (us++[v])) (t:=s.toks) G hp (G.at hp e1).1 hb (λx=>⟨(G.at hp e1).1,_,m,qg,by
   rw[Array.toList_push];exact(hw.mono x (fF.nil _)).append (.cons (hy.mono x (fF.nil _)) .nil)⟩)
  exact hQ _ _ _ G1 x1 .none
 |get=>exact GB rm G ho hv
 |qT=>exact BO rm G ho hv
 |pop=>
  refine ab.mz (ab.isRef λi ei=>ab.opt λv ev=>ab.int λk ek=>ab.getD λes e1=>ab.opt λw h2=>ab.need λhf=>ab.set (λ_=>rfl) λQ hQ=>?_);(refine ak ((ei▸ho).cE) λp hp vX=>?_;subst vX);(refine ak ((cP ev▸hv).one) λy O2 hy=>?_;subst O2);obtain⟨t,rfl⟩:=(ek▸hy).int_inv;refine cN (G.at hp e1) λep eR dk vk=>?_
  rcases vk.aV (k:=k)with⟨h3,_⟩|⟨v',x,h3,h5,h4⟩
  ·exact IA (Eq.trans h2.symm h3)
  ·rw[h2]at h3;refine N.of (II dk h5 (by rw[vk.len];exact gy hf) λh' qg hb=>?_);obtain⟨G1,x1⟩:=Bz (c':=.cG (Ah k es.1) (es.2+1)) (t:=s.toks+1) G hp ep hb (λx=>⟨ep,_,qg,(vk.mono x (fF.nil _)).without⟩);exact hQ _ _ _ G1 x1 (bE h3▸h4.mono x1 (fF.nil _))
 |add=>exact HK G ho hv
 |Dj=>
  refine ab.mz (ab.isRef λi ei=>ab.opt λv ev=>ab.int λk ek=>ab.vo λb e1=>ab.need λhf=>ab.set (λ_=>rfl) λQ hQ=>?_);obtain⟨p,hp,rfl⟩:=(ei▸ho).cE;obtain⟨y,rfl,hy⟩:=(cP ev▸hv).one;obtain⟨t,rfl⟩:=(ek▸hy).int_inv;obtain⟨ep,hb⟩:=G.at hp e1;obtain⟨h1,h2⟩:=aP hf;have h3:=fh h1;have hle:=i6 h2;refine Dl hb h3.1 h3.2 (by simp;unfold sizeLine;omega) λh' CA hs=>?_;obtain⟨G1,x1⟩:=Bz (c':=.bar (b++[UInt8.ofNat k.toNat])) (t:=s.toks) G hp ep hs (λx=>⟨ep,by simpa using CA⟩);exact hQ _ _ _ G1 x1 .none
 |Dh=>
  refine ab.mz (ab.isRef λi ei=>ab.opt λv ev=>ab.opt λc ec=>ab.vo λb e1=>ab.need λhf=>ab.set (λ_=>rfl) λQ hQ=>?_);obtain⟨p,hp,rfl⟩:=(ei▸ho).cE;obtain⟨y,rfl,hy⟩:=(cP ev▸hv).one;obtain⟨t,rfl⟩:=(Hx ec▸hy).jS;obtain⟨ep,hb⟩:=G.at hp e1;refine Dk hb (by simpa using gy hf) λh' CA hs=>?_;obtain⟨G1,x1⟩:=Bz (c':=.bar (b++c)) (t:=s.toks) G hp ep hs (λx=>⟨ep,by simpa using CA⟩);exact hQ _ _ _ G1 x1 .none
end
end
section
structure FR(R:Gr)(Z:bo)(s:Shared)(sc:Scope)(e:ar)(env:Env)(X:List Addr):Prop where
 kind:env.scope.kind=.function
 names:∀x k,sc.names.lookup x=some k->env.kindOf x=some k\/(k=.free/\env.kindOf x=some .cell)
 globals:env.globals=mainGlobals
 builtins:env.builtins=builtinsNs
 off:∀a∈X,a∉cW Z/\R.eN.heap.get? a=none
 own:fF X s.heap
 loc:env.locals∈X
 ns:∃m,s.heap.Ns env.locals m/\∀x v,sc.names.lookup x=some .local->look x e.own=some v->∃y,m x=some y/\aI R Z s.heap v y
 cell:∀x,sc.names.lookup x=some .cell->∃c fq,env.cells.lookup x=some c/\s.heap.IsCell c fq/\c∈X/\c≠env.locals/\∀v,look x e.own=some v->∃y,fq=some y/\aI R Z s.heap v y
 apart:∀x y c,sc.names.lookup x=some .cell->sc.names.lookup y=some .cell->env.cells.lookup x=some c->env.cells.lookup y=some c->x=y
 free:∀x v,sc.names.lookup x=some .free->look x e.up=some v->∃c y,env.cells.lookup x=some c/\s.heap.IsCell c (some y)/\c∉X/\c∉cW Z/\aI R Z s.heap v y
 frees:∀x,sc.names.lookup x=some .free->env.kindOf x=some .cell
 nJ:∀x,sc.names.lookup x=some .free->∃c fq,env.cells.lookup x=some c/\s.heap.IsCell c fq/\c∉X/\c∉cW Z
structure Kw(R:Gr):Prop where
 gl:∀x v,R.g.gl x=some v->∃y,(R.mg x=some y\/(R.mg x=none/\R.mb x=some y))/\∀Z h,aI R Z h v y
 glob:R.eN.heap.Ns mainGlobals R.mg
 blt:R.eN.heap.Ns builtinsNs R.mb
section
variable{R:Gr}{A:Around}{Z aH:bo}{σ aE:af}{s s':Shared}{sc:Scope}{e e':ar}{env:Env}{X Y:List Addr}
theorem IsCell.at'{h h':Heap}{a:Addr}{v:Option Value}(x:h.IsCell a v)(e:h'.get? a=h.get? a):h'.IsCell a v:=
 let ⟨o,ho,hd⟩:=x;⟨o,e.trans ho,hd⟩
theorem FR.mono(F:FR R Z s sc e env X)(x:bu Y Z s aH s')(oy:fF Y s.heap)(d1:∀a∈X,a∉Y)(d2:∀y c,sc.names.lookup y=some .free->env.cells.lookup y=some c->c∉Y):FR R aH s' sc e env X:=by
 have same:∀a∈X,s'.heap.get? a=s.heap.get? a:=λa q=>by
  refine ak (F.own a q) λo ho _=>?_;rw[x.keep a o ho (F.off a q).1 (d1 a q),ho]
 refine⟨F.kind,F.names,F.globals,F.builtins,λa q=>?_,λa q=>?_,F.loc,?_,λy hy=>?_,F.apart,λy v hy hv=>?_,F.frees,λy hy=>?_⟩
 ·refine ak (F.own a q) λo ho _=>?_;exact⟨x.out ho (F.off a q).1,(F.off a q).2⟩
 ·refine ak (F.own a q) λo ho h=>?_;exact(aT o ((same a q).trans ho) h)
 ·refine ak (F.ns) λm hm h=>?_;refine(aT m (Ns.at' hm (same _ F.loc)) (λy v h1 h2=>?_));refine ak (h y v h1 h2) λz h3 h4=>?_;exact(aT z h3 (h4.mono x oy))
 ·refine dh (F.cell y hy) λc fq h1 h2 h3 h5 h4=>?_;refine(dg c fq h1 (IsCell.at' h2 (same _ h3)) h3 h5 (λv hv=>?_));refine ak (h4 v hv) λz h6 h7=>?_;exact(aT z h6 (h7.mono x oy))
 ·refine dh (F.free y v hy hv) λc z h1 h2 h3 h4 h5=>?_;(refine ak h2 λo ho hd=>?_;clear h2);exact(dg c z h1 ⟨o,x.keep c o ho h4 (d2 y c hy h1),hd⟩ h3 (x.out ho h4) (h5.mono x oy))
 ·(refine bj (F.nJ y hy) λc fq hc wd h3 h4=>?_;(refine ak wd λo ho hd=>?_;clear wd));exact(dt c fq hc ⟨o,x.keep c o ho h4 (d2 y c hy hc),hd⟩ h3 (x.out ho h4))
theorem FR.step(F:FR R Z s sc e env X)(x:bu [] Z s aH s'):FR R aH s' sc e env X:=F.mono x (fF.nil _) (λ_ _ q=>nomatch q) λ_ _ _ _ q=>nomatch q
theorem Cf(hm:jK g sc e x σ=some (v,aE)):aE=σ/\((sc.names.lookup x=some .local/\look x e.own=some v)\/(sc.names.lookup x=some .cell/\look x e.own=some v)\/(sc.names.lookup x=some .free/\look x e.up=some v)\/(sc.names.lookup x=some .globalImplicit/\g.gl x=some v)):=by
 unfold jK at hm;generalize sc.names.lookup x=k at hm
 match k,hm with
 |some .local,hm=>obtain⟨h1,rfl⟩:=cJ hm;exact⟨rfl,.inl ⟨rfl,h1⟩⟩
 |some .cell,hm=>obtain⟨h1,rfl⟩:=cJ hm;exact⟨rfl,.inr (.inl ⟨rfl,h1⟩)⟩
 |some .free,hm=>obtain⟨h1,rfl⟩:=cJ hm;exact⟨rfl,.inr (.inr (.inl ⟨rfl,h1⟩))⟩
 |some .globalImplicit,hm=>obtain⟨h1,rfl⟩:=cJ hm;exact⟨rfl,.inr (.inr (.inr ⟨rfl,h1⟩))⟩
theorem tG(hg:R.g=g)(ok:Kw R)(G:aq R Z σ s)(F:FR R Z s sc e env X):o6 R A [] Z σ s (loadName env x) (jK g sc e x) (RV R):=by
 subst hg;intro v au hm Q E hQ;obtain⟨rfl,⟨hk,h1⟩|⟨hk,h1⟩|⟨hk,h1⟩|⟨hk,h1⟩⟩:=Cf hm
 ·refine ak (F.ns) λm hn h=>?_;refine ak (h x v hk h1) λy h2 h3=>?_
  rcases F.names x _ hk with h4|⟨h4,_⟩
  ·exact wpAny_loadName_local F.kind h4 hn h2 (hQ _ _ _ G (bu.refl ..) h3)
  ·exact PySem.NameKind.noConfusion h4
 ·refine dh (F.cell x hk) λc fq h2 h3 _ _ h=>?_;(refine ak (h v h1) λy DT h4=>?_;subst DT)
  rcases F.names x _ hk with h5|⟨h5,_⟩
  ·exact wpAny_loadName_cell F.kind h5 h2 h3 (hQ _ _ _ G (bu.refl ..) h4)
  ·exact PySem.NameKind.noConfusion h5
 ·refine dh (F.free x v hk h1) λc y h2 h3 _ _ h4=>?_;exact wpAny_loadName_cell F.kind (F.frees x hk) h2 h3 (hQ _ _ _ G (bu.refl ..) h4)
 ·refine ak (ok.gl x v h1) λy h2 h3=>?_
  rcases F.names x _ hk with h5|⟨h5,_⟩
  ·rw[PyProof.Rows.loadName_read F.kind h5];have ng:s.heap.Ns env.globals R.mg:=by rw[F.globals];exact ok.glob.keeps G.base
   have nb:s.heap.Ns env.builtins R.mb:=by rw[F.builtins];exact ok.blt.keeps G.base
   rcases h2 with h2|⟨h2,h4⟩
   ·exact loadGlobal_global ng h2 (hQ _ _ _ G (bu.refl ..) (h3 _ _))
   ·exact loadGlobal_builtin ng h2 nb h4 (hQ _ _ _ G (bu.refl ..) (h3 _ _))
  ·exact PySem.NameKind.noConfusion h5
theorem jj(x:Str)(v:V):∀l:List (Str×V),look x (put x v l)=some v:=by
 intro l0
 induction l0 with
 |nil=>
  simp[put,look]
 |cons hd r hi=>
  obtain⟨y,u⟩:=hd;unfold put;by_cases h:(x==y)=true
  ·simp only[h,if_true,look]
  ·simp only[h,false_eq_true,if_false,look];exact hi
theorem gK(v:V)(n:y≠x):∀l:List (Str×V),look y (put x v l)=look y l:=by
 intro l0
 induction l0 with
 |nil=>
  simp[put,look,n]
 |cons hd r hi=>
  obtain⟨z,u⟩:=hd;unfold put;by_cases h:(x==z)=true
  ·have hz:y≠z:=by rw[<-beq_iff_eq.mp h];exact n
   simp only[h,if_true,look,beq_eq_false_iff_ne.mpr hz,false_eq_true,if_false]
  ·simp only[h,false_eq_true,if_false,look]
   split
   ·rfl
   ·exact hi
theorem FR.KU(G:aq R Z σ s)(F:FR R Z s sc e env X)(ha:a∈X)(hb:Heap.SameBut a s.heap h')(hl:∃o,h'.get? a=some o/\yr o):aq R Z σ {s with heap:=h',toks:=t}/\bu X Z s Z {s with heap:=h',toks:=t}/\fF X h':=by
 (refine cH (G.x8 (X:=[a]) (h':=h') (t:=t) (λb q=>by
  cases bz q;exact⟨(F.off a ha).1,(F.off a ha).2,let ⟨o,h,_⟩:=hl;⟨o,h⟩⟩) (λb q=>by cases bz q;exact F.own a ha) (λb o e n=>(hb.2 b λq=>n (by simp[q])).trans e)) λg x=>?_)
 refine⟨g,x.weaken λb q=>by cases bz q;exact ha,λb q=>?_⟩;by_cases e:b=a
 ·refine Eq.symm e▸?_;exact hl
 ·refine ak (F.own b q) λo ho h=>?_;exact(aT o ((hb.2 b e).trans ho) h)
theorem Fd(G:aq R Z σ s)(F:FR R Z s sc e env X)(hv:aI R Z s.heap v y):o6 R A X Z σ s (storeName env x y) (putN sc e x v) (λaH s' e' _=>FR R aH s' sc e' env X):=by
 intro e' au hm Q E hQ;unfold putN at hm;generalize hk:sc.names.lookup x=k at hm
 match k,hm with
 |some .local,hm=>
  obtain⟨rfl,rfl⟩:=M.aM hm;refine ak (F.ns) λm hn h=>?_
  rcases F.names x _ hk with h4|⟨h4,_⟩
  ·refine wpAny_storeName_local h4 hn (λh' pJ rC=>?_) (by refine Eq.symm (F.kind)▸?_;rfl);(refine bH (F.KU (t:=s.toks+1) G F.loc rC (let ⟨o,_,_,ho,hd,_⟩:=pJ;(aT o ho (.inl (by rw[hd];trivial))))) λG1 x1 o1=>?_);have mono:∀{v:V}{y:Value},aI R Z s.heap v y->aI R Z h' v y:=λr=>r.mono x1 F.own;refine hQ _ _ _ G1 x1 ⟨F.kind,F.names,F.globals,F.builtins,F.off,o1,F.loc,(aT _ pJ (λz u hz hu=>?_)),λz hz=>?_,F.apart,λz u hz hu=>?_,F.frees,λz hz=>let ⟨c,fq,hc,h,h3,h4⟩:=F.nJ z hz;(dt c fq hc (h.sameBut rC λq=>h3 (q▸F.loc)) h3 h4)⟩
   ·by_cases ez:z=x
    ·subst ez;rw[jj]at hu;obtain rfl:=bE hu;exact(aT y (by simp) (mono hv))
    ·rw[gK v ez]at hu;refine ak (h z u hz hu) λy' h1 h2=>?_;exact(aT y' (by simp[ez,h1]) (mono h2))
   ·refine dh (F.cell z hz) λc fq h1 h2 h3 h5 h6=>?_;have ez:z≠x:=λq=>by replace hz:=(hk▸(q▸hz));cases hz
    refine(dg c fq h1 (h2.sameBut rC h5) h3 h5 (λu hu=>?_));rw[gK v ez]at hu;refine ak (h6 u hu) λy' h7 h8=>?_;exact(aT y' h7 (mono h8))
   ·refine dh (F.free z u hz hu) λc y' h1 h2 h3 h5 h6=>?_;exact(dg c y' h1 (h2.sameBut rC λq=>h3 (q▸F.loc)) h3 h5 (mono h6))
  ·exact PySem.NameKind.noConfusion h4
 |some .cell,hm=>
  obtain⟨rfl,rfl⟩:=M.aM hm;refine dh (F.cell x hk) λc fq h2 h3 hc gH h=>?_
  rcases F.names x _ hk with h4|⟨h4,_⟩
  ·refine wpAny_storeName_cell F.kind h4 h2 h3 (λh' pJ rC=>?_);(refine bH (F.KU (t:=s.toks) G hc rC (let ⟨o,ho,hd⟩:=pJ;(aT o ho (.inl (by rw[hd];trivial))))) λG1 x1 o1=>?_);have mono:∀{v:V}{y:Value},aI R Z s.heap v y->aI R Z h' v y:=λr=>r.mono x1 F.own;refine hQ _ _ _ G1 x1 ⟨F.kind,F.names,F.globals,F.builtins,F.off,o1,F.loc,?_,λz hz=>?_,F.apart,λz u hz hu=>?_,F.frees,λz hz=>let ⟨c',Mp,DK,h,h3,h4⟩:=F.nJ z hz;(dt c' Mp DK (h.sameBut rC λq=>h3 (q▸hc)) h3 h4)⟩
   ·refine ak (F.ns) λm hn h=>?_;refine(aT m (hn.sameBut rC (Ne.symm gH)) (λz u hz hu=>?_));have ez:z≠x:=λq=>by replace hz:=(hk▸(q▸hz));cases hz
    rw[gK v ez]at hu;refine ak (h z u hz hu) λy' h1 h2=>?_;exact(aT y' h1 (mono h2))
   ·by_cases ez:z=x
    ·subst ez;refine(dg c (some y) h2 pJ hc gH (λu hu=>?_));rw[jj]at hu;obtain rfl:=bE hu;exact(aT y rfl (mono hv))
    ·refine dh (F.cell z hz) λc' Mp h1 xB Oy h5 h6=>?_;refine(dg c' Mp h1 (xB.sameBut rC (λq=>ez (F.apart z x c hz hk (q▸h1) h2))) Oy h5 (λu hu=>?_));rw[gK v ez]at hu;refine ak (h6 u hu) λy' h7 h8=>?_;exact(aT y' h7 (mono h8))
   ·refine dh (F.free z u hz hu) λc' y' h1 xB Oy h5 h6=>?_;exact(dg c' y' h1 (xB.sameBut rC λq=>Oy (q▸hc)) Oy h5 (mono h6))
  ·exact PySem.NameKind.noConfusion h4
end
end
section
section
variable{α β γ δ:Type}{R:Gr}{A:Around}{X Y:List Addr}{Z:bo}{σ:af}{s:Shared}
theorem aj.seq{f:α->Sem γ}{k:β->M δ}{r:bo->Shared->β->α->Prop}{r':bo->Shared->δ->γ->Prop}(h1:aj R A X Z σ s t m r)(h2:∀aH aE s' b a,aq R aH aE s'->bu X Z s aH s'->r aH s' b a->aj R A X aH aE s' (f a) (k b) r'):aj R A X Z σ s (t>>=f) (m>>=k) r':=by
 intro d aE hm Q hQ;refine M.aA hm λb au e1 e2=>?_;exact N.bind (h1 b au e1 _ λaH s' a G' x' hr=>h2 aH au s' b a G' x' hr d aE e2 Q λH9 qV Vl Sp Pu oM=>hQ H9 qV Vl Sp (x'.trans Pu) oM)
theorem aj.weaken{r:bo->Shared->β->α->Prop}(h:aj R A X Z σ s t m r)(hs:∀a∈X,a∈Y):aj R A Y Z σ s t m r:=
 λb aE e Q hQ=>h b aE e Q λaH s' a G' x' hr=>hQ aH s' a G' (x'.weaken hs) hr
theorem aj.up{r:bo->Shared->β->α->Prop}(h:aj R A [] Z σ s t m r):aj R A Y Z σ s t m r:=h.weaken λ_ q=>nomatch q
theorem aj.mono{r r':bo->Shared->β->α->Prop}(h:aj R A X Z σ s t m r)(hr:∀aH s' aE b a,aq R aH aE s'->bu X Z s aH s'->r aH s' b a->r' aH s' b a):aj R A X Z σ s t m r':=
 λb aE e Q hQ=>h b aE e Q λaH s' a G' x' h'=>hQ aH s' a G' x' (hr aH s' aE b a G' x' h')
theorem aj.hold{r:bo->Shared->β->α->Prop}(h:aj R A X Z σ s t m r):aj R A X Z σ s (holding vs t) m r:=
 λb aE e Q hQ=>N.holding (h b aE e Q hQ)
theorem aj.at'{f:Unit->Sem α}{r:bo->Shared->β->α->Prop}(h:aj R A X Z σ s (f ()) m r):aj R A X Z σ s (standAt pos>>=f) m r:=
 λb aE e Q hQ=>N.at' (h b aE e Q hQ)
theorem aj.point{f:Unit->Sem α}{r:bo->Shared->β->α->Prop}(h:aj R A X Z σ s (f ()) m r):aj R A X Z σ s (point>>=f) m r:=
 λb aE e Q hQ=>N.bind (N.point (h b aE e Q hQ))
theorem aj.rule{f:Unit->Sem α}{r:bo->Shared->β->α->Prop}(h:aj R A X Z σ s (f ()) m r):aj R A X Z σ s (rule tag>>=f) m r:=
 λb aE e Q hQ=>N.bind (N.rule (h b aE e Q hQ))
theorem aj.release{f:Unit->Sem α}{r:bo->Shared->β->α->Prop}(h:aj R A X Z σ s (f ()) m r):aj R A X Z σ s (release vs keep>>=f) m r:=
 λb aE e Q hQ=>N.bind (N.release (h b aE e Q hQ))
theorem aj.Qk{r:bo->Shared->β->Value->Prop}(h:aj R A X Z σ s t m r):aj R A X Z σ s (operate vs t) m r:=
 λb aE e Q hQ=>N.operate (h b aE e Q hQ)
theorem aj.pure{r:bo->Shared->β->α->Prop}(G:aq R Z σ s)(h:r Z s b a):aj R A X Z σ s (pure a) (pure b) r:=by
 intro b' aE e Q hQ;obtain⟨rfl,rfl⟩:=M.aM e;exact N.pure (hQ _ _ _ G (bu.refl ..) h)
theorem aj.fail{r:bo->Shared->β->α->Prop}:aj R A X Z σ s t (M.fail:M β) r:=λb aE e=>by exact cT e
theorem aj.RR{f:α->γ}{r:bo->Shared->β->γ->Prop}(h:aj R A X Z σ s t m λZ s b a=>r Z s b (f a)):aj R A X Z σ s (t>>=λa=>Pure.pure (f a)) m r:=
 λb aE e Q hQ=>N.bind (h b aE e _ λaH s' a G' x' hr=>N.pure (hQ aH s' _ G' x' hr))
theorem aj.opt{k:β->M γ}{r:bo->Shared->γ->α->Prop}(h:∀b,o=some b->aj R A X Z σ s t (k b) r):aj R A X Z σ s t (a8 o>>=k) r:=by
 intro c aE e Q hQ;refine M.aA e λb au e1 e2=>?_;obtain⟨h1,rfl⟩:=cJ e1;exact h b h1 c aE e2 Q hQ
theorem aj.dP{k:aL->M γ}{r:bo->Shared->γ->α->Prop}(h:∀c,σ[i]?=some c->aj R A X Z σ s t (k c) r):aj R A X Z σ s t (dP i>>=k) r:=by
 intro c aE e Q hQ;refine M.aA e λb au e1 e2=>?_;obtain⟨h1,rfl⟩:=gx e1;exact h b h1 c aE e2 Q hQ
theorem aj.tok{r:bo->Shared->β->α->Prop}(h:aj R A X Z σ s t m r):True:=trivial
end
noncomputable def Sq(R:Gr)(Z:bo)(s:Shared):Fl->Flow->Prop
 |.next,.next=>True
 |.brk,.brk=>True
 |.cont,.cont=>True
 |.ret v,.ret y=>aI R Z s.heap v y
 |_,_=>False
abbrev DE(R:Gr)(sc:Scope)(env:Env)(X:List Addr):bo->Shared->(Fl×ar)->Flow->Prop:=λZ s p fl=>Sq R Z s p.1 fl/\FR R Z s sc p.2 env X
structure LH(R:Gr)(a:Addr)(f:kI):Prop where
 obj:∃o fd,R.eN.heap.get? a=some o/\o.data=.func fd/\fd.body=.stmts f.body/\fd.scope=f.sc/\fd.globals=mainGlobals/\fd.closure= []/\fd.builtins=builtinsNs/\R.eN.heap.CodeRec fd.code fd.qualname/\
  fd.params.posonlyargs= []/\fd.params.args.map (·.arg)=f.ps/\fd.params.kwonlyargs= []/\fd.params.vararg=none/\fd.params.kwarg=none/\
  ((f.ds= []/\fd.defaults=.none)\/∃t xs,fd.defaults=.ref t/\R.eN.heap.IsTuple t xs/\xs.size=f.ds.length/\∀Z h,aD R Z h f.ds xs.toList)
 kind:f.sc.kind=.function
 xO:f.sc.isCoroutine=false
 nodup:f.ps.Nodup
 Fh:∀x∈f.ps,f.sc.names.lookup x=some .local\/f.sc.names.lookup x=some .cell
 S5:f.ds.length<=f.ps.length
 frees:∀x,f.sc.names.lookup x≠some .free
 uniq:(f.sc.names.map (·.1)).Nodup
noncomputable def nD(e:Expr):Bool:=ble 8 e.ctorIdx&&ble e.ctorIdx 10
structure bQ(R:Gr)(n:Nat)(ih:f5):Prop where
 E:∀{A:Around}{Z:bo}{σ:af}{s:Shared}{sc:Scope}{e:ar}{env:Env}{X:List Addr}(x:Expr),br A n->aq R Z σ s->FR R Z s sc e env X->aj R A [] Z σ s (eval x env) (ih.E sc e x) (RV R)
 T:∀{A:Around}{Z:bo}{σ:af}{s:Shared}{sc:Scope}{e:ar}{env:Env}{X:List Addr}(x:Expr),br A n->aq R Z σ s->FR R Z s sc e env X->aj R A [] Z σ s (isTrue x env (eval x env)) (ih.T sc e x) RB
 S:∀{A:Around}{Z:bo}{σ:af}{s:Shared}{sc:Scope}{e:ar}{env:Env}{X:List Addr}(x:Stmt),br A n->aq R Z σ s->FR R Z s sc e env X->aj R A X Z σ s (exec x env) (ih.S sc e x) (DE R sc env X)
 C:∀{A:Around}{Z:bo}{σ:af}{s:Shared}{f:kI}{a:Addr}{vs:List V}{xs:List Value},br A n->aq R Z σ s->LH R a f->aD R Z s.heap vs xs->aj R A [] Z σ s (call (.ref a) xs) (ih.C f vs) (RV R)
 star:∀sc e x p σ,ih.E sc e (.Starred x p) σ=none
 U:∀{A:Around}{Z:bo}{σ:af}{s:Shared}{sc:Scope}{e:ar}{env:Env}{X:List Addr}(x:Expr),nD x=true->br A n->aq R Z σ s->FR R Z s sc e env X->∀v aE,ih.E sc e x σ=some (v,aE)->∀(use:Value->Sem Unit)(Q:Unit->Shared->Prop),
  (∀fc fN acc C m,aq R fc aE fN->bu [] Z s fc fN->aI R fc fN.heap v acc->C∉cW fc->R.eN.heap.get? C=none->s.heap.get? C=none->fN.heap.Ns C m->
   bJ (model R.prog R.w) A (use acc) (λ_ qV=>∃m,qV.heap.Ns C m/\∀h',Heap.SameBut C qV.heap h'->(∃m',h'.Ns C m')->Q () {qV with heap:=h'}) fN)->
  bJ (model R.prog R.w) A (evalThenUse x env use) Q s
section
variable{R:Gr}{A:Around}{X:List Addr}{Z:bo}{σ:af}{s:Shared}{n:Nat}{ih:f5}{sc:Scope}{e:ar}{env:Env}
theorem aI.step(r:aI R Z s.heap v y)(x:bu [] Z s aH s'):aI R aH s'.heap v y:=r.mono x (fF.nil _)
theorem aD.step(r:aD R Z s.heap v y)(x:bu [] Z s aH s'):aD R aH s'.heap v y:=r.mono x (fF.nil _)
theorem br.zero(rm:br A n):br A 0:=rm.mono (zero_le _)
theorem Dq(G:aq R Z σ s):aj R A [] Z σ s (eval (.Constant c k p) env) (a8 (rU c)) (RV R):=by
 intro v aE hm Q hQ;obtain⟨h,rfl⟩:=cJ hm
 induction c using Const.casesOn with
 |none=>obtain rfl:=bE h;exact N.pure (hQ _ _ _ G (bu.refl ..) .none)
 |bool b=>(injection h with E5;subst E5);exact N.pure (hQ _ _ _ G (bu.refl ..) (.bool b))
 |int i=>(injection h with qY;subst qY);exact N.of (wpAny_Constant_int (hQ _ _ _ (G.tok _) (bu.tok _) (.int i _)))
 |str x=>(injection h with E4;subst E4);exact N.of (Calls.Constant_str (hQ _ _ _ (G.tok _) (bu.tok _) (.str x _)))
 |bytes b=>(injection h with Fb;subst Fb);exact λ_ _ _ _ _=>hQ _ _ _ (G.tok _) (bu.tok _) (.bytes b s.toks)
 |_=>exact cT h
theorem Hz(hg:R.g=g)(ok:Kw R)(G:aq R Z σ s)(F:FR R Z s sc e env X):aj R A [] Z σ s (eval (.Name x p) env) (if x=="__debug__" then M.fail else jK g sc e x) (RV R):=by
 split
 ·exact aj.fail
 ·rename_i hx;intro v aE hm Q hQ;exact N.of (wpAny_Name (tG hg ok G F v aE hm Q _ hQ) (by simpa using hx))
theorem Ds(S:bQ R n ih)(rm:br A n)(G:aq R Z σ s)(F:FR R Z s sc e env X):aj R A [] Z σ s (eval (.BinOp l op r p) env) (do let a<-ih.E sc e l;let b<-ih.E sc e r;ai op a b) (RV R):=by
 rw[arm_eval_BinOp];refine(S.E l rm G F).seq λaN au ax a x G1 x1 r1=>?_;refine aj.seq (aj.hold (S.E r rm G1 (F.step x1))) λcn cj aY b y G2 x2 r2=>aj.at' (aj.Qk ?_);exact(Dc rm.zero G2 (r1.step x2) r2).toN
theorem J8(S:bQ R n ih)(rm:br A n)(G:aq R Z σ s)(F:FR R Z s sc e env X):aj R A [] Z σ s (eval (.UnaryOp .USub x p) env) (ih.E sc e x>>=λv=>f6 v>>=λi=>pure (.int (-i))) (RV R):=by
 rw[arm_eval_UnaryOp];refine(S.E x rm G F).seq λaN au ax a y G1 x1 r1=>aj.at' (aj.hold (ab.mz (ab.int λi ei=>ab.pure λQ hQ=>?_)));obtain⟨t,rfl⟩:=(ei▸r1).int_inv;exact N.of (PyProof.Rows.neg_int (dy G1 hQ _ _))
theorem NS(S:bQ R n ih)(rm:br A n)(G:aq R Z σ s)(F:FR R Z s sc e env X):aj R A [] Z σ s (eval (.IfExp t b o p) env) (do if<-ih.T sc e t then ih.E sc e b else ih.E sc e o) (RV R):=by
 rw[arm_eval_IfExp];refine(S.T t rm G F).seq λaN au ax a y G1 x1 r1=>?_;cases r1
 induction a using Bool.casesOn with
 |true=>exact S.E b rm G1 (F.step x1)
 |false=>exact S.E o rm G1 (F.step x1)
theorem HE(S:bQ R n ih)(rm:br A n):∀{vs:List Expr}{Z:bo}{σ:af}{s:Shared},aq R Z σ s->FR R Z s sc e env X->aj R A [] Z σ s (boolOp p op (evalEach vs env)) (xj ih sc e op vs) (RV R):=by
 intro vs
 induction vs with
 |nil=>intros;exact aj.fail
 |cons x t hi=>
  intro Z σ s G F
  rcases t with _|⟨y,r⟩
  ·exact S.E x rm G F
  ·skip;refine(?_:aj R A [] Z σ s (eval x env>>=λv=>standAt p>>=λ_=>holding [v] (truthy v)>>=λt=>match op,t with
    |.And,false|.Or,true=>pure v
    |_,_=>boolOp p op (evalEach (y::r) env)) (ih.E sc e x>>=λv=>iC v>>=λt=>match op,t with
    |.And,false|.Or,true=>pure v
    |_,_=>xj ih sc e op (y::r)) (RV R))
   refine(S.E x rm G F).seq λaN au ax a z G1 x1 r1=>aj.at' ?_;refine aj.seq (aj.hold (s7 G1 r1).toN) λcn cj aY t t' G2 x2 r2=>?_;cases r2
   induction op using BoolOp.casesOn<;>induction t using Bool.casesOn
   ·exact aj.pure G2 (r1.step x2)
   ·exact hi G2 ((F.step x1).step x2)
   ·exact hi G2 ((F.step x1).step x2)
   ·exact aj.pure G2 (r1.step x2)
theorem nB(h:bY r=true):markedBehindIn op r t=t:=by
 unfold markedBehindIn
 induction r using Expr.casesOn with
 |Set=>exact mO h
 |_=>rfl
theorem Dr(S:bQ R n ih)(rm:br A n):∀{ops:List CmpOp}{rs:List Expr}{Z:bo}{σ:af}{s:Shared}{l:V}{x:Value},aq R Z σ s->FR R Z s sc e env X->aI R Z s.heap l x->aj R A [] Z σ s (compareChain p x ops (markedEach ops rs (evalEach rs env))) (jg ih sc e l ops rs) Kv:=by
 intro ops
 induction ops with
 |nil=>intros;exact aj.fail
 |cons op t hi=>
  intro rs Z σ s l x G F hl
  rcases rs with _|⟨r,rs⟩
  ·rcases t with _|_<;>exact aj.fail
  rcases t with _|⟨B4,ops⟩
  ·clear hi
   rcases rs with _|_
   ·skip;refine(?_:aj R A [] Z σ s (holding [x] (markedBehindIn op r (eval r env))>>=λrv=>standAt p>>=λ_=>operate [x,rv] (compareOp op x rv)) (ih.E sc e r>>=λv=>if bY r then cX op l v else M.fail) Kv);by_cases h:bY r=true
    ·refine Eq.symm (nB h)▸?_;refine aj.seq (aj.hold (S.E r rm G F)) λaN au ax v y G1 x1 r1=>aj.at' (aj.Qk ?_);rw[if_pos h];exact(qs rm.zero G1 (hl.step x1) r1).toN
    ·intro b aE hm;refine M.aA hm λv au _ e2=>?_;replace e2:=(if_neg h)▸e2;exact cT e2
   ·exact aj.fail
  ·rcases rs with _|⟨r',rs⟩
   ·exact aj.fail
   ·skip;refine(?_:aj R A [] Z σ s (holding [x] (eval r env)>>=λrv=>standAt p>>=λ_=>holding [x,rv] (compareOp op x rv)>>=λc=>release [x,rv] [c]>>=λ_=>holding [c,rv] (truthy c)>>=λt=>
     if t=true then compareChain p rv (B4::ops) (markedEach (B4::ops) (r'::rs) (evalEach (r'::rs) env))else pure c)
     (ih.E sc e r>>=λv=>cX op l v>>=λc=>if c=true then jg ih sc e v (B4::ops) (r'::rs)else pure false) Kv)
    refine aj.seq (aj.hold (S.E r rm G F)) λaN au ax v y G1 x1 r1=>aj.at' ?_;refine aj.seq (aj.hold (qs rm.zero G1 (hl.step x1) r1).toN) λcn cj aY b c G2 x2 r2=>aj.release ?_;subst r2;intro d aE hm Q hQ;refine N.bind (N.holding (N.of (wpAny_truthy_bool ?_)))
    induction b using Bool.casesOn with
    |true=>exact hi G2 ((F.step x1).step x2) (r1.step x2) d aE hm Q hQ
    |false=>exact aj.pure G2 rfl d aE hm Q hQ
end
end
section
section
variable{R:Gr}{A:Around}{X:List Addr}{Z:bo}{σ:af}{s:Shared}{n:Nat}{ih:f5}{sc:Scope}{e:ar}{env:Env}
theorem yc(S:bQ R n ih)(rm:br A n)(G:aq R Z σ s)(F:FR R Z s sc e env X){l:Expr}{ops:List CmpOp}{cs:List Expr}{p:Pos}:aj R A [] Z σ s (eval (.Compare l ops cs p) env) (do let v<-ih.E sc e l;pure (.bool (<-jg ih sc e v ops cs))) (RV R):=by
 rw[arm_eval_Compare];refine(S.E l rm G F).seq λaN au ax a x G1 x1 r1=>?_;intro v aE hm Q hQ;refine M.aA hm λb cj e1 e2=>?_;(refine M.lG e2 λTx Ml=>?_;subst Tx;subst Ml);refine Dr S rm G1 (F.step x1) r1 b cj e1 Q λaH s' a G' x' h=>?_;subst h;exact hQ _ _ _ G' x' (.bool b)
theorem Hy(S:bQ R n ih)(rm:br A n){p:Pos}:∀{ops:List CmpOp}{rs:List Expr}{Z:bo}{σ:af}{s:Shared}{l:V}{x:Value},aq R Z σ s->FR R Z s sc e env X->aI R Z s.heap l x->aj R A [] Z σ s (testChain p x ops (markedEach ops rs (evalEach rs env))) (jg ih sc e l ops rs) RB:=by
 intro ops
 induction ops with
 |nil=>intros;exact aj.fail
 |cons op t hi=>
  intro rs Z σ s l x G F hl
  rcases rs with _|⟨r,rs⟩
  ·rcases t with _|_<;>exact aj.fail
  rcases t with _|⟨B4,ops⟩
  ·clear hi
   rcases rs with _|_
   ·skip;refine(?_:aj R A [] Z σ s (holding [x] (markedBehindIn op r (eval r env))>>=λrv=>standAt p>>=λ_=>operate [x,rv] (compareOp op x rv)>>=λc=>holding [c] (truthy c)) (ih.E sc e r>>=λv=>if bY r then cX op l v else M.fail) RB);by_cases h:bY r=true
    ·refine Eq.symm (nB h)▸?_;refine aj.seq (aj.hold (S.E r rm G F)) λaN au ax v y G1 x1 r1=>aj.at' ?_;rw[if_pos h];intro b aE hm Q hQ;refine N.bind (N.operate ((qs rm.zero G1 (hl.step x1) r1).toN b aE hm _ λaH s' a G' x' h=>?_));subst h;exact N.holding (N.of (wpAny_truthy_bool (hQ _ _ _ G' x' rfl)))
    ·intro b aE hm;refine M.aA hm λv au _ e2=>?_;replace e2:=(if_neg h)▸e2;exact cT e2
   ·exact aj.fail
  ·rcases rs with _|⟨r',rs⟩
   ·exact aj.fail
   ·skip;refine(?_:aj R A [] Z σ s (holding [x] (eval r env)>>=λrv=>standAt p>>=λ_=>holding [x,rv] (compareOp op x rv)>>=λc=>release [x,rv] [c]>>=λ_=>holding [c,rv] (truthy c)>>=λt=>
     if t=true then testChain p rv (B4::ops) (markedEach (B4::ops) (r'::rs) (evalEach (r'::rs) env))else pure false)
     (ih.E sc e r>>=λv=>cX op l v>>=λc=>if c=true then jg ih sc e v (B4::ops) (r'::rs)else pure false) RB)
    refine aj.seq (aj.hold (S.E r rm G F)) λaN au ax v y G1 x1 r1=>aj.at' ?_;refine aj.seq (aj.hold (qs rm.zero G1 (hl.step x1) r1).toN) λcn cj aY b c G2 x2 r2=>aj.release ?_;subst r2;intro d aE hm Q hQ;refine N.bind (N.holding (N.of (wpAny_truthy_bool ?_)))
    induction b using Bool.casesOn with
    |true=>exact hi G2 ((F.step x1).step x2) (r1.step x2) d aE hm Q hQ
    |false=>exact aj.pure G2 rfl d aE hm Q hQ
theorem yd(S:bQ R n ih)(rm:br A n){op:BoolOp}:∀{vs:List Expr}{Z:bo}{σ:af}{s:Shared},aq R Z σ s->FR R Z s sc e env X->aj R A [] Z σ s (allTrue op vs env) (FE ih sc e op vs) RB:=by
 intro l0
 induction l0 with
 |nil=>
  rintro _ _ _ G F;exact aj.pure G rfl
 |cons x r hi=>
  rintro Z σ s G F;rw[arm_allTrue_cons];show aj R A [] Z σ s _ (ih.T sc e x>>=λt=>match op,t with
   |.And,false=>pure false
   |.Or,true=>pure true
   |_,_=>FE ih sc e op r) RB
  refine(S.T x rm G F).seq λaN au ax t t' G1 x1 r1=>?_;cases r1
  induction op using BoolOp.casesOn<;>induction t using Bool.casesOn
  ·exact aj.pure G1 rfl
  ·exact hi G1 (F.step x1)
  ·exact hi G1 (F.step x1)
  ·exact aj.pure G1 rfl
theorem bh(S:bQ R n ih)(rm:br A n)(G:aq R Z σ s)(F:FR R Z s sc e env X){x:Expr}:aj R A [] Z σ s (do let v<-eval x env;standAt x.pos;holding [v] (truthy v)) (do iC (<-ih.E sc e x)) RB:=
 (S.E x rm G F).seq λaN au ax a y G1 x1 r1=>aj.at' (aj.hold (s7 G1 r1).toN)
theorem Ae(S:bQ R n ih)(g:G)(rm:br A n)(G:aq R Z σ s)(F:FR R Z s sc e env X):∀x:Expr,aj R A [] Z σ s (isTrue x env (eval x env)) ((mh g ih).T sc e x) RB
 |.UnaryOp .Not x p=>by
  rw[arm_isTrue_UnaryOp];show aj R A [] Z σ s _ (ih.T sc e x>>=λt=>pure !t) RB;refine(S.T x rm G F).seq λaN au ax a y G1 x1 r1=>?_;subst r1;exact aj.pure G1 rfl
 |.BoolOp op vs p=>by rw[arm_isTrue_BoolOp];exact yd S rm G F
 |.Compare l ops cs p=>by
  rw[arm_isTrue_Compare];show aj R A [] Z σ s _ (ih.E sc e l>>=λv=>jg ih sc e v ops cs) RB;exact(S.E l rm G F).seq λaN au ax a x G1 x1 r1=>Hy S rm G1 (F.step x1) r1
 |.IfExp .. =>aj.fail
 |.UnaryOp .Invert x p=>bh (x:=.UnaryOp .Invert x p) S rm G F
 |.UnaryOp .UAdd x p=>bh (x:=.UnaryOp .UAdd x p) S rm G F
 |.UnaryOp .USub x p=>bh (x:=.UnaryOp .USub x p) S rm G F
 |.Constant a b c=>bh (x:=.Constant a b c) S rm G F
 |.Name a b=>bh (x:=.Name a b) S rm G F
 |.NamedExpr a b c=>bh (x:=.NamedExpr a b c) S rm G F
 |.BinOp a b c d=>bh (x:=.BinOp a b c d) S rm G F
 |.Lambda a b c d=>bh (x:=.Lambda a b c d) S rm G F
 |.Dict a b c=>bh (x:=.Dict a b c) S rm G F
 |.Set a b c=>bh (x:=.Set a b c) S rm G F
 |.List a b=>bh (x:=.List a b) S rm G F
 |.Tuple a b c=>bh (x:=.Tuple a b c) S rm G F
 |.ListComp a b c d=>bh (x:=.ListComp a b c d) S rm G F
 |.SetComp a b c d=>bh (x:=.SetComp a b c d) S rm G F
 |.DictComp a b c d f=>bh (x:=.DictComp a b c d f) S rm G F
 |.GeneratorExp a b c d=>bh (x:=.GeneratorExp a b c d) S rm G F
 |.Await a b=>bh (x:=.Await a b) S rm G F
 |.Yield a b=>bh (x:=.Yield a b) S rm G F
 |.YieldFrom a b=>bh (x:=.YieldFrom a b) S rm G F
 |.Call a b c d=>bh (x:=.Call a b c d) S rm G F
 |.FormattedValue a b c d=>bh (x:=.FormattedValue a b c d) S rm G F
 |.JoinedStr a b=>bh (x:=.JoinedStr a b) S rm G F
 |.Attribute a b c=>bh (x:=.Attribute a b c) S rm G F
 |.Subscript a b c=>bh (x:=.Subscript a b c) S rm G F
 |.Starred a b=>bh (x:=.Starred a b) S rm G F
 |.Slice a b c d=>bh (x:=.Slice a b c d) S rm G F
theorem iD{x:Expr}{r:List Expr}(h:∀y p,x≠.Starred y p):starEach (x::r) env=(false,eval x env)::starEach r env:=by
 induction x using Expr.casesOn with
 |Starred y p=>exact absurd rfl (h y p)
 |_=>rfl
theorem ra(S:bQ R n ih)(rm:br A n){p:Pos}:∀{vs:List Expr}{Z:bo}{σ:af}{s:Shared},aq R Z σ s->FR R Z s sc e env X->aj R A [] Z σ s (spliced (backTo p (starEach vs env))) (gV ih sc e vs) (WL R):=by
 intro l0
 induction l0 with
 |nil=>
  rintro _ _ _ G F;exact aj.pure G .nil
 |cons x r hi=>
  rintro Z σ s G F;by_cases hs:∃y q,x=.Starred y q
  ·(refine iN hs λy q vW=>?_;clear hs;subst vW);intro v aE hm;refine M.aA hm λa au e1 _=>?_;rw[S.star]at e1;exact cT e1
  ·rw[iD (λy q h=>hs ⟨y,q,h⟩)];show aj R A [] Z σ s (eval x env>>=λv=>pure [v]>>=λhere=>(holding here (spliced (backTo p (starEach r env)))>>=λl=>pure (here++l))) (ih.E sc e x>>=λv=>gV ih sc e r>>=λvs=>pure (v::vs)) (WL R);refine(S.E x rm G F).seq λaN au ax a y G1 x1 r1=>?_;refine(?_:aj R A [] aN au ax (holding [y] (spliced (backTo p (starEach r env)))>>=λl=>pure ([y]++l)) _ _);refine aj.seq (aj.hold (hi G1 (F.step x1))) λcn cj aY as ys G2 x2 r2=>?_;exact aj.pure G2 (.cons (r1.step x2) r2)
theorem HA(S:bQ R n ih)(rm:br A n)(G:aq R Z σ s)(F:FR R Z s sc e env X){vs:List Expr}{p:Pos}:aj R A [] Z σ s (eval (.List vs p) env) (do dE (<-gV ih sc e vs)) (RV R):=by
 rw[arm_eval_List];refine aj.at' ((ra S rm G F).seq λaN au ax as ys G1 x1 r1=>?_);intro v aE hm Q hQ;(refine bH (tB hm) λEo En hz=>?_;subst Eo;subst En);refine bH (nq G1 (xs:=ys.toArray) (by simpa using r1) ax.toks) λg x r=>?_;exact N.of (wpAny_newObj_type (hQ _ _ _ g x r) (hd:=by
  have:=r1.length;unfold sizeOk;simp;unfold sizeLine;omega))
theorem Dn(S:bQ R n ih)(rm:br A n)(G:aq R Z σ s)(F:FR R Z s sc e env X){vs:List Expr}{c:Nat}{p:Pos}:aj R A [] Z σ s (eval (.Tuple vs c p) env) (do let vs<-gV ih sc e vs;if cM vs.length then pure (.tup vs)else M.fail) (RV R):=by
 rw[arm_eval_Tuple];refine aj.at' ((ra S rm G F).seq λaN au ax as ys G1 x1 r1=>?_);intro v aE hm Q hQ
 split at hm
 ·rename_i hz;(refine M.lG hm λwi iA=>?_;subst wi;subst iA);have:=i6 hz;exact N.of (wpAny_newObj_type (Az (tk:=ax.toks) G1 r1 (λ_ _ h=>h) hQ) (hd:=by
   have:=r1.length;unfold sizeOk;simp;unfold sizeLine;omega))
 ·exact cT hm
theorem HC(G:aq R Z σ s){p:Pos}:aj R A [] Z σ s (eval (.Dict [] [] p) env) (dq (.cG [] 0)) (RV R):=by
 intro v aE hm Q hQ;(refine cC λW3 QS=>?_;(refine cH (iu hm) λEu Et=>?_;subst Eu;subst Et);refine QS ?_);obtain⟨g,x⟩:=G.alloc (p:=(s.heap.objs.size,s.heap.objs.size)) (c:=.cG [] 0) (h':=s.heap.push {cls:=.type "dict",data:=.dict #[]}) (t:=s.toks) rfl
  (λa o e=>gm _ e) G.next G.next
  (λx=>⟨rfl,[],⟨_, #[],gk _ rfl,⟨rfl,rfl,rfl⟩,rfl,by intro e he;simp at he,.nil,nodup_nil⟩,.nil⟩)
 refine N.of (wpAny_Dict_empty (hQ _ _ _ g x (.ref (p:=(s.heap.objs.size,s.heap.objs.size)) ?_)));rw[<-G.len];simp
end
end
section
structure VD(R:Gr)(c:Str)(C:Addr):Prop where
 pg:plainGet R.K C Str.empty=true
 hd:hasDictIn R.K C=true
 sa:findIn R.K (.ref C) "__setattr__"=some (some (.builtin "object.__setattr__"))
 po:plainOver R.K C=true
 makes:makesIn R.K C=true
 kp:keepIn R.K (.ref C)=true
 fields:∀a,R.g.attrs.contains (c,a)=true->findIn R.K (.ref C) a=some none
 cV:∀n f,R.g.cV c n=some f->∃fa,findIn R.K (.ref C) n=some (some (.ref fa))/\typeIn R.K (.ref fa)=some (.type "function")/\LH R fa f
structure n7(R:Gr):Prop where
 XF:R.K.In R.eN.heap
 cls:∀c C,R.ca c=some C->VD R c C
 fns:∀n a f,R.fa n=some a->R.g.fn n=some f->LH R a f
 Ww:Kw R
 lim:R.eN.heap.NoLimit
section
variable{R:Gr}{A:Around}{X:List Addr}{Z:bo}{σ:af}{s:Shared}{n:Nat}{ih:f5}{sc:Scope}{e:ar}{env:Env}
theorem n7.here(W:n7 R)(G:aq R Z σ s):R.K.In s.heap:=W.XF.keeps G.base
theorem vV.len{h:Heap}{fs:List (Str×V)}{es:List DictEntry}(r:vV R Z h fs es):es.length=fs.length:=r.1.symm
theorem xt{k a:Str}{t:Tok}:Value.isStr (.str k t) a=(a==k):=by
 show(k==a)=(a==k);by_cases h:k=a
 ·subst h;rfl
 ·rw[beq_eq_false_iff_ne.mpr h,beq_eq_false_iff_ne.mpr (Ne.symm h)]
theorem vV.keys{h:Heap}{a:Str}{fs:List (Str×V)}{es:List DictEntry}(r:vV R Z h fs es):es.any (·.refKey)=false:=by
 rw[List.any_eq_false];intro e he;obtain⟨i,hi⟩:=mem_iff_getElem?.mp he;(refine cA (bg.got r hi) λp _ D0 _=>?_;obtain⟨t,ht⟩:=D0);unfold DictEntry.refKey;rw[ht];exact Bool.false_ne_true
theorem vV.look{h:Heap}{a:Str}{fs:List (Str×V)}{es:List DictEntry}(r:vV R Z h fs es):(Mine.Internal.look a fs=none/\es.find? (·.key.isStr a)=none)\/∃v en,Mine.Internal.look a fs=some v/\es.find? (·.key.isStr a)=some en/\aI R Z h v en.val:=by
 induction r using bg.ind with
 |nil=>exact .inl ⟨rfl,rfl⟩
 |cons p e fs es hv _ ih=>
  obtain⟨k,v⟩:=p;obtain⟨⟨t,ht⟩,hv⟩:=hv;have ht:e.key=.str k t:=ht;unfold Mine.Internal.look;(refine Eq.symm (find?_cons)▸?_;refine Eq.symm ht▸?_;refine Eq.symm xt▸?_);by_cases h:(a==k)=true
  ·rw[if_pos h,h];exact .inr (i2 v e rfl rfl hv)
  ·rw[if_neg h,show(a==k)=false by simpa using h];exact ih
theorem vV.put{h:Heap}{a:Str}{hsh:Int}{t:Tok}{v:V}{y:Value}(hv:aI R Z h v y){fs:List (Str×V)}{es:List DictEntry}(r:vV R Z h fs es):vV R Z h (Mine.Internal.put a v fs) (putL a hsh (.str a t) y es):=by
 induction r using bg.ind with
 |nil=>exact bg.cons ⟨⟨t,rfl⟩,hv⟩ .nil
 |cons p e fs es hw r ih=>
  obtain⟨k,w⟩:=p;obtain⟨u,hu⟩:=hw.1;have hu:e.key=.str k u:=hu;unfold Mine.Internal.put putL;rw[hu,xt];by_cases h:(a==k)=true
  ·rw[if_pos h,if_pos h];exact bg.cons ⟨⟨u,rfl⟩,hv⟩ r
  ·rw[if_neg h,if_neg h];exact bg.cons hw ih
theorem w5{a:Str}{v:V}:∀{fs:List (Str×V)},(fs.map (·.1)).Nodup->((put a v fs).map (·.1)).Nodup/\∀k,k∈(put a v fs).map (·.1)->k=a\/k∈fs.map (·.1)
 |[],_=>⟨by simp[put],λk h=>by simp[put]at h;exact .inl h⟩
 |(k,u)::r,h=>by
  have h1:=(nodup_cons.mp (show(k::r.map (·.1)).Nodup from h))
  obtain⟨h2,h3⟩:=w5 (a:=a) (v:=v) h1.2;unfold put;by_cases e:(a==k)=true
  ·simp only[e,if_true];exact⟨h,λk h=>.inr h⟩
  ·simp only[e,false_eq_true,if_false];refine⟨nodup_cons.mpr ⟨λq=>?_,h2⟩,λj hj=>?_⟩
   ·rcases h3 k q with rfl|q
    ·exact e (by simp)
    ·exact h1.1 q
   ·rcases bt hj with rfl|hj
    ·exact .inr (eO)
    ·rcases h3 j hj with q|q
     ·exact .inl q
     ·exact .inr (fX _ q)
theorem vV.lookIn{h:Heap}{a:Str}{fs:List (Str×V)}{es:List DictEntry}{n:Nat}(r:vV R Z h fs es):(Mine.Internal.look a fs=none/\PySem.W.lookIn a (dictOf es n)=some none)\/∃v x,Mine.Internal.look a fs=some v/\PySem.W.lookIn a (dictOf es n)=some (some x)/\aI R Z h v x:=by
 rw[lookIn_dict];unfold PySem.W.getL
 rcases r.look (a:=a)with⟨h1,h2⟩|⟨v,en,h1,h2,h3⟩
 ·left
  rw[h2,r.keys (a:=a)];exact⟨h1,rfl⟩
 ·right
  rw[h2];exact(i2 v en.val h1 rfl h3)
theorem ql{C:Addr}{p:Addr×Addr}{es:List DictEntry}{n:Nat}{h:Heap}(ha:h.get? p.1=some (instObj C p.2))(hb:h.get? p.2=some (dictOf es n)):PySem.W.InstAt h p.1 (instObj C p.2) C (some (dictOf es n)):=⟨ha,rfl,rfl,hb⟩
theorem CB{v:V}{y:Value}{h:Heap}(r:aI R Z h v y)(e:nk v=true):handedIn y=true:=by
 cases r<;>first|rfl|exact mO e
theorem xE(W:n7 R){g:G}(hg:R.g=g){o:V}{x:Value}{a:Str}(G:aq R Z σ s)(ho:aI R Z s.heap o x):o6 R A [] Z σ s (getAttr x a true) (aB g o a) (RV R):=by
 subst hg;refine ab.ref λE=>ab.isRef λi ei=>ab.zL λq e1=>ab.need λRv=>ab.opt λu h3=>ab.need λCA=>ab.pure λQ hQ=>?_;(refine ak ((ei▸ho).cE) λp hp Ee=>?_;subst Ee);refine gP (G.at hp e1) λ_ C es k hc ha hb hv _=>?_;have K:=W.cls q.1 C hc
 rcases hv.lookIn (a:=a) (n:=k)with⟨h4,_⟩|⟨v',y,h4,h5,h6⟩
 ·exact IA (Eq.trans h3.symm h4)
 ·rw[h3]at h4;obtain rfl:=bE h4;exact get_value (W.here G) (ql ha hb) (plainGet_of K.pg).1 (findObj_own (attr:=none) K.hd (K.fields a Rv) rfl h5) (CB h6 CA) (gF G h6 hQ _)
theorem wR(W:n7 R){g:G}(hg:R.g=g){o v:V}{x y:Value}{a:Str}(G:aq R Z σ s)(ho:aI R Z s.heap o x)(hv:aI R Z s.heap v y):o6 R A [] Z σ s (setAttr x a y) (bq g o a v) RU:=by
 subst hg;refine ab.ref λE=>ab.isRef λi ei=>ab.zL λq e1=>ab.need λRv=>ab.BJ λQ hQ=>?_;(refine ak ((ei▸ho).cE) λp hp wc=>?_;subst wc);obtain⟨Rv,hz⟩:=aP Rv;refine gP (G.at hp e1) λsM C es k hc ha hb hf rE=>?_;have K:=W.cls q.1 C hc;have X:=W.here G;have hlen:=hf.len;have:=i6 hz;refine set_plain X (ql ha hb) K.sa (osa_open (s:={s with toks:=s.toks+1}) (r:=none) X (ql ha hb) K.po (by unfold takerIn;rw[K.fields a Rv];rfl) λb=>?_);refine ak (any_some K.hd) λcd Cy oP=>?_;have D':(s.heap.update p.2 (Obj.putName a (PyData.keyHash R.w.params a) (.str a (s.toks+1)) y)).get? p.2=some (dictOf (putL a (PyData.keyHash R.w.params a) (.str a (s.toks+1)) y es) (PySem.W.putN a es k)):=by
  rw[Heap.get?_update_self _ hb (by rw[putName_dict];rfl),putName_dict]
 refine aw (a7 (aw (aw (wpAny_loadPart (s:={s with toks:=s.toks+1}) ha (aw (Looks.here (s:={s with toks:=s.toks+1}) (looks_clsIn X Cy) ?_))))));refine Eq.symm oP▸?_;refine a7 (a:=some p.2) (aw (a7 (aw ?_)));unfold nsSet;refine aw (aw (wpAny_askSetting (a7 (aw (wpAny_mkText (aw (wpAny_loadPart (s:={s with toks:=s.toks+1+1}) hb ?_)))))));dsimp only;have UY:(!es.toArray.any (·.key.isStr a)&&es.toArray.any (·.refKey))=false:=by
  rw[<-Array.any_toList,<-Array.any_toList,hf.keys (a:=a),Bool.and_false]
 rw[aRefKeyMayBeTheName_at,UY];refine wpAny_updatePart (s:={s with toks:=s.toks+1+1}) hb ?_;have hl:(putL a (PyData.keyHash R.w.params a) (.str a (s.toks+1)) y es).length<=es.length+1:=by
  have h1:=(hf.put (a:=a) (hsh:=PyData.keyHash R.w.params a) (t:=s.toks+1) hv).len;have h2:∀fs:List (Str×V),(put a v fs).length<=fs.length+1:=λfs=>by
   induction fs with
   |nil=>simp[put]
   |cons z r DI=>obtain⟨z1,z2⟩:=z;unfold put;split<;>simp<;>omega
  have:=h2 q.2
  omega
 refine aw (wpAny_lookBehind D' (pastItsLine_dict (by rw[List.size_toArray,sizeLine_eq];omega)) ?_)
 (refine cH (G.update (i:=i) (c':=.ins q.1 (put a v q.2)) (h':=s.heap.update p.2 (Obj.putName a (PyData.keyHash R.w.params a) (.str a (s.toks+1)) y)) (t:=s.toks+1+1) hp rfl (aT _ e1 rfl)
  (λb o eo n1 n2=>by rw[((Heap.SameBut.update ..).2 b n2)];exact eo) (λx=>⟨sM,C,_,_,hc,by rw[((Heap.SameBut.update ..).2 _ sM)];exact ha,D',(hf.mono x (fF.nil _)).put (hv.mono x (fF.nil _)),(w5 rE).1⟩)) λG1 x1=>?_)
 exact a7 (hQ _ _ _ G1 x1 trivial)
end
end
section
section
variable{R:Gr}{A:Around}{X:List Addr}{Z:bo}{σ:af}{s:Shared}{n:Nat}{ih:f5}{sc:Scope}{e:ar}{env:Env}
theorem r6{o:Expr}{a:Str}{t:Sem Value}(h:fJ o=true):attributeBase o a env t=t:=by
 induction o using Expr.casesOn with
 |Call f as ks p=>
  induction f using Expr.casesOn with
  |Name i q=>
   induction as using List.casesOn with
   |nil=>
    induction ks using List.casesOn with
    |nil=>exact mO h
    |cons=>rfl
   |cons=>rfl
  |_=>rfl
 |_=>rfl
theorem sS(S:bQ R n ih)(W:n7 R){g:G}(hg:R.g=g)(rm:br A n)(G:aq R Z σ s)(F:FR R Z s sc e env X){o:Expr}{a:Str}{p:Pos}:aj R A [] Z σ s (eval (.Attribute o a p) env) (if fJ o then do aB g (<-ih.E sc e o) a else M.fail) (RV R):=by
 split
 ·rename_i hb;rw[arm_eval_Attribute,r6 hb];refine(S.E o rm G F).seq λaN au ax v x G1 x1 r1=>aj.at' ?_;intro u aE hm Q hQ;refine N.bind (N.holding ((xE W hg G1 r1).toN u aE hm _ λaH s' y G' x' h=>?_));exact N.bind (N.of (wpAny_letTemporaryGo (show bJ _ _ _ _ _ from N.pure (hQ _ _ _ G' x' h))))
 ·exact aj.fail
noncomputable def Fj(e:Expr):Bool:= !Nat.beq e.ctorIdx 26
theorem sR(S:bQ R n ih)(rm:br A n)(G:aq R Z σ s)(F:FR R Z s sc e env X){o k:Expr}{p:Pos}(hk:Fj k=true):aj R A [] Z σ s (eval (.Subscript o k p) env) (do let ov<-ih.E sc e o;let kv<-ih.E sc e k;aR ov kv) (RV R):=by
 rw[arm_eval_Subscript];refine(S.E o rm G F).seq λaN au ax v x G1 x1 r1=>?_;refine aj.seq (aj.hold (S.E k rm G1 (F.step x1))) λcn cj aY kv y G2 x2 r2=>aj.at' ?_;refine(?_:aj R A [] cn cj aY (subscriptTail o k x y) (aR v kv) (RV R));refine(JH rm.zero G2 (r1.step x2) r2 λa b=>?_).toN
 induction k using Expr.casesOn with
 |Slice=>exact mO hk
 |_=>rfl
theorem qO(S:bQ R n ih)(rm:br A n)(G:aq R Z σ s)(F:FR R Z s sc e env X){o:Option Expr}:aj R A [] Z σ s (valueOrNone (evalOpt o env)) (ow ih sc e o) (λ_ _ a x=>IsPart x a):=by
 induction o using Option.casesOn with
 |none=>exact aj.pure G .none
 |some x=>
  intro v aE hm Q hQ;refine M.aA hm λu au e1 e2=>?_;refine M.aA e2 λi cj e3 e4=>?_;(refine cH (cJ e3) λe5 L4=>?_;subst L4);obtain⟨rfl,rfl⟩:=M.aM e4;refine S.E x rm G F u au e1 _ λaH s' y G' x' h=>?_;obtain⟨t,rfl⟩:=(jU e5▸h).int_inv;exact hQ _ _ _ G' x' (.int i t)
theorem Dp(S:bQ R n ih)(rm:br A n)(G:aq R Z σ s)(F:FR R Z s sc e env X){o:Expr}{lo hi:Option Expr}{p q:Pos}:aj R A [] Z σ s (eval (.Subscript o (.Slice lo hi none q) p) env) (do let ov<-ih.E sc e o;let l<-ow ih sc e lo;let h<-ow ih sc e hi;rb ov l h) (RV R):=by
 rw[arm_eval_Subscript,arm_eval_Slice];refine(S.E o rm G F).seq λaN au ax v x G1 x1 r1=>?_;intro u aE hm Q hQ;refine M.aA hm λl cj e1 hm=>?_;refine M.aA hm λh de e2 hm=>?_;refine N.bind (N.holding (N.bind (qO S rm G1 (F.step x1) l cj e1 _ λcn aY vl G2 x2 pl=>?_)));refine N.bind (N.holding (qO S rm G2 ((F.step x1).step x2) h de e2 _ λiz d8 vu G3 x3 pu=>?_));refine N.bind (N.holding (N.pure ?_));refine N.of (wpAny_newObj_type ?_);refine(show bJ _ _ (standAt p>>=λ_=>subscriptTail o (.Slice lo hi none q) x (.ref d8.heap.objs.size)) _ _ from N.at' (N.of ?_))
 exact JQ rm.zero G3 ((r1.step x2).step x3) pl pu hm λaH s' a G' x' r=>hQ _ _ _ G' ((x2.trans x3).trans x') r
theorem N.evalArgs{M:Model}{f:Value}{Q:Args->Shared->Prop}:∀{l:List (Bool×Sem Value)},l.any (·.1)=false->bJ M A (spliced l) (λvs s'=>Q ⟨vs,[]⟩ s') s->bJ M A (PySem.evalArgs f true l []) Q s
 |[],_,h=>by
  unfold PySem.evalArgs;refine(?_:bJ M A (spliced []>>=_) Q s);refine N.seq h λvs s' h'=>N.bind (N.pure (N.holding ?_));exact N.bind (N.pure (N.bind (N.pure (N.pure h'))))
 |(false,x)::r,_,h=>by
  unfold PySem.evalArgs;refine(?_:bJ M A (spliced ((false,x)::r)>>=_) Q s);refine N.seq h λvs s' h'=>N.holding ?_;exact N.bind (N.pure (N.bind (N.pure (N.pure h'))))
 |(true,x)::r,e,_=>by exact PA e
def HU(R:Gr)(h:Heap)(f:Value):Prop:=∃k,Looks (model R.prog R.w) h (keeperOf f) k
theorem nT{t:Sem Value}{f:Value}{first:List Value}{p:Pos}{args:List Expr}{fv:V}{vs:List V}{k:List V->M V}(S:bQ R n ih)(rm:br A n)(G:aq R Z σ s)(F:FR R Z s sc e env X)(hk:∀aH aE s',aq R aH aE s'->HU R s'.heap f)(hc:∀aH aE s' as xs,aq R aH aE s'->bu [] Z s aH s'->aD R aH s'.heap as xs->aj R A [] aH aE s' (call f (first++xs)) (k as) (RV R)):aj R A [] Z σ s (callWith p f first (backTo p (starEach args env)) (backToKw p (keywordEach [] env))) (do k (<-gV ih sc e args)) (RV R):=by
 intro u aE hm Q hQ;refine M.aA hm λas au e1 hm=>?_;unfold callWith;have plain:(backTo p (starEach args env)).any (·.1)=false:=by
  have:∀(l:List Expr)(σ aE:af)(as:List V),gV ih sc e l σ=some (as,aE)->(backTo p (starEach l env)).any (·.1)=false:=by
   intro l
   induction l with
   |nil=>intro _ _ _ _;rfl
   |cons x r DI=>
    intro σ aE as h;by_cases hs:∃y q,x=.Starred y q
    ·(refine iN hs λy q qz=>?_;clear hs;subst qz);refine M.aA h λa au e1 _=>?_;rw[S.star]at e1;exact cT e1
    ·rw[iD (λy q h=>hs (ml y q h))];refine M.aA h λa au _ h=>?_;refine M.aA h λYZ cj h2 _=>?_;refine(?_:(false||(backTo p (starEach r env)).any (·.1))=false);refine Eq.symm (DI _ _ _ h2)▸?_;rfl
  exact this args σ au as e1
 have ev:∀(Q':Args->Shared->Prop),(∀aH s' xs,aq R aH au s'->bu [] Z s aH s'->aD R aH s'.heap as xs->Q' ⟨xs,[]⟩ s')->bJ (model R.prog R.w) A (evalArgs f true (backTo p (starEach args env)) []) Q' s:=
  λQ' SY=>N.evalArgs plain (ra S rm G F as au e1 _ λaH s' xs G' x' r=>SY _ _ _ G' x' r)
 refine N.bind (N.holding (ev _ λaN ax xs G1 x1 r1=>N.at' ?_));obtain⟨kp,L⟩:=hk _ _ _ G1;refine N.bind (N.of (L.here ?_));refine Eq.symm plain▸?_;have fin:bJ (model R.prog R.w) A (call f (first++xs)) (λr s'=>bJ (model R.prog R.w) A (holding [r] point>>=λ_=>pure r) Q s') ax:=
  hc _ _ _ _ _ G1 x1 r1 u aE hm _ λaH s' a G' x' r=>N.bind (N.holding (N.point (N.pure (hQ _ _ _ G' (x1.trans x') r))))
 have tail:∀{t:Sem Value},bJ (model R.prog R.w) A t (λr s'=>bJ (model R.prog R.w) A (holding [r] point>>=λ_=>pure r) Q s') ax->bJ (model R.prog R.w) A (t>>=λr=>holding [r] point>>=λ_=>pure r) Q ax:=λh=>N.bind h;have marked:∀mk:Value,bJ (model R.prog R.w) A (callMarked mk f (first++xs) []) (λr s'=>bJ (model R.prog R.w) A (holding [r] point>>=λ_=>pure r) Q s') ax:=λmk=>N.keep fin
 induction kp using Keeper.casesOn with
 |frame=>
  refine(?_:bJ _ _ (if(backTo p (starEach args env)).length+2*(backToKw p (keywordEach [] env)).length > 30 then(call f (first++xs)>>=λr=>holding [r] point>>=λ_=>pure r)
   else(callMarked plainCall f (first++xs) []>>=λr=>holding [r] point>>=λ_=>pure r)) Q ax)
  split
  ·exact tail fin
  ·exact tail (marked _)
 |boundFrame=>
  refine(?_:bJ _ _ (if(backTo p (starEach args env)).length+2*(backToKw p (keywordEach [] env)).length > 30 then(call f (first++xs)>>=λr=>holding [r] point>>=λ_=>pure r)
   else(callMarked callOfAMethodObject f (first++xs) []>>=λr=>holding [r] point>>=λ_=>pure r)) Q ax)
  split
  ·exact tail fin
  ·exact tail (marked _)
 |machine=>exact tail fin
 |caller=>exact tail (N.operate fin)
end
end
section
noncomputable def Kf(r:List (Str×Value))(x:Str×Value):List (Str×Value):=if(r.lookup x.1).isNone then r++[x]else r
theorem fy{α:Type}(n:Str):∀(l r:List (Str×α)),(l++r).lookup n=(l.lookup n).or (r.lookup n):=by
 intro l0
 induction l0 with
 |nil=>
  rintro r;simp
 |cons hd l hi=>
  obtain⟨k,v⟩:=hd;rintro r;rw[List.cons_append,lookup_cons,lookup_cons];cases n==k with
  |true=>rfl
  |false=>exact hi r
theorem yg(n:Str):∀(l r:List (Str×Value)),(l.foldl Kf r).lookup n=(r.lookup n).or (l.lookup n):=by
 intro l0
 induction l0 with
 |nil=>
  rintro r;simp
 |cons hd l hi=>
  obtain⟨k,v⟩:=hd;rintro r;rw[foldl_cons,hi];unfold Kf;rw[lookup_cons]
  split
  ·rename_i h;rw[fy];have h':r.lookup k=none:=by simpa using h
   by_cases e:n=k
   ·subst e;rw[h'];simp
   ·have e':(n==k)=false:=by simpa using e
    simp[lookup_cons,e']
  ·rename_i h;by_cases e:n=k
   ·subst e;obtain⟨z,hz⟩:∃z,r.lookup n=some z:=by
     cases q:r.lookup n with
     |none=>rw[q]at h;simp at h
     |some z=>exact⟨z,rfl⟩
    simp[hz]
   ·have e':(n==k)=false:=by simpa using e
    simp[e']
theorem jh{α:Type}:∀{ps:List Str}{xs:List α}{i:Nat}{p:Str},ps.Nodup->ps[i]?=some p->(ps.zip xs).lookup p=xs[i]?:=by
 intro ps
 induction ps with
 |nil=>intro xs i p _ h;exact cT h
 |cons q ps hi=>
  intro xs i p hn h
  rcases xs with _|⟨x,xs⟩
  ·rfl
  rcases i with _|i
  ·(have qZ:=bE h;subst qZ);rw[zip_cons_cons,lookup_cons,beq_self_eq_true];rfl
  ·have pJ:=nodup_cons.mp hn;have e:(p==q)=false:=beq_eq_false_iff_ne.mpr λe=>pJ.1 (e▸fP (show ps[i]?=some p from h))
   rw[zip_cons_cons,lookup_cons,e];exact hi pJ.2 h
theorem sO{α:Type}{lk:Str->Option α}:∀{ps:List Str}{ys:List α},ys.length=ps.length->(∀(i:Nat)(p:Str),ps[i]?=some p->lk p=ys[i]?)->ps.filterMap (λn=>(lk n).map (n, ·))=ps.zip ys:=by
 intro ps
 induction ps with
 |nil=>
  intro ys hl _
  rcases ys with _|_
  ·rfl
  ·cases hl
 |cons p ps hi=>
  intro ys hl h
  rcases ys with _|⟨y,ys⟩
  ·cases hl
  ·refine(List.filterMap_cons_some (b:=(p,y)) (by rw[h 0 p rfl];rfl)).trans ?_;exact congrArg ((p,y):: ·) (hi (Nat.succ.inj hl) λi q hq=>h (i+1) q hq)
theorem Hj{a b c i:Nat}(h2:c<=a+b)(h3:b<=c)(h:a<=i):i-(c-b)=a+b-c+(i-a):=by
 rw[Nat.sub_sub_right _ h3,<-Nat.sub_add_comm h2,Nat.add_right_comm,Nat.add_sub_of_le h]
theorem Dd{xs ds:List Value}{ps:List Str}(h1:xs.length<=ps.length)(h2:ps.length<=xs.length+ds.length)(h3:ds.length<=ps.length):(xs++ds.drop (xs.length+ds.length-ps.length)).length=ps.length:=by
 rw[length_append,length_drop,<-Nat.add_sub_assoc (Nat.sub_le_of_le_add (Nat.add_comm xs.length _▸Nat.add_le_add_left h1 _)),Nat.sub_sub_self h2]
theorem Hk{ps:List Str}{xs ds:List Value}(hn:ps.Nodup)(h1:xs.length<=ps.length)(h2:ps.length<=xs.length+ds.length)(h3:ds.length<=ps.length):ps.filterMap (λn=>(((((ps.drop (ps.length-ds.length)).zip ds).foldl Kf (ps.zip xs))).lookup n).map (n, ·))=ps.zip (xs++ds.drop (xs.length+ds.length-ps.length)):=by
 refine sO (Dd h1 h2 h3) λi p hp=>?_;rw[yg,jh hn hp];by_cases h:i<xs.length
 ·rw[getElem?_append_left h,getElem?_eq_getElem h];rfl
 ·have h':xs.length<=i:=le_of_not_lt h;have h5:ps.length-ds.length<=i:=ao (Nat.sub_le_of_le_add h2) h';rw[List.getElem?_append_right h',getElem?_eq_none h',none_or,
   jh (i:=i-(ps.length-ds.length)) (hn.sublist (List.drop_sublist _ _)) (by rw[getElem?_drop,Nat.add_sub_of_le h5];exact hp),getElem?_drop,Hj h2 h3 h']
theorem xJ{ps:List Str}{xs:List Value}{k:Nat}(hn:ps.Nodup)(h:k<=xs.length):(ps.take k).filter (λn=>((ps.zip xs).lookup n).isNone)= []:=by
 rw[List.filter_eq_nil_iff];intro p hp;obtain⟨i,hi⟩:=mem_iff_getElem?.mp hp;replace hi:=Eq.trans (Eq.symm (List.getElem?_take)) hi
 split at hi
 ·rename_i yy;rw[jh hn hi,getElem?_eq_getElem (by omega)];simp
 ·exact cT hi
theorem zO{α β:Type}{f:α->β->Sem (ForInStep β)}{g:β->α->β}(h:∀a b,f a b=pure (.yield (g b a))):∀(l:List α)(b:β),forIn l b f=(pure (l.foldl g b):Sem β):=by
 intro l0
 induction l0 with
 |nil=>
  rintro b;simp
 |cons a l hi=>
  rintro b;rw[forIn_cons,h];exact hi (g b a)
def VE(R:Gr)(Z:bo)(h:Heap)(ps:List Str)(own:List (Str×V))(binds:List (Str×Value)):Prop:=∃(vs:List V) (xs:List Value),own=ps.zip vs/\binds=ps.zip xs/\aD R Z h vs xs
section
variable{R:Gr}{A:Around}{Z:bo}{σ:af}{s:Shared}
theorem uD{E:Value->Shared->Prop}{Q:Option (Array Value)->Shared->Prop}(h:s.heap.IsTuple t xs)(hQ:Q (some xs) s):wpAny (model R.prog R.w) A (seqItems? (.ref t)) Q E s:=by
 (refine JO h λo ho h1 h2 h3=>?_;clear h);skip;refine aw (wpAny_load ho ?_);refine Eq.symm h3▸?_;exact a7 hQ
noncomputable def LD(xs:List Value)(ps:List Str)(A2:Sem (List (Str×Value)))(ds:List Value):Sem (List (Str×Value)):=
 if(!((ps.take (ps.length-ds.length)).filter λn=>((ps.zip xs).lookup n).isNone).isEmpty)=true then A2 else
 forIn ((ps.drop (ps.length-ds.length)).zip ds) (ps.zip xs) (λx r=>if(r.lookup x.1).isNone=true then pure (.yield (r++[x]))else pure (.yield r))>>=λslots=>
 pure ((ps++[]).filterMap λn=>(slots.lookup n).map (n, ·))
noncomputable def Hl(xs:List Value)(ps:List Str)(A1 A2:Option (Array Value)->Sem (List (Str×Value)))(o:Option (Array Value)):Sem (List (Str×Value)):=
 if(decide (xs.length > ps.length)&&true)=true then A1 o else LD xs ps (A2 o) (((o.getD #[]).toList).drop (((o.getD #[]).toList).length-ps.length))
theorem Du:∀{P:Arguments},P.posonlyargs= []->P.kwonlyargs= []->P.vararg=none->P.kwarg=none->P=⟨[],P.args,none,[],P.kw_defaults,none,P.defaults⟩:=by
 intro P a b c d
 induction P using Arguments.casesOn;subst a;subst b;subst c;subst d;rfl
theorem Df{C:Sem (List (Str×Value))->Prop}(p1:fd.params.posonlyargs= [])(p2:fd.params.args.map (·.arg)=ps)(p3:fd.params.kwonlyargs= [])(p4:fd.params.vararg=none)(p5:fd.params.kwarg=none)(h:∀A1 A2,C (seqItems? fd.defaults>>=Hl xs ps A1 A2)):C (bindArgs fd ⟨xs,[]⟩):=by
 subst p2;rw[show bindArgs fd ⟨xs,[]⟩=bindArgs {fd with params:=⟨[],fd.params.args,none,[],fd.params.kw_defaults,none,fd.params.defaults⟩} ⟨xs,[]⟩ from congrArg (λP=>bindArgs {fd with params:=P} ⟨xs,[]⟩) (Du p1 p3 p4 p5)]
 exact h _ _
theorem De{xs ds:List Value}{ps:List Str}{A1 A2:Option (Array Value)->Sem (List (Str×Value))}{o:Option (Array Value)}{s s':Shared}{Q:List (Str×Value)->Shared->Prop}{E:Value->Shared->Prop}(hn:ps.Nodup)(h1:xs.length<=ps.length)(h2:ps.length<=xs.length+ds.length)(h3:ds.length<=ps.length)(ho:o.getD #[]=ds.toArray/\s'=s)(hQ:Q (ps.zip (xs++ds.drop (xs.length+ds.length-ps.length))) s):wpAny (model R.prog R.w) A (Hl xs ps A1 A2 o) Q E s':=by
 unfold Hl;rw[ho.1,ho.2,decide_eq_false (Nat.not_lt.2 h1),if_neg (by exact Bool.false_ne_true),show ds.toArray.toList=ds from rfl,Nat.sub_eq_zero_of_le h3,List.drop_zero]
 unfold LD;rw[xJ hn (Nat.sub_le_of_le_add h2),if_neg (by exact Bool.false_ne_true),zO (g:=Kf) (λx r=>(apply_ite (λz=>(pure (ForInStep.yield z):Sem _)) _ _ _).symm),append_nil];refine aw (a7 ?_);rw[Hk hn h1 h2 h3];exact a7 hQ
theorem xW{f:kI}{fd:FuncData}{vs:List V}{xs:List Value}{own:List (Str×V)}(G:aq R Z σ s)(hv:aD R Z s.heap vs xs)(hm:mi f vs=some own)(hn:f.ps.Nodup)(S5:f.ds.length<=f.ps.length)(p1:fd.params.posonlyargs= [])(p2:fd.params.args.map (·.arg)=f.ps)(p3:fd.params.kwonlyargs= [])(p4:fd.params.vararg=none)(p5:fd.params.kwarg=none)(dd:(f.ds= []/\fd.defaults=.none)\/∃t xs,fd.defaults=.ref t/\R.eN.heap.IsTuple t xs/\xs.size=f.ds.length/\∀Z h,aD R Z h f.ds xs.toList){Q:List (Str×Value)->Shared->Prop}{E:Value->Shared->Prop}(hQ:∀binds,VE R Z s.heap f.ps own binds->Q binds s):wpAny (model R.prog R.w) A (bindArgs fd ⟨xs,[]⟩) Q E s:=by
 unfold mi at hm
 split at hm
 ·rename_i hl;obtain rfl:=bE hm;have hlen:=hv.length;have key:∀ds:List Value,aD R Z s.heap f.ds ds->Q (f.ps.zip (xs++ds.drop (xs.length+ds.length-f.ps.length))) s:=λds hd=>hQ _ ⟨_,_,rfl,rfl,by
   have e:=hd.length;(refine hlen▸?_;refine e▸?_);exact hv.append (aD.drop _ hd)⟩
  have main:∀ds:List Value,aD R Z s.heap f.ds ds->wpAny (model R.prog R.w) A (seqItems? fd.defaults) (λo s'=>o.getD #[]=ds.toArray/\s'=s) E s->wpAny (model R.prog R.w) A (bindArgs fd ⟨xs,[]⟩) Q E s:=λds hd Ux=>by
   have e:=hd.length;refine Df (C:=λm=>wpAny (model R.prog R.w) A m Q E s) p1 p2 p3 p4 p5 λA1 A2=>?_;refine aw (wpAny_mono Ux (λo s' h=>?_) λ_ _ x=>x);exact De hn (hlen▸hl.1) (by(refine hlen▸?_;refine e▸?_);exact hl.2) (e▸S5) h (key ds hd)
  rcases dd with⟨d1,d2⟩|⟨t,ys,d1,d2,d3,d4⟩
  ·refine main [] (by refine Eq.symm d1▸?_;exact .nil) ?_;refine Eq.symm d2▸?_;exact a7 ⟨rfl,rfl⟩
  ·refine main ys.toList (d4 _ _) ?_;refine Eq.symm d1▸?_;have YM:s.heap.IsTuple t ys:=by
    (refine ak d2 λo ho r=>?_;clear d2);exact⟨o,G.base _ _ ho,r⟩
   exact uD YM ⟨by simp,rfl⟩
 ·exact cT hm
theorem lu:∀(names:List (Str×NameKind))(n:Nat)(acc:List (Str×Addr)),((x,NameKind.cell)∈names\/(acc.lookup x).isSome=true)->((cellsFrom n names acc).lookup x).isSome=true:=by
 intro l0
 induction l0 with
 |nil=>
  rintro n acc h
  rcases h with h|h
  ·cases h
  ·exact h
 |cons hd r hi=>
  obtain⟨y,k⟩:=hd;rintro n acc h;unfold cellsFrom
  split
  ·rename_i hk;refine hi _ _ ?_;by_cases e:x=y
   ·right;subst e;simp
   ·rcases h with h|h
    ·rcases bt h with h|h
     ·(injection h with PZ;subst PZ);exact absurd rfl e
     ·exact .inl h
    ·right
     have e':(x==y)=false:=by simpa using e
     simpa[lookup_cons,e'] using h
  ·rename_i hk;refine hi _ _ ?_
   rcases h with h|h
   ·rcases bt h with h|h
    ·(injection h with E6 PQ;subst E6;subst PQ);exact absurd rfl hk
    ·exact .inl h
   ·exact .inr h
theorem t8{kindOf:Str->Option NameKind}:∀(r:List (Str×Value))(m:Str->Option Value),x∉r.map (·.1)->bindL kindOf r m x=m x
 |[],m,_=>rfl
 |(n,v)::r,m,h=>by
  have h1:x≠n:=λq=>h (by simp[q]);have h2:x∉r.map (·.1):=λq=>h (by simp at q ⊢;exact .inr q);unfold bindL;rw[t8 r _ h2]
  split
  ·simp[h1]
  ·rfl
theorem t9{kindOf:Str->Option NameKind}:∀(r:List (Str×Value))(m:Str->Option Value),x∉r.map (·.1)->bindC kindOf r m x=m x
 |[],m,_=>rfl
 |(n,v)::r,m,h=>by
  have h1:x≠n:=λq=>h (by simp[q]);have h2:x∉r.map (·.1):=λq=>h (by simp at q ⊢;exact .inr q);unfold bindC;rw[t9 r _ h2]
  split
  ·rfl
  ·simp[h1]
theorem xX{kindOf:Str->Option NameKind}(hk:kindOf x=some .local):∀(r:List (Str×Value))(m:Str->Option Value),(r.map (·.1)).Nodup->r.lookup x=some y->bindL kindOf r m x=some y
 |[],m,_,h=>by exact cT h
 |(n,v)::r,m,hn,h=>by
  have pJ:=nodup_cons.mp (show(n::r.map (·.1)).Nodup from hn)
  unfold bindL;by_cases e:x=n
  ·subst e;rw[t8 r _ pJ.1,if_pos hk]
   simpa using h
  ·have e':(x==n)=false:=by simpa using e
   rw[lookup_cons,e']at h;exact xX hk r _ pJ.2 h
theorem xY{kindOf:Str->Option NameKind}(hk:kindOf x≠some .local):∀(r:List (Str×Value))(m:Str->Option Value),(r.map (·.1)).Nodup->r.lookup x=some y->bindC kindOf r m x=some y
 |[],m,_,h=>by exact cT h
 |(n,v)::r,m,hn,h=>by
  have pJ:=nodup_cons.mp (show(n::r.map (·.1)).Nodup from hn)
  unfold bindC;by_cases e:x=n
  ·subst e;rw[t9 r _ pJ.1,if_neg hk]
   simpa using h
  ·have e':(x==n)=false:=by simpa using e
   rw[lookup_cons,e']at h;exact xY hk r _ pJ.2 h
theorem ij{α:Type}{ps:List Str}{xs:List α}{p:Str×α}(h:p∈ps.zip xs):p.1∈ps:=by
 obtain⟨i,hi⟩:=mem_iff_getElem?.mp h;rw[List.getElem?_zip_eq_some]at hi;exact fP hi.1
theorem oi{α:Type}:∀{ps:List Str}{xs:List α},ps.Nodup->((ps.zip xs).map (·.1)).Nodup:=by
 intro ps
 induction ps with
 |nil=>intro _ _;exact nodup_nil
 |cons p ps hi=>
  intro xs h
  rcases xs with _|⟨x,xs⟩
  ·exact nodup_nil
  have h':=nodup_cons.mp h;rw[zip_cons_cons,map_cons];refine nodup_cons.mpr ⟨λq=>h'.1 ?_,hi h'.2⟩;refine dC q λz hz e=>?_;have e':z.1=p:=e;exact e'▸ij hz
theorem xl{h:Heap}{x:Str}{ps:List Str}:∀{vs:List V}{xs:List Value}{v:V},aD R Z h vs xs->Mine.Internal.look x (ps.zip vs)=some v->∃y,(ps.zip xs).lookup x=some y/\aI R Z h v y:=by
 induction ps with
 |nil=>intro vs xs v _ e;exact cT e
 |cons p ps ih=>
  intro vs xs u r e
  induction vs using List.casesOn with
  |nil=>exact cT e
  |cons v vs=>
   obtain⟨y,ys,rfl,hv,r⟩:=r.fM;rw[zip_cons_cons]at e ⊢;unfold Mine.Internal.look at e;rw[lookup_cons];by_cases q:(x==p)=true
   ·rw[if_pos q]at e;rw[q];exact⟨y,rfl,bE e▸hv⟩
   ·rw[if_neg q]at e;rw[show(x==p)=false by simpa using q];exact ih r e
theorem Fy{α:Type}{l:List (Str×α)}{n:Str}{c:α}(h:l.lookup n=some c):(n,c)∈l:=mem_of_lookup h
theorem tU{f:kI}{qual:Str}{func:Option Addr}{code:Value}(G:aq R Z σ s)(hk:f.sc.kind=.function)(hf:∀x,f.sc.names.lookup x≠some .free)(Fh:∀x∈f.ps,f.sc.names.lookup x=some .local\/f.sc.names.lookup x=some .cell)(hn:f.ps.Nodup){vs:List V}{xs:List Value}(hv:aD R Z s.heap vs xs){Q:Env->Shared->Prop}{E:Value->Shared->Prop}(hQ:∀env s' X,aq R Z σ s'->bu [] Z s Z s'->(∀a∈X,s.heap.get? a=none)->FR R Z s' f.sc ⟨f.ps.zip vs,[]⟩ env X->(∃cells,env=newEnv f.sc s.heap.objs.size mainGlobals cells qual func code none builtinsNs)->((∀x∈f.sc.names,x.2≠.cell)->env.cells= []/\X= [env.locals])->(∃h' tk,s'={s with heap:=h',toks:=tk}/\∀b o,s.heap.get? b=some o->h'.get? b=some o)->Q env s'):wpAny (model R.prog R.w) A (newFunctionEnv f.sc mainGlobals [] (f.ps.zip xs) qual func code none builtinsNs) Q E s:=by
 have Lz:∀x,f.sc.names.lookup x=some .cell->((cellsFrom (s.heap.objs.size+1) f.sc.names []).lookup x).isSome=true:=λx hx=>lu _ _ _ (.inl (mem_of_lookup hx));refine wpAny_newFunctionEnv_cells hk (λx hx=>?_) λenv he s' I=>?_
 ·rcases Fh x.1 (ij hx)with h|h
  ·exact .inl h
  ·exact .inr ⟨h,Lz _ h⟩
 ·(refine cw (I.done) λh' tk D8 keep=>?_;subst D8);obtain⟨G1,x1⟩:=fE (t:=tk) G keep;have Rd:env.locals=s.heap.objs.size:=by rw[he];rfl
  have vn:env.cells=cellsFrom (s.heap.objs.size+1) f.sc.names []:=by rw[he];rfl
  have V2:env.scope=f.sc:=by rw[he];rfl
  have UN:∀x,env.kindOf x=f.sc.names.lookup x:=λx=>by unfold Env.kindOf;rw[V2]
  have fresh:∀a,s.heap.objs.size<=a->s.heap.get? a=none:=λa ha=>Heap.get?_none_of_le ha;have Fz:∀a,a∈env.locals::f.sc.names.filterMap (λp=>env.cells.lookup p.1)->a=env.locals\/∃n,env.cells.lookup n=some a:=λa ha=>by
   rcases bt ha with h|h
   ·exact .inl h
   ·refine ak (mem_filterMap.mp h) λp _ h=>?_;exact .inr ⟨_,h⟩
  have newX:∀a,a∈env.locals::f.sc.names.filterMap (λp=>env.cells.lookup p.1)->s.heap.get? a=none:=λa ha=>by
   rcases Fz a ha with rfl|⟨n,h⟩
   ·rw[Rd];exact fresh _ (Nat.le_refl _)
   ·have:=I.above n a (mem_of_lookup h);rw[Rd]at this;exact fresh _ (cF this)
  refine hQ env _ (env.locals::f.sc.names.filterMap λp=>env.cells.lookup p.1) G1 x1 newX ⟨by rw[V2];exact hk,λx k h=>.inl (by rw[UN];exact h),by rw[he];rfl,by rw[he];rfl,λa ha=>?_,λa ha=>?_,
   eO,(aT _ I.toInCall.ns (λx v hx hl=>?_)),λx hx=>?_,λx y c hx hy h1 h2=>?_,λx v hx=>absurd hx (hf x),λx hx=>absurd hx (hf x),λx hx=>absurd hx (hf x)⟩ ⟨cellsFrom (s.heap.objs.size+1) f.sc.names [],he⟩ (λhc=>?_) (ef h' tk rfl keep)
  ·refine⟨λq=>?_,?_⟩
   ·obtain⟨o,e⟩:=G.live q;exact cT (Eq.trans (newX a ha).symm e)
   ·cases h:R.eN.heap.get? a with
    |none=>rfl
    |some o=>have z:=newX a ha;exact IA (Eq.trans (G.base a o h).symm z)
  ·rcases Fz a ha with rfl|⟨n,h⟩
   ·refine fS (I.toInCall.ns) λo _ _ ho hd _=>?_;exact(aT o ho (.inl (by rw[hd];trivial)))
   ·refine ak (I.cell n a h) λo ho hd=>?_;exact(aT o ho (.inl (by rw[hd];trivial)))
  ·refine ak (xl hv hl) λy h1 h2=>?_;exact(aT y (xX (by rw[UN];exact hx) _ _ (oi hn) h1) (h2.step x1))
  ·refine eL (isSome_iff_exists.mp (Lz x hx)) λc hc=>?_;rw[<-vn]at hc;refine(dg c _ hc (I.cell x c hc) (fX _ (mem_filterMap.mpr (aT _ (mem_of_lookup hx) hc))) (λq=>Nat.lt_irrefl _ (q▸I.above x c (mem_of_lookup hc))) (λv hl=>?_));refine ak (xl hv hl) λy h1 h2=>?_;exact(aT y (xY (by rw[UN,hx];decide) _ _ (oi hn) h1) (h2.step x1))
  ·exact name_of_addr I.apart (mem_of_lookup h1) (mem_of_lookup h2)
  ·have:cellsFrom (s.heap.objs.size+1) f.sc.names []= []:=by
    have:∀(l:List (Str×NameKind))(n:Nat),(∀x∈l,x.2≠.cell)->cellsFrom n l []= []:=by
     intro l
     induction l with
     |nil=>intro n _;rfl
     |cons x r DI=>
      intro n h;obtain⟨a,k⟩:=x;unfold cellsFrom;have:(k==NameKind.cell)=false:=by simpa using h (a,k) eO
      refine Eq.symm this▸?_;exact DI n λy hy=>h y (fX _ hy)
    exact this _ _ hc
   (refine Eq.symm vn▸?_;refine Eq.symm this▸?_);exact⟨rfl,by simp⟩
end
end
section
section
variable{R:Gr}{A:Around}{X:List Addr}{Z:bo}{σ:af}{s:Shared}{n:Nat}{ih:f5}{sc:Scope}{e:ar}{env:Env}
theorem jQ(S:bQ R n ih)(rm:br A n):∀{l:List Stmt}{Z:bo}{σ:af}{s:Shared}{e:ar},aq R Z σ s->FR R Z s sc e env X->aj R A X Z σ s (execs l env) (dx ih sc e l) (DE R sc env X):=by
 intro l0
 induction l0 with
 |nil=>
  rintro _ _ _ _ G F;exact aj.pure G ⟨trivial,F⟩
 |cons st r hi=>
  rintro Z σ s e G F;rw[execs_cons];show aj R A X Z σ s _ (ih.S sc e st>>=λx=>match x.1 with
   |.next=>dx ih sc x.2 r
   |f=>pure (f,x.2)) _
  refine(S.S st rm G F).seq λaN au ax fl f G1 x1 r1=>?_;obtain⟨fl,e'⟩:=fl;(refine cH r1 λh1 F1=>?_;clear r1)
  induction fl using Fl.casesOn with
  |next=>
   induction f using Flow.casesOn with
   |next=>exact hi G1 F1
   |_=>exact h1.elim
  |brk=>
   induction f using Flow.casesOn with
   |brk=>exact aj.pure G1 ⟨trivial,F1⟩
   |_=>exact h1.elim
  |cont=>
   induction f using Flow.casesOn with
   |cont=>exact aj.pure G1 ⟨trivial,F1⟩
   |_=>exact h1.elim
  |ret v=>
   induction f using Flow.casesOn with
   |ret y=>exact aj.pure G1 ⟨h1,F1⟩
   |_=>exact h1.elim
theorem br.deeper(rm:br A (n+1)):br (A.deeper env) n:=⟨rm.handled,by have:=rm.depth;refine(?_:A.depth+1+2*n<900);omega,by have:=rm.units;refine(?_:A.units+3+20*n+100<9900);omega⟩
theorem br.less(rm:br A (n+1)):br A n:=rm.mono (le_succ n)
theorem j6(W:n7 R)(G:aq R Z σ s):s.heap.NoLimit:=W.lim.keeps G.base
set_option backward.match.sparseCases false in
noncomputable def LC(ih:f5)(f:kI)(own:List (Str×V)):M V:=do
 let (fl,_)<-dx ih f.sc ⟨own,[]⟩ f.body
 match fl with
 |.ret v=>pure v
 |.next=>pure .none
 |_=>M.fail
theorem JX(S:bQ R n ih)(W:n7 R)(rm:br A (n+1))(G:aq R Z σ s)(K:LH R a f)(hv:aD R Z s.heap vs xs)(hm:mi f vs=some own)(hg:f.sc.isGenerator=false):aj R A [] Z σ s (call (.ref a) xs) (LC ih f own) (RV R):=by
 intro u aE hr Q hQ;refine iM (K.obj) λo fd ho hd hb hs UP gH H7 Cy p1 p2 p3 p4 p5 dd=>?_;have zF:A.depth<recursionLimit:=by have:=rm.depth;unfold recursionLimit;omega
 refine N.call (aW.NM (body:=f.body) zF (G.base _ _ ho) hd (by rw[hs];exact K.xO) (by rw[hs];exact hg) hb ?_ ?_)
 ·(refine jR Cy λc oc ws t e1 e2 e3=>?_;clear Cy);exact⟨c,oc,ws,t,e1,G.base _ _ e2,e3⟩
 ·refine N.of (xW G hv hm K.nodup K.S5 p1 p2 p3 p4 p5 dd λbinds hb=>?_);(refine bf hb λus ys qy Pn Uv=>?_;clear hb;subst qy;subst Pn);rw[hs,UP,gH,H7];refine N.of (tU G K.kind K.frees K.Fh K.nodup Uv λenv s' X G1 x1 hX F1 _ _ _=>?_);refine⟨j6 W G1,aW.func ?_⟩;refine M.aA hr λfl au e1 e2=>?_;obtain⟨fl,e'⟩:=fl;refine jQ S rm.deeper G1 F1 _ _ e1 _ λcn aY fw G2 x2 r2=>?_;obtain⟨r2,F2⟩:=r2;have xx:bu [] Z s cn aY:=bu.drop x1 (Y:=X) (by simpa using x2) hX
  induction fl using Fl.casesOn with
  |next=>
   obtain⟨rfl,rfl⟩:=M.aM e2
   induction fw using Flow.casesOn with
   |next=>exact hQ _ _ _ G2 xx .none
   |_=>exact r2.elim
  |ret v=>
   obtain⟨rfl,rfl⟩:=M.aM e2
   induction fw using Flow.casesOn with
   |ret y=>exact hQ _ _ _ G2 xx r2
   |_=>exact r2.elim
  |_=>exact cT e2
end
section
variable{R:Gr}{A:Around}{X:List Addr}{Z:bo}{σ:af}{s:Shared}{n:Nat}{ih:f5}
theorem aW.sQ{prog:Program}{w:World}{id:String}{args:Args}{b:Builtin}{Q:Flow->Shared->Prop}(hq:(Code.builtin id args).quiet=true)(hb:entryFor table id=some b)(hc:∀Q':Unit->Shared->Prop,Q' () s->wpAny (model prog w) A.in1 (checkBuiltinCall id args) Q' (λ_ _=>False) s)(h:bJ (model prog w) (A.under (.builtin id args)) (b args) (rM (model prog w) A Q) s)(gH:f9 (.builtin id args)=true:=by rfl):aW (model prog w) A (.call (.builtin id) args) Q s:=by
 refine aW.tree ?_;refine(?_:bJ _ A.in1 (do checkBuiltinCall id args;again (.builtin id args)) _ s);refine N.bind (N.of (hc _ (show bJ _ _ _ _ _ from N.pure ⟨hq,aW.tree ?_ gH⟩)))
 refine Eq.symm (pQ hb)▸?_;exact h
theorem Qu{C fI:Addr}{rest:List Value}{Q:Value->Shared->Prop}(Y:Makes (model R.prog R.w) s.heap C)(hi:Looks (model R.prog R.w) s.heap (typeLookup (.ref C) "__init__") (some (.ref fI)))(hb:∀self,Looks (model R.prog R.w) s.heap (bindSpecial (.ref fI) self) (.ref fI,[self]))(hq:bJ (model R.prog R.w) (A.under (.builtin "type.__call__" ⟨.ref C::rest,[]⟩)) (call (.ref fI) (.ref (s.heap.objs.size+1)::rest)) (λv s'=>v=.none/\Q (.ref (s.heap.objs.size+1)) s') {s with heap:=(s.heap.push emptyDict).push (instObj C s.heap.objs.size)}):bJ (model R.prog R.w) A (call (.ref C) rest) Q s:=by
 have Y':=Y;(refine cC λSn FY=>?_;obtain⟨⟨oc,od,cd,sl,hC,e1,e2,e4⟩,made,base,self,top,call,typ⟩:=Y;refine FY ?_);refine N.call (aW.tree ?_);refine(?_:bJ _ A.in1 (callAny (.ref C) _) _ s);skip;refine N.bind (N.of (wpAny_load hC ?_));refine(?_:bJ _ _ (callAny.viaDunder (.ref C) _) _ _);skip;refine N.bind (N.of (call.here ?_));dsimp only;rw[tc_bind];refine N.bind (N.pure (N.bind (N.pure ?_)));refine N.pure (a:=Fin.again (.call (.builtin "type.__call__") ⟨.ref C::rest,[]⟩)) ⟨rfl,?_⟩;refine aW.sQ (Code.quiet_builtin _ (by decide +kernel)) entry_typeCall (λQ' h'=>check_slot tc_kind tc_split typ (tc_args _ _ _) h') ?_ (by rfl);skip;have hm:Looks (model R.prog R.w) s.heap (mroOf (.ref C)) cd.mro:=((Looks.ld (part:=none) hC).andThen .now).andThen .now;refine N.bind (N.of (hm.here ?_));refine Eq.symm e4▸?_;dsimp only[false_eq_true,if_false];refine N.bind (N.of (made.here ?_));refine N.bind (N.pure ?_);obtain⟨hh,g,d,t,os⟩:=s;dsimp only at *;have k:∀b o,hh.get? b=some o->((hh.push emptyDict).push (instObj C hh.objs.size)).get? b=some o:=λb o e=>gm _ (gm _ e);have hx:((hh.push emptyDict).push (instObj C hh.objs.size)).get? (hh.objs.size+1)=some (instObj C hh.objs.size):=by
  rw[<-Heap.size_push (h:=hh) (o:=emptyDict)];exact gk _ rfl
 have t1:Looks (model R.prog R.w) ((hh.push emptyDict).push (instObj C hh.objs.size)) (typeOf (.ref (hh.objs.size+1))) (.ref C):=(Looks.ld hx).andThen .now;refine N.bind (N.holding (N.call (aW.of (new_K (Y:=Y') hi (.inl rfl) ?_))));refine N.bind (N.of (Looks.here (s:=⟨(hh.push emptyDict).push (instObj C hh.objs.size),g,d,t,os⟩) (t1.andThen (self.keeps k)) ?_));skip;refine N.bind (N.holding ?_);skip;refine N.bind (N.bind (N.of (Looks.here (s:=⟨(hh.push emptyDict).push (instObj C hh.objs.size),g,d,t,os⟩) t1 ?_)));refine N.of (Looks.here (s:=⟨(hh.push emptyDict).push (instObj C hh.objs.size),g,d,t,os⟩) (hi.keeps k) ?_);skip;refine N.holding (N.bind (N.of (Looks.here (s:=⟨(hh.push emptyDict).push (instObj C hh.objs.size),g,d,t,os⟩) ((hb _).keeps k) ?_)));refine N.bind (N.mono hq λv s' h=>?_);obtain⟨rfl,h⟩:=h;exact N.pure (N.pure h)
end
end
section
theorem gI:PlainAttrs "bytearray":=
 ⟨⟨"bytearray.__getattribute__",by rw[typeLookup_type,builtinLookup_eq_fast];kernel_rfl,by decide +kernel⟩,by rw[typeLookup_type,builtinLookup_eq_fast];kernel_rfl⟩
section
variable{R:Gr}{A:Around}{X:List Addr}{Z:bo}{σ:af}{s:Shared}{n:Nat}{ih:f5}{sc:Scope}{e:ar}{env:Env}
noncomputable def yt(R:Gr):V->Prop
 |.fn n=>(R.g.fn n).isSome=true
 |.cls _|.bi _|.ty _=>True
 |_=>False
theorem BF(C:Addr)(rest:List Value):A.under (.builtin "type.__call__" ⟨.ref C::rest,[]⟩)={A.in1 with depth:=A.depth+1}:=by
 obtain⟨h,d,f,g,u⟩:=A;have w1:(Code.builtin "type.__call__" ⟨.ref C::rest,[]⟩).frames=0:=by rfl
 have e1:(Code.builtin "type.__call__" ⟨.ref C::rest,[]⟩).envs= []:=by rfl
 have g1:(Code.builtin "type.__call__" ⟨.ref C::rest,[]⟩).guards= []:=by rfl
 have w2:(Code.builtin "type.__call__" ⟨.ref C::rest,[]⟩).weight=1:=by rfl
 have u1:(Code.builtin "type.__call__" ⟨.ref C::rest,[]⟩).cUnits=1:=by rfl
 simp[Around.under,e1,g1,w2,u1,pushEnvs,pushGuards]
theorem CW(S:bQ R n ih)(W:n7 R)(hg:R.g=g)(rm:br A (n+1))(G:aq R Z σ s)(hf:aI R Z s.heap f x)(hv:aD R Z s.heap vs xs):aj R A [] Z σ s (call x xs) (cx g ih f vs) (RV R):=by
 subst hg;unfold cx;cases hf with
 | @fn nm a h=>
  cases hq:R.g.fn nm with
  |none=>dsimp only;rw[hq];exact aj.fail
  |some fi=>dsimp only;rw[hq];exact S.C rm.less G (W.fns _ _ _ h hq) hv
 | @cls c C hC=>
  cases hq:R.g.cV c (Str.ofString "__init__")with
  |none=>dsimp only;refine Eq.symm hq▸?_;exact aj.fail
  |some fi=>
   dsimp only;rw[hq];dsimp only;intro u aE hm Q hQ;refine M.aA hm λo au h1 hm=>?_;obtain⟨rfl,rfl⟩:=iu h1;refine M.aA hm λr cj h2 hm=>?_;have K:=W.cls c C hC;refine cA (K.cV _ _ hq) λfa k1 k2 k3=>?_;have hr:r=.none/\u=.ref σ.length/\aE=cj:=by
    induction r using V.casesOn with
    |none=>(refine cC λSo FZ=>?_;(refine cC λWN QE=>?_;obtain⟨rfl,rfl⟩:=M.aM hm;refine QE ?_);refine FZ ?_);exact⟨rfl,rfl,rfl⟩
    |_=>injection hm
   (refine cC λW4 QT=>?_;(refine bH hr λwh wg mY=>?_;clear hr;subst wh;subst wg;subst mY);refine QT ?_);have kp:∀a o,s.heap.get? a=some o->((s.heap.push emptyDict).push (instObj C s.heap.objs.size)).get? a=some o:=λb o e=>gm _ (gm _ e);have sz:(s.heap.push emptyDict).objs.size=s.heap.objs.size+1:=Heap.size_push ..;obtain⟨G1,x1⟩:=G.alloc (p:=(s.heap.objs.size+1,s.heap.objs.size)) (c:=.ins c []) (h':=(s.heap.push emptyDict).push (instObj C s.heap.objs.size)) (t:=s.toks) rfl kp
    ⟨Heap.get?_none_of_le (le_succ _),Nat.le_succ_of_le G.room⟩ G.next
    (λx=>⟨Nat.succ_ne_self _,C,[],0,hC,by refine sz▸?_;exact gk _ rfl,gm _ (gk _ rfl),.nil,by simp⟩)
   have ro:aI R (Z++[(s.heap.objs.size+1,s.heap.objs.size)]) ((s.heap.push emptyDict).push (instObj C s.heap.objs.size)) (.ref σ.length) (.ref (s.heap.objs.size+1)):=
    .ref (p:=(s.heap.objs.size+1,s.heap.objs.size)) (by rw[<-G.len];simp)
   refine Qu (makes_of (W.here G) K.makes) (looks_findIn (W.here G) k1) (λself=>bind_fn (W.here G) self k2) ?_;refine S.C (A:=A.under (.builtin "type.__call__" ⟨.ref C::xs,[]⟩)) ?_ G1 k3 (.cons ro (hv.step x1)) _ _ h2 _ λaH s' a G2 x2 r2=>?_
   ·rw[BF];exact⟨rm.handled,by have:=rm.depth;refine(?_:A.depth+1+2*n<900);omega,by have:=rm.units;refine(?_:A.units+1+20*n+100<9900);omega⟩
   ·(refine cC λS9 Ju=>?_;cases r2;refine Ju ?_);exact⟨rfl,hQ _ _ _ G2 (x1.trans x2) (ro.step x2)⟩
 |bi nm=>exact(CZ rm.zero G hv).toN
 |ty nm=>exact CX rm.zero G hv
 |_=>exact aj.fail
theorem FU(W:n7 R)(hf:aI R Z s.heap f x)(hc:yt R f):∀aH aE s',aq R aH aE s'->HU R s'.heap x:=by
 intro aH aE s' G;cases hf with
 | @fn nm a h=>
  obtain⟨fi,hq⟩:=isSome_iff_exists.mp hc;(refine bf ((W.fns _ _ _ h hq).obj) λAv fd ho hd _=>?_;obtain⟨oc,od,dat,sl⟩:=Av);dsimp only at hd;subst hd;exact⟨.frame,(Looks.ld (part:=none) (G.base _ _ ho)).andThen .now⟩
 | @cls c C hC=>
  refine ak (looks_keep (M:=model R.prog R.w) (W.cls c C hC).kp (W.here G)) λk _ L=>?_;exact⟨k,L⟩
 |bi nm=>exact⟨.machine,.now⟩
 |ty nm=>exact⟨.machine,.now⟩
 |_=>exact hc.elim
theorem HD(S:bQ R n ih)(W:n7 R)(hg:R.g=g)(rm:br A (n+1))(G:aq R Z σ s)(F:FR R Z s sc e env X):aj R A [] Z σ s (do callWith p (<-eval f env) [] (backTo p (starEach args env)) (backToKw p (keywordEach [] env))) (do let fv<-ih.E sc e f;let vs<-gV ih sc e args;cx g ih fv vs) (RV R):=by
 subst hg;refine(S.E f rm.less G F).seq λaN au ax fv x G1 x1 r1=>?_;by_cases hc:yt R fv
 ·refine nT (fv:=.none) (vs:=[]) (t:=pure .none) (k:=λvs=>cx R.g ih fv vs) S rm.less G1 (F.step x1) (FU W r1 hc) λaH aE s' as xs G' x' r'=>?_;exact CW S W rfl rm G' (r1.step x') r'
 ·intro u aE hm;refine M.aA hm λvs cj _ e2=>?_;exfalso;unfold cx at e2
  induction fv using V.casesOn with
  |fn nm=>
   dsimp only at e2;cases q:R.g.fn nm with
   |none=>rw[q]at e2;injection e2
   |some fi=>exact hc (by show(R.g.fn nm).isSome=true;rw[q];rfl)
  |cls=>exact hc trivial
  |bi=>exact hc trivial
  |ty=>exact hc trivial
  |_=>injection e2
end
end
section
section
variable{R:Gr}{A:Around}{X:List Addr}{Z:bo}{σ:af}{s:Shared}{n:Nat}{ih:f5}{sc:Scope}{e:ar}{env:Env}
theorem CV{i:Nat}{p:Addr×Addr}{c:aL}{nm:Str}{id:Am}{pl:Sem Bool}(G:aq R Z σ s)(hp:Z[i]?=some p)(e1:σ[i]?=some c)(hm:(cZ c).lookup nm=some id){Q:Value×List Value->Shared->Prop}{E:Value->Shared->Prop}(h:Q (.builtin id.name,[.ref p.1]) s):wpAny (model R.prog R.w) A (getMethod (.ref p.1) nm pl) Q E s:=by
 have hm:=mem_of_lookup hm
 induction c using aL.casesOn with
 |lst us=>
  (injection bz hm with T3 T1;subst T3;subst T1);refine fT (G.at hp e1) λ_ ys k hl _=>?_;exact getMethod_builtin ⟨_,hl,rfl⟩ PySem.F.plainAttrs_list PySem.F.slot_list_append PySem.F.type_list_append (λa q=>by(injection q with MH;subst MH);exact(aT _ hl rfl)) h
 |cG es m=>
  refine cN (G.at hp e1) λ_ eR dk _=>?_;have ht:=dk.dictOf.typeIs;have dn:∀a,Value.ref p.1=.ref a->∃o,s.heap.get? a=some o/\o.dict=none:=λa q=>by
   (injection q with IU;subst IU);(refine bf dk λo _ ho hx _=>?_;clear dk);exact⟨o,ho,hx.2.1⟩
  rcases bt hm with e|hm
  ·(refine cC λTa Jv=>?_;(injection e with ML TZ;subst ML;subst TZ);refine Jv ?_);exact getMethod_builtin ht PySem.F.plainAttrs_dict PySem.F.slot_dict_get PySem.F.type_dict_get dn h
  rcases bt hm with e|hm
  ·(injection e with E5 TX;subst E5;subst TX);exact getMethod_builtin ht PySem.F.plainAttrs_dict PySem.F.slot_dict_setdefault PySem.F.type_dict_setdefault dn h
  (injection bz hm with qY E3;subst qY;subst E3);exact getMethod_builtin ht PySem.F.plainAttrs_dict PySem.F.slot_dict_pop PySem.F.type_dict_pop dn h
 |jt es=>
  refine cN (G.at hp e1) λ_ eR dk _=>?_;have ht:=dk.typeIs;have dn:∀a,Value.ref p.1=.ref a->∃o,s.heap.get? a=some o/\o.dict=none:=λa q=>by
   (injection q with IT;subst IT);(refine fS dk λo _ _ ho hx _=>?_;clear dk);exact⟨o,ho,hx.2.1⟩
  rcases bt hm with e|hm
  ·(injection e with E9 PX;subst E9;subst PX);exact getMethod_builtin ht PySem.F.plainAttrs_dict PySem.F.slot_dict_get PySem.F.type_dict_get dn h
  (injection bz hm with Qd PW;subst Qd;subst PW);exact getMethod_builtin ht PySem.F.plainAttrs_dict PySem.F.slot_dict_setdefault PySem.F.type_dict_setdefault dn h
 |set es=>
  (injection bz hm with qZ PV;subst qZ;subst PV);refine bH (G.at hp e1) λ_ hS _=>?_;exact getMethod_set_add hS h
 |bar b=>
  refine cH (G.at hp e1) λ_ hb=>?_;have dn:∀a,Value.ref p.1=.ref a->∃o,s.heap.get? a=some o/\o.dict=none:=λa q=>by(injection q with IQ;subst IQ);exact(aT _ hb rfl)
  rcases bt hm with e|hm
  ·(injection e with E8 PU;subst E8;subst PU);exact getMethod_builtin ⟨_,hb,rfl⟩ gI BA.pj BA.wH dn h
  (injection bz hm with Qb PT;subst Qb;subst PT);exact getMethod_builtin ⟨_,hb,rfl⟩ gI BA.pf BA.wG dn h
 |_=>cases hm
theorem zk(S:bQ R n ih):∀(l:List Expr)(σ aE:af)(as:List V),gV ih sc e l σ=some (as,aE)->(backTo p (starEach l env)).all (λx=>!x.1)=true/\(backTo p (starEach l env)).length=l.length:=by
 intro l
 induction l with
 |nil=>intro _ _ _ _;exact⟨rfl,rfl⟩
 |cons x r DI=>
  intro σ aE as h;by_cases hs:∃y q,x=.Starred y q
  ·(refine iN hs λy q Ej=>?_;clear hs;subst Ej);refine M.aA h λa au e1 _=>?_;rw[S.star]at e1;injection e1
  ·rw[iD (λy q h=>hs ⟨y,q,h⟩)];refine M.aA h λa au _ h=>?_;refine M.aA h λYZ cj h2 _=>?_;obtain⟨h3,h4⟩:=DI _ _ _ h2;refine⟨?_,?_⟩
   ·show(true&&(backTo p (starEach r env)).all (λx=>!x.1))=true;rw[h3];rfl
   ·show(backTo p (starEach r env)).length+1=r.length+1;rw[h4]
noncomputable def Qt(g:G)(ih:f5)(sc:Scope)(env:ar)(o:Expr)(n:Str)(args:List Expr):M V:=do
 let ov<-ih.E sc env o
 match<-az g ov n with
 |.inl fi=>do ih.C fi (ov::(<-gV ih sc env args))
 |.inr id=>do eS id ov (<-gV ih sc env args)
theorem Ad(S:bQ R n ih)(W:n7 R){g:G}(hg:R.g=g)(rm:br A (n+1))(G:aq R Z σ s)(F:FR R Z s sc e env X){o:Expr}{nm:Str}{ap:Pos}{args:List Expr}{p:Pos}:aj R A [] Z σ s (eval (.Call (.Attribute o nm ap) args [] p) env) (if fJ o&&ap.endLine==p.line&&ble args.length 20 then Qt g ih sc e o nm args else M.fail) (RV R):=by
 subst hg
 split
 ·rename_i hc;simp only[Bool.and_eq_true]at hc;(refine cH hc λPa hlen=>?_;clear hc;obtain⟨hb,hl⟩:=Pa);have Wf:args.length<=20:=eK hlen;rw[arm_eval_Call,r6 hb];refine(S.E o rm.less G F).seq λaN au ax ov x G1 x1 r1=>aj.at' ?_;have UD:methodCallPos true o env ap p=pure p:=by unfold methodCallPos;simp[hl]
  have U3:∀σ aE as,gV ih sc e args σ=some (as,aE)->methodCallForm (args.length+([]:List Keyword).length) (backTo p (starEach args env)) (backToKw p (keywordEach [] env))=true:=λσ aE as h=>by
   unfold methodCallForm;refine Eq.symm ((zk (env:=env) (p:=p) S args σ aE as h).1)▸?_;show(true&&true&&decide (args.length+0+0<30))=true;simp
   lia
  have go:∀(f:Value)(k:List V->M V),(∀Q':Value×List Value->Shared->Prop,Q' (f,[x]) ax->bJ (model R.prog R.w) A (getMethod x nm (do return (<-importBound o env).getD true)) Q' ax)->(∀aH aE s',aq R aH aE s'->HU R s'.heap f)->
    (∀aH aE s' as xs,aq R aH aE s'->bu [] aN ax aH s'->aD R aH s'.heap as xs->aj R A [] aH aE s' (call f ([x]++xs)) (k as) (RV R))->
    aj R A [] aN au ax (methodCall o nm ap p env x (args.length+([]:List Keyword).length) (backTo p (starEach args env)) (backToKw p (keywordEach [] env))) (gV ih sc e args>>=k) (RV R):=λf k hg hk hc u aE hm Q hQ=>by
   refine M.aA hm λas cj e1 e2=>?_;unfold methodCall;refine Eq.symm (U3 _ _ _ e1)▸?_;refine N.bind (N.holding ?_);unfold calleeOf;refine hg _ ?_;refine N.bind ?_;rw[UD];refine N.pure ?_;exact nT (fv:=.none) (vs:=[]) (t:=pure .none) (first:=[x]) (k:=k) S rm.less G1 (F.step x1) hk hc u aE hm Q hQ
  have bi:∀id:Am,(∀Q':Value×List Value->Shared->Prop,Q' (.builtin id.name,[x]) ax->bJ (model R.prog R.w) A (getMethod x nm (do return (<-importBound o env).getD true)) Q' ax)->
    aj R A [] aN au ax (methodCall o nm ap p env x (args.length+([]:List Keyword).length) (backTo p (starEach args env)) (backToKw p (keywordEach [] env))) (gV ih sc e args>>=λas=>eS id ov as) (RV R):=λid hg=>
   go (.builtin id.name) _ hg (λ_ _ _ _=>⟨.machine,.now⟩) λaH aE s' as xs G' x' r'=>CY rm.zero G' (r1.step x') r'
  refine(?_:aj R A [] aN au ax _ (az R.g ov nm>>=λsel=>match sel with
   |.inl fi=>(gV ih sc e args>>=λas=>ih.C fi (ov::as))
   |.inr id=>(gV ih sc e args>>=λas=>eS id ov as)) (RV R))
  refine ab.mz ?_
  induction ov using V.casesOn with
  |ref i=>
   (refine ak (r1.cE) λq hq DY=>?_;subst DY);refine ab.assoc (ab.dP λc e1=>?_);have cm:∀c',au[i]?=some c'->ab R [] aN au ax (λQ=>bJ (model R.prog R.w) A (methodCall o nm ap p env (.ref q.1) (args.length+([]:List Keyword).length) (backTo p (starEach args env)) (backToKw p (keywordEach [] env))) Q ax)
     ((a8 ((cZ c').lookup nm)>>=λid=>(Pure.pure (.inr id):M (kI ⊕ Am)))>>=λsel=>match sel with
      |.inl fi=>(gV ih sc e args>>=λas=>ih.C fi (.ref i::as))
      |.inr id=>(gV ih sc e args>>=λas=>eS id (.ref i) as)) (RV R):=λc' e1=>
    ab.assoc (ab.opt λid Yj=>bi id λQ' h'=>N.of (CV G1 hq e1 Yj h'))
   induction c using aL.casesOn with
   |ins c fs=>
    refine(?_:ab R [] aN au ax _ ((match R.g.cV c nm with
     |some fi=>Mine.Internal.need (look nm fs).isNone>>=λ_=>(Pure.pure (.inl fi):M (kI ⊕ Am))
     |none=>M.fail)>>=_) (RV R))
    cases X8:R.g.cV c nm with
    |none=>exact ab.fail
    |some fi=>
     refine ab.assoc (ab.need λWe=>?_);refine gP (G1.at hq e1) λ_ C es k hC ha hb hf _=>?_;have K:=W.cls c C hC;refine cA (K.cV _ _ X8) λfa k1 k2 k3=>?_;refine go (.ref fa) (λas=>ih.C fi (.ref i::as)) (λQ' h'=>N.of (method_fn (W.here G1) (ql ha hb) (plainGet_of K.pg).1 (plainGet_of K.pg).2 k1 k2 ?_ h')) (λaH aE s' G'=>?_) λaH aE s' as xs G' x' r'=>?_
     ·rcases hf.lookIn (a:=nm) (n:=k)with⟨_,h4⟩|⟨v',y,h4,_⟩
      ·refine(?_:(PySem.W.lookIn nm (dictOf es k)).map _=_);rw[h4];rfl
      ·rw[h4]at We;exact Bool.noConfusion We
     ·(refine bf (k3.obj) λOZ fd ho hd _=>?_;obtain⟨oc,od,dat,sl⟩:=OZ);dsimp only at hd;subst hd;exact⟨.frame,(Looks.ld (part:=none) (G'.base _ _ ho)).andThen .now⟩
     ·exact S.C rm.less G' k3 (.cons (.ref (x'.get hq)) r')
   |_=>exact cm _ e1
  |int i=>
   (refine cC λWS QI=>?_;obtain⟨t,rfl⟩:=r1.int_inv;refine QI ?_);refine ab.assoc (ab.assoc (ab.need λhn=>bi .bits λQ' h'=>N.of ?_));rw[beq_iff_eq.mp hn];exact getMethod_int_bit_length h'
  |_=>exact ab.fail
 ·exact aj.fail
end
end
section
section
variable{prog:Program}{w:World}{A:Around}{E:Value->Shared->Prop}{s:Shared}
theorem ir{α:Type}{M:Model}{Q:α->Shared->Prop}(hh:A.handled=none)(h:∀a o h',h'.get? a=some o->o.cls=.type "StopIteration"->(∀b o,s.heap.get? b=some o->h'.get? b=some o)->E (.ref a) {s with heap:=h'}):wpAny M A (newExc (.type "StopIteration") []>>=λe=>(raiseNew e:Sem α)) Q E s:=by
 refine aw ?_;simp only[newExc,newTuple];refine aw (wpAny_newObj_type ?_ (by size_fits));refine aw (m:=firstArgMember _ _) (wpAny_of_eq (a:=Value.none) (by first|rfl|(simp only[firstArgMember];rfl)) ?_)
 refine wpAny_newObj_type ?_ (by size_fits);delta raiseNew;refine aw (wpAny_handled ?_);refine Eq.symm hh▸?_;refine aw (a7 (wpAny_throw ?_));exact h _ _ _ (gk _ rfl) rfl λb o e=>gm _ (gm _ e)
def lD(s:Shared)(it:Addr)(Q:Option Value->Shared->Prop):Prop:=∀h' o',h'.get? it=some o'->o'.cls≠.type "tuple"/\o'.cls≠.type "range"->Heap.ExtBut it s.heap h'->Q none {s with heap:=h'}
theorem vx{it:Addr}{f:Obj->Obj}{o:Obj}{Q:Option Value->Shared->Prop}{h':Heap}(hQ:lD s it Q)(ho:s.heap.get? it=some o)(hf:(f o).isFreed=false)(hc:(f o).cls≠.type "tuple"/\(f o).cls≠.type "range")(k:∀b o,(s.heap.update it f).get? b=some o->h'.get? b=some o):Q none {s with heap:=h'}:=
 hQ h' (f o) (k _ _ (Heap.get?_update_self _ ho hf)) hc λb o' hb e=>k _ _ (((Heap.SameBut.update ..).2 b hb).trans e)
theorem FI{it l:Addr}{i:Nat}{items:Array Value}{Q:Option Value->Shared->Prop}(hh:A.handled=none)(hit:s.heap.IsListIter it l i)(hl:s.heap.IsList l items)(hx:items[i]?=none)(hQ:lD s it Q):wpAny (model prog w) A (pyNext (.ref it)) Q E s:=by
 obtain⟨o,ho,hc,hd⟩:=id hit;obtain⟨ol,UG,_,nl,Cv⟩:=hl;unfold pyNext;refine aw (wpAny_attempt (wpAny_callSpecial?_slot (name:=Str.ofString "__next__") hit.typeIs slot_listiter_next
  (wpAny_call_entry slot_listiter_next hit.typeIs entry_listiter_next ?_ (args_listiter_next _))))
 refine aw (m:=field (.ref it) 0) (wpAny_field ho hd (x:=.ref l) rfl ?_);rw[if_neg (show ¬ ((Value.ref l==Value.none)=true) from Bool.false_ne_true)]
 refine aw (m:=field (.ref it) 1) (wpAny_field ho hd (x:=.int i 0) rfl ?_);refine aw (m:=seqItems? (.ref l)) (wpAny_seqItems UG Cv ?_);dsimp only;rw[toNat_natCast,hx];refine aw (wpAny_rule (aw (wpAny_setField ho hd (by simp) ?_)));refine ir (show A.in1.handled=none from hh) λa oe h' ha AX k=>?_
 refine aw (wpAny_isInstance (T:="StopIteration") (b:=true) ⟨_,ha,AX⟩ isSubtype_stop ?_);refine a7 (vx (s:=s) hQ ho (Obj.isFreed_of_fields (Obj.data_mapFields hd _)) ?_ k);rw[show(Obj.mapFields _ o).cls=_ from(Obj.cls_mapFields ..).trans hc]
 exact⟨by simp,by simp⟩
theorem BB{it t:Addr}{i:Nat}{items:Array Value}{Q:Option Value->Shared->Prop}(hh:A.handled=none)(hit:s.heap.IsTupleIter it t i)(hl:s.heap.IsTuple t items)(hx:items[i]?=none)(hQ:lD s it Q):wpAny (model prog w) A (pyNext (.ref it)) Q E s:=by
 obtain⟨o,ho,hc,hd⟩:=id hit;obtain⟨ol,UG,_,nl,Cv⟩:=hl;unfold pyNext;refine aw (wpAny_attempt (wpAny_callSpecial?_slot (name:=Str.ofString "__next__") hit.typeIs PySem.F.slot_tuple_iterator_next
  (wpAny_call_entry PySem.F.slot_tuple_iterator_next hit.typeIs PySem.F.entry_tuple_iterator_next ?_ (PySem.F.args_tuple_iterator_next_1 _))))
 refine aw (m:=field (.ref it) 0) (wpAny_field ho hd (x:=.ref t) rfl ?_);rw[if_neg (show ¬ ((Value.ref t==Value.none)=true) from Bool.false_ne_true)]
 refine aw (m:=field (.ref it) 1) (wpAny_field ho hd (x:=.int i 0) rfl ?_);refine aw (m:=seqItems? (.ref t)) (wpAny_seqItems UG Cv ?_);dsimp only;rw[toNat_natCast,hx];refine aw (wpAny_rule (aw (wpAny_setField ho hd (by simp) ?_)));refine ir (show A.in1.handled=none from hh) λa oe h' ha AX k=>?_
 refine aw (wpAny_isInstance (T:="StopIteration") (b:=true) ⟨_,ha,AX⟩ isSubtype_stop ?_);refine a7 (vx (s:=s) hQ ho (Obj.isFreed_of_fields (Obj.data_mapFields hd _)) ?_ k);rw[show(Obj.mapFields _ o).cls=_ from(Obj.cls_mapFields ..).trans hc]
 exact⟨by simp,by simp⟩
theorem C0{it:Addr}{i:Nat}{b:Array UInt8}{t:Tok}{Q:Option Value->Shared->Prop}(hh:A.handled=none)(hit:KBw.IsBytesIter s.heap it b t i)(hx:b[i]?=none)(hQ:lD s it Q):wpAny (model prog w) A (pyNext (.ref it)) Q E s:=by
 refine cA (id hit) λo ho hc hd=>?_;unfold pyNext;refine aw (wpAny_attempt (wpAny_callSpecial?_slot (name:=Str.ofString "__next__") (KBw.iter_typeIs hit) KBw.slot_next
  (wpAny_call_entry KBw.slot_next (KBw.iter_typeIs hit) KBw.entry_next ?_ (KBw.args_next _))))
 refine aw (m:=field (.ref it) 0) (wpAny_field ho hd (x:=.bytes b t) rfl ?_);refine Eq.symm (if_neg (show ¬ ((Value.bytes b t==Value.none)=true) from Bool.false_ne_true))▸?_
 refine aw (m:=field (.ref it) 1) (wpAny_field ho hd (x:=.int i 0) rfl ?_);refine aw (wpAny_of_eq (a:=b) rfl ?_);dsimp only;rw[toNat_natCast,hx];refine aw (wpAny_rule (aw (wpAny_setField ho hd (by simp) ?_)));refine ir (show A.in1.handled=none from hh) λa oe h' ha AX k=>?_
 refine aw (wpAny_isInstance (T:="StopIteration") (b:=true) ⟨_,ha,AX⟩ isSubtype_stop ?_);refine a7 (vx (s:=s) hQ ho (Obj.isFreed_of_fields (Obj.data_mapFields hd _)) ?_ k);rw[show(Obj.mapFields _ o).cls=_ from(Obj.cls_mapFields ..).trans hc]
 exact⟨by simp,by simp⟩
theorem BU{it:Addr}{x left step:Int}{Q:Option Value->Shared->Prop}(hh:A.handled=none)(hit:IsRangeIter s.heap it x left step)(Gn:left<=0)(hQ:lD s it Q):wpAny (model prog w) A (pyNext (.ref it)) Q E s:=by
 have hT:s.TypeIs (.ref it) "range_iterator":=⟨_,hit,rfl⟩;unfold pyNext;refine aw (wpAny_attempt (wpAny_callSpecial?_slot (name:=Str.ofString "__next__") hT PySem.F.slot_range_iterator_next
  (wpAny_call_entry PySem.F.slot_range_iterator_next hT PySem.F.entry_range_iterator_next ?_ (PySem.F.args_range_iterator_next_1 _))))
 refine aw (m:=field (.ref it) 0) (wpAny_field hit rfl (x:=rawInt x) rfl ?_);refine aw (m:=field (.ref it) 1) (wpAny_field hit rfl (x:=rawInt left) rfl ?_);refine aw (m:=field (.ref it) 2) (wpAny_field hit rfl (x:=rawInt step) rfl ?_);refine(?_:wpAny _ _ (if left<=0 then _ else _) _ _ s);refine Eq.symm (if_pos Gn)▸?_;refine aw (wpAny_rule ?_);refine aw ?_;refine ir (show A.in1.handled=none from hh) λa oe h' ha AX k=>?_
 refine aw (wpAny_isInstance (T:="StopIteration") (b:=true) ⟨_,ha,AX⟩ isSubtype_stop ?_);exact a7 (hQ h' _ (k _ _ hit) ⟨by simp,by simp⟩ λb o' _ e=>k _ _ e)
theorem FQ{it d:Addr}{i ep:Nat}{es:Array DictEntry}{Q:Option Value->Shared->Prop}(hh:A.handled=none)(hit:s.heap.IsKeyIter it d i es.size ep)(hm:eJ s.heap d es ep)(hx:es[i]?=none)(hQ:lD s it Q):wpAny (model prog w) A (pyNext (.ref it)) Q E s:=by
 obtain⟨o,ho,hc,hd⟩:=id hit;obtain⟨od,H5,Cy,yz⟩:=id hm;have rD:=q6;unfold pyNext;refine aw (wpAny_attempt (wpAny_callSpecial?_slot (name:=Str.ofString "__next__") hit.typeIs PySem.F.slot_dict_keyiterator_next
  (wpAny_call_entry PySem.F.slot_dict_keyiterator_next hit.typeIs PySem.F.entry_dict_keyiterator_next ?_ (PySem.F.args_dict_keyiterator_next_1 _))))
 refine aw (a7 (aw (aw ?_)))
 first|refine aw (wpAny_typeNameOfWhole_keyiter hit.typeIs (a7 ?_))|refine aw (wpAny_typeNameOf_keyiter hit.typeIs (a7 ?_))
 refine aw (wpAny_fieldsOf ho hd ?_);refine Eq.symm rD▸?_;show wpAny _ _ (if(Value.ref d==Value.none)=true then _ else _) _ _ s;rw[if_neg (show ¬ ((Value.ref d==Value.none)=true) from Bool.false_ne_true)]
 refine aw (a7 (aw (wpAny_dictEntries H5 yz ?_)));rw[if_neg (by simp)];refine aw (a7 (aw (wpAny_dictEpoch H5 yz ?_)));rw[if_neg (by simp)];refine a7 ?_;dsimp only;rw[if_neg (show ¬((i:Int)<0) from Int.not_lt.mpr (natCast_nonneg i)),toNat_natCast,hx]
 refine aw ?_
 first|refine aw (wpAny_typeNameOfWhole_keyiter hit.typeIs (a7 ?_))|refine aw (wpAny_typeNameOf_keyiter hit.typeIs (a7 ?_))
 refine(?_:wpAny _ _ (setField (.ref it) 0 .none>>=_) _ _ s);refine aw (wpAny_setField ho hd (by simp) ?_);refine ir (show A.in1.handled=none from hh) λa oe h' ha AX k=>?_
 refine aw (wpAny_isInstance (T:="StopIteration") (b:=true) ⟨_,ha,AX⟩ isSubtype_stop ?_);refine a7 (vx (s:=s) hQ ho (Obj.isFreed_of_fields (Obj.data_mapFields hd _)) ?_ k);rw[show(Obj.mapFields _ o).cls=_ from(Obj.cls_mapFields ..).trans hc]
 exact⟨by simp,by simp⟩
end
end
section
section
variable{α β γ δ:Type}{R:Gr}{A:Around}{X:List Addr}{Z:bo}{σ:af}{s:Shared}
theorem aj.sH{t:Sem α}{m:M β}{f:α->Sem γ}{k:β->M δ}{r:bo->Shared->β->α->Prop}{r':bo->Shared->δ->γ->Prop}(h1:aj R A [] Z σ s t m r)(h2:∀aH aE s' b a,aq R aH aE s'->bu [] Z s aH s'->r aH s' b a->aj R A X aH aE s' (f a) (k b) r'):aj R A X Z σ s (t>>=f) (m>>=k) r':=by
 intro d aE hm Q hQ;refine M.aA hm λb au e1 e2=>?_;exact N.bind (h1 b au e1 _ λaH s' a G' x' hr=>h2 aH au s' b a G' x' hr d aE e2 Q λH9 qV Vl Sp Pu oM=>hQ H9 qV Vl Sp ((x'.weaken λ_ q=>nomatch q).trans Pu) oM)
end
section
variable{R:Gr}{A:Around}{X:List Addr}{Z:bo}{σ:af}{s:Shared}{n:Nat}{ih:f5}{sc:Scope}{e:ar}{env:Env}
abbrev RE(R:Gr)(sc:Scope)(env:Env)(X:List Addr):bo->Shared->ar->Unit->Prop:=λZ s e' _=>FR R Z s sc e' env X
theorem jT{x:Str}{v:V}{y:Value}(G:aq R Z σ s)(F:FR R Z s sc e env X)(hv:aI R Z s.heap v y):aj R A X Z σ s (bindName env x y) (putN sc e x v) (RE R sc env X):=
 λb aE hm Q hQ=>N.of (wpAny_bindName (Fd G F hv b aE hm Q _ hQ))
theorem R7{t:Expr}:(∃x p,t=.Name x p)\/∀e vs ts,eF sc e (t::ts) vs=M.fail:=by
 induction t using Expr.casesOn with
 |Name x p=>exact .inl ⟨x,p,rfl⟩
 |_=>exact .inr λe vs ts=>by induction vs using List.casesOn<;>rfl
theorem BV:∀{ts:List Expr}{vs:List V}{xs:List Value}{Z:bo}{σ:af}{s:Shared}{e:ar},aq R Z σ s->FR R Z s sc e env X->aD R Z s.heap vs xs->aj R A X Z σ s (assignInOrder ((assignEach ts env).map (·.2)) xs) (eF sc e ts vs) (RE R sc env X):=by
 intro ts
 induction ts with
 |nil=>
  intro vs xs Z σ s e G F hr
  induction vs using List.casesOn with
  |nil=>refine Eq.symm (hr.zero)▸?_;exact aj.pure G F
  |cons=>exact aj.fail
 |cons t ts ih=>
  intro vs xs Z σ s e G F hr
  rcases R7 (sc:=sc) (t:=t)with⟨x,p,rfl⟩|h
  ·induction vs using List.casesOn with
   |nil=>exact aj.fail
   |cons v vs=>
    obtain⟨y,ys,rfl,hv,hr⟩:=hr.fM;refine(?_:aj R A X Z σ s (holding ys (standAt p>>=λ_=>bindName env x y)>>=λ_=>assignInOrder ((assignEach ts env).map (·.2)) ys) (putN sc e x v>>=λe'=>eF sc e' ts vs) _);exact aj.seq (aj.hold (aj.at' (jT G F hv))) λaN au ax e' _ G1 x1 F1=>ih G1 F1 (hr.mono x1 F.own)
  ·rw[h];exact aj.fail
theorem w6{ts:List Expr}:∀{vs:List V}{e e':ar}{σ aE:af},eF sc e ts vs σ=some (e',aE)->∃xs:List (Str×Pos),ts=xs.map (λp=>Expr.Name p.1 p.2)/\vs.length=ts.length:=by
 induction ts with
 |nil=>
  intro vs e e' σ aE h
  induction vs using List.casesOn with
  |nil=>exact⟨[],rfl,rfl⟩
  |cons=>exact cT h
 |cons t ts ih=>
  intro vs e e' σ aE h
  rcases R7 (sc:=sc) (t:=t)with⟨x,p,rfl⟩|hf
  ·induction vs using List.casesOn with
   |nil=>exact cT h
   |cons v vs=>
    refine M.aA (show(putN sc e x v>>=λe'=>eF sc e' ts vs) σ=_ from h) λfZ au _ h=>?_
    refine ak (ih h) λxs h1 h2=>?_;exact⟨(x,p)::xs,by rw[h1];rfl,congrArg (· +1) h2⟩
  ·rw[hf]at h;exact cT h
theorem oZ(xs:List (Str×Pos)):(assignEach (xs.map λp=>Expr.Name p.1 p.2) env).findIdx? (·.1)=none/\(assignEach (xs.map λp=>Expr.Name p.1 p.2) env).length=xs.length:=by
 induction xs with
 |nil=>exact⟨rfl,rfl⟩
 |cons x r DI=>
  have e:assignEach ((x::r).map λp=>Expr.Name p.1 p.2) env=(false,assign (.Name x.1 x.2) env)::assignEach (r.map λp=>Expr.Name p.1 p.2) env:=rfl;rw[e];refine⟨?_,?_⟩
  ·rw[List.findIdx?_cons];simp only[false_eq_true,if_false];rw[DI.1];rfl
  ·rw[length_cons,DI.2];rfl
theorem qF{y:Value}{vs:List V}(hh:A.handled=none)(G:aq R Z σ s)(hv:aI R Z s.heap (.tup vs) y){n:Nat}(hn:vs.length=n){Q:List Value->Shared->Prop}{E:Value->Shared->Prop}(hQ:∀s' xs,aq R Z σ s'->bu [] Z s Z s'->aD R Z s'.heap vs xs->Q xs s'):wpAny (model R.prog R.w) A (unpackItems y n none) Q E s:=by
 (refine bj (hv.d7) λa xs qz n' ho hr=>?_;subst qz);rw[show n=xs.toArray.size by rw[<-hn,hr.length];simp];refine wpAny_unpackItems_tuple hh ⟨_,ho,rfl,0,rfl⟩ λh' hx=>?_;obtain⟨G1,x1⟩:=fE (h':=h') (t:=s.toks) G λb o eo=>hx b o (Nat.ne_of_lt (Heap.lt_size eo)) eo;exact hQ _ _ G1 x1 (by simpa using hr.step x1)
theorem yJ{ts:List Expr}{v:V}{y:Value}(hh:A.handled=none)(G:aq R Z σ s)(F:FR R Z s sc e env X){vs:List V}(hv:aI R Z s.heap (.tup vs) y):aj R A X Z σ s (unpack y (assignEach ts env)) (eF sc e ts vs) (RE R sc env X):=by
 intro e' aE hm Q hQ;(refine ak (w6 hm) λxs iA hlen=>?_;subst iA);obtain⟨h1,h2⟩:=oZ (env:=env) xs;unfold unpack;(refine Eq.symm h1▸?_;refine Eq.symm h2▸?_);refine N.bind (N.holding (N.of (qF hh G hv (by rw[hlen];simp) λs' ys G' x' hr=>?_)));exact BV G' (F.step x') hr e' aE hm Q λH9 qV a Sp Pu U1=>hQ _ _ _ Sp ((x'.weaken λ_ q=>nomatch q).trans Pu) U1
theorem ko(S:bQ R n ih)(W:n7 R){g:G}(hg:R.g=g)(rm:br A n)(G:aq R Z σ s)(F:FR R Z s sc e env X){t:Expr}{v:V}{y:Value}(hv:aI R Z s.heap v y):aj R A X Z σ s (assign t env y) (eg g ih sc e t v) (RE R sc env X):=by
 induction t using Expr.casesOn with
 |Name x p=>exact aj.at' (jT G F hv)
 |Attribute o a p=>
  refine(?_:aj R A X Z σ s (holding [y] (eval o env)>>=λov=>standAt p.atName>>=λ_=>holding [y,ov] (setAttr ov a y)>>=λ_=>release [y,ov] []) (ih.E sc e o>>=λov=>bq g ov a v>>=λ_=>pure e) _);refine aj.sH (aj.hold (S.E o rm G F)) λaN au ax ov x G1 x1 r1=>aj.at' ?_;refine aj.sH (aj.hold (wR W hg G1 r1 (hv.step x1)).toN) λcn cj aY _ _ G2 x2 _=>?_;intro b aE hm Q hQ;obtain⟨rfl,rfl⟩:=M.aM hm;exact N.release (hQ _ _ _ G2 (bu.refl ..) ((F.step x1).step x2))
 |Subscript o i p=>
  refine(?_:aj R A X Z σ s (holding [y] (eval o env)>>=λov=>holding [y,ov] (eval i env)>>=λiv=>standAt p>>=λ_=>holding [y,ov,iv] (setItem ov iv y)>>=λ_=>release (match i with|.Slice _ _ none _=>[iv,y,ov]|_=>[y,ov,iv]) [])
   (ih.E sc e o>>=λov=>ih.E sc e i>>=λkv=>iI ov kv v>>=λ_=>pure e) _)
  refine aj.sH (aj.hold (S.E o rm G F)) λaN au ax ov x G1 x1 r1=>?_;refine aj.sH (aj.hold (S.E i rm G1 (F.step x1))) λcn cj aY kv z G2 x2 r2=>aj.at' ?_;refine aj.sH (aj.hold (IC rm.zero G2 (r1.step x2) r2 ((hv.step x1).step x2)).toN) λiz de d8 _ _ G3 x3 _=>?_;intro b aE hm Q hQ;obtain⟨rfl,rfl⟩:=M.aM hm;exact N.release (hQ _ _ _ G3 (bu.refl ..) (((F.step x1).step x2).step x3))
 |Tuple ts k p=>
  refine(?_:aj R A X Z σ s (standAt p>>=λ_=>unpack y (assignEach ts env)) _ _);refine aj.at' ?_
  induction v using V.casesOn with
  |tup vs=>exact yJ (v:=.tup vs) rm.handled G F hv
  |_=>exact aj.fail
 |_=>exact aj.fail
end
end
section
section
variable{R:Gr}{A:Around}{X Y:List Addr}{Z:bo}{σ:af}{s:Shared}{n:Nat}{ih:f5}{sc:Scope}{e:ar}{env:Env}
inductive Ak(R:Gr)(Z:bo)(h:Heap)(I:Addr):List V->Prop
 |tup {t:Addr} {k:Nat} {xs:List Value} {vs:List V}:h.IsTupleIter I t k->t≠I->t∉cW Z->h.get? t=some (iB xs.toArray)->aD R Z h vs (xs.drop k)->Ak R Z h I vs
 |hK {a c:Int} {n:Nat}:IsRangeIter h I a n c->Ak R Z h I ((range n).map λ(j:Nat)=>V.int (a+c*(j:Int)))
 |NN {b:List UInt8} {t:Tok} {k:Nat}:KBw.IsBytesIter h I b.toArray t k->Ak R Z h I ((b.drop k).map λx=>.int x.toNat)
noncomputable def o7(R:Gr)(Z:bo)(s:Shared)(I:Addr):gE->Prop
 |.items vs=>Ak R Z s.heap I vs
 |.list i k=>∃p,Z[i]?=some p/\s.heap.IsListIter I p.1 k
 |.dict i m l k=>∃p,Z[i]?=some p/\s.heap.IsKeyIter I p.1 k l m
 |.gen i=>∃p,Z[i]?=some p/\I=p.1
noncomputable def df(I:Addr):gE->List Addr
 |.gen _=>[]
 |_=>[I]
structure yh(R:Gr)(Z:bo)(s:Shared)(Y:List Addr):Prop where
 off:∀a∈Y,a∉cW Z/\R.eN.heap.get? a=none
 own:fF Y s.heap
theorem yh.step(h:yh R Z s Y)(x:bu X Z s aH s')(d:∀a∈Y,a∉X):yh R aH s' Y:=
 ⟨λa q=>let ⟨o,ho,_⟩:=h.own a q;⟨x.out ho (h.off a q).1,(h.off a q).2⟩,λa q=>let ⟨o,ho,r⟩:=h.own a q;(aT o (x.keep a o ho (h.off a q).1 (d a q)) r)⟩
theorem o7.mono{I:Addr}{st:gE}{aH:bo}{s':Shared}(h:o7 R Z s I st)(x:bu X Z s aH s')(ox:fF X s.heap)(y:yh R Z s (df I st))(d:∀a∈df I st,a∉X):o7 R aH s' I st:=by
 induction st using gE.casesOn with
 |items vs=>
  have keep:∀o,s.heap.get? I=some o->s'.heap.get? I=some o:=λo e=>x.keep I o e (y.off I (by simp[df])).1 (d I (by simp[df]));cases h with
  | @tup t k xs _ h1 h2 h3 h4 h5=>
   (refine ak h1 λo ho r=>?_;clear h1);have v:aI R Z s.heap (.tup []) (.ref t)\/True:=.inr trivial;have ht:t∉X:=λq=>by
    refine ak (ox t q) λo' og r'=>?_;rw[h4]at og;(injection og with IS;subst IS)
    rcases r' with r'|⟨r',_⟩
    ·exact r'
    ·exact r' rfl
   exact .tup ⟨o,keep o ho,r⟩ h2 (x.out h4 h3) (x.keep t _ h4 h3 ht) (h5.mono x ox)
  |hK h1=>exact .hK (keep _ h1)
  |NN h1=>(refine ak h1 λo ho r=>?_;clear h1);exact .NN ⟨o,keep o ho,r⟩
 |list i k=>
  (refine cC λW5 QU=>?_;(refine A6 h λp hp o ho r=>?_;clear h);refine QU ?_);exact⟨p,x.get hp,o,x.keep I o ho (y.off I (by simp[df])).1 (d I (by simp[df])),r⟩
 |dict i m l k=>
  (refine A6 h λp hp o ho r=>?_;clear h);exact⟨p,x.get hp,o,x.keep I o ho (y.off I (by simp[df])).1 (d I (by simp[df])),r⟩
 |gen i=>(refine ak h λp hp r=>?_;clear h);exact⟨p,x.get hp,r⟩
theorem F8(G:aq R Z σ s)(ho:o.cls≠.type "tuple"/\o.cls≠.type "range")(hf:o.isFreed=false):aq R Z σ {s with heap:=s.heap.push o}/\bu [] Z s Z {s with heap:=s.heap.push o}/\yh R Z {s with heap:=s.heap.push o} [s.heap.objs.size]/\s.heap.get? s.heap.objs.size=none:=by
 refine cH (tA G o s.toks) λG1 x1=>?_;refine(rB G1 x1 ⟨λa q=>?_,λa q=>?_⟩ (Heap.get?_none_of_le (Nat.le_refl _)))
 ·(have qZ:=bz q;subst qZ);refine⟨G.fresh,?_⟩;cases h:R.eN.heap.get? s.heap.objs.size with
  |none=>rfl
  |some o'=>exact absurd (Heap.lt_size (G.base _ _ h)) (Nat.lt_irrefl _)
 ·(have E8:=bz q;subst E8);exact(aT o (gk _ hf) (.inr ho))
theorem tn(r:Pairs (kZ R) es eR):es.length=eR.length:=(mD r).1.symm
def HT(R:Gr)(s:Shared):bo->Shared->gE×Nat->Value->Prop:=λaH s' kW y=>∃I,y=.ref I/\o7 R aH s' I kW.1/\yh R aH s' (df I kW.1)/\(∀a∈df I kW.1,s.heap.get? a=none)/\∀i,kW.1=.gen i->∃k,s'.heap.IsGen I k
theorem jD(G:aq R Z σ s){d:Data}{c:String}{st:gE}{m:Nat}{Q:Value->Shared->Prop}(hc:(Value.type c≠.type "tuple"/\Value.type c≠.type "range"))(hf:Obj.isFreed {cls:=.type c,data:=d}=false)(ho:∀I,df I st= [I])(hI:bu [] Z s Z {s with heap:=s.heap.push {cls:=.type c,data:=d}}->o7 R Z {s with heap:=s.heap.push {cls:=.type c,data:=d}} s.heap.objs.size st)(hQ:∀aH s' a,aq R aH σ s'->bu [] Z s aH s'->HT R s aH s' (st,m) a->Q a s'):Q (.ref s.heap.objs.size) {s with heap:=s.heap.push {cls:=.type c,data:=d}}:=by
 refine g7 (F8 G (o:={cls:=.type c,data:=d}) hc hf) λG1 x1 y1 h1=>?_;refine hQ _ _ _ G1 x1 ⟨_,rfl,hI x1,by rw[show df s.heap.objs.size (st,m).1= [s.heap.objs.size] from ho _];exact y1,λb q=>?_,λi q=>?_⟩
 ·rw[show df s.heap.objs.size (st,m).1= [s.heap.objs.size] from ho _]at q
  rw[mem_singleton.mp q];exact h1
 ·have:=ho s.heap.objs.size;rw[show st=.gen i from q]at this
  injection this
theorem s8{v:V}{x:Value}(G:aq R Z σ s)(hv:aI R Z s.heap v x)(E:Value->Shared->Prop):ab R [] Z σ s (λQ=>wpAny (model R.prog R.w) A (pyIter x) Q E s) (aQ v) (HT R s):=by
 induction v using V.casesOn with
 |tup vs=>
  refine ab.pure λQ hQ=>?_;(refine bj (hv.d7) λa xs D9 n1 ho hr=>?_;subst D9);refine wpAny_pyIter_tuple (items:=xs.toArray) ⟨_,ho,rfl,0,rfl⟩ (jD (st:=.items vs) G ⟨by simp,by simp⟩ rfl (λ_=>rfl) (λx1=>?_) hQ);exact .tup (k:=0) (xs:=xs) ⟨_,gk _ rfl,rfl,rfl⟩ (Nat.ne_of_lt (Heap.lt_size ho)) n1 (gm _ ho) (hr.step x1)
 |hK a b c=>
  refine ab.opt λl h2=>ab.pure λQ hQ=>?_;(refine jR (hv.uK) λr t u w D3 n1 ho=>?_;subst D3);(refine dw h2 λm em wb=>?_;subst wb);(refine g7 (kO em) λc0 sm wa _=>?_;subst wa);refine wpAny_pyIter_range ho sm (jD (st:=.items _) G ⟨by simp,by simp⟩ rfl (λ_=>rfl) (λx1=>?_) hQ);exact .hK (by refine Eq.symm (je c0)▸?_;exact gk _ rfl)
 |bytes b=>
  refine ab.pure λQ hQ=>?_;obtain⟨t,rfl⟩:=hv.jS;exact KBw.pyIter_bytes (jD (st:=.items (b.map λ(x:UInt8)=>V.int (x.toNat:Int))) G ⟨by simp,by simp⟩ rfl (λ_=>rfl) (λx1=>(Ak.NN (b:=b) (t:=t) (k:=0) ⟨_,gk _ rfl,rfl,rfl⟩:Ak R Z (s.heap.push {cls:=.type "bytes_iterator",data:=.fields #[.bytes b.toArray t,.int 0 0]}) s.heap.objs.size (b.map λx=>.int x.toNat))) hQ)
 |ref i=>
  refine ab.dP λc e1=>?_;(refine ak (hv.cE) λp hp vX=>?_;subst vX)
  induction c using aL.casesOn with
  |lst vs=>
   refine ab.pure λQ hQ=>?_;refine fT (G.at hp e1) λ_ xs k hl _=>?_;exact wpAny_pyIter_list (items:=xs) ⟨_,hl,rfl,k,rfl⟩ (jD (st:=.list i 0) G ⟨by simp,by simp⟩ rfl (λ_=>rfl) (λx1=>⟨p,hp,_,gk _ rfl,rfl,rfl⟩) hQ)
  |cG es m=>
   refine ab.pure λQ hQ=>?_;refine cN (G.at hp e1) λ_ eR dk vk=>?_;refine gA (id dk) λo ents ho hx hd hk vT hn=>?_;have sz:ents.size=es.length:=by
    have h1:=tn vT;have h2:=vk.len;replace h1:=Eq.trans (Eq.symm (Array.length_toList)) h1
    lia
   exact wZ (es:=ents) (ep:=m) (fk G hp) ⟨o,ho,hx,hd⟩ (jD (st:=.dict i m es.length 0) G ⟨by simp,by simp⟩ rfl (λ_=>rfl) (λx1=>⟨p,hp,_,gk _ rfl,rfl,by rw[<-sz];rfl⟩) hQ)
  |gen q=>
   refine ab.pure λQ hQ=>?_;refine iw (G.at hp e1) λk gs qual f sC m D=>?_;exact wpAny_pyIter_gen D.gen (hQ _ _ _ G (bu.refl ..) ⟨p.1,rfl,⟨p,hp,rfl⟩,⟨(λ_ q=>nomatch q),fF.nil _⟩,(λ_ q=>nomatch q),λj h=>⟨k,D.gen⟩⟩)
  |_=>exact ab.fail
 |_=>exact ab.fail
end
end
section
section
variable{R:Gr}{A:Around}{X Y:List Addr}{Z:bo}{σ:af}{s:Shared}{n:Nat}{ih:f5}{sc:Scope}{e:ar}{env:Env}
noncomputable def La(n:String):Bool:=["tuple_iterator","range_iterator","bytes_iterator","list_iterator","dict_keyiterator","generator"].contains n
def lS(I:Addr)(h:Heap):Prop:=∃o n,h.get? I=some o/\o.cls=.type n/\La n=true
theorem lS.ne{I:Addr}{h:Heap}(p:lS I h):∃o,h.get? I=some o/\o.cls≠.type "tuple"/\o.cls≠.type "range":=by
 (refine bf p λo n ho hc hn=>?_;clear p);refine(gw o ho (λq=>?_) (λq=>?_))
 ·rw[hc]at q;(injection q with MJ;subst MJ);revert hn;decide
 ·rw[hc]at q;(injection q with MI;subst MI);revert hn;decide
theorem tp{prog:Program}{w:World}{A:Around}{s:Shared}{t:Expr}{I:Addr}{y:Value}{Q:Unit->Shared->Prop}{E:Value->Shared->Prop}(p:lS I s.heap)(h:Q () s):wpAny (model prog w) A (letOwnedTupleGo t (.ref I) y) Q E s:=by
 (refine bf p λo n ho hc hn=>?_;clear p);have main:wpAny (model prog w) A (do
   let (.ref r,.ref a):=(Value.ref I,y)|return
   let o<-load r
   match o.cls,o.data with
   |.type n,.fields vs=>
    if ["enumerate","zip","dict_itemiterator","dict_reverseitemiterator","odict_iterator","itertools.zip_longest","itertools.pairwise"].contains n&&vs[0]?==some (rawInt a)then
     rule "for.unpacks-the-owned-tuple"
     updateField r 0 .none
   |_,_=>pure ()) Q E s:=by
  induction y using Value.casesOn with
  |ref a=>
   refine aw (wpAny_load ho ?_);refine Eq.symm hc▸?_;have no: ["enumerate","zip","dict_itemiterator","dict_reverseitemiterator","odict_iterator","itertools.zip_longest","itertools.pairwise"].contains n=false:=by
    unfold La at hn;simp only[List.contains_eq_mem,mem_cons,not_mem_nil,or_false,decide_eq_true_eq]at hn
    rcases hn with rfl|rfl|rfl|rfl|rfl|rfl<;>decide
   cases o.data with
   |fields vs=>
    dsimp only;refine Eq.symm no▸?_;exact a7 h
   |_=>exact a7 h
  |_=>exact a7 h
 unfold letOwnedTupleGo
 induction t using Expr.casesOn with
 |Tuple=>exact main
 |List=>exact main
 |_=>exact a7 h
noncomputable def Al(R:Gr)(I:Addr)(st:gE)(Z:bo)(s:Shared):Option (V×gE)->Option Value->Prop
 |none,none=>True
 |some p,some y=>aI R Z s.heap p.1 y/\o7 R Z s I p.2/\df I p.2=df I st/\lS I s.heap
 |_,_=>False
theorem tK{I:Addr}{h':Heap}{t:Nat}(G:aq R Z σ s)(y:yh R Z s [I])(hl:∃o,h'.get? I=some o/\o.cls≠.type "tuple"/\o.cls≠.type "range")(k:Heap.ExtBut I s.heap h'):aq R Z σ {s with heap:=h',toks:=t}/\bu [I] Z s Z {s with heap:=h',toks:=t}/\fF [I] h':=by
 (refine ak hl λo ho hc=>?_;clear hl);obtain⟨G1,x1⟩:=G.x8 (X:=[I]) (h':=h') (t:=t) (λa q=>by
  cases bz q;exact⟨(y.off I (by simp)).1,(y.off I (by simp)).2,o,ho⟩) y.own λa o e q=>k a o (λz=>q (by simp[z])) e
 exact⟨G1,x1,λa q=>by cases bz q;exact(aT o ho (.inr hc))⟩
noncomputable def M8:gE->Bool
 |.gen _=>true
 |_=>false
theorem K9{I:Addr}{st:gE}(h:M8 st=false):df I st= [I]:=by
 induction st using gE.casesOn with
 |gen=>exact Bool.noConfusion h
 |_=>rfl
def pT(R:Gr)(I:Addr)(st:gE):bo->Shared->Option (V×gE)->Option Value->Prop:=λaH s' o a=>fF (df I st) s'.heap/\Al R I st aH s' o a
theorem q8{I:Addr}{st:gE}{Q:Option Value->Shared->Prop}(hg:df I st= [I])(G:aq R Z σ s)(y:yh R Z s (df I st))(hQ:∀aH s' a,aq R aH σ s'->bu (df I st) Z s aH s'->pT R I st aH s' none a->Q a s'):lD s I Q:=λh' o' h1 h2 h3=>by
 rw[hg]at y;refine bH (tK (t:=s.toks) G y (aT o' h1 h2) h3) λG1 x1 o1=>?_;exact hQ _ _ _ G1 (by rw[hg];exact x1) ⟨by rw[hg];exact o1,trivial⟩
theorem kS{I:Addr}{st st':gE}{v:V}{z:Value}{h':Heap}{t:Nat}{Q:Option Value->Shared->Prop}(hg:df I st= [I])(JD:df I st'= [I])(G:aq R Z σ s)(y:yh R Z s (df I st))(hs:Heap.SameBut I s.heap h')(hl:lS I h')(hn:bu [I] Z s Z {s with heap:=h',toks:=t}->aI R Z h' v z/\o7 R Z {s with heap:=h',toks:=t} I st')(hQ:∀aH s' a,aq R aH σ s'->bu (df I st) Z s aH s'->pT R I st aH s' (some (v,st')) a->Q a s'):Q (some z) {s with heap:=h',toks:=t}:=by
 rw[hg]at y;refine bH (tK (t:=t) G y hl.ne hs.extBut) λG1 x1 o1=>?_;exact hQ _ _ _ G1 (by rw[hg];exact x1) ⟨by rw[hg];exact o1,(hn x1).1,(hn x1).2,JD.trans hg.symm,hl⟩
theorem zi{I:Addr}{vs:List V}{E:Value->Shared->Prop}(hh:A.handled=none)(G:aq R Z σ s)(hI:Ak R Z s.heap I vs)(y:yh R Z s [I]):ab R [I] Z σ s (λQ=>wpAny (model R.prog R.w) A (pyNext (.ref I)) Q E s) (aJ ih (.items vs)) (pT R I (.items vs)):=by
 induction vs using List.casesOn with
 |nil=>
  refine ab.pure λQ hQ=>?_;have fin:lD s I Q:=q8 (st:=.items []) rfl G y hQ;generalize DJ:([]:List V)=vs at hI;cases hI with
  | @tup t k xs _ a1 a2 a3 a4 a5=>
   subst DJ;have:=a5.length;refine BB hh a1 ⟨_,a4,rfl,0,rfl⟩ ?_ fin;simp only[List.length_nil,length_drop]at this;rw[List.getElem?_toArray,getElem?_eq_none]
   omega
  | @hK a c m a1=>
   have:m=0:=by simpa using congrArg List.length DJ.symm
   subst this;exact BU hh a1 (by simp) fin
  | @NN b t k a1=>
   refine C0 hh a1 ?_ fin;have:b.length-k=0:=by simpa using congrArg List.length DJ.symm
   rw[List.getElem?_toArray,getElem?_eq_none (by omega)]
 |cons v r=>
  refine ab.pure λQ hQ=>?_;generalize DJ:v::r=vs at hI;cases hI with
  | @tup t k xs _ a1 a2 a3 a4 a5=>
   subst DJ;generalize hd:xs.drop k=ys at a5;(refine bf (a5.fM) λz zs qx b1 b2=>?_;subst qx);have hz:xs[k]?=some z:=by
    have:(xs.drop k)[0]?=some z:=by rw[hd];rfl
    rw[getElem?_drop]at this
    simpa using this
   have XQ:xs.drop (k+1)=zs:=by
    rw[<-drop_drop (i:=1) (j:=k),hd];rfl
   refine wpAny_pyNext_tuple_item a1 (items:=xs.toArray) ⟨_,a4,rfl,0,rfl⟩ (x:=z) (by simpa using hz) λh' hit hs=>?_;exact kS (st:=.items (v::r)) (st':=.items r) rfl rfl G y hs (let ⟨o,ho,hc,_⟩:=hit;⟨o,_,ho,hc,by decide⟩) (λx1=>⟨b1.mono x1 y.own,.tup hit a2 a3 (hs.extBut _ _ a2 a4) (by rw[XQ];exact b2.mono x1 y.own)⟩) hQ
  | @hK a c m a1=>
   induction m using Nat.casesOn with
   |zero=>injection DJ
   |succ m=>
    have e1:(range (m+1)).map (λ(j:Nat)=>V.int (a+c*(j:Int)))=.int a::(range m).map (λ(j:Nat)=>V.int (a+c+c*(j:Int))):=by
     rw[List.range_succ_eq_map,map_cons,List.map_map]
     congr 1
     ·simp
     ·apply dW;intro j _;refine(?_:V.int (a+c*((j+1:Nat):Int))=V.int (a+c+c*(j:Int)));rw[show((j+1:Nat):Int)=(j:Int)+1 by omega,Int.mul_add,Int.mul_one,Int.add_assoc,Int.add_comm c]
    replace DJ:=e1▸DJ;obtain⟨rfl,rfl⟩:=List.cons.inj DJ;refine wpAny_pyNext_range_item a1 (by omega) λh' hit hs=>?_;exact kS (st:=.items (_::_)) (st':=.items _) rfl rfl G y hs ⟨_,_,hit,rfl,by decide⟩ (λx1=>⟨.int a s.toks,.hK (n:=m) (by have:=hit;rwa[show((m+1:Nat):Int)-1=(m:Int) by omega]at this)⟩) hQ
  | @NN b t k a1=>
   have hk:k<b.length:=by
    have:(b.drop k).length=r.length+1:=by simpa using congrArg List.length DJ.symm
    replace this:=Eq.trans (Eq.symm (length_drop)) this
    omega
   rw[drop_eq_getElem_cons hk,map_cons]at DJ;(refine cC λWY QO=>?_;(refine cC λW0 QQ=>?_;obtain⟨rfl,rfl⟩:=List.cons.inj DJ;refine QQ ?_);refine QO ?_);refine KBw.next_item a1 (c:=b[k]) (by simp[hk]) λh' hit hs=>?_;exact kS (st:=.items (_::_)) (st':=.items _) rfl rfl G y hs (let ⟨o,ho,hc,_⟩:=hit;⟨o,_,ho,hc,by decide⟩) (λx1=>⟨.int _ s.toks,.NN hit⟩) hQ
theorem B6{I:Addr}{i k:Nat}{E:Value->Shared->Prop}(hh:A.handled=none)(G:aq R Z σ s)(hI:o7 R Z s I (.list i k))(y:yh R Z s [I]):ab R [I] Z σ s (λQ=>wpAny (model R.prog R.w) A (pyNext (.ref I)) Q E s) (aJ ih (.list i k)) (pT R I (.list i k)):=by
 (refine ak hI λp hp hit=>?_;clear hI);refine ab.getL λvs e1=>?_;refine bf (gW G hp e1) λxs q hl hv hn=>?_;cases hx:vs[k]? with
 |none=>
  refine ab.pure λQ hQ=>FI hh hit ⟨_,hl,rfl,q,rfl⟩ ?_ (q8 (st:=.list i k) rfl G y hQ);have h2:=List.getElem?_eq_none_iff.mp hx;rw[<-Array.getElem?_toList,getElem?_eq_none];rw[Array.length_toList,hn];exact h2
 |some v=>
  refine ab.pure λQ hQ=>?_;refine ak (hv.get hx) λz hz XT=>?_;refine wpAny_pyNext_list_item hit ⟨_,hl,rfl,q,rfl⟩ (x:=z) (by rw[<-Array.getElem?_toList];exact hz) λh' qh hs=>?_;exact kS (st:=.list i k) (st':=.list i (k+1)) rfl rfl G y hs (let ⟨o,ho,hc,_⟩:=qh;⟨o,_,ho,hc,by decide⟩) (λx1=>⟨XT.mono x1 y.own,⟨p,hp,qh⟩⟩) hQ
theorem B7{I:Addr}{i m l k:Nat}{E:Value->Shared->Prop}(hh:A.handled=none)(G:aq R Z σ s)(hI:o7 R Z s I (.dict i m l k))(y:yh R Z s [I]):ab R [I] Z σ s (λQ=>wpAny (model R.prog R.w) A (pyNext (.ref I)) Q E s) (aJ ih (.dict i m l k)) (pT R I (.dict i m l k)):=by
 (refine ak hI λp hp hit=>?_;clear hI);refine ab.getD λ⟨es,m'⟩ e1=>ab.need λhc=>?_;obtain⟨h1,h2⟩:=aP hc;obtain rfl:m'=m:=beq_iff_eq.mp h1;obtain rfl:es.length=l:=beq_iff_eq.mp h2;refine cN (G.at hp e1) λ_ eR dk vk=>?_;refine gA (id dk) λo' ents ho hx hd hk vT hn=>?_;have sz:ents.size=es.length:=by
  have h1:=tn vT;rw[Array.length_toList]at h1;exact h1.trans vk.len
 replace hit:=(Eq.symm sz)▸hit;dsimp only;cases Ut:es[k]? with
 |none=>
  refine ab.pure λQ hQ=>FQ hh hit ⟨o',ho,hx,hd⟩ ?_ (q8 (st:=.dict i m' es.length k) rfl G y hQ);exact Array.getElem?_eq_none (by rw[sz];exact List.getElem?_eq_none_iff.mp Ut)
 |some kv=>
  refine ab.pure λQ hQ=>?_;have yy:k<ents.size:=by rw[sz];exact(d0 Ut).1
  (refine NA (bg.got (mD vT) (i:=k) (b:=ents[k]) (by rw[Array.getElem?_toList];simp[yy])) λZe UL t Wh=>?_);refine cA (bg.got vk UL) λw' VY e3 _=>?_;rw[Ut]at VY;obtain rfl:=bE VY;rw[<-e3]at Wh;refine w0 hit ⟨o',ho,hx,hd⟩ (e:=ents[k]) (by simp[yy]) λh' qh hs=>?_;rw[Wh];exact kS (st:=.dict i m' es.length k) (st':=.dict i m' es.length (k+1)) rfl rfl G y hs (let ⟨o,ho,hc,_⟩:=qh;⟨o,_,ho,hc,by decide⟩) (λx1=>⟨.int kv.1 t,⟨p,hp,by rw[<-sz];exact qh⟩⟩) hQ
end
end
section
def mu(R:Gr)(n:Nat)(ih:f5):Prop:=∀{A:Around}{Z:bo}{σ:af}{s:Shared}{I:Addr}{st:gE},br A (n+1)->aq R Z σ s->o7 R Z s I st->yh R Z s (df I st)->
 aj R A (df I st) Z σ s (pyNext (.ref I)) (aJ ih st) (pT R I st)
section
variable{R:Gr}{A:Around}{X Y:List Addr}{Z:bo}{σ:af}{s:Shared}{n:Nat}{ih:f5}{sc:Scope}{e:ar}{env:Env}
theorem fF.append(a:fF X h)(b:fF Y h):fF (X++Y) h:=λx q=>by
 rcases mem_append.mp q with q|q
 ·exact a x q
 ·exact b x q
structure yw(sc:Scope)(env:Env)(X Y:List Addr):Prop where
 d1:∀a∈Y,a∉X
 d2:∀y c,sc.names.lookup y=some .free->env.cells.lookup y=some c->c∉Y
noncomputable abbrev Y2:=@DE
theorem yh.next{I:Addr}{st:gE}{aH:bo}{s':Shared}{o:Option (V×gE)}{a:Option Value}(y:yh R Z s Y)(h:df I st=Y)(x:bu (df I st) Z s aH s')(n:pT R I st aH s' o a):yh R aH s' Y:=
 ⟨λb q=>let ⟨o,ho,_⟩:=y.own b q;⟨x.out ho (y.off b q).1,(y.off b q).2⟩,h▸n.1⟩
structure lC(R:Gr)(ih:f5)(turn:V->ar->M (Fl×ar))(sc:Scope)(env:Env)(X Y:List Addr)(I:Addr)(Z:bo)(s:Shared)(r:Fl×ar)(aE:af)(k:Nat)(aN:bo)(au:af)(ax:Shared)(fZ:ar)(st:gE):Prop where
 G:aq R aN au ax
 F:FR R aN ax sc fZ env X
 it:o7 R aN ax I st
 y:yh R aN ax Y
 own:df I st=Y
 x:bu (Y++X) Z s aN ax
 m:w8 ih turn k st fZ au=some (r,aE)
theorem lC.turn(NX:mu R n ih)(rm:br A (n+1)){turn:V->ar->M (Fl×ar)}{I:Addr}{aN:bo}{au aE:af}{ax:Shared}{fZ:ar}{st:gE}{r:Fl×ar}{k:Nat}(ap:yw sc env X Y)(L:lC R ih turn sc env X Y I Z s r aE (k+1) aN au ax fZ st){Q:Option Value->Shared->Prop}(UU:∀cn aY,aq R cn aE aY->FR R cn aY sc fZ env X->bu (Y++X) Z s cn aY->r=(.next,fZ)->Q none aY)(Rj:∀cn cj aY v z st' fl lY de,aq R cn cj aY->FR R cn aY sc fZ env X->bu (Y++X) Z s cn aY->aI R cn aY.heap v z->lS I aY.heap->turn v fZ cj=some ((fl,lY),de)->(∀iz d8,aq R iz de d8->FR R iz d8 sc lY env X->bu X cn aY iz d8->bu (Y++X) Z s iz d8/\(match fl with
    |.next|.cont=>lC R ih turn sc env X Y I Z s r aE k iz de d8 lY st'
    |.brk=>r=(.next,lY)/\de=aE
    |.ret w=>r=(.ret w,lY)/\de=aE))->Q (some z) aY):bJ (model R.prog R.w) A (pyNext (.ref I)) Q ax:=by
 refine M.aA L.m λo cj e2 m2=>?_;refine NX rm L.G L.it (L.own▸L.y) o cj e2 _ λcn aY a G2 x2 n2=>?_;have y2:=L.y.next L.own x2 n2;replace x2:=(L.own)▸x2;have F2:FR R cn aY sc fZ env X:=L.F.mono x2 L.y.own (λa q z=>ap.d1 a z q) ap.d2;have xx:bu (Y++X) Z s cn aY:=L.x.trans (x2.weaken λa q=>mem_append_left _ q)
 induction o using Option.casesOn with
 |none=>
  induction a using Option.casesOn with
  |none=>
   obtain⟨h,rfl⟩:=M.aM m2;exact UU _ _ G2 F2 xx h.symm
  |some=>exact n2.2.elim
 |some p=>
  obtain⟨v,st'⟩:=p
  induction a using Option.casesOn with
  |none=>exact n2.2.elim
  |some z=>
   refine g7 (n2.2) λhv I2 h2 p2=>?_;(refine M.aA m2 λTe de e3 m3=>?_;obtain⟨fl,lY⟩:=Te);refine Rj _ _ _ v z st' fl lY de G2 F2 xx hv p2 e3 λiz d8 G3 F3 x3=>?_;have x5:bu (Y++X) Z s iz d8:=xx.trans (x3.weaken λa q=>mem_append_right _ q);have MP:df I st'=Y:=h2.trans L.own;have go:w8 ih turn k st' lY de=some (r,aE)->lC R ih turn sc env X Y I Z s r aE k iz de d8 lY st':=λm=>
    ⟨G3,F3,I2.mono x3 F2.own (by rw[MP];exact y2) (by refine Eq.symm MP▸?_;exact ap.d1),y2.step x3 ap.d1,MP,x5,m⟩
   refine⟨x5,?_⟩
   induction fl using Fl.casesOn with
   |next=>exact go m3
   |cont=>exact go m3
   |brk=>obtain⟨h,rfl⟩:=M.aM m3;exact⟨h.symm,rfl⟩
   |ret w=>(refine cH (M.aM m3) λh wj=>?_;subst wj);exact⟨h.symm,rfl⟩
theorem JK(S:bQ R n ih)(W:n7 R)(NX:mu R n ih){g:G}(hg:R.g=g)(rm:br A (n+1)){t:Expr}{b:List Stmt}{I:Addr}{r:Fl×ar}{aE:af}{m:Nat}{st:gE}(ap:yw sc env X Y)(L:lC R ih (λv e=>eg g ih sc e t v>>=λe'=>dx ih sc e' b) sc env X Y I Z s r aE m Z σ s e st){Q:Flow->Shared->Prop}(hQ:∀aH s' fl,aq R aH aE s'->bu (Y++X) Z s aH s'->DE R sc env X aH s' r fl->Q fl s'):aW (model R.prog R.w) A (.forLoop t (.ref I) b [] env) Q s:=by
 refine aW.forLoop (λk s'=>∃aN au fZ wM,lC R ih (λv e=>eg g ih sc e t v>>=λe'=>dx ih sc e' b) sc env X Y I Z s r aE k aN au s' fZ wM) (λuV ax L3=>A5 L3 λaN au fZ wM L1=>?_) m (nE Z σ e st L)
 induction uV using Nat.casesOn with
 |zero=>exact cT L1.m
 |succ k=>
  refine L1.turn NX rm ap (λcn aY G2 F2 x2 h=>N.of (wpAny_execs_nil (hQ _ _ _ G2 x2 (h▸⟨trivial,F2⟩)))) λcn cj aY v z st' fl lY de G2 F2 x2 hv p2 e3 next=>?_;refine M.aA e3 λGO kx e4 e5=>?_;refine N.of (tp p2 ?_);refine ko S W hg rm.less G2 F2 hv GO kx e4 _ λiz d8 _ G3 x3 F3=>?_;refine jQ S rm.less G3 F3 _ de e5 _ λqv qK fw G4 x4 r4=>?_;obtain⟨r4,F4⟩:=r4;obtain⟨x5,nx⟩:=next _ _ G4 F4 (x3.trans x4)
  induction fl using Fl.casesOn with
  |next=>
   cases fw with
   |next=>exact⟨k,fx k,qv,de,lY,st',nx⟩
   |_=>exact r4.elim
  |cont=>
   cases fw with
   |cont=>exact⟨k,fx k,qv,de,lY,st',nx⟩
   |_=>exact r4.elim
  |brk=>
   induction fw using Flow.casesOn with
   |brk=>exact hQ _ _ _ (nx.2▸G4) x5 (nx.1▸⟨trivial,F4⟩)
   |_=>exact r4.elim
  |ret w=>
   induction fw using Flow.casesOn with
   |ret u=>exact hQ _ _ _ (nx.2▸G4) x5 (nx.1▸⟨r4,F4⟩)
   |_=>exact r4.elim
theorem ki(h:bY it=true):foldedSetIterable it env x=pure x:=by
 unfold foldedSetIterable
 induction it using Expr.casesOn with
 |Set=>exact mO h
 |_=>rfl
theorem Dw(F:FR R Z s sc e env X)(h:∀a∈Y,s.heap.get? a=none):yw sc env X Y:=
 ⟨λa q z=>(by refine ak (F.own a z) λo ho _=>?_;exact cT (Eq.trans (h a q).symm ho)),λy c hy hc q=>by
  (refine bf (F.nJ y hy) λc' v DK KP _=>?_;(refine ak KP λo ho _=>?_;clear KP));obtain rfl:=bE (Eq.trans (Eq.symm hc) DK);exact cT (Eq.trans (h c q).symm ho)⟩
theorem Ka(S:bQ R n ih)(W:n7 R)(NX:mu R n ih)(hg:R.g=g)(rm:br A (n+1))(G:aq R Z σ s)(F:FR R Z s sc e env X):aj R A X Z σ s (exec (.For t it b [] p) env) (if bY it then do
   let x<-ih.E sc e it;let kW<-aQ x
   over ih (λv e=>do dx ih sc (<-eg g ih sc e t v) b) kW e else M.fail) (DE R sc env X):=by
 split
 ·rename_i hp;intro r aE hm Q hQ;refine M.aA hm λx au e1 hm=>?_;refine M.aA hm λkW cj e2 hm=>?_;rw[exec_For];refine N.at' (N.bind (S.E it rm.less G F x au e1 _ λaN ax xv G1 x1 r1=>?_));rw[ki hp];refine N.bind (N.pure (N.at' (N.bind (N.holding (N.of (s8 G1 r1 _ kW cj e2 _ λcn aY a G2 x2 r2=>?_))))));(refine rR r2 λI D1 I2 y2 hn _=>?_;clear r2;subst D1);have F2:=(F.step x1).step x2;refine N.runOwn (JK (Y:=df I kW.1) S W NX hg rm (Dw (F.step x1) hn) ⟨G2,F2,I2,y2,rfl,bu.refl ..,hm⟩ λaH s' fl G' x' r'=>?_);exact hQ _ _ _ G' ((x1.weaken λ_ q=>nomatch q).trans (bu.drop (x2.weaken λ_ q=>nomatch q) x' hn)) r'
 ·exact aj.fail
end
end
section
section
variable{R:Gr}{A:Around}{X Y:List Addr}{Z:bo}{σ:af}{s:Shared}{n:Nat}{ih:f5}{sc:Scope}{e:ar}{env:Env}
theorem Ac(S:bQ R n ih)(rm:br A n)(G:aq R Z σ s)(F:FR R Z s sc e env X):aj R A X Z σ s (exec (.Return (some x) p) env) (do pure (.ret (<-ih.E sc e x),e)) (DE R sc env X):=by
 rw[exec_Return_some];refine aj.at' (aj.sH (S.E x rm G F) λaN au ax v y G1 x1 r1=>?_);exact aj.pure G1 ⟨r1,F.step x1⟩
theorem J9(S:bQ R n ih)(rm:br A n)(G:aq R Z σ s)(F:FR R Z s sc e env X):aj R A X Z σ s (exec (.If t b o p) env) (do if<-ih.T sc e t then dx ih sc e b else dx ih sc e o) (DE R sc env X):=by
 rw[exec_If];refine aj.at' (aj.sH (S.T t rm G F) λaN au ax a y G1 x1 r1=>?_);cases r1
 induction a using Bool.casesOn with
 |true=>exact jQ S rm G1 (F.step x1)
 |false=>exact jQ S rm G1 (F.step x1)
theorem HB(S:bQ R n ih)(rm:br A n)(G:aq R Z σ s)(F:FR R Z s sc e env X):aj R A X Z σ s (exec (.Expr (.Call f args kw q) p) env) (do let _<-ih.E sc e (.Call f args kw q);pure (.next,e)) (DE R sc env X):=by
 have hi:interactive env=false:=by unfold interactive;rw[F.kind];rfl
 refine(?_:aj R A X Z σ s (standAt p>>=λ_=>if interactive env then printExpr (eval (.Call f args kw q) env)else(swapsWith (.Call f args kw q) none p.line env>>=λb=>if b=true then(do evalThenUse (.Call f args kw q) env λ_=>point;pure .next)else(do dropValue (.Call f args kw q) p (<-eval (.Call f args kw q) env)))) _ _);refine Eq.symm hi▸?_;refine aj.at' ?_;refine(?_:aj R A X Z σ s (eval (.Call f args kw q) env>>=λv=>dropValue (.Call f args kw q) p v) _ _);refine aj.sH (S.E _ rm G F) λaN au ax v y G1 x1 r1=>?_;intro u aE hm Q hQ;obtain⟨rfl,rfl⟩:=M.aM hm;exact N.of (wpAny_dropValue (hQ _ _ .next G1 (bu.refl ..) ⟨trivial,F.step x1⟩))
theorem Kb(S:bQ R n ih)(hg:R.g=g)(ok:Kw R)(rm:br A n)(G:aq R Z σ s)(F:FR R Z s sc e env X):aj R A X Z σ s (exec (.AugAssign (.Name x q) .Add v p) env) (jK g sc e x>>=λa=>ih.E sc e v>>=λb=>f6 a>>=λi=>f6 b>>=λj=>putN sc e x (.int (i+j))>>=λe'=>pure (.next,e')) (DE R sc env X):=by
 rw[exec_AugAssign_Name];refine aj.at' (aj.sH (tG hg ok G F).toN λaN au ax a y G1 x1 r1=>?_);refine aj.sH (aj.hold (S.E v rm G1 (F.step x1))) λcn cj aY b z G2 x2 r2=>aj.at' (ab.mz (ab.int λi ei=>ab.int λj ej u aE hm Q hQ=>?_));obtain⟨t,rfl⟩:=(ei▸r1.step x2).int_inv;obtain⟨t',rfl⟩:=(ej▸r2).int_inv;refine M.aA hm λe' de e1 e2=>?_;(refine cC λVC M6=>?_;obtain⟨rfl,rfl⟩:=M.aM e2;refine M6 ?_);refine N.bind (N.operate (N.of (iadd_int (N.at' (N.bind (jT (s:={aY with toks:=aY.toks+1}) (G2.tok _) (((F.step x1).step x2).step (bu.tok _)) (.int _ _) e' de e1 _ λiz d8 _ G3 x3 F3=>?_))))));exact N.pure (hQ _ _ _ G3 ((bu.tok _).trans x3) ⟨trivial,F3⟩)
theorem Bq(S:bQ R n ih)(rm:br A n){t:Expr}{b:List Stmt}{p:Pos}{r:Fl×ar}{aE:af}{m:Nat}(G:aq R Z σ s)(F:FR R Z s sc e env X)(hm:oj (λe=>ih.T sc e t) (λe=>dx ih sc e b) m e σ=some (r,aE)){Q:Flow->Shared->Prop}(hQ:∀aH s' fl,aq R aH aE s'->bu X Z s aH s'->DE R sc env X aH s' r fl->Q fl s'):aW (model R.prog R.w) A (.whileLoop t b [] env) Q s:=by
 refine aW.whileLoop (λk s'=>∃aN au fZ,aq R aN au s'/\FR R aN s' sc fZ env X/\bu X Z s aN s'/\
  oj (λe=>ih.T sc e t) (λe=>dx ih sc e b) k fZ au=some (r,aE)) (λuV ax Ma=>gz Ma λaN au fZ G1 F1 x1 m1=>?_) m (oK Z σ e G F (bu.refl ..) hm)
 induction uV using Nat.casesOn with
 |zero=>exact cT m1
 |succ k=>
  refine M.aA m1 λc cj e2 m2=>?_;refine S.T t rm G1 F1 c cj e2 _ λcn aY a G2 x2 r2=>?_;cases r2;have F2:=F1.step x2;have xx:=x1.trans (x2.weaken (Y:=X) λ_ q=>nomatch q)
  induction c using Bool.casesOn with
  |false=>
   obtain⟨rfl,rfl⟩:=M.aM m2;exact N.of (wpAny_execs_nil (hQ _ _ _ G2 xx ⟨trivial,F2⟩))
  |true=>
   (refine M.aA m2 λwi de e3 m3=>?_;obtain⟨fl,lY⟩:=wi);refine jQ S rm G2 F2 _ de e3 _ λqv qK fw G4 x4 r4=>?_;obtain⟨r4,F4⟩:=r4;have x5:=xx.trans x4;dsimp only at m3
   induction fl using Fl.casesOn with
   |next=>
    cases fw with
    |next=>exact⟨k,fx k,qv,de,lY,G4,F4,x5,m3⟩
    |_=>exact r4.elim
   |cont=>
    cases fw with
    |cont=>exact⟨k,fx k,qv,de,lY,G4,F4,x5,m3⟩
    |_=>exact r4.elim
   |brk=>
    obtain⟨rfl,rfl⟩:=M.aM m3
    induction fw using Flow.casesOn with
    |brk=>exact hQ _ _ _ G4 x5 ⟨trivial,F4⟩
    |_=>exact r4.elim
   |ret w=>
    obtain⟨rfl,rfl⟩:=M.aM m3
    induction fw using Flow.casesOn with
    |ret u=>exact hQ _ _ _ G4 x5 ⟨r4,F4⟩
    |_=>exact r4.elim
theorem Dm(S:bQ R n ih)(rm:br A n)(G:aq R Z σ s)(F:FR R Z s sc e env X){t:Expr}{b:List Stmt}{p:Pos}:aj R A X Z σ s (exec (.While t b [] p) env) (oj (λe=>ih.T sc e t) (λe=>dx ih sc e b) 64 e) (DE R sc env X):=by
 rw[exec_While];exact aj.at' λr aE hm Q hQ=>N.runOwn (Bq (p:=p) S rm G F hm hQ)
end
end
section
theorem xk{α β:Type}{f:Str->α->β}:∀(l:List (Str×α)),(l.map λp=>(p.1,f p.1 p.2)).lookup x=(l.lookup x).map (f x):=by
 intro l0
 induction l0 with
 |nil=>
  exact rfl
 |cons hd r hi=>
  obtain⟨n,k⟩:=hd;rw[map_cons,lookup_cons,lookup_cons];by_cases h:x=n
  ·subst h;simp
  ·have h':(x==n)=false:=by simpa using h
   refine Eq.symm h'▸?_;exact hi
theorem qW:(relabel scope env).names.lookup x=(scope.names.lookup x).map λk=>if(k== .free&&env.scope.kind== .function&&env.kindOf x==some .cell)then .cell else k:=by
 unfold relabel;have:(scope.names.map λ(n,k)=>if(k==NameKind.free&&env.scope.kind== .function&&env.kindOf n==some .cell)then(n,NameKind.cell)else(n,k))=
   scope.names.map λp=>(p.1,(λ(n:Str) (k:NameKind)=>if(k== .free&&env.scope.kind== .function&&env.kindOf n==some .cell)then NameKind.cell else k) p.1 p.2):=by
  apply dW;intro p _;dsimp only
  split<;>rfl
 skip;refine Eq.symm this▸?_;exact xk (f:=λ(n:Str) (k:NameKind)=>if(k== .free&&env.scope.kind== .function&&env.kindOf n==some .cell)then NameKind.cell else k) scope.names
theorem cY:∀(names:List (Str×NameKind))(n:Nat)(acc:List (Str×Addr)),cellsFrom n names acc=cellsFrom n names []++acc
 |[],n,acc=>rfl
 |(y,k)::r,n,acc=>by
  unfold cellsFrom
  split
  ·rw[cY r (n+1) ((y,n)::acc),cY r (n+1) [(y,n)]];simp
  ·exact cY r n acc
theorem lx:∀(names:List (Str×NameKind))(n:Nat),(x,NameKind.cell)∉names->(cellsFrom n names []).lookup x=none:=by
 intro l0
 induction l0 with
 |nil=>
  rintro n _;exact rfl
 |cons hd r hi=>
  obtain⟨y,k⟩:=hd;rintro n h;have h2:(x,NameKind.cell)∉r:=λq=>h (fX _ q);unfold cellsFrom
  split
  ·rename_i hk;have sM:x≠y:=λq=>h (by rw[q,<-beq_iff_eq.mp hk];exact eO);have e':(x==y)=false:=by simpa using sM
   rw[cY,fy,hi _ h2];simp[lookup_cons,e']
  ·exact hi n h2
noncomputable def km(env:Env):List (Str×NameKind)->List (Str×Addr)->List (Str×Addr)
 |[],acc=>acc
 |(n,k)::r,acc=>km env r (if k== .free then match env.cells.lookup n with
  |some c=>(n,c)::acc
  |none=>acc else acc)
theorem sP(h:∀n,(n,NameKind.free)∈scope.names->∃c,env.cells.lookup n=some c):closureFor scope env=pure (km env scope.names []):=by
 skip;have main:∀(l:List (Str×NameKind))(acc:List (Str×Addr)),(∀n,(n,NameKind.free)∈l->∃c,env.cells.lookup n=some c)->
   forIn l acc (λ(p:Str×NameKind) (cs:List (Str×Addr))=>if(p.2==NameKind.free)=true then(do let c<-cellOf env p.1;pure (ForInStep.yield ((p.1,c)::cs)))else pure (ForInStep.yield cs))=(pure (km env l acc):Sem (List (Str×Addr))):=by
  intro l
  induction l with
  |nil=>intro acc _;rw[forIn_nil];rfl
  |cons p r DI=>
   intro acc h;obtain⟨n,k⟩:=p;rw[forIn_cons];unfold km;by_cases hk:(k==NameKind.free)=true
   ·(refine eL (h n (by rw[<-beq_iff_eq.mp hk];exact eO)) λc hc=>?_);simp only[hk,if_true];have e:cellOf env n=pure c:=by unfold cellOf;rw[hc]
    (refine Eq.symm e▸?_;refine Eq.symm hc▸?_);exact DI _ λm hm=>h m (fX _ hm)
   ·simp only[hk,false_eq_true,if_false];exact DI _ λm hm=>h m (fX _ hm)
 show(forIn scope.names [] _>>=λcs=>pure cs)=_;refine Eq.symm (main scope.names [] h)▸?_
 rfl
theorem mr:∀(l:List (Str×NameKind))(acc:List (Str×Addr)),(∀c,acc.lookup x=some c->env.cells.lookup x=some c)->(∀c,(km env l acc).lookup x=some c->env.cells.lookup x=some c)/\(((x,NameKind.free)∈l\/(acc.lookup x).isSome=true)->(env.cells.lookup x).isSome=true->((km env l acc).lookup x).isSome=true):=by
 intro l0
 induction l0 with
 |nil=>
  rintro acc h;exact⟨h,λq _=>by rcases q with q|q;cases q;exact q⟩
 |cons hd r hi=>
  obtain⟨n,k⟩:=hd;rintro acc h;rw[km];by_cases hk:(k==NameKind.free)=true
  ·simp only[hk,if_true];cases hc:env.cells.lookup n with
   |none=>
    refine⟨(hi acc h).1,λq w=>(hi acc h).2 ?_ w⟩
    rcases q with q|q
    ·rcases bt q with q|q
     ·(injection q with P9;subst P9);replace w:=hc▸w;exact mO w
     ·exact .inl q
    ·exact .inr q
   |some c=>
    skip;have h':∀d,(List.lookup x ((n,c)::acc))=some d->env.cells.lookup x=some d:=λd hd=>by
     replace hd:=Eq.trans (Eq.symm (lookup_cons)) hd;by_cases e:x=n
     ·subst e;simp at hd;subst hd;exact hc
     ·have e':(x==n)=false:=by simpa using e
      rw[e']at hd;exact h d hd
    refine⟨(hi _ h').1,λq w=>(hi _ h').2 ?_ w⟩
    rcases q with q|q
    ·rcases bt q with q|q
     ·(injection q with E7;subst E7);right;simp
     ·exact .inl q
    ·right
     rw[lookup_cons]
     split
     ·rfl
     ·exact q
  ·simp only[hk,false_eq_true,if_false];refine⟨(hi acc h).1,λq w=>(hi acc h).2 ?_ w⟩
   rcases q with q|q
   ·rcases bt q with q|q
    ·(injection q with P6 PR;subst P6;subst PR);exact absurd rfl hk
    ·exact .inl q
   ·exact .inr q
section
variable{R:Gr}{A:Around}{X Y:List Addr}{Z:bo}{σ:af}{s:Shared}{n:Nat}{ih:f5}{sc cu:Scope}{e:ar}{env:Env}
theorem rV(h:oV sc cu=true):cu.kind=.function/\∀p∈cu.names,(p.2=.local->cu.names.lookup p.1=some .local)/\(p.2=.cell->cu.names.lookup p.1=some .cell)/\(p.2=.free->sc.names.lookup p.1=some .cell\/sc.names.lookup p.1=some .free):=by
 unfold oV at h;refine uc h λh1 h2=>?_;refine⟨beq_iff_eq.mp h1,λp hp=>?_⟩;have:=fO h2 p hp;obtain⟨x,k⟩:=p;refine⟨λq=>?_,λq=>?_,λq=>?_⟩<;>(dsimp only at q;subst q;simpa using this)
theorem gR(F:FR R Z s sc e env X)(h:sc.names.lookup x=some .cell\/sc.names.lookup x=some .free):env.kindOf x=some .cell/\∃c fq,env.cells.lookup x=some c/\s.heap.IsCell c fq/\c∉cW Z:=by
 rcases h with h|h
 ·refine bj (F.cell x h) λc fq h1 h2 h3 _=>?_
  rcases F.names x _ h with h4|⟨h4,_⟩
  ·exact(jN h4 c fq h1 h2 ((F.off c h3).1))
  ·exact PySem.NameKind.noConfusion h4
 ·refine bj (F.nJ x h) λc fq h1 h2 _ h3=>?_;exact(jN (F.frees x h) c fq h1 h2 h3)
theorem Ce:∀{l:List (Str×NameKind)},Mine.Internal.look x (l.filterMap λp=>match p.2 with
  |.free=>match sc.names.lookup p.1 with
   |some .cell=>(look p.1 e.own).map (p.1, ·)
   |some .free=>(look p.1 e.up).map (p.1, ·)
   |_=>none
  |_=>none)=some v->(sc.names.lookup x=some .cell/\look x e.own=some v)\/(sc.names.lookup x=some .free/\look x e.up=some v):=by
 intro l0
 induction l0 with
 |nil=>
  rintro h;exact cT h
 |cons hd r hi=>
  obtain⟨n,k⟩:=hd;rintro h;rw[List.filterMap_cons]at h
  split at h
  ·exact hi h
  ·rename_i b hb;dsimp only at hb;unfold Mine.Internal.look at h
   induction k using NameKind.casesOn with
   |free=>
    dsimp only at hb;generalize hs:sc.names.lookup n=kk at hb
    match kk,hb with
    |some .cell,hb=>
     obtain⟨w,hw,rfl⟩:=map_eq_some_iff.mp hb;dsimp only at h
     split at h
     ·rename_i hx;cases h;rw[beq_iff_eq.mp hx];exact .inl ⟨hs,hw⟩
     ·exact hi h
    |some .free,hb=>
     obtain⟨w,hw,rfl⟩:=map_eq_some_iff.mp hb;dsimp only at h
     split at h
     ·rename_i hx;cases h;rw[beq_iff_eq.mp hx];exact .inr ⟨hs,hw⟩
     ·exact hi h
    |none,hb=>exact cT hb
    |some .local,hb=>exact cT hb
    |some .globalExplicit,hb=>exact cT hb
    |some .globalImplicit,hb=>exact cT hb
   |_=>exact cT hb
end
end
section
section
variable{R:Gr}{A:Around}{X Y:List Addr}{Z:bo}{σ:af}{s:Shared}{n:Nat}{ih:f5}{sc cu:Scope}{e:ar}{env:Env}
noncomputable def eY(s:Shared)(cu:Scope)(env:Env):List (Str×Addr):=cellsFrom (s.heap.objs.size+1) cu.names (km env cu.names [])
noncomputable def gQ(s:Shared)(cu:Scope)(env:Env):Env:=
 {scope:=cu,locals:=s.heap.objs.size,globals:=env.globals,cells:=eY s cu env,qual:=env.qual,func:=none,code:=env.code,frame:=env.frame,builtins:=env.builtins}
theorem GX{M:Model}{E:Value->Shared->Prop}{Q:Env->Shared->Prop}(h:Q (gQ s cu env) {s with heap:=pushCells (s.heap.push {cls:=.type "dict",data:=.dict #[]}) cu.names}):wpAny M A (newFunctionEnv cu env.globals (km env cu.names []) [] env.qual none .none (some env)) Q E s:=by
 simp only[newFunctionEnv,Option.isSome_some,if_true];refine aw (wpAny_alloc ?_);refine aw (wpAny_layCells _ (λname kind cells=>by cases Yg:kind==NameKind.cell<;>simp[Yg]) _ _ _ _ ?_);refine Eq.symm (show({s with heap:=s.heap.push {cls:=.type "dict",data:=.dict #[]}}:Shared).heap.objs.size=s.heap.objs.size+1 from Heap.size_push ..)▸?_
 rw[forIn_nil];exact aw (a7 (a7 h))
theorem zX(G:aq R Z σ s)(F:FR R Z s sc e env X)(ok:oV sc cu=true){Q:Prop}(hQ:∀s' X',s'={s with heap:=pushCells (s.heap.push {cls:=.type "dict",data:=.dict #[]}) cu.names}->aq R Z σ s'->bu [] Z s Z s'->(∀a∈X',s.heap.get? a=none)->FR R Z s' cu ⟨[],NL sc e cu⟩ {gQ s cu env with scope:=relabel cu env} X'->Q):Q:=by
 obtain⟨tS,vm⟩:=rV ok;have keep:∀b o,s.heap.get? b=some o->(pushCells (s.heap.push {cls:=.type "dict",data:=.dict #[]}) cu.names).get? b=some o:=λb o q=>pushCells_keeps _ _ b o (gm _ q);obtain⟨G1,x1⟩:=fE (t:=s.toks) G keep;have RO:=cellsFrom_ok cu.names (s.heap.push {cls:=.type "dict",data:=.dict #[]}) (s.heap.objs.size+1) [] ⟨λ_ _ hm=>(nomatch hm),List.Pairwise.nil⟩ (by rw[Heap.size_push];exact Nat.le_refl _)
 rw[Heap.size_push]at RO;have NG:∀x,cu.names.lookup x=some .cell->∃c,(cellsFrom (s.heap.objs.size+1) cu.names []).lookup x=some c:=λx hx=>isSome_iff_exists.mp (lu _ _ _ (.inl (mem_of_lookup hx)));have Ve:∀x c,(cellsFrom (s.heap.objs.size+1) cu.names []).lookup x=some c->(eY s cu env).lookup x=some c:=λx c h=>by
  unfold eY;rw[cY,fy,h];rfl
 have WA:∀x,cu.names.lookup x=some .free->(eY s cu env).lookup x=env.cells.lookup x:=λx hx=>by
  have nc:(x,NameKind.cell)∉cu.names:=λq=>by
   have:=(vm _ q).2.1 rfl;replace this:=Eq.trans (Eq.symm hx) this;cases this
  unfold eY;rw[cY,fy,lx _ _ nc,none_or];refine fT (gR F ((vm _ (mem_of_lookup hx)).2.2 rfl)) λ_ c fq h1 _=>?_;obtain⟨k1,k2⟩:=mr (env:=env) (x:=x) cu.names [] (λc h=>by injection h);obtain⟨d,hd⟩:=isSome_iff_exists.mp (k2 (.inl (mem_of_lookup hx)) (by rw[h1];rfl));rw[hd,k1 d hd]
 have fresh:∀a,s.heap.objs.size<=a->s.heap.get? a=none:=λa ha=>Heap.get?_none_of_le ha;have Fz:∀a,a∈s.heap.objs.size::cu.names.filterMap (λp=>(cellsFrom (s.heap.objs.size+1) cu.names []).lookup p.1)->a=s.heap.objs.size\/∃m,(cellsFrom (s.heap.objs.size+1) cu.names []).lookup m=some a:=λa ha=>by
  rcases bt ha with h|h
  ·exact .inl h
  ·refine ak (mem_filterMap.mp h) λp _ h=>?_;exact .inr ⟨_,h⟩
 have newX:∀a,a∈s.heap.objs.size::cu.names.filterMap (λp=>(cellsFrom (s.heap.objs.size+1) cu.names []).lookup p.1)->s.heap.get? a=none:=λa ha=>by
  rcases Fz a ha with rfl|⟨m,h⟩
  ·exact fresh _ (Nat.le_refl _)
  ·exact fresh _ (Nat.le_of_succ_le (RO.empty m a (mem_of_lookup h)).2)
 have Qn:∀c fq,s.heap.IsCell c fq->c∉s.heap.objs.size::cu.names.filterMap (λp=>(cellsFrom (s.heap.objs.size+1) cu.names []).lookup p.1):=λc fq h q=>by
  (refine ak h λo ho _=>?_;clear h);rw[newX c q]at ho;injection ho
 have kind:∀x,Env.kindOf {gQ s cu env with scope:=relabel cu env} x=(cu.names.lookup x).map λk=>if(k== .free&&env.scope.kind== .function&&env.kindOf x==some .cell)then .cell else k:=λx=>qW
 have Lg:∀x,cu.names.lookup x=some .free->Env.kindOf {gQ s cu env with scope:=relabel cu env} x=some .cell:=λx hx=>by
  (refine cC λH2 ri=>?_;refine cH (gR F ((vm _ (mem_of_lookup hx)).2.2 rfl)) λh1 _=>?_;refine ri ?_);rw[kind,hx,F.kind,h1];rfl
 have M0:∀x k,cu.names.lookup x=some k->k≠.free->Env.kindOf {gQ s cu env with scope:=relabel cu env} x=some k:=λx k hx hk=>by
  rw[kind,hx];have:(k==NameKind.free)=false:=by simpa using hk
  simp only[Option.map_some,this,Bool.false_and,false_eq_true,if_false]
 refine hQ _ _ rfl G1 x1 newX ⟨tS,λx k hx=>?_,F.globals,F.builtins,λa ha=>?_,λa ha=>?_,eO,(aT _ ((Heap.Ns.new s.heap (.type "dict")).keeps (pushCells_keeps _ _)) (λx v _ h=>by injection h)),
  λx hx=>?_,λx y c hx hy h1 h2=>?_,λx v hx hv=>?_,Lg,λx hx=>?_⟩
 ·by_cases h:k=.free
  ·subst h;exact .inr ⟨rfl,Lg x hx⟩
  ·exact .inl (M0 x k hx h)
 ·refine⟨λq=>?_,?_⟩
  ·obtain⟨o,ho⟩:=G.live q;rw[newX a ha]at ho;injection ho
  ·cases h:R.eN.heap.get? a with
   |none=>rfl
   |some o=>have z:=newX a ha;rw[G.base a o h]at z;injection z
 ·rcases Fz a ha with rfl|⟨m,h⟩
  ·exact(aT _ (pushCells_keeps _ _ _ _ (gk _ rfl)) (.inl trivial))
  ·refine ak ((RO.empty m a (mem_of_lookup h)).1) λo ho hd=>?_;exact(aT o ho (.inl (by rw[hd];trivial)))
 ·obtain⟨c,hc⟩:=NG x hx;have:=RO.empty x c (mem_of_lookup hc);refine(dg c none (Ve x c hc) this.1 (fX _ (mem_filterMap.mpr (aT _ (mem_of_lookup hx) hc))) (λq=>?_) (λv h=>by injection h));have q':c=s.heap.objs.size:=q;rw[q']at this;exact Nat.lt_irrefl _ this.2
 ·obtain⟨c1,Wq⟩:=NG x hx;obtain⟨c2,SV⟩:=NG y hy;have e1:=Ve x c1 Wq;have e2:=Ve y c2 SV;have Ry:(eY s cu env).lookup x=some c:=h1;have xB:(eY s cu env).lookup y=some c:=h2;rw[e1]at Ry;(injection Ry with IM;subst IM);rw[e2]at xB;(injection xB with IL;subst IL);exact name_of_addr RO.apart (mem_of_lookup Wq) (mem_of_lookup SV)
 ·have hl:∃c y,env.cells.lookup x=some c/\s.heap.IsCell c (some y)/\c∉cW Z/\aI R Z s.heap v y:=by
   rcases Ce hv with⟨h1,h2⟩|⟨h1,h2⟩
   ·refine dh (F.cell x h1) λc fq a1 a2 a3 _ a4=>?_;(refine ak (a4 v h2) λy D2 a5=>?_;subst D2);exact(dt c y a1 a2 ((F.off c a3).1) a5)
   ·refine dh (F.free x v h1 h2) λc y a1 a2 _ a3 a4=>?_;exact(dt c y a1 a2 a3 a4)
  (refine bj hl λc y a1 a2 a3 a4=>?_;clear hl);exact(dg c y ((WA x hx).trans a1) (a2.keeps keep) (Qn c _ a2) a3 (a4.step x1))
 ·refine nN (gR F ((vm _ (mem_of_lookup hx)).2.2 rfl)) λ_ c fq h1 h2 h3=>?_;exact(dt c fq ((WA x hx).trans h1) (h2.keeps keep) (Qn c _ h2) h3)
def oU(M:Model)(A:Around)(use:Option (Value->Sem Unit))(Q:Value->Shared->Prop)(acc:Value)(C:Addr)(s':Shared):Prop:=
 match use with
 |none=>∃m,s'.heap.Ns C m/\∀h',Heap.SameBut C s'.heap h'->(∃m',h'.Ns C m')->Q acc {s' with heap:=h'}
 |some u=>bJ M A (u acc) (λ_ qV=>∃m,qV.heap.Ns C m/\∀h',Heap.SameBut C qV.heap h'->(∃m',h'.Ns C m')->Q .none {qV with heap:=h'}) s'
theorem N.Iw{α:Type}{M:Model}{c:Prop}[Decidable c]{pos:Pos}{k:PUnit->Sem α}{Q:α->Shared->Prop}(h:bJ M A (k ()) Q s):bJ M A (if c then(PySem.standAt pos>>=k)else k ()) Q s:=by
 split
 ·exact N.at' h
 ·exact h
theorem N.comprehension{M:Model}{ex:Expr}{pos:Pos}{Fp first:Sem Value}{g:Comprehension}{gs:List Comprehension}{cl:List (Str×Addr)}{use:Option (Value->Sem Unit)}{Q:Value->Shared->Prop}(gH:clausesOf ex=g::gs)(hs:∀x,foldedSetIterable g.iter env x=Pure.pure x)(Rq:closureFor cu env=Pure.pure cl)(tS:cu.kind=.function)(oN:∀x∈cu.names,x.2=.local->cu.names.lookup x.1=some .local)(h:bJ M A first (λx ax=>bJ M A (pyIter x) (λit aY=>bJ M A Fp (λacc d8=>bJ M A (newFunctionEnv cu env.globals cl [] env.qual none .none (some env)) (λcenv qK=>aW M A (.compStart ex 0 it acc {cenv with scope:=relabel cu env}) (λ_ s'=>oU M A use Q acc cenv.locals s') qK) d8) aY) ax) s):bJ M A (PySem.comprehension ex cu env pos Fp false first use) Q s:=by
 unfold PySem.comprehension;(refine Eq.symm Rq▸?_;refine Eq.symm gH▸?_);refine N.seq h λx ax jo=>N.at' ?_;dsimp only;rw[hs x];refine N.bind (N.pure (N.seq (N.holding jo) λit aY gM=>?_));refine N.Iw (N.seq gM λacc d8 kH=>N.bind (N.pure (N.seq kH λcenv qK M9=>?_)));have hv:∀x∈(cu.names.filter λx=>(x.2== .local||x.2== .cell)&&x.1 !=(".0":Str)).reverse,x.2=.local->
   Env.kindOf {cenv with scope:=relabel cu env} x.1=some .local:=λx hx hl=>lookup_relabel_local (oN x (List.mem_filter.mp (mem_reverse.mp hx)).1 hl)
 have Na:∀x∈(cu.names.filter λx=>(x.2== .local||x.2== .cell)&&x.1 !=(".0":Str)).reverse.drop 1++(cu.names.filter λx=>(x.2== .local||x.2== .cell)&&x.1 !=(".0":Str)).reverse.take 1,
   x.2=.local->Env.kindOf {cenv with scope:=relabel cu env} x.1=some .local:=λx hx hl=>by
  rcases mem_append.mp hx with h1|h1
  ·exact hv x (List.mem_of_mem_drop h1) hl
  ·exact hv x (mem_of_mem_take h1) hl
 refine N.holding (N.bind (N.attempt (N.holding (N.run (M9.mono λf s' hr=>?_)))))
 induction use using Option.casesOn with
 |none=>
  refine ak hr λm hn hr=>?_;exact N.bind (N.holding (N.of (wpAny_comp_letGo (cenv:={cenv with scope:=relabel cu env}) tS _ s' m hv hn λh' m' pJ rC=>(show bJ _ _ _ _ _ from N.pure (hr h' rC ⟨m',pJ⟩)))))
 |some u=>
  refine N.bind (N.rule (N.bind (N.holding (N.mono hr λ_ qV oM=>?_))));refine ak oM λm hn oM=>?_;exact N.bind (N.of (wpAny_comp_letGo (cenv:={cenv with scope:=relabel cu env}) tS _ qV m Na hn λh' m' pJ rC=>(show bJ _ _ _ _ _ from N.pure (oM h' rC ⟨m',pJ⟩))))
end
end
section
section
variable{prog:Program}{w:World}{A:Around}{s:Shared}{env:Env}
theorem aW.compStart{Q:Flow->Shared->Prop}(h0:aW (model prog w) A (.compLoop (.ListComp elt [⟨t,iter,ifs,0⟩] scope pos) 0 it acc env) Q s)(h:bJ (model prog w) A (pyIter it) (λVX s'=>aW (model prog w) A (.compLoop (.ListComp elt [⟨t,iter,ifs,0⟩] scope pos) 0 VX acc env) Q s') s):aW (model prog w) A (.compStart (.ListComp elt [⟨t,iter,ifs,0⟩] scope pos) 0 it acc env) Q s:=by
 refine aW.tree ?_;refine(?_:bJ _ A ((PySem.compStart (.ListComp elt [⟨t,iter,ifs,0⟩] scope pos) 0 it acc env).onRaise (λx=>do noteFrame x env;PySem.standAt theWindowsPlace)) _ s);refine N.onRaise ?_;unfold PySem.compStart;refine(?_:bJ _ _ (ask>>=_) _ s);refine N.bind (N.of (wpAny_askSetting ?_));show bJ _ _ (if _ then _ else _) _ s
 split
 ·exact N.pure ⟨rfl,h0⟩
 ·refine N.bind (N.rule ?_);refine(?_:bJ _ _ (PySem.standAt iter.pos>>=_) _ s);exact N.at' (N.seq h λVX s' h'=>N.pure ⟨rfl,h'⟩)
theorem aW.compLoop{Q:Flow->Shared->Prop}(I:Nat->Shared->Prop)(turn:∀n s,I n s->bJ (model prog w) A (pyNext it) (λr ax=>match r with
   |none=>Q .next ax
   |some v=>bJ (model prog w) A (letOwnedTupleGo t it v) (λ_ wL=>bJ (model prog w) A (assign t env v) (λ_ aY=>
     bJ (model prog w) A (forIn ifs true λc r=>if r=true then do let ok<-isTrue c env (eval c env);pure (ForInStep.yield ok)else pure (ForInStep.yield r)) (λok d8=>
      if ok=true then bJ (model prog w) A (eval elt env) (λx qK=>bJ (model prog w) A (call (.builtin "list.append") [acc,x]) (λ_ fN=>∃m,m<n/\I m fN) qK) d8
      else ∃m,m<n/\I m d8) aY) wL) ax) s)
  (n:Nat) (h:I n s):aW (model prog w) A (.compLoop (.ListComp elt [⟨t,iter,ifs,0⟩] scope pos) 0 it acc env) Q s:=by
 refine aW.loop rfl I (λn s hI=>?_) n h;refine(?_:bJ _ A ((compTurn (.ListComp elt [⟨t,iter,ifs,0⟩] scope pos) 0 it acc env).onRaise (λx=>do noteFrame x env;theTreesLotGoes x)) _ s);refine N.onRaise ?_;rw[compTurn_list];refine N.at' (N.seq (turn n s hI) λr ax jo=>?_)
 induction r using Option.casesOn with
 |none=>exact N.pure jo
 |some v=>
  refine N.seq jo λ_ wL Ge=>N.seq Ge λ_ aY gM=>N.seq gM λok d8 kH=>?_
  induction ok using Bool.casesOn with
  |false=>exact N.pure (.inl ⟨rfl,kH⟩)
  |true=>exact N.bind (N.seq kH λx qK M9=>N.seq M9 λ_ fN Un=>N.pure (N.pure (.inl ⟨rfl,Un⟩)))
end
section
variable{R:Gr}{A:Around}{X Y:List Addr}{Z:bo}{σ:af}{s:Shared}{n:Nat}{ih:f5}{sc cu:Scope}{e:ar}{env:Env}
theorem wJ:∀l:List Expr,(forIn l false λc r=>if r=true then do let ok<-isTrue c env (eval c env);pure (ForInStep.yield ok)else pure (ForInStep.yield r))=(pure false:Sem Bool):=by
 intro l0
 induction l0 with
 |nil=>
  simp
 |cons c l hi=>
  rw[forIn_cons];exact hi
theorem BE(S:bQ R n ih)(rm:br A n):∀{l:List Expr}{Z:bo}{σ:af}{s:Shared},aq R Z σ s->FR R Z s sc e env X->aj R A [] Z σ s (forIn l true λc r=>if r=true then do let ok<-isTrue c env (eval c env);pure (ForInStep.yield ok)else pure (ForInStep.yield r)) (mG ih sc e l) RB:=by
 intro l0
 induction l0 with
 |nil=>
  rintro _ _ _ G F;rw[forIn_nil];exact aj.pure G rfl
 |cons c l hi=>
  rintro Z σ s G F;rw[forIn_cons];show aj R A [] Z σ s ((isTrue c env (eval c env)>>=λok=>pure (ForInStep.yield ok))>>=_) (ih.T sc e c>>=λt=>if t=true then mG ih sc e l else pure false) RB;intro b aE hm Q hQ;refine M.aA hm λt au e1 hm=>?_;refine N.bind (N.bind (S.T c rm G F t au e1 _ λaN ax a G1 x1 r1=>?_));cases r1;refine N.pure ?_
  induction t using Bool.casesOn with
  |true=>exact hi G1 (F.step x1) b aE hm Q λaH s' a G' x' r'=>hQ _ _ _ G' (x1.trans x') r'
  |false=>
   refine(?_:bJ _ _ (forIn l false _) _ _);rw[wJ];(refine M.lG hm λwh wg=>?_;subst wh;subst wg);exact N.pure (hQ _ _ _ G1 x1 rfl)
noncomputable def oT(g:G)(ih:f5)(cu:Scope)(t elt:Expr)(ifs:List Expr)(a:Nat)(v:V)(e:ar):M (Fl×ar):=do
 let e'<-eg g ih cu e t v
 if<-mG ih cu e' ifs then
  let w<-ih.E cu e' elt
  d6 a w
  pure (.next,e')
 else pure (.next,e')
theorem Dz(G:aq R Z σ s)(hp:Z[a]?=some p)(hv:aI R Z s.heap w y):aj R A [] Z σ s (call (.builtin "list.append") [.ref p.1,y]) (d6 a w) (λ_ _ _ _=>True):=by
 refine ab.mz (ab.getL λvs e1=>ab.need λhf=>ab.BJ λQ hQ=>?_);refine bf (gW G hp e1) λys k hl hw hn=>?_;refine N.of (sb hl (by rw[hn];exact gy hf) λh' m qg hb=>?_);obtain⟨G1,x1⟩:=Bz (c':=.lst (vs++[w])) (t:=s.toks) G hp (G.at hp e1).1 hb (λx=>⟨(G.at hp e1).1,_,m,qg,by
  rw[Array.toList_push];exact(hw.mono x (fF.nil _)).append (.cons (hv.mono x (fF.nil _)) .nil)⟩)
 exact hQ _ _ _ G1 x1 trivial
theorem CQ(S:bQ R n ih)(W:n7 R)(NX:mu R n ih){g:G}(hg:R.g=g)(rm:br A (n+1)){t elt iter:Expr}{ifs:List Expr}{pos:Pos}{scope:Scope}{I:Addr}{a:Nat}{p:Addr×Addr}{r:Fl×ar}{aE:af}{m:Nat}{st:gE}(ap:yw cu env X Y)(hp:Z[a]?=some p)(L:lC R ih (oT g ih cu t elt ifs a) cu env X Y I Z s r aE m Z σ s e st){Q:Flow->Shared->Prop}(hQ:∀aH s' e',aq R aH aE s'->bu (Y++X) Z s aH s'->FR R aH s' cu e' env X->Q .next s'):aW (model R.prog R.w) A (.compLoop (.ListComp elt [⟨t,iter,ifs,0⟩] scope pos) 0 (.ref I) (.ref p.1) env) Q s:=by
 refine aW.compLoop (λk s'=>∃aN au fZ wM,lC R ih (oT g ih cu t elt ifs a) cu env X Y I Z s r aE k aN au s' fZ wM) (λuV ax LU=>A5 LU λaN au fZ wM L1=>?_) m (nE Z σ e st L)
 induction uV using Nat.casesOn with
 |zero=>injection L1.m
 |succ k=>
  refine L1.turn NX rm ap (λcn aY G2 F2 x2 h=>hQ _ _ _ G2 x2 F2) λcn cj aY v z st' fl lY de G2 F2 x2 hv p2 e3 next=>?_;unfold oT at e3;refine M.aA e3 λGO kx e4 e5=>?_;refine M.aA e5 λtt Ar e6 e7=>?_;refine N.of (tp p2 ?_);refine ko S W hg rm.less G2 F2 hv GO kx e4 _ λiz d8 _ G3 x3 F3=>?_;refine BE S rm.less G3 F3 tt Ar e6 _ λqv qK b4 G4 x4 r4=>?_;refine Eq.symm (show b4=tt from r4)▸?_
  have F4:=F3.step x4;have VK:=x3.trans (x4.weaken (Y:=X) λ_ q=>nomatch q)
  induction tt using Bool.casesOn with
  |false=>
   obtain⟨q1,rfl⟩:=M.aM e7;(refine cC λWX QN=>?_;(refine cC λWM QD=>?_;obtain⟨rfl,rfl⟩:=Prod.mk.inj q1;refine QD ?_);refine QN ?_);exact⟨k,fx k,qv,Ar,GO,st',(next _ _ G4 F4 VK).2⟩
  |true=>
   refine(?_:bJ _ _ _ _ _);(refine cC λWV QL=>?_;refine M.aA e7 λw Aq e8 e9=>?_;refine QL ?_);refine S.E elt rm.less G4 F4 w Aq e8 _ λfc fN yv G5 x5 r5=>?_;refine M.aA e9 λu DM YI YJ=>?_;obtain⟨q1,rfl⟩:=M.aM YJ;(refine cC λWU QK=>?_;obtain⟨rfl,rfl⟩:=Prod.mk.inj q1;refine QK ?_);refine Dz G5 (x5.get (x4.get (x3.get (x2.get hp)))) r5 u DM YI _ λAs Mv _ G6 x6 _=>?_;exact(Cr k (fx k) As DM GO st' ((next _ _ G6 ((F4.step x5).step x6) (VK.trans ((x5.trans x6).weaken λ_ q=>nomatch q))).2))
end
end
section
section
variable{R:Gr}{A:Around}{X Y:List Addr}{Z:bo}{σ:af}{s:Shared}{n:Nat}{ih:f5}{sc cu:Scope}{e:ar}{env:Env}
theorem ET{I:Addr}{st:gE}(hI:o7 R Z s I st)(hg:∀i,st=.gen i->∃k,s.heap.IsGen I k){Q:Value->Shared->Prop}{E:Value->Shared->Prop}(h:Q (.ref I) s):wpAny (model R.prog R.w) A (pyIter (.ref I)) Q E s:=by
 induction st using gE.casesOn with
 |items vs=>
  cases hI with
  |tup a1=>exact wpAny_pyIter_tupleiter a1 h
  |hK a1=>exact wpAny_pyIter_rangeiter a1 h
  |NN a1=>exact KBw.pyIter_self a1 h
 |list i k=>(refine ak hI λp _ hit=>?_;clear hI);exact wpAny_pyIter_listiter hit h
 |dict i m l k=>(refine ak hI λp _ hit=>?_;clear hI);exact wpAny_pyIter_keyiter hit h
 |gen i=>obtain⟨k,hk⟩:=hg i rfl;exact wpAny_pyIter_gen hk h
theorem bu.tv(x:bu [] Z s aH s')(G:aq R aH σ s')(h:s'.heap.get? a=none):s.heap.get? a=none:=by
 cases q:s.heap.get? a with
 |none=>rfl
 |some o=>
  exfalso;by_cases f:a∈cW Z
  ·obtain⟨r,hr⟩:=x.pre;obtain⟨o',ho⟩:=G.live (a:=a) (by rw[hr,k8];exact .inl f);exact cT (Eq.trans h.symm ho)
  ·exact IA (Eq.trans (x.keep a o q f (λz=>nomatch z)).symm h)
theorem t4(S:bQ R n ih)(W:n7 R)(NX:mu R n ih){g:G}(hg:R.g=g)(rm:br A (n+1))(G:aq R Z σ s)(F:FR R Z s sc e env X){elt:Expr}{c:Comprehension}{pos fp:Pos}{v:V}{aE:af}(hm:nA g ih sc e elt c cu σ=some (v,aE)){use:Option (Value->Sem Unit)}{Q:Value->Shared->Prop}(fin:∀fc fN acc C m,aq R fc aE fN->bu [] Z s fc fN->aI R fc fN.heap v acc->C∉cW fc->R.eN.heap.get? C=none->s.heap.get? C=none->fN.heap.Ns C m->oU (model R.prog R.w) A use Q acc C fN):bJ (model R.prog R.w) A (PySem.comprehension (.ListComp elt [c] cu pos) cu env fp (newList []) false (eval c.iter env) use) Q s:=by
 obtain⟨t,it,ifs,Ht⟩:=c;unfold nA at hm
 ·dsimp only at hm
  split at hm
  ·rename_i hp;refine uc hp λhp ok=>?_;refine uc hp λha hp=>?_;obtain rfl:=beq_iff_eq.mp ha;obtain⟨tS,vm⟩:=rV ok;refine M.aA hm λx au e1 hm=>?_;refine M.aA hm λkW cj e2 hm=>?_;refine M.aA hm λav de e4 hm=>?_;(refine cC λVB M5=>?_;obtain⟨rfl,rfl⟩:=iu e4;refine M5 ?_);(refine M.aA hm λEm Ar e5 hm=>?_;obtain⟨fl,YG⟩:=Em);obtain⟨rfl,rfl⟩:=M.aM hm;refine N.comprehension (g:=⟨t,it,ifs,0⟩) (gs:=[]) rfl (λx=>ki hp) (sP λy hy=>?_) tS (λx hx hl=>(vm x hx).1 hl) ?_
   ·refine fT (gR F ((vm _ hy).2.2 rfl)) λ_ c fq h _=>?_;exact⟨c,h⟩
   refine S.E it rm.less G F x au e1 _ λaN ax xv G1 x1 r1=>?_;refine N.of (s8 G1 r1 _ kW cj e2 _ λcn aY av G2 x2 r2=>?_);(refine rR r2 λI we I2 y2 hn Gp=>?_;clear r2;subst we);have F2:=(F.step x1).step x2;refine bH (nq G2 (vs:=[]) (xs:= #[]) .nil aY.toks) λG3 x3 r3=>?_;refine N.of (wpAny_newObj_type (Q:=λacc d8=>bJ _ _ _ _ d8) ?_ (hd:=by unfold sizeOk;simp));have F3:=F2.step x3;have I3:=I2.mono x3 (fF.nil _) y2 (λ_ _ q=>nomatch q)
   have y3:=y2.step x3 (λ_ _ q=>nomatch q)
   refine N.of (GX ?_);refine zX G3 F3 ok λqK X' Q3 G4 x4 hX F4=>?_;refine Q3▸?_;have I4:=I3.mono x4 (fF.nil _) y3 (λ_ _ q=>nomatch q)
   have y4:=y3.step x4 (λ_ _ q=>nomatch q)
   have V8:(cn++[(aY.heap.objs.size,aY.heap.objs.size)])[cj.length]?=some (aY.heap.objs.size,aY.heap.objs.size):=by rw[<-G2.len];simp
   have ap:yw cu {gQ {aY with heap:=aY.heap.push {cls:=.type "list",data:=.seq #[]}} cu env with scope:=relabel cu env} X' (df I kW.1):=by
    refine⟨λa q z=>?_,λy c hy Wo q=>?_⟩
    ·refine ak (y3.own a q) λo ho _=>?_;exact cT (Eq.trans (hX a z).symm ho)
    ·(refine bj (F4.nJ y hy) λc' fq DK KR _ Zi=>?_;(refine ak KR λo ho _=>?_;clear KR));rw[Wo]at DK;obtain rfl:=bE DK;have hb:ax.heap.get? c=none:=hn c q;have live:∃o,ax.heap.get? c=some o:=by
      (refine nN (gR (F.step x1) ((vm _ (mem_of_lookup hy)).2.2 rfl)) λ_ d Xd hd KQ _=>?_;(refine ak KQ λod H5 _=>?_;clear KQ));have:d=c:=by
       have z1:(eY {aY with heap:=aY.heap.push {cls:=.type "list",data:=.seq #[]}} cu env).lookup y=some c:=Wo;have nc:(y,NameKind.cell)∉cu.names:=λq=>by
        have:=(vm _ q).2.1 rfl;replace this:=Eq.trans (Eq.symm hy) this;cases this
       unfold eY at z1;rw[cY,fy,lx _ _ nc,none_or]at z1;have:=(mr (env:=env) (x:=y) cu.names [] (λc h=>by exact cT h)).1 c z1;rw[hd]at this;exact bE this
      exact⟨od,this▸H5⟩
     obtain⟨o',og⟩:=live;exact cT (Eq.trans hb.symm og)
   have RH:bu [] aN ax (cn++[(aY.heap.objs.size,aY.heap.objs.size)]) qK:=(x2.trans x3).trans x4;have Y7:=G3;have loop:aW (model R.prog R.w) A (.compLoop (.ListComp elt [⟨t,it,ifs,0⟩] cu pos) 0 (.ref I) (.ref aY.heap.objs.size) {gQ {aY with heap:=aY.heap.push {cls:=.type "list",data:=.seq #[]}} cu env with scope:=relabel cu env})
     (λ_ s'=>oU (model R.prog R.w) A use Q (.ref aY.heap.objs.size) (gQ {aY with heap:=aY.heap.push {cls:=.type "list",data:=.seq #[]}} cu env).locals s') qK:=by
    refine CQ (p:=(aY.heap.objs.size,aY.heap.objs.size)) S W NX hg rm ap V8 ⟨G4,F4,I4,y4,rfl,bu.refl ..,e5⟩ λfc fN e' G5 x5 F5=>?_;refine ak (F5.ns) λmm Lr _=>?_;have Lw:∀a∈df I kW.1++X',ax.heap.get? a=none:=λa q=>by
     rcases mem_append.mp q with q|q
     ·exact hn a q
     ·exact(x2.trans x3).tv Y7 (hX a q)
    have xx:bu [] Z s fc fN:=x1.trans (bu.drop RH (Y:=df I kW.1++X') (by simpa using x5) Lw);exact fin fc fN _ _ mm G5 xx (.ref (p:=(aY.heap.objs.size,aY.heap.objs.size)) (x5.get V8)) (F5.off _ F5.loc).1 (F5.off _ F5.loc).2 (x1.tv G1 (Lw _ (mem_append_right _ F4.loc))) Lr
   refine aW.compStart loop (N.of (ET I4 (λi hi=>?_) loop));obtain⟨k,hk⟩:=Gp i hi;rw[hi]at I2;(refine ak I2 λp hp vY=>?_;clear I2;subst vY);exact⟨k,(x3.trans x4).gen i p k hp hk⟩
  ·exact cT hm
end
end
section
section
variable{R:Gr}{A:Around}{X Y:List Addr}{Z:bo}{σ:af}{s:Shared}{n:Nat}{ih:f5}{sc cu:Scope}{e:ar}{env:Env}
theorem EI(G:aq R Z σ s){C:Addr}{m:Str->Option Value}{h':Heap}(hn:s.heap.Ns C m)(off:C∉cW Z)(z:R.eN.heap.get? C=none)(hs:Heap.SameBut C s.heap h')(hl:∃m',h'.Ns C m'):aq R Z σ {s with heap:=h'}/\bu [C] Z s Z {s with heap:=h'}/\fF [C] s.heap:=by
 have own:fF [C] s.heap:=λa q=>by
  cases bz q;(refine fS hn λo _ _ ho hd _=>?_;clear hn);exact(aT o ho (.inl (by rw[hd];trivial)))
 obtain⟨G1,x1⟩:=G.x8 (X:=[C]) (h':=h') (t:=s.toks) (λa q=>by
  cases bz q;(refine nK hl λm' o _ _ ho _=>?_;clear hl);exact⟨off,z,o,ho⟩) own λa o eo q=>(hs.2 a λy=>q (by simp[y])).trans eo
 exact⟨G1,x1,own⟩
theorem pD{g:G}{elt:Expr}{c:Comprehension}{v:V}{aE:af}(hm:nA g ih sc e elt c cu σ=some (v,aE)):c.is_async=0:=by
 obtain⟨t,it,ifs,Ht⟩:=c;unfold nA at hm;dsimp only at hm
 split at hm
 ·rename_i hp;obtain⟨hp,_⟩:=aP hp;obtain⟨ha,_⟩:=aP hp;exact beq_iff_eq.mp ha
 ·exact cT hm
theorem vJ(S:bQ R n ih)(W:n7 R)(NX:mu R n ih){g:G}(hg:R.g=g)(rm:br A (n+1))(G:aq R Z σ s)(F:FR R Z s sc e env X){elt:Expr}{c:Comprehension}{pos:Pos}:aj R A [] Z σ s (eval (.ListComp elt [c] cu pos) env) (nA g ih sc e elt c cu) (RV R):=by
 intro v aE hm Q hQ;have ha:=pD hm;rw[arm_eval_ListComp];have e1:firstAsync [c]=false:=by
  obtain⟨t,it,ifs,Ht⟩:=c;dsimp only at ha;subst ha;rfl
 have e2:firstIter [c] env=eval c.iter env:=by obtain⟨t,it,ifs,Ht⟩:=c;rfl
 dsimp only;(refine Eq.symm e1▸?_;refine Eq.symm e2▸?_);refine t4 S W NX hg rm G F hm λfc fN acc C m G5 x5 r5 off z zs hn=>⟨m,hn,λh' hs hl=>?_⟩;refine bH (EI G5 hn off z hs hl) λG6 x6 own=>?_;exact hQ _ _ _ G6 (bu.drop x5 (Y:=[C]) (by simpa using x6) λa q=>by cases bz q;exact zs) (r5.mono x6 own)
theorem uq(S:bQ R n ih)(W:n7 R)(NX:mu R n ih){g:G}(hg:R.g=g)(rm:br A (n+1))(G:aq R Z σ s)(F:FR R Z s sc e env X){elt:Expr}{c:Comprehension}{pos:Pos}{v:V}{aE:af}(hm:nA g ih sc e elt c cu σ=some (v,aE)){use:Value->Sem Unit}{Q:Unit->Shared->Prop}(fin:∀fc fN acc C m,aq R fc aE fN->bu [] Z s fc fN->aI R fc fN.heap v acc->C∉cW fc->R.eN.heap.get? C=none->s.heap.get? C=none->fN.heap.Ns C m->bJ (model R.prog R.w) A (use acc) (λ_ qV=>∃m,qV.heap.Ns C m/\∀h',Heap.SameBut C qV.heap h'->(∃m',h'.Ns C m')->Q () {qV with heap:=h'}) fN):bJ (model R.prog R.w) A (evalThenUse (.ListComp elt [c] cu pos) env use) Q s:=by
 have ha:=pD hm;have e1:firstAsync [c]=false:=by
  obtain⟨t,it,ifs,Ht⟩:=c;dsimp only at ha;subst ha;rfl
 have e2:firstIter [c] env=eval c.iter env:=by obtain⟨t,it,ifs,Ht⟩:=c;rfl
 refine(?_:bJ _ A (do let _<-PySem.comprehension (.ListComp elt [c] cu pos) cu env (firstIterPos [c] pos) (newList []) (firstAsync [c]) (firstIter [c] env) (some use)) _ s)
 (refine Eq.symm e1▸?_;refine Eq.symm e2▸?_);refine N.bind (t4 (use:=some use) (Q:=λ_ s'=>bJ (model R.prog R.w) A (pure ()) Q s') S W NX hg rm G F hm λfc fN acc C m G5 x5 r5 off z zs hn=>?_);exact N.mono (fin fc fN acc C m G5 x5 r5 off z zs hn) λ_ qV Mb=>ak Mb λm' h1 h2=>(aT m' h1 (λh' a b=>N.pure (h2 h' a b)))
end
end
section
noncomputable def y8(own:List (Str×V)):List Str->List V->List (Str×V)
 |x::xs,v::vs=>y8 (put x v own) xs vs
 |_,_=>own
theorem oH:∀{xs:List Str}{vs:List V}{own:List (Str×V)},xs.Nodup->vs.length=xs.length->look y (y8 own xs vs)=((xs.zip vs).lookup y).or (look y own)
 |[],[],own,_,_=>by rfl
 |x::xs,v::vs,own,hn,hl=>by
  have pJ:=nodup_cons.mp hn;unfold y8;rw[oH pJ.2 (by simpa using hl),zip_cons_cons,lookup_cons];by_cases h:y=x
  ·subst h;have:(xs.zip vs).lookup y=none:=by
    cases q:(xs.zip vs).lookup y with
    |none=>rfl
    |some w=>exact absurd (ij (mem_of_lookup q)) pJ.1
   rw[this,jj];simp
  ·have h':(y==x)=false:=by simpa using h
   rw[h',gK v h]
theorem j9{α:Type}{y:Str}{v:α}:∀{l:List (Str×α)},(l.map (·.1)).Nodup->(y,v)∈l->l.lookup y=some v
 |[],_,h=>by cases h
 |(k,w)::r,hn,h=>by
  have pJ:=nodup_cons.mp (show(k::r.map (·.1)).Nodup from hn)
  rw[lookup_cons]
  rcases bt h with h|h
  ·(injection h with MK TY;subst MK;subst TY);simp
  ·have sM:y≠k:=λq=>pJ.1 (q▸List.mem_map_of_mem (f:=(·.1)) h);have h':(y==k)=false:=by simpa using sM
   refine Eq.symm h'▸?_;exact j9 pJ.2 h
theorem zm{α:Type}{y:Str}{l:List (Str×α)}(hn:(l.map (·.1)).Nodup):l.reverse.lookup y=l.lookup y:=by
 have pJ:(l.reverse.map (·.1)).Nodup:=by rw[List.map_reverse];unfold Nodup at *;rw[List.pairwise_reverse];exact hn.imp Ne.symm
 cases h:l.lookup y with
 |some v=>exact j9 pJ (mem_reverse.mpr (mem_of_lookup h))
 |none=>
  cases h2:l.reverse.lookup y with
  |none=>rfl
  |some v=>exact IA (Eq.trans (j9 hn (mem_reverse.mp (mem_of_lookup h2))).symm h)
theorem Ia{xs:List Str}{vs:List V}(h:vs.length=xs.length):xs.reverse.zip vs.reverse=(xs.zip vs).reverse:=by
 rw[List.zip_eq_zipWith,List.zip_eq_zipWith,List.reverse_zipWith (by omega)]
section
variable{R:Gr}{A:Around}{X Y:List Addr}{Z:bo}{σ:af}{s:Shared}{n:Nat}{ih:f5}{sc:Scope}{e:ar}{env:Env}
theorem FR.congr(F:FR R Z s sc e env X)(h:∀x,look x e'.own=look x e.own)(hu:e'.up=e.up):FR R Z s sc e' env X:=
 ⟨F.kind,F.names,F.globals,F.builtins,F.off,F.own,F.loc,let ⟨m,hm,k⟩:=F.ns;(aT m hm (λx v a b=>k x v a (by rw[<-h];exact b))),
  λx hx=>let ⟨c,fq,a1,a2,a3,a4,a5⟩:=F.cell x hx;(dg c fq a1 a2 a3 a4 (λv hv=>a5 v (by rw[<-h];exact hv))),F.apart,λx v a b=>F.free x v a (by refine hu▸?_;exact b),F.frees,F.nJ⟩
def nf(sc:Scope)(x:Str):Prop:=sc.names.lookup x=some .local\/sc.names.lookup x=some .cell
theorem IW(h:nf sc x):putN sc e x v σ=some ({e with own:=put x v e.own},σ):=by
 unfold putN
 rcases h with h|h<;>rw[h]<;>rfl
theorem Fe(h:putN sc e x v σ=some (e',aE)):nf sc x/\e'={e with own:=put x v e.own}/\aE=σ:=by
 unfold putN at h;generalize hk:sc.names.lookup x=k at h
 match k,h with
 |some .local,h=>obtain⟨rfl,rfl⟩:=M.aM h;exact⟨.inl hk,rfl,rfl⟩
 |some .cell,h=>obtain⟨rfl,rfl⟩:=M.aM h;exact⟨.inr hk,rfl,rfl⟩
theorem tj:∀{xs:List (Str×Pos)}{vs:List V}{e e':ar}{σ aE:af},eF sc e (xs.map λp=>Expr.Name p.1 p.2) vs σ=some (e',aE)->(∀p∈xs,nf sc p.1)/\e'={e with own:=y8 e.own (xs.map (·.1)) vs}/\aE=σ/\vs.length=xs.length
 |[],[],e,e',σ,aE,h=>by(refine cH (M.aM h) λEb Ea=>?_;subst Eb;subst Ea);exact(rB (λ_ q=>nomatch q) rfl rfl rfl)
 |[],_::_,_,_,_,_,h=>by exact cT h
 |p::xs,[],_,_,_,_,h=>by exact cT h
 |p::xs,v::vs,e,e',σ,aE,h=>by
  refine M.aA (show(putN sc e p.1 v>>=λe'=>eF sc e' (xs.map λp=>Expr.Name p.1 p.2) vs) σ=_ from h) λfZ au h1 h'=>?_
  (refine bH (Fe h1) λk1 wj qy=>?_;subst wj;subst qy);(refine g7 (tj (xs:=xs) h') λk2 iA qx k3=>?_;subst iA;subst qx);exact(rB (λq hq=>by
   rcases bt hq with hq|hq
   ·rw[hq];exact k1
   ·exact k2 q hq) rfl rfl (by simp[k3]))
theorem rZ:∀{vs:List V}{ys:List Value}{Z:bo}{s:Shared}{e:ar},aq R Z σ s->FR R Z s sc e env X->aD R Z s.heap vs ys->(∀x∈xs,nf sc x)->vs.length=xs.length->∀{Q:Unit->Shared->Prop},(∀aH s',aq R aH σ s'->bu X Z s aH s'->FR R aH s' sc {e with own:=y8 e.own xs vs} env X->Q () s')->bJ (model R.prog R.w) A (assignInOrder (xs.map λx=>bindName env x) ys) Q s:=by
 induction xs with
 |nil=>
  intro vs ys Z s e G F hv hk hl Q hQ
  induction vs using List.casesOn with
  |nil=>cases hv.zero;exact N.pure (hQ _ _ G (bu.refl ..) F)
  |cons=>cases hl
 |cons x xs XJ=>
  intro vs ys Z s e G F hv hk hl Q hQ
  induction vs using List.casesOn with
  |nil=>cases hl
  |cons v vs=>
   obtain⟨y,ys,rfl,hv,hr⟩:=hv.fM;refine(?_:bJ _ A (holding ys (bindName env x y)>>=λ_=>assignInOrder (xs.map λx=>bindName env x) ys) Q s);refine N.bind (N.holding (jT G F hv _ _ (IW (hk x eO)) _ λaN ax _ G1 x1 F1=>?_));refine XJ G1 F1 (hr.mono x1 F.own) (λz hz=>hk z (fX _ hz)) (by simpa using hl) λaH s' G' x' F'=>?_;exact hQ _ _ G' (x1.trans x') F'
theorem aD.rev(r:aD R Z h vs xs):aD R Z h vs.reverse xs.reverse:=by
 unfold aD at *
 induction r using bg.ind with
 |nil=>exact .nil
 |cons v x vs xs a b ih=>
  rw[List.reverse_cons,List.reverse_cons];exact ih.append (.cons a .nil)
theorem ub{P Q:Prop}(h:bif b then P else Q)(e:b=true):P:=by subst e;exact h
theorem xZ{P Q:Prop}(h:bif b then P else Q)(e:b=false):Q:=by subst e;exact h
theorem Lc(t:Expr):bif Nat.beq t.ctorIdx 23 then ∃x p,t=.Name x p else True:=by
 rcases t<;>first|exact trivial|exact⟨_,_,rfl⟩
theorem yL(t:Expr):bif Nat.beq t.ctorIdx 25 then ∃x k p,t=.Tuple x k p else True:=by
 rcases t<;>first|exact trivial|exact⟨_,_,_,rfl⟩
section
variable{line:Nat}{env:Env}
theorem PB(v:Expr):bif nD v then True else swapsWith v (some t) line env=pure false:=by
 rcases v<;>first|exact trivial|exact @rfl (Sem Bool) (pure false)
theorem TP{a b s d}(t:Expr):bif Nat.beq t.ctorIdx 23 then True else swapsWith (.ListComp a b s d) (some t) line env=pure false:=by
 rcases t<;>first|exact trivial|exact @rfl (Sem Bool) (pure false)
theorem TO{a b s d}(t:Expr):bif Nat.beq t.ctorIdx 23 then True else swapsWith (.SetComp a b s d) (some t) line env=pure false:=by
 rcases t<;>first|exact trivial|exact @rfl (Sem Bool) (pure false)
theorem TQ{a c b s d}(t:Expr):bif Nat.beq t.ctorIdx 23 then True else swapsWith (.DictComp a c b s d) (some t) line env=pure false:=by
 rcases t<;>first|exact trivial|exact @rfl (Sem Bool) (pure false)
theorem Mw(v:Expr):bif nD v then ∃b,swapsWith v (some t) line env=pure b else True:=by
 have h:∀v,(∀x p,∃b,swapsWith v (some (.Name x p)) line env=pure b)->(bif Nat.beq t.ctorIdx 23 then True else swapsWith v (some t) line env=pure false)->∃b,swapsWith v (some t) line env=pure b:=λv h1 h2=>by
  cases e:Nat.beq t.ctorIdx 23 with
  |false=>exact⟨_,xZ h2 e⟩
  |true=>
   refine iN (ub (Lc t) e) λx p q=>?_;refine Eq.symm q▸?_;exact h1 x p
 rcases v<;>first|exact trivial|exact h _ (λ_ _=>⟨_,rfl⟩) (TP t)|exact h _ (λ_ _=>⟨_,rfl⟩) (TO t)|exact h _ (λ_ _=>⟨_,rfl⟩) (TQ t)
end
theorem yO(value t:Expr)(line:Nat)(env:Env):∃b,swapsWith value (some t) line env=pure b/\(b=true->nD value=true):=by
 cases h:nD value with
 |false=>exact⟨_,xZ (PB value) h,λq=>nomatch q⟩
 |true=>exact eL (ub (Mw value) h) λb q=>(aT b q (λ_=>rfl))
theorem Nr{F:Expr->Option Str}(hF:∀t b,F t=some b->∃p,t=.Name b p):∀ts:List Expr,(ts.filterMap F).length=ts.length->∃xs:List (Str×Pos),ts=xs.map (λp=>Expr.Name p.1 p.2)/\ts.filterMap F=xs.map (·.1):=λts=>by
 induction ts with
 |nil=>exact λ_=>(aT ([]) rfl rfl)
 |cons t ts ih=>
  intro h;cases e:F t with
  |none=>
   rw[List.filterMap_cons_none e]at h;exact absurd (h▸List.length_filterMap_le F ts) (Nat.not_succ_le_self _)
  |some b=>
   rw[List.filterMap_cons_some e]at h ⊢;refine ak (ih (Nat.succ.inj h)) λxs h1 h2=>?_;refine eL (hF t b e) λp q=>?_;exact⟨(b,p)::xs,by rw[q,h1];rfl,by rw[h2];rfl⟩
theorem I6{F:Str->Pos->Option Str}(hF:∀x p b,F x p=some b->b=x){G:Expr->Option Str}(hG:∀x p,G (.Name x p)=F x p)(hN:∀t,bif Nat.beq t.ctorIdx 23 then True else G t=none)(t:Expr)(b:Str)(h:G t=some b):∃p,t=.Name b p:=by
 cases e:Nat.beq t.ctorIdx 23 with
 |false=>exact absurd ((xZ (hN t) e).symm.trans h) nofun
 |true=>
  refine iN (ub (Lc t) e) λx p q=>⟨p,?_⟩;subst q;exact hF x p b ((hG x p).symm.trans h)▸rfl
theorem Jy(h:(if c=true then some x else none)=some b):b=x:=by
 induction c using Bool.casesOn
 ·exact cT h
 ·exact(bE h).symm
noncomputable def xb(e:Expr):Bool:= !Nat.beq e.ctorIdx 24
section
variable{env:Env}
theorem PD(t:Expr):bif Nat.beq t.ctorIdx 25||Nat.beq t.ctorIdx 24 then True else swappedStores [t] v env=pure none:=by
 rcases t<;>first|exact trivial|exact @rfl (Sem (Option (List Str))) (pure none)
theorem MB(v:Expr){a b c}:bif Nat.beq v.ctorIdx 25 then True else swappedStores [.Tuple a b c] v env=pure none:=by
 rcases v<;>first|exact trivial|exact @rfl (Sem (Option (List Str))) (pure none)
end
def Bn(t:Expr)(m:Sem (Option (List Str))):Prop:=∃r,m=pure r/\∀names,r=some names->∃(xs:List (Str×Pos)) (k:Nat) (p:Pos),t=.Tuple (xs.map λp=>Expr.Name p.1 p.2) k p/\names=xs.map (·.1)/\names.eraseDups.length=names.length
theorem Bn.no(h:m=pure none):Bn t m:=⟨none,h,λ_ q=>nomatch q⟩
theorem Bn.if{c:Prop}[Decidable c](h: ¬c->Bn t m):Bn t (if c then pure none else m):=by
 by_cases hc:c
 ·rw[if_pos hc];exact .no rfl
 ·rw[if_neg hc];exact h hc
theorem Bn.XN{c:Prop}[Decidable c](hc: ¬c)(h:Bn t m):Bn t (if c then x else m):=by
 rw[if_neg hc];exact h
theorem uy(t value:Expr)(env:Env)(h:uO [t] value=true)(hl:xb t=true):Bn t (swappedStores [t] value env):=by
 cases e:Nat.beq t.ctorIdx 25 with
 |false=>exact .no (xZ (PD t) (by rw[e];exact not_eq_true' _▸hl))
 |true=>
  cases e':Nat.beq value.ctorIdx 25 with
  |false=>exact mR (ub (yL t) e) λa b c q=>q▸.no (xZ (MB value) e')
  |true=>
   refine mR (ub (yL t) e) λts k p q=>?_;refine mR (ub (yL value) e') λvs k' p' q'=>?_;subst q q';clear e e' hl;have h2:(vs.all (foldedForSure 8)||!vs.all (constantsAlone 8))=true:=h;refine Bn.if λ_=>Bn.if λ_=>Bn.if λhn=>Bn.if λhf=>?_;refine Bn.XN (λhc=>?_) ?_
   ·rw[hc]at h2;simp[hf]at h2
   ·refine⟨_,rfl,λnames oN=>?_⟩;obtain rfl:=bE oN;simp only[Bool.or_eq_true,bne_iff_ne,ne_eq,not_or,Decidable.not_not]at hn;refine ak (Nr (I6 (λ_ _ _=>Jy) (λ_ _=>rfl) (λt=>by rcases t<;>first|exact trivial|exact @rfl (Option Str) none)) ts hn.1) λxs e1 e2=>?_
    refine(nF xs k p (by rw[e1]) e2 hn.2)
end
end
section
section
variable{R:Gr}{A:Around}{X Y:List Addr}{Z:bo}{σ:af}{s:Shared}{n:Nat}{ih:f5}{sc:Scope}{e:ar}{env:Env}
theorem lB(h:∀y p,t≠.Starred y p):(assignEach [t] env).map (·.2)= [assign t env]:=by
 induction t using Expr.casesOn with
 |Starred y p=>exact absurd rfl (h y p)
 |_=>rfl
theorem EJ{xs:List (Str×Pos)}{k:Nat}{p:Pos}{g:G}{v:V}{y:Value}{e':ar}{aE:af}(hh:A.handled=none)(G:aq R Z σ s)(F:FR R Z s sc e env X)(hv:aI R Z s.heap v y)(rE:(xs.map (·.1)).Nodup)(hm:eg g ih sc e (.Tuple (xs.map λp=>Expr.Name p.1 p.2) k p) v σ=some (e',aE)){Q:Flow->Shared->Prop}(hQ:∀aH s',aq R aH aE s'->bu X Z s aH s'->FR R aH s' sc e' env X->Q .next s'):bJ (model R.prog R.w) A (assignStores env y (some (xs.map (·.1))) ((assignEach [.Tuple (xs.map λp=>Expr.Name p.1 p.2) k p] env).map (·.2))) Q s:=by
 have Ou:∃vs,v=.tup vs/\eF sc e (xs.map λp=>Expr.Name p.1 p.2) vs σ=some (e',aE):=by
  unfold eg at hm;dsimp only at hm
  induction v using V.casesOn with
  |tup vs=>exact(aT vs rfl hm)
  |_=>exact(M.CK hm).elim
 clear hm;(refine ak Ou λvs Mi hm=>?_;clear Ou;subst Mi)
 ·(refine g7 (tj (xs:=xs) hm) λhk Tt D0 hl=>?_;subst Tt;subst D0);unfold assignStores;dsimp only;refine N.bind (N.rule (N.bind (N.of (qF hh G hv (by simp[hl]) λax ys G1 x1 r1=>?_))));have F1:=F.step x1;refine N.bind (rZ (vs:=vs.reverse) G1 F1 r1.rev (λx hx=>?_) (by simp[hl]) λcn aY G2 x2 F2=>?_)
  ·(refine dC (mem_reverse.mp hx) λq hq DR=>?_;subst DR);exact hk q hq
  ·refine N.pure (hQ _ _ G2 ((x1.weaken λ_ q=>nomatch q).trans x2) (F2.congr (λx=>?_) rfl))
   refine(?_:look x (y8 e.own (xs.map (·.1)) vs)=look x (y8 e.own (xs.map (·.1)).reverse vs.reverse));have qg:vs.length=(xs.map (·.1)).length:=by simp[hl]
   have UI:(xs.map (·.1)).reverse.Nodup:=by unfold Nodup at *;rw[List.pairwise_reverse];exact rE.imp Ne.symm
   rw[oH rE qg,oH UI (by simp[hl]),Ia qg,zm (oi rE)]
theorem qa:∀{l:List Str},l.eraseDups.length=l.length->l.Nodup:=by
 intro l
 induction hn:l.length using Nat.strongRecOn generalizing l with
 |ind n XK=>
  intro h
  induction l using List.casesOn with
  |nil=>exact nodup_nil
  |cons a r=>
   rw[List.eraseDups_cons]at h;have len:∀m:Nat,∀l:List Str,l.length=m->l.eraseDups.length<=l.length:=by
    intro m
    induction m using Nat.strongRecOn with
    |ind m XM=>
     intro l hl
     induction l using List.casesOn with
     |nil=>simp
     |cons b q=>
      rw[List.eraseDups_cons];have h1:(q.filter λc=>!c==b).length<=q.length:=List.length_filter_le _ _;have:=XM (q.filter λc=>!c==b).length (by simp at hl;omega) _ rfl;simp only[length_cons]
      omega
   have h1:(r.filter λc=>!c==a).length<=r.length:=List.length_filter_le _ _;have h2:=len _ (r.filter λc=>!c==a) rfl;simp only[length_cons]at h hn;have h3:(r.filter λc=>!c==a).length=r.length:=by omega
   have h4:r.filter (λc=>!c==a)=r:=List.filter_eq_self.mpr (List.length_filter_eq_length_iff.mp h3);rw[h4]at h;refine nodup_cons.mpr ⟨λq=>?_,XK r.length (by omega) rfl (by omega)⟩;have:=List.length_filter_eq_length_iff.mp h3 a q;simp at this
theorem Af(S:bQ R n ih)(W:n7 R)(hg:R.g=g)(rm:br A (n+1))(G:aq R Z σ s)(F:FR R Z s sc e env X):aj R A X Z σ s (exec (.Assign [t] v p) env) (if uO [t] v then do
   let x<-ih.E sc e v
   pure (.next,<-eg g ih sc e t x)else M.fail) (DE R sc env X):=by
 split
 ·rename_i vj;intro r aE hm Q hQ;refine M.aA hm λx au e1 hm=>?_;refine M.aA hm λe' cj e2 hm=>?_;obtain⟨rfl,rfl⟩:=M.aM hm;have ns:∀y p,t≠.Starred y p:=by rintro y p rfl;exact cT e2
  have nl:xb t=true:=by
   induction t using Expr.casesOn with
   |List=>exact cT e2
   |_=>rfl
  refine(?_:bJ _ A (standAt p>>=λ_=>swapsWith v (some t) p.line env>>=λb=>if b=true then(do
    evalThenUse v env λv=>assignAll v ((assignEach [t] env).map (·.2))
    pure .next)
   else(do
    let x<-eval v env
    assignStores env x (<-swappedStores [t] v env) ((assignEach [t] env).map (·.2)))) Q s)
  refine N.at' ?_;refine ak (yO v t p.line env) λb hb Yr=>?_;rw[hb];refine N.bind (N.pure ?_);refine Eq.symm (lB ns)▸?_
  induction b using Bool.casesOn with
  |true=>
   have hc:=Yr rfl;refine(?_:bJ _ A (evalThenUse v env (λv=>assignAll v [assign t env])>>=λ_=>pure .next) Q s);refine N.bind (S.U v hc rm.less G F x au e1 _ _ λfc fN acc C m G5 x5 r5 off z zs hn=>?_);have F5:=F.step x5;have Wu:C∉X:=λq=>by
    refine ak (F.own C q) λo ho _=>?_;exact cT (Eq.trans zs.symm ho)
   refine(?_:bJ _ A (assign t env acc) _ fN);refine ko S W hg rm.less G5 F5 r5 e' cj e2 _ λAs Mv _ G6 x6 F6=>?_;have Wc:Mv.heap.Ns C m:=by
    (refine fD hn λo es ep ho r=>?_;clear hn);exact⟨o,es,ep,x6.keep C o ho off Wu,r⟩
   have T8:C∉cW As:=by
    (refine fD hn λo es ep ho r=>?_;clear hn);exact x6.out ho off
   refine(aT m Wc (λh' hs hl=>?_));refine bH (EI G6 Wc T8 z hs hl) λG7 x7 own=>?_;have F7:FR R As {Mv with heap:=h'} sc e' env X:=F6.mono x7 own (λa q w=>by cases bz w;exact Wu q) (λy c hy hc w=>by
    cases bz w;(refine bf (F.nJ y hy) λc' fq h1 wd _=>?_;(refine ak wd λo ho _=>?_;clear wd));obtain rfl:=bE (Eq.trans (Eq.symm hc) h1);exact cT (Eq.trans zs.symm ho))
   refine N.pure (hQ _ _ .next G7 ?_ ⟨trivial,F7⟩);refine bu.drop (X:=X) (x5.weaken λ_ q=>nomatch q) (Y:=[C]) ?_ λa q=>by cases bz q;exact zs
   exact(x6.weaken λa q=>mem_append_right _ q).trans (x7.weaken λa q=>mem_append_left _ q)
  |false=>
   refine(?_:bJ _ A (eval v env>>=λx=>swappedStores [t] v env>>=λsw=>assignStores env x sw [assign t env]) Q s);refine N.bind (S.E v rm.less G F x au e1 _ λaN ax y G1 x1 r1=>?_);refine ak (uy t v env vj nl) λsw XY X1=>?_;refine Eq.symm XY▸?_;refine N.bind (N.pure ?_);have F1:=F.step x1;have up:∀{aH s'},bu X aN ax aH s'->bu X Z s aH s':=λx'=>(x1.weaken λ_ q=>nomatch q).trans x'
   induction sw using Option.casesOn with
   |none=>
    refine(?_:bJ _ A (assign t env y>>=λ_=>pure .next) Q ax);exact N.bind (ko S W hg rm.less G1 F1 r1 e' cj e2 _ λcn aY _ G2 x2 F2=>N.pure (hQ _ _ .next G2 (up x2) ⟨trivial,F2⟩))
   |some names=>
    (refine fS (X1 names rfl) λxs k q Pd Pc hd=>?_;subst Pd;subst Pc);refine(lB ns)▸?_;exact EJ rm.handled G1 F1 r1 (qa hd) e2 λaH s' G' x' F'=>hQ _ _ .next G' (up x') ⟨trivial,F'⟩
 ·exact aj.fail
end
end
section
structure n0(Z:bo)(h:Heap)(aH:bo)(h':Heap):Prop where
 ref:∀(i:Nat)(p:Addr×Addr),Z[i]?=some p->∃p':Addr×Addr,aH[i]?=some p'/\p'.1=p.1
 keep:∀a o,h.get? a=some o->¬ yr o->a∉cW Z->a∉cW aH/\h'.get? a=some o
theorem qH(xs:Array Value): ¬ yr (iB xs):=λh=>by
 rcases h with h|⟨h,_⟩
 ·exact h
 ·exact h rfl
theorem aI.shift{R:Gr}{Z aH:bo}{h h':Heap}(x:n0 Z h aH h'){v:V}{y:Value}(r:aI R Z h v y):aI R aH h' v y:=by
 induction r with
 |none=>exact .none
 |bool b=>exact .bool b
 |int i t=>exact .int i t
 |str x t=>exact .str x t
 |bytes b t=>exact .bytes b t
 |BD n e l _ ih=>exact .BD (x.keep _ _ e (qH _) n).1 (x.keep _ _ e (qH _) n).2 l ih
 |gN l i=>exact .gN l i
 |hK n e=>
  have k:=x.keep _ _ e (λq=>q.elim id λq=>q.2 rfl) n;exact .hK k.1 k.2
 |fn h=>exact .fn h
 |cls h=>exact .cls h
 |bi n=>exact .bi n
 |ty n=>exact .ty n
 |ref h=>refine ak (x.ref _ _ h) λp' h1 h2=>?_;rw[<-h2];exact .ref h1
theorem aD.shift{R:Gr}{Z aH:bo}{h h':Heap}(x:n0 Z h aH h'){v:List V}{y:List Value}(r:aD R Z h v y):aD R aH h' v y:=bg.imp (λ_ _ r=>r.shift x) r
section
variable{R:Gr}{A:Around}{X Y:List Addr}{Z:bo}{σ:af}{s:Shared}{n:Nat}{ih:f5}{sc:Scope}{e:ar}{env:Env}
theorem aq.HH(G:aq R Z σ s){p:Addr×Addr}{q:Ao}{h':Heap}{t:Nat}{gs:GenState}(hb:gs.bare=true)(hk:∀a o,s.heap.get? a=some o->h'.get? a=some o)(h1:s.heap.get? p.1=none/\3<=p.1)(h2:s.heap.get? p.2=none/\3<=p.2)(hg:h'.IsGen p.1 s.gens.size)(hc:bu [] Z s (Z++[p]) {s with heap:=h',toks:=t,gens:=s.gens.push gs}->dK R (Z++[p]) {s with heap:=h',toks:=t,gens:=s.gens.push gs} p (.gen q)):aq R (Z++[p]) (σ++[.gen q]) {s with heap:=h',toks:=t,gens:=s.gens.push gs}/\bu [] Z s (Z++[p]) {s with heap:=h',toks:=t,gens:=s.gens.push gs}:=
 G.push (G.gens.push hb) (by simp) (λk hk=>(Array.getElem?_push_lt hk).trans (by simp[hk])) (λ_ k h=>Nat.le_of_eq (IsGen.uniq hg h)) hk h1 h2 hc
end
end
section
section
variable{R:Gr}{A:Around}{X Y:List Addr}{Z:bo}{σ:af}{s:Shared}{n:Nat}{ih:f5}{sc:Scope}{e:ar}{env:Env}
theorem FG{x:Str}{v:V}:∀{l:List (Str×V)},look x l=some v->x∈l.map (·.1):=by
 intro l0
 induction l0 with
 |nil=>
  rintro h;exact cT h
 |cons hd r hi=>
  obtain⟨k,u⟩:=hd;rintro h;unfold look at h
  split at h
  ·rename_i hx;simp[beq_iff_eq.mp hx]
  ·rw[map_cons];exact fX _ (hi h)
theorem zN{f:kI}{own:List (Str×V)}{q:Ao}(h:rH f own=some q):∃s x px it e yp sp fp,f.body= [s,.For (.Name x px) it [.Expr (.Yield (some e) yp) sp] [] fp]/\(∀p∈f.sc.names,p.2=.local\/p.2=.globalImplicit)/\bY it=true/\q=⟨f.sc,own,x,e,some ([s],it),0⟩:=by
 refine dD h λp _ h=>?_;(refine cC λY5 Uk=>?_;obtain⟨⟨s,x,it,e⟩,px,yp,sp,fp,hb⟩:=p;refine Uk ?_);by_cases hc:(f.sc.names.all (λp=>p.2== .local||p.2== .globalImplicit)&&bY it)=true
 ·have h2:=aP hc;rw[if_pos hc]at h;exact rq s x px it e yp sp fp hb (λp hp=>(or_eq_true_iff.mp (fO h2.1 p hp)).imp beq_iff_eq.mp beq_iff_eq.mp) h2.2 (bE h).symm
 ·exact cT (Eq.trans (if_neg hc).symm h)
theorem He(W:n7 R)(rm:br A (n+1))(G:aq R Z σ s){f:kI}{a:Addr}{vs:List V}{xs:List Value}{own:List (Str×V)}{q:Ao}(K:LH R a f)(hv:aD R Z s.heap vs xs)(hm:mi f vs=some own)(hg:f.sc.isGenerator=true)(hq:rH f own=some q):aj R A [] Z σ s (call (.ref a) xs) (dq (.gen q)) (RV R):=by
 intro u aE hr Q hQ;(refine cH (iu hr) λTs L9=>?_;subst Ts;subst L9);(refine rN (zN hq) λst x px it el yp sp fp Gv oN Ct Mh=>?_;subst Mh);refine iM (K.obj) λo fd ho hd hb hs UP gH H7 Cy p1 p2 p3 p4 p5 dd=>?_;have zF:A.depth<recursionLimit:=by have:=rm.depth;unfold recursionLimit;omega
 refine N.call (aW.of (codeAny_call_generator (body:=f.body) zF (G.base _ _ ho) hd (by rw[hs];exact K.xO) (by rw[hs];exact hg) hb ?_ ?_))
 ·(refine jR Cy λc oc ws t e1 e2 e3=>?_;clear Cy);exact⟨c,oc,ws,t,e1,G.base _ _ e2,e3⟩
 ·refine xW G hv hm K.nodup K.S5 p1 p2 p3 p4 p5 dd λbinds hb=>?_;(refine bf hb λus ys D9 Pf Uv=>?_;clear hb;subst D9;subst Pf);rw[hs,UP,gH,H7];refine tU G K.kind K.frees K.Fh K.nodup Uv λenv s' X G1 x1 hX F1 he hc hsh=>?_;refine⟨j6 W G1,?_⟩;have kR:∀y∈f.sc.names,y.2≠.cell:=λy hy=>by
   rcases oN y hy with h|h<;>rw[h]<;>decide
  obtain⟨AX,Zk⟩:=hc kR;obtain⟨cells,he⟩:=he;have vn:cells= []:=by rw[he]at AX;exact AX
  subst vn;have hL:env.locals=s.heap.objs.size:=by rw[he];rfl
  refine ak (F1.ns) λm Lr rD=>?_;(refine cw hsh λh' tk wa keep=>?_;clear hsh;subst wa);have Nm:env.locals<h'.objs.size:=Lr.lt;have sM:h'.objs.size≠env.locals:=Nat.ne_of_gt Nm;have sz:s.heap.objs.size<=h'.objs.size:=by rw[hL]at Nm;exact cF Nm
  obtain⟨G2,x2⟩:=G.HH (p:=(h'.objs.size,env.locals)) (q:=⟨f.sc,f.ps.zip us,x,el,some ([st],it),0⟩) (gs:=.fresh (.func f.body env)) (t:=tk+1+1)
   (h':=h'.push {cls:=.type "generator",data:=.fields #[.int s.gens.size 0,.str fd.name tk,.str fd.qualname (tk+1)]}) rfl
   (λb o e=>gm _ (keep b o e)) ⟨Heap.get?_none_of_le sz,ao G.room sz⟩ ⟨by rw[hL];exact Heap.get?_none_of_le (Nat.le_refl _),by rw[hL];exact G.room⟩
   ⟨_,_,_,gk _ rfl,rfl,rfl,rfl⟩ (λx=>by
    refine⟨s.gens.size,.fresh (.func f.body env),fd.qualname,a,fd.code,m,sM,⟨_,_,_,gk _ rfl,rfl,rfl,rfl⟩,by simp,K.kind,K.xO,oN,Lr.push _,λy v hy=>?_,?_⟩
    ·have hk:f.sc.names.lookup y=some .local:=by
      refine dC (FG hy) λz hz e1=>?_;have:=K.Fh z.1 (ij hz);have YK:z.1=y:=e1;rw[YK]at this
      rcases this with h|h
      ·exact h
      ·exact absurd rfl (kR _ (mem_of_lookup h))
     refine ak (rD y v hk hy) λw h1 h2=>?_;refine(jn hk w h1 (h2.shift ⟨λi p hp=>⟨p,by rw[getElem?_append_left (List.getElem?_eq_some_iff.mp hp).1];exact hp,rfl⟩,λb o hb JB hf=>⟨λq=>?_,gm _ hb⟩⟩));rw[k8]at q
     rcases q with q|q
     ·exact hf q
     ·have q':b=h'.objs.size\/b=env.locals:=by simpa[cW] using q
      rcases q' with rfl|rfl
      ·exact absurd (Heap.lt_size hb) (Nat.lt_irrefl _)
      ·(refine fS Lr λo' _ _ og oP _=>?_;clear Lr);have:o'=o:=bE (og.symm.trans hb);subst this;exact JB (.inl (by rw[oP];trivial))
    ·exact⟨Ct,px,yp,sp,fp,by rw[Gv,he];rfl⟩)
  exact hQ _ _ _ G2 x2 (.ref (p:=(h'.objs.size,env.locals)) (by rw[<-G.len];simp))
end
end
section
section
variable{R:Gr}{A:Around}{X Y:List Addr}{Z aH:bo}{σ:af}{s s':Shared}{n:Nat}{ih:f5}{sc:Scope}{e:ar}{env:Env}
theorem n5.shift(x:n0 Z h aH h')(r:n5 R Z h es xs):n5 R aH h' es xs:=bg.imp (λ_ _ r=>⟨r.1,r.2.shift x⟩) r
theorem oh.shift(x:n0 Z h aH h')(r:oh R Z h es xs):oh R aH h' es xs:=bg.imp (λ_ _ r=>⟨r.1,r.2.1.shift x,r.2.2.shift x⟩) r
theorem vV.shift(x:n0 Z h aH h')(r:vV R Z h es xs):vV R aH h' es xs:=bg.imp (λ_ _ r=>⟨r.1,r.2.shift x⟩) r
theorem dK.shift(x:n0 Z s.heap aH s'.heap)(h1:s'.heap.get? p.1=s.heap.get? p.1)(h2:s'.heap.get? p.2=s.heap.get? p.2)(hg:tN c=true->s.gens.size<=s'.gens.size/\∀k,s.heap.IsGen p.1 k->s'.gens[k]?=s.gens[k]?)(h:dK R Z s p c):dK R aH s' p c:=by
 induction c using aL.casesOn with
 |lst vs=>(refine fT h λe xs n hl hv=>?_;clear h);exact⟨e,xs,n,h1.trans hl,hv.shift x⟩
 |cG es n=>(refine cN h λe eR Ic hv=>?_;clear h;(refine cw Ic λo ents ho r=>?_;clear Ic));exact⟨e,eR,⟨o,ents,h1.trans ho,r⟩,hv.shift x⟩
 |jt es=>(refine cN h λe xs vW hv=>?_;clear h;(refine i7 vW λo ents ep ho hx hd he _ hn=>?_;clear vW));exact⟨e,xs,⟨o,ents,ep,h1.trans ho,hx,hd,he,(hv.shift x).isKey,hn⟩,hv.shift x⟩
 |ins c fs=>(refine gP h λhn C es n hc ha hb hv hk=>?_;clear h);exact⟨hn,C,es,n,hc,h1.trans ha,h2.trans hb,hv.shift x,hk⟩
 |bar b=>obtain⟨e,ho⟩:=h;exact⟨e,h1.trans ho⟩
 |set es=>(refine bH h λe iA hn=>?_;clear h;(refine nK iA λo ents ep t ho r=>?_;clear iA));exact⟨e,⟨o,ents,ep,t,h1.trans ho,r⟩,hn⟩
 |gen q=>
  (refine iw h λk gs qual f sC m G=>?_;clear h);refine⟨k,gs,qual,f,sC,m,G.ne,IsGen.at' G.gen h1,((hg rfl).2 k G.gen).trans G.st,G.kind,G.xO,G.names,Ns.at' G.ns h2,λx' v e=>?_,?_⟩
  ·refine cN (G.own x' v e) λhl y hy hv=>?_;exact(jn hl y hy (hv.shift x))
  ·have:=G.ph;unfold Bo at this ⊢
   split at this
   ·exact this
   ·(refine mP this λI J fs px yp sp e r=>?_;clear this);(refine ak (x.ref _ _ e) λEd e1 e2=>?_;obtain⟨I',J'⟩:=Ed);have e2:I'=I:=e2;subst e2;exact(ru I' J' fs px yp sp e1 r)
 |busy=>(refine pP h λAv o ho=>?_;clear h;(refine ak Av λk hk hl=>?_;clear Av));exact⟨⟨k,IsGen.at' hk h1,d5 hl (hg rfl).1⟩,o,h2.trans ho⟩
 |sy a c n=>(refine cH h λe ho=>?_;clear h);exact⟨e,h1.trans ho⟩
theorem cK:a∈cW Z↔∃(j:Nat) (q:Addr×Addr),Z[j]?=some q/\(a=q.1\/a=q.2):=by
 constructor
 ·intro h
  rcases mem_append.mp h with h|h
  ·obtain⟨q,hq,rfl⟩:=mem_map.mp h;obtain⟨j,hj⟩:=mem_iff_getElem?.mp hq;exact(ef j q hj (.inl rfl))
  ·obtain⟨q,hq,rfl⟩:=mem_map.mp h;obtain⟨j,hj⟩:=mem_iff_getElem?.mp hq;exact(ef j q hj (.inr rfl))
 ·rintro⟨j,q,hj,rfl|rfl⟩
  ·exact(bK hj).1
  ·exact(bK hj).2
theorem eH{α:Type}{l:List α}{i j:Nat}{x y z:α}(hi:l[i]?=some x)(h:(l.set i y)[j]?=some z):(j=i/\z=y)\/(j≠i/\l[j]?=some z):=by
 replace h:=Eq.trans (Eq.symm (getElem?_set)) h;by_cases e:i=j
 ·replace h:=Eq.trans (Eq.symm (if_pos e)) h
  split at h
  ·obtain rfl:=bE h;exact .inl ⟨e.symm,rfl⟩
  ·exact cT h
 ·replace h:=Eq.trans (Eq.symm (if_neg e)) h;exact .inr ⟨Ne.symm e,h⟩
theorem aq.swap(G:aq R Z σ s){i:Nat}{p p':Addr×Addr}{c c':aL}(hp:Z[i]?=some p)(gH:σ[i]?=some c)(e1:p'.1=p.1)(gc:tN c=true)(Wx:tN c'=true)(off:p'.2=p.1\/(p'.2∉cW Z/\(R.eN.heap.get? p'.2=none/\3<=p'.2)/\∃o,s.heap.get? p'.2=some o/\yr o))(hk:∀a o,s.heap.get? a=some o->s'.heap.get? a=some o)(Ot:s'.os=s.os)(UW:s'.drawn=s.drawn)(Oq:s'.gens.size=s.gens.size)(Gp:∀k,¬ s.heap.IsGen p.1 k->s'.gens[k]?=s.gens[k]?)(bare:AllBare s'.gens)(hc:dK R (Z.set i p') s' p' c'):aq R (Z.set i p') (σ.set i c') s':=by
 have il:i<Z.length:=(d0 hp).1;have self:(Z.set i p')[i]?=some p':=by rw[getElem?_set];simp[il]
 have fp:∀a,a∈cW (Z.set i p')->a∈cW Z\/a=p'.2:=λa q=>by
  refine cw (cK.mp q) λj r hj h=>?_
  rcases eH hp hj with⟨rfl,rfl⟩|⟨_,sN⟩
  ·rcases h with rfl|rfl
   ·exact .inl (e1▸(bK hp).1)
   ·exact .inr rfl
  ·exact .inl (cK.mpr (ef j r sN h))
 have x:n0 Z s.heap (Z.set i p') s'.heap:=⟨λj q hq=>by
  by_cases e:j=i
  ·subst e;obtain rfl:=bE (Eq.trans (Eq.symm hp) hq);exact(aT p' self e1)
  ·exact⟨q,by rw[getElem?_set,if_neg (Ne.symm e)];exact hq,rfl⟩,λa o ho JB hf=>⟨λq=>by
   rcases fp a q with q|rfl
   ·exact hf q
   ·rcases off with off|⟨_,_,o',og,hw⟩
    ·exact hf (off▸(bK hp).1)
    ·obtain rfl:=bE (Eq.trans (Eq.symm ho) og);exact JB hw,hk a o ho⟩⟩
 have same:∀a,(∃o,s.heap.get? a=some o)->s'.heap.get? a=s.heap.get? a:=λa LV=>eL LV λo e=>(hk a o e).trans e.symm;have ne:∀(j:Nat)(q:Addr×Addr),Z[j]?=some q->j≠i->(p'.1≠q.1/\p'.1≠q.2)/\p'.2≠q.1/\p'.2≠q.2:=λj q hq hj=>by
  refine g7 (G.sep i j p q hp hq (Ne.symm hj)) λs1 s2 s3 s4=>?_;refine⟨by rw[e1];exact⟨s1,s2⟩,?_⟩
  rcases off with off|⟨off,_⟩
  ·refine Eq.symm off▸?_;exact⟨s1,s2⟩
  ·exact⟨λz=>off (z▸(bK hq).1),λz=>off (z▸(bK hq).2)⟩
 refine⟨by simp[G.len],λa o h=>hk a o (G.base a o h),λa q=>?_,λj q d hq hd=>?_,λj k q r hq hr SQ=>?_,Ot.trans G.os,UW.trans G.drawn,bare,λj k q r d d' a b hq hr hd oP gd YC ha hb SQ=>?_⟩
 ·rcases fp a q with q|rfl
  ·exact G.high a q
  ·rcases off with off|⟨_,h,_⟩
   ·refine Eq.symm off▸?_;exact G.high _ (bK hp).1
   ·exact h
 ·rcases eH hp hq with⟨rfl,rfl⟩|⟨hj,AW⟩
  ·rcases eH gH hd with⟨_,rfl⟩|⟨h,_⟩
   ·exact hc
   ·exact absurd rfl h
  ·rcases eH gH hd with⟨h,_⟩|⟨_,oP⟩
   ·exact absurd h hj
   ·have C:=G.cells j q d AW oP;have th:=C.there;refine C.shift x (same _ th.1) (same _ th.2) λgd=>⟨Nat.le_of_eq Oq.symm,λk Lv=>Gp k λX5=>?_⟩;exact G.CC i j p q c d k k hp AW gH oP gc gd X5 Lv (Ne.symm hj) rfl
 ·rcases eH hp hq with⟨rfl,rfl⟩|⟨hj,AW⟩
  ·rcases eH hp hr with⟨rfl,_⟩|⟨kK,oM⟩
   ·exact absurd rfl SQ
   ·have:=ne k r oM kK;exact⟨this.1.1,this.1.2,this.2.1,this.2.2⟩
  ·rcases eH hp hr with⟨rfl,rfl⟩|⟨kK,oM⟩
   ·have:=ne j q AW hj;exact⟨this.1.1.symm,this.2.1.symm,this.1.2.symm,this.2.2.symm⟩
   ·exact G.sep j k q r AW oM SQ
 ·have one:∀(j:Nat)(q:Addr×Addr)(d:aL)(a:Nat),(Z.set i p')[j]?=some q->(σ.set i c')[j]?=some d->tN d=true->s'.heap.IsGen q.1 a->∃IK zT,Z[j]?=some IK/\σ[j]?=some zT/\tN zT=true/\s.heap.IsGen IK.1 a:=λj q d a hq hd gd ha=>by
   rcases eH hp hq with⟨rfl,rfl⟩|⟨hj,AW⟩
   ·refine(dt p c hp gH gc ?_);rw[e1]at ha;exact IsGen.at' ha (same _ (G.cells _ p c hp gH).there.1).symm
   ·rcases eH gH hd with⟨h,_⟩|⟨_,oP⟩
    ·exact absurd h hj
    ·exact(dt q d AW oP gd (IsGen.at' ha (same _ (G.cells j q d AW oP).there.1).symm))
  refine bj (one j q d a hq hd gd ha) λIK zT a1 a2 a3 a4=>?_;refine bj (one k r d' b hr oP YC hb) λTU U8 b1 b2 b3 b4=>?_;exact G.CC j k IK TU zT U8 a b a1 b1 a2 b2 a3 b3 a4 b4 SQ
end
end
section
theorem xH(h:qm ih i σ=some (o,aE)):∃q x au,σ[i]?=some (.gen q)/\oR ih q (σ.set i .busy)=some (x,au)/\nH ih i q x.1 x.2 au=some (o,aE):=by
 unfold qm at h;refine M.aA h λc au e1 h=>?_;(refine cC λY6 Ul=>?_;(refine cH (gx e1) λe2 Ml=>?_;subst Ml);refine Ul ?_)
 induction c using aL.casesOn with
 |gen q=>
  refine M.aA h λu cj e3 h=>?_;have e4:=jF e3;subst e4;refine M.aA h λx de e5 h=>?_;exact(nF q x de e2 e5 h)
 |_=>exact cT h
theorem CE(h:RF j σ=some (r,aE)):σ[j]?=some (.sy r.1 r.2.1 r.2.2)/\aE=σ:=by
 obtain⟨c,au,e1,h1⟩:=M.bind_some h;obtain⟨e2,rfl⟩:=gx e1
 induction c using aL.casesOn with
 |sy a c n=>obtain⟨rfl,rfl⟩:=M.aM h1;exact⟨e2,rfl⟩
 |_=>exact cT h1
theorem pR(h:z5 i σ=some (u,aE)):σ[i]?=some .busy/\aE=σ:=by
 obtain⟨c,au,e1,h1⟩:=M.bind_some h;obtain⟨e2,rfl⟩:=gx e1
 induction c using aL.casesOn with
 |busy=>obtain⟨_,rfl⟩:=M.aM h1;exact⟨e2,rfl⟩
 |_=>exact cT h1
section
variable{prog:Program}{w:World}{A:Around}{E:Value->Shared->Prop}{s:Shared}
theorem y5{it:Addr}{x left step:Int}{Q:Option Value->Shared->Prop}(hh:A.handled=none)(hit:IsRangeIter s.heap it x left step)(Gn:left<=0)(hQ:∀h',(∀b o,s.heap.get? b=some o->h'.get? b=some o)->Q none {s with heap:=h'}):wpAny (model prog w) A (pyNext (.ref it)) Q E s:=by
 have hT:s.TypeIs (.ref it) "range_iterator":=⟨_,hit,rfl⟩;unfold pyNext;refine aw (wpAny_attempt (wpAny_callSpecial?_slot (name:=Str.ofString "__next__") hT PySem.F.slot_range_iterator_next
  (wpAny_call_entry PySem.F.slot_range_iterator_next hT PySem.F.entry_range_iterator_next ?_ (PySem.F.args_range_iterator_next_1 _))))
 refine aw (m:=field (.ref it) 0) (wpAny_field hit rfl (x:=rawInt x) rfl ?_);refine aw (m:=field (.ref it) 1) (wpAny_field hit rfl (x:=rawInt left) rfl ?_);refine aw (m:=field (.ref it) 2) (wpAny_field hit rfl (x:=rawInt step) rfl ?_);refine(?_:wpAny _ _ (if left<=0 then _ else _) _ _ s);refine Eq.symm (if_pos Gn)▸?_;refine aw (wpAny_rule ?_);refine aw ?_;refine ir (show A.in1.handled=none from hh) λa oe h' ha AX k=>?_
 refine aw (wpAny_isInstance (T:="StopIteration") (b:=true) ⟨_,ha,AX⟩ isSubtype_stop ?_);exact a7 (hQ h' k)
end
section
variable{R:Gr}{A:Around}{X Y:List Addr}{Z aH:bo}{σ:af}{s s':Shared}{n:Nat}{ih:f5}{sc:Scope}{e:ar}{env:Env}
theorem GD(S:bQ R n ih){fs:List Frame}{px yp sp:Pos}{I J:Addr}{i j:Nat}{q:Ao}{own:List (Str×V)}{o:Option V}{aE:af}{Φ:End->Shared->Prop}(rm:br (A.over (.forLoop (.Name q.target px) (.ref I) [.Expr (.Yield (some q.elt) yp) sp] [] env) fs) n)(hf:OF fs)(Rm:splitAtGen fs=none)(UQ:fs.any Frame.guarded=false)(zI:env.scope.isCoroutine=false)(G:aq R Z σ s)(F:FR R Z s q.sc ⟨own,[]⟩ env X)(hj:Z[j]?=some (I,J))(hm:nH ih i q own j σ=some (o,aE))(Ra:o=none->aE=σ->σ[i]?=some .busy->∀s',aq R Z σ s'->bu [] Z s Z s'->s'.gens=s.gens->∀c,dZ (model R.prog R.w) A Φ c (leafOf (.ok .next)) fs s')(Q4:∀w aH s' e' au u,o=some w->au[i]?=some .busy->(∀p∈e'.own,q.sc.names.lookup p.1=some .local)->aE=au.set i (.gen {q with env:=e'.own,pre:=none,it:=j})->aq R aH au s'->bu X Z s aH s'->FR R aH s' q.sc e' env X->aI R aH s'.heap w u->∀k l c p,(End.susp u false l k c p fs).quiet=true->An R.prog R.w (End.susp u false l k c p fs).genState fs (.Name q.target px) (.ref I) [.Expr (.Yield (some q.elt) yp) sp] env->Φ (.susp u false l k c p fs) s'):dZ (model R.prog R.w) A Φ (.forLoop (.Name q.target px) (.ref I) [.Expr (.Yield (some q.elt) yp) sp] [] env) ((model R.prog R.w).den (.forLoop (.Name q.target px) (.ref I) [.Expr (.Yield (some q.elt) yp) sp] [] env)) fs s:=by
 have hi:interactive env=false:=by unfold interactive;rw[F.kind];rfl
 refine uF hf Rm UQ zI hi ?_;refine M.aA hm λr au e1 H6=>?_;refine cH (CE e1) λe2 e0=>?_;rw[e0]at H6;refine cH (G.at hj e2) λep hit=>?_;have YH:J=I:=ep;subst YH;cases hr:r.2.2 with
 |zero=>
  rw[hr]at H6 hit;refine M.aA H6 λ_ cj eb Gm=>?_;(refine cH (pR eb) λU7 Eh=>?_;subst Eh);obtain⟨h1,h2⟩:=M.aM Gm;refine N.of (y5 rm.handled hit (by simp) λh' k=>?_);refine cH (fE (t:=s.toks) G k) λG1 x1=>?_;exact Ra h1.symm h2.symm U7 _ G1 x1 rfl
 |succ m=>
  rw[hr]at H6 hit;refine M.aA H6 λu cj e3 Gm=>?_;have e4:=jF e3;subst e4;refine M.aA Gm λe' de e5 UK=>?_;refine M.aA UK λw kx e6 Yd=>?_;refine M.aA Yd λ_ Ar eb Yc=>?_;(refine cH (pR eb) λU7 D5=>?_;subst D5);refine M.aA Yc λ_ Aq en Yb=>?_;(refine cH (oC en) λzJ Eh=>?_;subst Eh);refine M.aA Yb λ_ DM es X9=>?_;refine M.lG X9 λh1 h2=>?_;refine N.of (wpAny_pyNext_range_item hit (by omega) λh' qh hs=>?_);obtain⟨G1,x1⟩:=Bz (c':=.sy (r.1+r.2.1) r.2.1 m) (t:=s.toks+1) G hj ep hs (λx=>⟨ep,by
   have:=qh
   rwa[show((m+1:Nat):Int)-1=(m:Int) by omega]at this⟩)
  refine(?_:bJ _ _ (assign (.Name q.target px) env (.int r.1 s.toks)) _ _);refine N.at' (jT G1 (F.step x1) (.int r.1 s.toks) e' de e5 _ λcn aY _ G2 x2 F2=>?_);refine S.E q.elt rm G2 F2 w Aq e6 _ λiz d8 y G3 x3 r3=>?_;exact Q4 w iz d8 e' Aq y h1.symm U7 (λp hp=>by simpa using fO zJ p hp) (h2.symm.trans (jF es)) G3 (((x1.weaken λ_ q=>nomatch q).trans x2).trans (x3.weaken λ_ q=>nomatch q)) (F2.step x3) r3
end
end
section
section
variable{R:Gr}{A:Around}{X Y:List Addr}{Z aH:bo}{σ:af}{s s':Shared}{n:Nat}{ih:f5}{sc:Scope}{e:ar}{env:Env}
theorem qP{k j:Nat}{g:GenState}(h:j≠k):(s.setGen k g).gens[j]?=s.gens[j]?:=by
 show(s.gens.setIfInBounds k g)[j]?=_;exact Array.getElem?_setIfInBounds_ne (Ne.symm h)
theorem iX{k:Nat}{g:GenState}:(s.setGen k g).gens.size=s.gens.size:=by
 show(s.gens.setIfInBounds k g).size=_;simp
theorem pq{k:Nat}{g:GenState}(hb:g.bare=true)(h:AllBare s.gens):AllBare (s.setGen k g).gens:=λy hy=>by
 have vi:y∈s.gens.setIfInBounds k g:=hy;obtain⟨j,hj⟩:=Array.mem_iff_getElem?.mp vi;replace hj:=Eq.trans (Eq.symm (Array.getElem?_setIfInBounds)) hj
 split at hj
 ·split at hj
  ·obtain rfl:=bE hj;exact hb
  ·exact cT hj
 ·exact h y (Array.mem_of_getElem? hj)
theorem GG(G:aq R Z σ s){i k:Nat}{p:Addr×Addr}{q:Ao}{gs:GenState}{qual:Str}{f:Addr}{sC:Value}{m:Str->Option Value}(hp:Z[i]?=some p)(hc:σ[i]?=some (.gen q))(D:H0 R Z s p q k gs qual f sC m):aq R (Z.set i (p.1,p.1)) (σ.set i .busy) (s.setGen k .running)/\FR R (Z.set i (p.1,p.1)) (s.setGen k .running) q.sc ⟨q.env,[]⟩ (envX qual q.sc p.2 f sC []) [p.2]/\(p.2∉cW (Z.set i (p.1,p.1))):=by
 have il:i<Z.length:=(d0 hp).1;have hk:k<s.gens.size:=(Array.getElem?_eq_some_iff.mp D.st).1;have U2:∃o,s.heap.get? p.1=some o:=let ⟨o,_,_,ho,_⟩:=D.gen;⟨o,ho⟩;have Ĝ:aq R (Z.set i (p.1,p.1)) (σ.set i .busy) (s.setGen k .running):=by
  refine G.swap (s':=s.setGen k .running) (p':=(p.1,p.1)) hp hc rfl rfl rfl (.inl rfl) (λa o h=>h) rfl rfl iX (λj hj=>qP λz=>hj (z▸D.gen)) (pq rfl G.gens) ?_;exact⟨⟨k,D.gen,by rw[iX];exact hk⟩,U2⟩
 have off:p.2∉cW (Z.set i (p.1,p.1)):=λz=>by
  refine cw (cK.mp z) λj r hj h=>?_
  rcases eH hp hj with⟨rfl,rfl⟩|⟨Yh,sN⟩
  ·rcases h with h|h<;>exact D.ne h.symm
  ·refine g7 (G.sep i j p r hp sN (Ne.symm Yh)) λ_ _ s3 s4=>?_
   rcases h with h|h
   ·exact s3 h
   ·exact s4 h
 have kR:∀x k,q.sc.names.lookup x=some k->k=.local\/k=.globalImplicit:=λx k h=>D.names _ (mem_of_lookup h);have shift:n0 Z s.heap (Z.set i (p.1,p.1)) (s.setGen k .running).heap:=⟨λj r hr=>by
  by_cases e:j=i
  ·subst e;obtain rfl:=bE (Eq.trans (Eq.symm hp) hr);exact⟨(p.1,p.1),by rw[getElem?_set];simp[il],rfl⟩
  ·exact⟨r,by rw[getElem?_set,if_neg (Ne.symm e)];exact hr,rfl⟩,λa o ho _ hf=>⟨λz=>by
   refine cw (cK.mp z) λj r hj h=>?_
   rcases eH hp hj with⟨rfl,rfl⟩|⟨_,sN⟩
   ·rcases h with h|h<;>exact hf (h▸(bK hp).1)
   ·exact hf (cK.mpr (ef j r sN h)),ho⟩⟩
 refine⟨Ĝ,⟨D.kind,λx k h=>.inl h,rfl,rfl,λa ha=>?_,λa ha=>?_,mem_singleton.mpr rfl,(aT m D.ns (λx v hx hl=>?_)),λx hx=>?_,λx y c hx=>?_,λx v hx=>?_,λx hx=>?_,λx hx=>?_⟩,off⟩
 ·(have P8:=bz ha;subst P8);exact⟨off,(G.high _ (bK hp).2).1⟩
 ·(have P7:=bz ha;subst P7);refine fS (D.ns) λo _ _ ho hd _=>?_;exact(aT o ho (.inl (by rw[hd];trivial)))
 ·refine cN (D.own x v hl) λ_ y hy hv=>?_;exact(aT y hy (hv.shift shift))
 ·rcases kR x _ hx with h|h<;>cases h
 ·rcases kR x _ hx with h|h<;>cases h
 ·rcases kR x _ hx with h|h<;>cases h
 ·rcases kR x _ hx with h|h<;>cases h
 ·rcases kR x _ hx with h|h<;>cases h
end
end
section
section
variable{R:Gr}{A:Around}{X Y:List Addr}{Z aN:bo}{σ au:af}{s ax:Shared}{n:Nat}{ih:f5}{sc:Scope}{e:ar}{env:Env}
theorem ER{α:Type}{l:List α}{i:Nat}{x y:α}(h:l[i]?=some x):(l.set i y).set i x=l:=by
 apply ext_getElem?;intro j;rw[getElem?_set,getElem?_set];by_cases e:i=j
 ·subst e;have:=(d0 h).1;rw[if_pos rfl,if_pos (by simpa using this),h]
 ·simp[e]
theorem tT{p:Addr×Addr}{i k:Nat}(G0:aq R Z σ s)(hp:Z[i]?=some p)(hg:s.heap.IsGen p.1 k)(G:aq R aN au ax)(x:bu [p.2] (Z.set i (p.1,p.1)) (s.setGen k .running) aN ax)(hb:au[i]?=some .busy)(hL:∃o,ax.heap.get? p.2=some o/\yr o)(T7:p.2∉cW aN){c':aL}(Wx:tN c'=true){g:GenState}(bare:g.bare=true){h':Heap}(hk:∀a o,ax.heap.get? a=some o->h'.get? a=some o)(hc:dK R (aN.set i p) {ax.setGen k g with heap:=h'} p c'):aq R (aN.set i p) (au.set i c') {ax.setGen k g with heap:=h'}/\bu [] Z s (aN.set i p) {ax.setGen k g with heap:=h'}:=by
 have il:i<Z.length:=(d0 hp).1;have Gk:(Z.set i (p.1,p.1))[i]?=some (p.1,p.1):=by rw[getElem?_set];simp[il]
 have Wa:aN[i]?=some (p.1,p.1):=x.get Gk;have sub:∀a,a∈cW (Z.set i (p.1,p.1))->a∈cW Z:=λa z=>by
  refine cw (cK.mp z) λj r hj h=>?_
  rcases eH hp hj with⟨rfl,rfl⟩|⟨_,sN⟩
  ·rcases h with rfl|rfl<;>exact(bK hp).1
  ·exact cK.mpr (ef j r sN h)
 have Ow:ax.heap.IsGen p.1 k:=x.gen i (p.1,p.1) k Gk hg;refine⟨G.swap (s':={ax.setGen k g with heap:=h'}) (p':=p) Wa hb rfl rfl Wx (.inr ⟨T7,G0.high _ (bK hp).2,hL⟩) hk rfl rfl iX (λj hj=>qP λz=>hj (z▸Ow)) (pq bare G.gens) hc,?_,λa ha hn=>?_,λa o ho hn _=>?_,(λ_ q=>nomatch q),λj q k' hq h=>?_⟩
 ·obtain⟨r,hr⟩:=x.pre;refine⟨r,?_⟩;rw[hr,List.set_append_left (h:=by simpa using il),ER hp]
 ·refine cw (cK.mp ha) λj r hj h=>?_
  rcases eH Wa hj with⟨rfl,rfl⟩|⟨_,sN⟩
  ·rcases h with rfl|rfl
   ·exact absurd (bK hp).1 hn
   ·exact absurd (bK hp).2 hn
  ·exact x.new a (cK.mpr (ef j r sN h)) λz=>hn (sub a z)
 ·refine hk a o (x.keep a o ho (λz=>hn (sub a z)) λz=>hn ?_);rw[mem_singleton.mp z];exact(bK hp).2
 ·have:∃q':Addr×Addr,(Z.set i (p.1,p.1))[j]?=some q'/\q'.1=q.1:=by
   by_cases ej:j=i
   ·subst ej;rw[hp]at hq;(injection hq with IP;subst IP);exact(aT _ Gk rfl)
   ·exact⟨q,by rw[getElem?_set,if_neg (Ne.symm ej)];exact hq,rfl⟩
  (refine ak this λq' h1 h2=>?_;clear this);(refine fD (x.gen j q' k' h1 (by rw[h2];exact h)) λo nm qn ho r=>?_);rw[h2]at ho;exact⟨o,nm,qn,hk _ o ho,r⟩
end
end
section
section
variable{R:Gr}{A:Around}{n:Nat}{env:Env}{fs:List Frame}
theorem BR{t:Expr}{it:Value}{b:List Stmt}(rm:br A (n+1))(h:DG env fs):br (A.in1.over (.forLoop t it b [] env) fs) n:=by
 (refine mR h λbody p ae Tv=>?_;clear h;subst Tv);refine⟨rm.handled,?_,?_⟩
 ·refine(?_:A.depth+1+0+2*n<900);have:=rm.depth;omega
 ·refine(?_:A.units+1+3+0+20*n+100<9900);have:=rm.units;omega
theorem tg{b:List Stmt}(rm:br A (n+1)):br (A.in1.over (.func b env) []) n:=by
 refine⟨rm.handled,?_,?_⟩
 ·refine(?_:A.depth+0+1+2*n<900);have:=rm.depth;omega
 ·refine(?_:A.units+1+0+3+20*n+100<9900);have:=rm.units;omega
theorem GJ(h:DG env fs):OF fs:=by
 obtain⟨body,p,ae,rfl⟩:=h;intro x hx;have:x=(Code.func body env,p):=bz hx;rw[this];rfl
theorem GH(h:DG env fs):splitAtGen fs=none:=by
 (refine mR h λbody p ae L7=>?_;clear h;subst L7)
 rfl
theorem GI(h:DG env fs):fs.any Frame.guarded=false:=by
 (refine mR h λbody p ae Tr=>?_;clear h;subst Tr)
 rfl
end
end
section
def HZ(k:Nat)(Q:Option Value->Shared->Prop)(e:End)(ax:Shared):Prop:=e.quiet=true/\match e with
 |.ret r=>r=.ok (.ret .none)/\∀h',(∀b o,ax.heap.get? b=some o->h'.get? b=some o)->Q none {ax.setGen k .finished with heap:=h'}
 |.susp v g' l' k' c' p' fs'=>Q (some v) (ax.setGen k (End.susp v g' l' k' c' p' fs').genState)
section
variable{R:Gr}{A:Around}{X Y:List Addr}{Z aN:bo}{σ au:af}{s ax:Shared}{n:Nat}{ih:f5}{sc:Scope}{e:ar}{env:Env}
theorem ES{α:Type}{l:List α}{i:Nat}{x:α}(h:l[i]?=some x):l.set i x=l:=by
 apply ext_getElem?;intro j;rw[getElem?_set];by_cases e:i=j
 ·subst e;rw[if_pos rfl,if_pos (List.getElem?_eq_some_iff.mp h).1,h]
 ·simp[e]
theorem FR.T9(F:FR R Z s sc e env X):FR R Z s sc ⟨e.own,[]⟩ env X:=
 ⟨F.kind,F.names,F.globals,F.builtins,F.off,F.own,F.loc,F.ns,F.cell,F.apart,(λ_ _ _ h=>by exact cT h),F.frees,F.nJ⟩
theorem FF:∀{l:List (Str×V)},look x l=some v->(x,v)∈l:=by
 intro l0
 induction l0 with
 |nil=>
  rintro h;exact cT h
 |cons hd r hi=>
  obtain⟨k,u⟩:=hd;rintro h;unfold look at h
  split at h
  ·rename_i hx;obtain rfl:=bE h;simp[beq_iff_eq.mp hx]
  ·exact fX _ (hi h)
theorem BI(hp:Z[i]?=some (p.1,p.1))(hL:h.get? p.2=some oL)(hO:yr oL):n0 Z h (Z.set i p) h where
 ref:=λj r hr=>by
  by_cases e:i=j
  ·exact⟨p,by rw[<-e,getElem?_set_self (List.getElem?_eq_some_iff.mp hp).1],(congrArg Prod.fst (bE (hp.symm.trans ((congrArg (Z[·]?) e).trans hr))):(p.1,p.1).1=r.1)⟩
  ·exact⟨r,by rw[List.getElem?_set_ne e];exact hr,rfl⟩
 keep:=λa oa ha JB hf=>⟨λz=>by
  refine cw (cK.mp z) λj r hj h=>?_
  rcases eH hp hj with⟨_,rfl⟩|⟨_,sN⟩
  ·rcases h with h|h
   ·exact hf (h▸(bK hp).1)
   ·exact JB ((bE ((h▸ha).symm.trans hL))▸hO)
  ·exact hf (cK.mpr (ef j r sN h)),ha⟩
theorem xG(S:bQ R n ih)(rm:br A (n+1)){i k j:Nat}{p:Addr×Addr}{q:Ao}{gs:GenState}{qual:Str}{f:Addr}{sC:Value}{m:Str->Option Value}{fs:List Frame}{px yp sp:Pos}{I J:Addr}{own:List (Str×V)}{o:Option V}{aE:af}(G0:aq R Z σ s)(hp:Z[i]?=some p)(D:H0 R Z s p q k gs qual f sC m)(vj:DG (envX qual q.sc p.2 f sC []) fs)(G1:aq R aN au ax)(F1:FR R aN ax q.sc ⟨own,[]⟩ (envX qual q.sc p.2 f sC []) [p.2])(x1:bu [p.2] (Z.set i (p.1,p.1)) (s.setGen k .running) aN ax)(hj:aN[j]?=some (I,J))(hm:nH ih i q own j au=some (o,aE)){Q:Option Value->Shared->Prop}(hQ:∀aH s' a,aq R aH aE s'->bu [] Z s aH s'->Al R p.1 (.gen i) aH s' (o.map λv=>(v,.gen i)) a->Q a s'):dZ (model R.prog R.w) A.in1 (HZ k Q) (.forLoop (.Name q.target px) (.ref I) [.Expr (.Yield (some q.elt) yp) sp] [] (envX qual q.sc p.2 f sC [])) ((model R.prog R.w).den (.forLoop (.Name q.target px) (.ref I) [.Expr (.Yield (some q.elt) yp) sp] [] (envX qual q.sc p.2 f sC []))) fs ax:=by
 have il:i<Z.length:=(d0 hp).1;have Gk:(Z.set i (p.1,p.1))[i]?=some (p.1,p.1):=getElem?_set_self il;refine GD S (BR rm vj) (GJ vj) (GH vj) (GI vj) D.xO G1 F1 hj hm ?_ ?_
 ·intro ho Uo hb s' G' x' rF c;(refine mR vj λbody fp ae L7=>?_;clear vj;subst L7);refine BL (r:=.ok .next) ?_;refine(?_:dZ _ _ _ _ (leafOf (.ok (.ret .none))) [] s');refine EV _ ⟨rfl,rfl,λh' hk=>?_⟩;have F':=F1.step x';have xx:bu [p.2] (Z.set i (p.1,p.1)) (s.setGen k .running) aN s':=x1.trans (x'.weaken λ_ q=>nomatch q)
  have JD:s'.heap.IsGen p.1 k:=xx.gen i (p.1,p.1) k Gk D.gen;have UM:k<s'.gens.size:=vq (G'.at (xx.get Gk) hb) rfl JD;refine ak (F'.own p.2 (mem_singleton.mpr rfl)) λoL JA Jz=>?_;obtain⟨G2,x2⟩:=tT (c':=.busy) (g:=.finished) (h':=h') G0 hp D.gen G' xx hb (aT oL JA Jz) (F'.off p.2 (mem_singleton.mpr rfl)).1 rfl rfl hk
   ⟨⟨k,let ⟨o',nm,qn,og,r⟩:=JD;⟨o',nm,qn,hk _ _ og,r⟩,by rw[show({s'.setGen k .finished with heap:=h'}:Shared).gens.size=s'.gens.size from iX];exact UM⟩,oL,hk _ _ JA⟩
  rw[ES hb]at G2;subst ho Uo;exact hQ _ _ _ G2 x2 trivial
 ·intro w aH s' e' cj u ho hb zJ Uo G' x' F' hu kk l c pp Gi Rk;refine⟨Gi,?_⟩;have xx:bu [p.2] (Z.set i (p.1,p.1)) (s.setGen k .running) aH s':=x1.trans x';have JD:s'.heap.IsGen p.1 k:=xx.gen i (p.1,p.1) k Gk D.gen;have UM:k<s'.gens.size:=vq (G'.at (xx.get Gk) hb) rfl JD;have H4:aH[i]?=some (p.1,p.1):=xx.get Gk;have XI:i<aH.length:=(d0 H4).1;refine ak (F'.own p.2 (mem_singleton.mpr rfl)) λoL JA Jz=>?_;refine ak (F'.ns) λm' Lr rD=>?_;have sh:=BI H4 JA Jz;(refine ak (sh.ref j (I,J) (x'.get hj)) λEb Ov Yi=>?_;obtain⟨I',J'⟩:=Eb);have Ov:(aH.set i p)[j]?=some (I,J'):=Ov.trans (congrArg some (Prod.ext Yi rfl));have gb:=End.bare_of_quiet Gi;refine cH (tT (c':=.gen {q with env:=e'.own,pre:=none,it:=j}) (g:=(End.susp u false l kk c pp fs).genState) (h':=s'.heap) G0 hp D.gen G' xx hb (aT oL JA Jz) (F'.off p.2 (mem_singleton.mpr rfl)).1 rfl gb (λ_ _ h=>h)
   ⟨k,_,qual,f,sC,m',D.ne,JD,by
    refine(?_:(s'.gens.setIfInBounds k _)[k]?=_);rw[Array.getElem?_setIfInBounds_self,if_pos UM],D.kind,D.xO,D.names,Lr,λx v hx=>by
     have h1:=zJ _ (FF hx);refine ak (rD x v h1 hx) λy h2 h3=>?_;exact(jn h1 y h2 (h3.shift sh)),⟨I,J',fs,px,yp,sp,Ov,vj,Rk,gb⟩⟩) λG2 x2=>?_
  subst ho Uo;refine hQ _ _ _ G2 x2 ⟨hu.shift sh,⟨p,getElem?_set_self XI,rfl⟩,rfl,?_⟩;(refine fS JD λo' nm qn og DK _=>?_;clear JD);exact⟨o',_,og,DK,by decide⟩
theorem EU{Φ:End->Shared->Prop}{K:Flow->Sem PySem.Fin}{ae:Value->Sem PySem.Fin}{gd:Bool->Bool}{lv:List Value->List Value}(S:bQ R n ih)(rm:br (B.over c []) n)(gH:f9 c=true):∀{ss:List Stmt}{Z:bo}{σ:af}{s:Shared}{e:ar},aq R Z σ s->FR R Z s sc e env X->dx ih sc e ss σ=some ((.next,e'),aE)->(∀aH s',aq R aH aE s'->bu X Z s aH s'->FR R aH s' sc e' env X->dZ (model R.prog R.w) B Φ c ((execs rest env).wrap K ae gd lv) [] s')->dZ (model R.prog R.w) B Φ c ((execs (ss++rest) env).wrap K ae gd lv) [] s:=by
 intro l0
 induction l0 with
 |nil=>
  rintro Z σ s e G F hm h;(refine cH (M.aM (show(pure (Fl.next,e):M (Fl×ar)) σ=_ from hm)) λh1 DZ=>?_;subst DZ)
  (refine cC λW8 QX=>?_;cases h1;refine QX ?_);exact h _ _ G (bu.refl ..) F
 |cons st ss hi=>
  rintro Z σ s e G F hm h
  (refine M.aA (show(ih.S sc e st>>=λx=>match x.1 with
   |.next=>dx ih sc x.2 ss
   |f=>pure (f,x.2)) σ=_ from hm) λO0 au h1 hm=>?_;obtain⟨fl,fZ⟩:=O0)
  refine BK (λ_ q=>nomatch q) (S.S st rm G F _ au h1 _ λaN ax fw G1 x1 r1=>?_) gH
  obtain⟨r1,F1⟩:=r1
  induction fl using Fl.casesOn with
  |next=>
   induction fw using Flow.casesOn with
   |next=>exact⟨rfl,hi G1 F1 hm λaH s' G' x' F'=>h _ _ G' (x1.trans x') F'⟩
   |_=>exact r1.elim
  |_=>cases hm
theorem xc(h:aJ ih (.gen i) σ=some (o,aE)):∃w,qm ih i σ=some (w,aE)/\o=w.map (λv=>(v,gE.gen i)):=by
 refine M.aA h λw cj h1 h2=>?_
 induction w using Option.casesOn with
 |none=>cases h2;exact(aT _ h1 rfl)
 |some v=>cases h2;exact(aT _ h1 rfl)
theorem zM(hq:q.pre=some (ss,it))(h:oR ih q σ=some (x,aE)):∃e' de a b c kx,dx ih q.sc ⟨q.env,[]⟩ ss σ=some ((.next,e'),de)/\ih.E q.sc e' it de=some (.hK a b c,kx)/\∃n,mB a b c=some n/\aE=kx++[.sy a c n]/\x=(e'.own,kx.length):=by
 unfold oR at h;rw[hq]at h;refine M.aA h λy de h3 h=>?_;refine M.aA h λu _ h1 h=>?_;obtain rfl:=(cJ h1).2;refine M.aA h λv kx h4 h=>?_;refine M.aA h λr _ h2 h=>?_;obtain rfl:=(cJ h2).2;refine M.aA h λn _ h5 h=>?_;obtain rfl:=(cJ h5).2;have h:=Prod.mk.inj (bE h);obtain⟨fl,e'⟩:=y;exact(rt e' de r.1.1 r.1.2.1 r.1.2.2 kx (u.2▸h3) (r.2▸h4) n ((cJ h5).1) h.2.symm h.1.symm)
theorem Fm(S:bQ R n ih)(W:n7 R)(rm:br A (n+1))(G:aq R Z σ s)(hI:o7 R Z s I (.gen i)):aj R A [] Z σ s (pyNext (.ref I)) (aJ ih (.gen i)) (pT R I (.gen i)):=by
 intro o aE hm Q SY;(refine ak hI λp hp DS=>?_;clear hI;subst DS);(refine ak (xc hm) λw h1 z=>?_;clear hm;subst z);have hQ:∀aH s' a,aq R aH aE s'->bu [] Z s aH s'->Al R p.1 (.gen i) aH s' (w.map λv=>(v,.gen i)) a->Q a s':=λaH s' a G' x' h'=>SY aH s' a G' x' ⟨fF.nil _,h'⟩;clear SY;refine fS (xH h1) λq x au hc mN Lq=>?_;refine iw (G.at hp hc) λk gs qual f sC m D=>?_;refine bH (GG G hp hc D) λGo Fo off=>?_;refine w4 (Φ:=HZ k Q) rm.handled (j6 W G) (by have:=rm.depth;unfold recursionLimit;omega) D.gen D.st ?_ λe ax h=>h;have ph:=D.ph;unfold Bo at ph;cases hq:q.pre with
 |none=>
  unfold oR at mN;rw[hq]at ph mN;(refine vy ph λI J fs px yp sp hj vj Rk hb=>?_;clear ph);(refine cC λW7 QW=>?_;cases mN;refine QW ?_);refine Rk _ _ _ (xG (J:=if q.it=i then I else J) S rm G hp D vj Go Fo (bu.refl ..) ?_ Lq hQ);by_cases e:q.it=i
  ·rw[if_pos e,e,getElem?_set_self (List.getElem?_eq_some_iff.mp hp).1];replace hj:=(hp▸(e▸hj));obtain rfl:=bE hj;rfl
  ·rw[if_neg e,List.getElem?_set_ne (Ne.symm e)];exact hj
 |some pr=>
  obtain⟨ss,it⟩:=pr;rw[hq]at ph;(refine GU ph λCt px yp sp fp OL=>?_;clear ph;subst OL);refine gO (zM hq mN) λe' de a b c kx h3 h4 h=>?_;(refine cA h λcnt h6 z1 z2=>?_;clear h;subst z1;subst z2);refine(?_:dZ _ _ _ _ _ [] _);refine BM ?_;refine EU (X:=[p.2]) S (tg rm) rfl Go Fo h3 λaN ax G1 x1 F1=>?_;rw[execs_cons_wrap];rw[Sem.wrap_congr (exec _ _) _ _ (K':=λf=>.pure (.done (.ret (match f with|.ret v=>v|_=>.none)))) (H':=λe=>(leaving (envX qual q.sc p.2 f sC []) e).wrap (λ_=>.raise e) .raise id id) (λf=>by induction f using Flow.casesOn<;>rfl) (λe=>rfl)]
  refine EW (λ_ q=>nomatch q) (λx=>ki Ct) (S.E it (tg rm) G1 F1 _ kx h4 _ λcn aY y G2 x2 r2=>?_) rfl
  (refine jR r2.uK λr t u v z1 n1 hr=>?_;subst z1);refine g7 (kO h6) λc0 sm OG _=>?_;refine N.of (wpAny_pyIter_range hr sm λpp=>?_)
  (refine cH (G2.alloc (p:=(aY.heap.objs.size,aY.heap.objs.size)) (c:=.sy a c cnt) (h':=aY.heap.push {cls:=.type "range_iterator",data:=.fields #[rawInt a,rawInt (Builtin.Range.rangeSize a b c),rawInt c]}) (t:=aY.toks) rfl
   (λb o e=>gm _ e) G2.next G2.next (λx=>⟨rfl,by rw[OG,je c0];exact gk _ rfl⟩)) λG3 x3=>?_)
  exact xG (J:=aY.heap.objs.size) S rm G hp D ⟨_,pp,_,rfl⟩ G3 ((F1.step x2).step x3).T9 (x1.trans ((x2.trans x3).weaken λ_ q=>nomatch q)) (by rw[<-G2.len,List.getElem?_concat_length]) Lq hQ
theorem oB(S:bQ R n ih)(W:n7 R):mu R n ih:=λ{A Z σ s I st} rm G hI y=>by
 induction st using gE.casesOn with
 |items vs=>exact λb aE e Q hQ=>N.of (zi rm.handled G hI y b aE e Q hQ)
 |list i k=>exact λb aE e Q hQ=>N.of (B6 rm.handled G hI y b aE e Q hQ)
 |dict i m l k=>exact λb aE e Q hQ=>N.of (B7 rm.handled G hI y b aE e Q hQ)
 |gen i=>exact Fm S W rm G hI
end
end
section
section
variable{R:Gr}{A:Around}{X Y:List Addr}{Z:bo}{σ:af}{s:Shared}{n:Nat}{ih:f5}{sc:Scope}{e:ar}{env:Env}
theorem My(S:bQ R n ih)(W:n7 R)(rm:br A (n+1))(G:aq R Z σ s)(F:FR R Z s sc e env X)(x:Expr):aj R A [] Z σ s (eval x env) ((mh R.g ih).E sc e x) (RV R):=by
 have NX:mu R n ih:=oB S W
 induction x using Expr.casesOn with
 |Constant c k p=>exact Dq G
 |Name x p=>exact Hz rfl W.Ww G F
 |BinOp l op r p=>exact Ds S rm.less G F
 |UnaryOp op x p=>
  induction op using UnaryOp.casesOn with
  |USub=>exact J8 S rm.less G F
  |_=>exact aj.fail
 |IfExp t b o p=>exact NS S rm.less G F
 |BoolOp op vs p=>exact HE S rm.less G F
 |Compare l ops cs p=>exact yc S rm.less G F
 |List es p=>exact HA S rm.less G F
 |Tuple es c p=>exact Dn S rm.less G F
 |Dict ks vs p=>
  induction ks using List.casesOn with
  |nil=>
   induction vs using List.casesOn with
   |nil=>exact HC G
   |cons=>exact aj.fail
  |cons=>exact aj.fail
 |Subscript o k p=>
  induction k using Expr.casesOn with
  |Slice lo hi st q=>
   induction st using Option.casesOn with
   |none=>exact Dp S rm.less G F
   |some=>exact aj.fail
  |_=>exact sR S rm.less G F rfl
 |Attribute o a p=>exact sS S W rfl rm.less G F
 |Call f args kw p=>
  induction kw using List.casesOn with
  |nil=>
   induction f using Expr.casesOn with
   |Attribute o nm ap=>exact Ad S W rfl rm G F
   |_=>exact HD S W rfl rm G F
  |cons=>induction f using Expr.casesOn<;>exact aj.fail
 |ListComp elt cs cu p=>
  induction cs using List.casesOn with
  |nil=>exact aj.fail
  |cons c r=>
   induction r using List.casesOn with
   |nil=>exact vJ S W NX rfl rm G F
   |cons=>exact aj.fail
 |_=>exact aj.fail
theorem Mx(S:bQ R n ih)(W:n7 R)(rm:br A (n+1))(G:aq R Z σ s)(F:FR R Z s sc e env X)(x:Stmt):aj R A X Z σ s (exec x env) ((mh R.g ih).S sc e x) (DE R sc env X):=by
 have NX:mu R n ih:=oB S W
 induction x using Stmt.casesOn with
 |Expr x p=>
  induction x using Expr.casesOn with
  |Call f args kw q=>exact HB S rm.less G F
  |_=>exact aj.fail
 |Pass p=>exact aj.at' (aj.pure G ⟨trivial,F⟩)
 |Break p=>exact aj.at' (aj.pure G ⟨trivial,F⟩)
 |Continue p=>exact aj.at' (aj.pure G ⟨trivial,F⟩)
 |Return v p=>
  induction v using Option.casesOn with
  |none=>exact aj.at' (aj.pure G ⟨.none,F⟩)
  |some v=>exact Ac S rm.less G F
 |Assign ts v p=>
  induction ts using List.casesOn with
  |nil=>exact aj.fail
  |cons t r=>
   induction r using List.casesOn with
   |nil=>exact Af S W rfl rm G F
   |cons=>exact aj.fail
 |AugAssign t op v p=>
  induction t using Expr.casesOn with
  |Name x q=>
   induction op using Operator.casesOn with
   |Add=>exact Kb S rfl W.Ww rm.less G F
   |_=>exact aj.fail
  |_=>exact aj.fail
 |If t b o p=>exact J9 S rm.less G F
 |While t b o p=>
  induction o using List.casesOn with
  |nil=>exact Dm S rm.less G F
  |cons=>exact aj.fail
 |For t it b o p=>
  induction o using List.casesOn with
  |nil=>exact Ka S W NX rfl rm G F
  |cons=>exact aj.fail
 |_=>exact aj.fail
set_option backward.match.sparseCases false in
theorem Mz(S:bQ R n ih)(W:n7 R)(rm:br A (n+1))(G:aq R Z σ s){f:kI}{a:Addr}{vs:List V}{xs:List Value}(K:LH R a f)(hv:aD R Z s.heap vs xs):aj R A [] Z σ s (call (.ref a) xs) ((mh R.g ih).C f vs) (RV R):=by
 show aj R A [] Z σ s (call (.ref a) xs) (match mi f vs with
  |none=>M.fail
  |some own=>if f.sc.isGenerator then(do
    match rH f own with
    |some q=>dq (.gen q)
    |none=>M.fail)
   else LC ih f own) (RV R)
 cases hm:mi f vs with
 |none=>exact aj.fail
 |some own=>
  dsimp only;by_cases hg:f.sc.isGenerator=true
  ·rw[if_pos hg];cases hq:rH f own with
   |none=>exact aj.fail
   |some q=>exact He W rm G K hv hm hg hq
  ·rw[if_neg hg];exact JX S W rm G K hv hm (by simpa using hg)
theorem yR(S:bQ R n ih)(W:n7 R):bQ R (n+1) (mh R.g ih) where
 E x rm G F:=My S W rm G F x
 T x rm G F:=Ae S R.g rm.less G F x
 S x rm G F:=Mx S W rm G F x
 C rm G K hv:=Mz S W rm G K hv
 star _ _ _ _ _:=rfl
 U x hx rm G F v aE hm use Q fin:=by
  induction x using Expr.casesOn with
  |ListComp elt cs cu p=>
   induction cs using List.casesOn with
   |nil=>exact cT hm
   |cons c r=>
    induction r using List.casesOn with
    |nil=>exact uq S W (oB S W) rfl rm G F hm fin
    |cons=>exact cT hm
  |SetComp=>exact cT hm
  |DictComp=>exact cT hm
  |_=>exact mO hx
theorem yQ:bQ R 0 f5.none where
 E x rm G F:=aj.fail
 T x rm G F:=aj.fail
 S x rm G F:=aj.fail
 C rm G K hv:=aj.fail
 star _ _ _ _ _:=rfl
 U x hx rm G F v aE hm use Q fin:=by exact cT hm
theorem s9(W:n7 R):∀n,bQ R n (ag R.g n)
 |0=>yQ
 |n+1=>yR (s9 W n) W
end
end
theorem q7{R:Gr}{y:Value}{v:V}(h:zh y=some v):∀Z hp,aI R Z hp v y:=λZ hp=>by
 induction y using Value.casesOn with
 |none=>obtain rfl:=bE h;exact .none
 |bool b=>obtain rfl:=bE h;exact .bool b
 |int i t=>(injection h with T2;subst T2);exact .int i t
 |str x t=>(injection h with MM;subst MM);exact .str x t
 |bytes b t=>(injection h with ML;subst ML);exact .bytes b.toList t
 |builtin n=>obtain rfl:=bE h;exact .bi n
 |type n=>obtain rfl:=bE h;exact .ty n
 |_=>exact cT h
theorem tu{R:Gr}:∀{xs:List Value}{ds:List V},xs.map zh=ds.map some->∀Z hp,aD R Z hp ds xs
 |[],[],_,_,_=>.nil
 |[],_::_,h,_,_=>by cases h
 |_::_,[],h,_,_=>by cases h
 |x::xs,d::ds,h,Z,hp=>by
  simp only[map_cons,List.cons.injEq]at h;exact .cons (q7 h.1 Z hp) (tu h.2 Z hp)
theorem jX{α:Type}{o:Option α}{p:α->Bool}(h:o.any p=true):∃a,o=some a/\p a=true:=by
 induction o using Option.casesOn with
 |none=>exact absurd h Bool.false_ne_true
 |some a=>exact⟨a,rfl,h⟩
theorem MX{o:Option NameKind}(h:Qw o=true):o=some .local\/o=some .cell:=by
 induction o using Option.casesOn with
 |none=>exact mO h
 |some k=>
  induction k using NameKind.casesOn with
  | «local» =>exact .inl rfl
  |cell=>exact .inr rfl
  |_=>exact mO h
theorem Nq(h:RI .free=true):False:=by exact mO h
theorem GK{a:Addr}{o:Obj}:∀{l:Frag},l.lookup a=some o->(a,o)∈l:=by
 intro l0
 induction l0 with
 |nil=>
  rintro e;exact cT e
 |cons hd r hi=>
  obtain⟨b,p⟩:=hd;rintro e;rw[lookup_cons]at e
  split at e
  ·rename_i q;obtain rfl:=bE e;rw[beq_iff_eq.mp q];exact eO
  ·exact fX _ (hi e)
theorem CI(h:Heap):(k7 h).In h:=λa o e=>by
 have:=GK e;unfold k7 at this;refine ak (mem_filterMap.mp this) λb _ hb=>?_;refine dw hb λo' ho he=>?_;(injection he with Qa PS;subst Qa;subst PS);exact ho
theorem CS{h:Heap}{cd:Value}{q:Str}(e:G9 h cd q=true):h.CodeRec cd q:=by
 refine ak (jX e) λc _ e=>?_;refine ak (jX e) λo ho e=>?_;refine ak (jX e) λvs _ e=>?_;refine ak (jX e) λy e3 e=>?_;refine ak (jX e) λx _ e=>?_;obtain⟨x,t,rfl⟩:=x;exact⟨c.1,o,vs.1,t,c.2,ho,vs.2,beq_iff_eq.mp e▸e3⟩
theorem JP{R:Gr}{h:Heap}{d:Value}{ds:List V}(hk:∀b o,h.get? b=some o->R.eN.heap.get? b=some o)(e:vB h d=some (ds.map some)):ds= []/\d=.none\/∃t xs,d=.ref t/\R.eN.heap.IsTuple t xs/\xs.size=ds.length/\∀Z hp,aD R Z hp ds xs.toList:=by
 unfold vB at e;by_cases hn:(TC d).isSome=true
 ·rw[if_pos hn]at e;exact .inl ⟨List.map_eq_nil_iff.mp (bE e).symm,((TC d).get hn).2⟩
 ·rw[if_neg hn]at e;refine dD e λt _ e=>?_;refine dD e λo ho e=>?_;refine dD e λn _ e=>?_;by_cases hc:(n.1=="tuple")=true
  ·replace e:=Eq.trans (Eq.symm (if_pos hc)) e;refine dw e λx _ e=>?_;refine .inr (dt t.1 x.1.1 t.2 ⟨o,hk _ _ ho,beq_iff_eq.mp hc▸n.2,x.1.2,x.2⟩ ?_ (tu e));have:=congrArg List.length e
   rwa[length_map,length_map,Array.length_toList]at this
  ·replace e:=Eq.trans (Eq.symm (if_neg hc)) e;exact cT e
theorem GL{R:Gr}{h:Heap}{a:Addr}{f:kI}(hk:∀b o,h.get? b=some o->R.eN.heap.get? b=some o)(e:A0 h a=some (xI f))(g:rI f=true):LH R a f:=by
 refine dD e λo ho e=>?_;refine dw e λfd _ e=>?_;have e:=Prod.mk.inj e;have e2:=Prod.mk.inj e.2;have e3:=Prod.mk.inj e2.2;have e4:=Prod.mk.inj e3.2;have b:=aP e3.1;have b2:=aP b.2;have b3:=aP b2.2;have b4:=aP b3.2;have b5:=aP b4.2;have b6:=aP b5.2;have b7:=aP b6.2;have g:=aP g;have g2:=aP g.1;have g3:=aP g2.1;have g4:=aP g3.1;have g5:=aP g4.1;have g6:=aP g5.1;exact⟨mM o fd.1 (hk _ _ ho) fd.2 e.1 e2.1 (beq_iff_eq.mp b.1) (isEmpty_iff.mp b2.1) (beq_iff_eq.mp b3.1) ((CS b4.1).keeps hk) (isEmpty_iff.mp b5.1) e4.1 (isEmpty_iff.mp b6.1) (isNone_iff_eq_none.mp b7.1) (isNone_iff_eq_none.mp b7.2) (JP hk e4.2),
  beq_iff_eq.mp g6.1,(not_eq_true' _).mp g6.2,fh g5.2,λx hx=>MX (fO g4.2 x hx),eK g3.2,λx hx=>Nq (fO g2.2 (x,.free) (mem_of_lookup hx)),fh g.2⟩
theorem rK{α β:Type}{x:Str}{l:List Stmt}{g:Stmt->Option (Str×α)}{f:Stmt->Option β}{b:β}(hf:∀st b,f st=some b->∃p,g st=some p/\x=p.1)(h:l.findSome? f=some b):x∈l.filterMap λst=>(g st).map (·.1):=by
 refine ak (List.exists_of_findSome?_eq_some h) λst h1 h2=>?_;refine ak (hf st b h2) λp h3 h4=>?_;exact mem_filterMap.mpr ⟨st,h1,by rw[h3,h4];rfl⟩
theorem z6{α β:Type}{x:Str}{o:Option (Str×α)}{k:Str×α->Option β}{b:β}(h:(o.bind λp=>if x==p.1 then k p else none)=some b):∃p,o=some p/\x=p.1:=by
 refine dD h λp h1 h2=>?_;by_cases e:(x==p.1)=true
 ·exact⟨p,h1,beq_iff_eq.mp e⟩
 ·exact cT (Eq.trans (if_neg e).symm h2)
theorem lK{x:Str}{f:kI}{l:List Stmt}(h:jP x l=some f):x∈l.filterMap λst=>(yb st).map (·.1):=rK (λ_ _ h=>z6 h) h
theorem tW{x:Str}{b:List Stmt}{l:List Stmt}(h:rL x l=some b):x∈l.filterMap λst=>(Bg st).map (·.1):=rK (λ_ _ h=>z6 h) h
theorem CJ{x:Str}{v:V}{l:List Stmt}(h:pL x l=some v):x∈l.filterMap λst=>(Hu st).map (·.1):=rK (λ_ _ h=>z6 h) h
theorem vG{x:Str}{v:V}(h:ly x=some v):x∈lN:=(List.of_mem_zip (mem_of_lookup h)).1
theorem Bh:(nI.all (λn=>(jP n prog).all rI)&&gu.all λp=>(gg.cV p.1 p.2).all rI)=true:=by kernel_rfl
theorem RC{n:Str}{f:kI}(h:jP n prog=some f):rI f=true:=by
 have:=fO (aP Bh).1 n (lK h);rw[h]at this;exact this
theorem xh{c m:Str}{f:kI}(h:gg.cV c m=some f):(c,m)∈gu/\c∈eC:=by
 refine dD (show(rL c prog).bind (jP m)=some f from h) λb h1 h2=>?_
 have hc:c∈eC:=tW h1;refine⟨?_,hc⟩;unfold gu;refine mem_flatMap.mpr ⟨c,hc,?_⟩;rw[h1];refine ak (mem_filterMap.mp (lK h2)) λst h3 h4=>?_;(refine dw h4 λd h5 L2=>?_;subst L2);exact mem_filterMap.mpr ⟨st,h3,by rw[h5];rfl⟩
theorem Rz{c m:Str}{f:kI}(h:gg.cV c m=some f):rI f=true:=by
 have:=fO (aP Bh).2 _ (xh h).1;dsimp only at this;rw[h]at this;exact this
noncomputable def JG(w:World)(h:Heap)(ax:Shared)(low:∃b o,2<=b/\ax.heap.get? b=some o):Gr where
 prog:=pw
 w:=w
 K:=k7 h
 g:=gg
 mg:=h.nsMap mainGlobals
 mb:=h.nsMap builtinsNs
 eN:=ax
 fa:=g9 h
 ca:=λc=>if eC.contains c then g9 h c else none
 low:=low
theorem J4{n:String}{x:Option (Option Value)}(e:Q1 n x=true):x=some (some (.builtin n)):=by
 refine ak (jX e) λy e1 e=>?_;refine ak (jX e) λv e2 e=>?_;refine ak (jX e) λm _ e=>?_;rw[e1,e2,m.2,beq_iff_eq.mp e]
theorem I5{x:Option (Option Value)}(e:Q0 x=true):x=some none:=by
 refine ak (jX e) λy e1 e=>?_;rw[e1,isNone_iff_eq_none.mp e]
theorem KZ{v:Value}{a:Addr}(e:(EE v).map (·.1)=some a):v=.ref a:=by
 refine dw e λx _ e=>?_;rw[x.2,e]
theorem yY{x:Option (Option Value)}{a:Addr}(e:K0 x=some a):x=some (some (.ref a)):=by
 refine dD e λy e1 e=>?_;refine dD e λv e2 e=>?_;rw[e1,e2,KZ e]
theorem zz{x:Option Value}(e:Ga x=true):x=some (.type "function"):=by
 refine ak (jX e) λv e1 e=>?_;refine ak (jX e) λn _ e=>?_;rw[e1,n.2,beq_iff_eq.mp e]
theorem pS{h:Heap}{n:Str}{a:Addr}(e:g9 h n=some a):h.nsMap mainGlobals n=some (.ref a):=by
 refine dD e λv e1 e=>?_;rw[e1,KZ e]
theorem CD{x:Str}{v:V}{P:Prop}(h:glob x=some v)(k1:∀f,jP x prog=some f->v=.fn x->P)(k2:∀b,rL x prog=some b->v=.cls x->P)(k3:(x=="__name__")=false->pL x prog=some v->P)(k4:ly x=some v->P):P:=by
 delta glob at h;cases hb:x=="__name__" with
 |true=>replace h:=hb▸h;exact cT h
 |false=>
  replace h:=hb▸h;cases hf:jP x prog with
  |some f=>rw[hf]at h;exact k1 f hf (bE h).symm
  |none=>
   replace h:=hf▸h;cases hc:rL x prog with
   |some b=>replace h:=hc▸h;exact k2 b hc (bE h).symm
   |none=>
    replace h:=hc▸h;cases hk:pL x prog with
    |some w=>replace h:=hk▸h;exact k3 hb (hk.trans h)
    |none=>replace h:=hk▸h;exact k4 h
theorem Np{w:World}{h:Heap}{ax:Shared}{low:∃b o,2<=b/\ax.heap.get? b=some o}(hs:uG h=nj)(hk:∀b o,h.get? b=some o->ax.heap.get? b=some o)(hg:h.Ns mainGlobals (h.nsMap mainGlobals))(hb:h.Ns builtinsNs (h.nsMap builtinsNs))(hl:h.NoLimit):n7 (JG w h ax low):=by
 unfold uG nj at hs;simp only[Prod.mk.injEq]at hs;(refine qo hs λh1 h2 h3 h4 h5=>?_;clear hs);have h1:=map_inj_left.mp h1;have h2:=map_inj_left.mp h2;have h3:=map_inj_left.mp h3;have h4:=map_inj_left.mp h4;have h5:=map_inj_left.mp h5;refine⟨(CI h).keeps hk,λc C hC=>?_,λn a f ha hf=>?_,⟨λx v hv=>?_,hg.keeps hk,hb.keeps hk⟩,hl.keeps hk⟩
 ·have hC:(if eC.contains c then g9 h c else none)=some C:=hC
  split at hC
  ·rename_i Gs;have Gs:c∈eC:=by simpa using Gs
   refine ak (jX (h1 c Gs)) λC' U0 e=>?_;obtain rfl:=bE (hC.symm.trans U0);have b1:=aP e;have b2:=aP b1.2;have b3:=aP b2.2;have b4:=aP b3.2;have b5:=aP b4.2;have b6:=aP b5.2;refine⟨b1.1,b2.1,J4 b3.1,b4.1,b5.1,b6.1,λa ha=>?_,λn f hf=>?_⟩
   ·have ha:(c,a)∈vI:=by simpa using (show vI.contains (c,a)=true from ha)
    exact I5 ((or_eq_true_iff.mp (fO b6.2 _ ha)).resolve_left λq=>bne_iff_ne.mp q rfl)
   ·have hf:gg.cV c n=some f:=hf;have e:=h3 _ (xh hf).1;dsimp only at e;rw[hf]at e;refine dD e λfa UR e=>?_;by_cases ht:Ga (typeIn (k7 h) (.ref fa))=true
    ·replace e:=Eq.trans (Eq.symm (if_pos ht)) e;refine dD UR λC' U0 UR=>?_;obtain rfl:=bE (hC.symm.trans U0);exact(gw fa (yY UR) (zz ht) (GL hk e (Rz hf)))
    ·exact cT (Eq.trans (if_neg ht).symm e)
  ·exact cT hC
 ·have hf:jP n prog=some f:=hf;have ha:g9 h n=some a:=ha;have e:=h2 n (lK hf);rw[hf,ha]at e;exact GL hk e (RC hf)
 ·refine CD hv (λf hf q=>?_) (λb hc q=>?_) (λsM Na=>?_) λCA=>?_
  ·have e:=h2 x (lK hf);rw[hf]at e;exact dD e λa ha _=>⟨.ref a,.inl (pS ha),λZ hp=>q▸.fn ha⟩
  ·have Gs:x∈eC:=tW hc;exact ak (jX (h1 x Gs)) λC hC _=>⟨.ref C,.inl (pS hC),λZ hp=>q▸.cls ((if_pos (List.contains_iff_mem.mpr Gs)).trans hC)⟩
  ·have e:=h4 x (List.mem_filter.mpr ⟨CJ Na,and_eq_true_iff.mpr ⟨Na▸rfl,congrArg not sM⟩⟩);replace e:=Na▸e;exact dD e λy hy e=>⟨y,.inl hy,q7 e⟩
  ·have e:=h5 x (vG CA);replace e:=CA▸e;by_cases q:(h.nsMap mainGlobals x).isNone=true
   ·rw[if_pos q]at e;exact dD e λy hy e=>⟨y,.inr ⟨isNone_iff_eq_none.mp q,hy⟩,q7 e⟩
   ·replace e:=Eq.trans (Eq.symm (if_neg q)) e;exact cT e
noncomputable abbrev rY:Ctx:=⟨.builtin "claim.caller" {},none,none,[],none⟩
theorem GS{prog:Program}{w:World}{t:Sem PySem.Fin}{s:Shared}{R:Result->Shared->Prop}(UA:s.asleep)(h:bJ (model prog w) callerA t (λfin s'=>∃f,fin=.done f/\R (.ok f) s'/\AllBare s'.gens) s):∃n r s' qV,runN (denote table) prog w n s ⟨t,.builtin "claim.caller" {},default,[]⟩=.halted (outcomeOf r) s'/\schedN (denote table) prog w n (.single s ⟨t,.builtin "claim.caller" {},default,[]⟩)=.halted (outcomeOf r) s'/\s'.forget=qV.forget/\R r qV:=by
 have h1:Sem.wp (model prog w) rY t (Sem.finPost (model prog w) rY λr s'=>R r s'/\leftWithCleanup s'.gens=false) (λe _ s'=>R (.error e) s'/\leftWithCleanup s'.gens=false) default s:=
  Sem.wp_mono _ _ _ (λfin _ s' OH=>cA OH λf e h1 h2=>by refine Eq.symm e▸?_;exact⟨h1,leftWithCleanup_false_of_bare h2⟩) (λ_ _ _ q=>q.elim) _ _
   (h rY default caller_in rfl λx q=>nomatch q)
 refine mQ (wp_halts_full (M:=model prog w) UA h1) λn r ax aY a b c d=>?_;exact(zC n r aY ax b a c d)
def Od(ax:Shared)(v:Value)(s':Shared):Prop:=v=.bool true/\(∀b o,ax.heap.get? b=some o->s'.heap.get? b=some o)/\s'.os=ax.os/\AllBare s'.gens
theorem XH{a b c d d' e:Prop}(f:d->d')(h:a/\b/\c/\d/\e):a/\b/\c/\d'/\e:=⟨h.1,h.2.1,h.2.2.1,f h.2.2.2.1,h.2.2.2.2⟩
theorem XG{a b c d e e':Prop}(f:e->e')(h:a/\b/\c/\d/\e):a/\b/\c/\d/\e':=⟨h.1,h.2.1,h.2.2.1,h.2.2.2.1,f h.2.2.2.2⟩
theorem Hd{c:ClaimW}{tree:List Value->Sem PySem.Fin}{w:World}{s:Shared}{free:Addr->Prop}{kept:Heap->Prop}(hz:s.asleep)(rF:s.gens= #[])(zF:c.records= [])(Ri:∀h,kept h)(zG:∀args cls,c.raises args cls=false)(Gj:∀args ds,c.post args (.bool true) ds=true)(Gg:c.same=none)(Uu:c.within= [])(hi:∀a b,c.ident a b=true)(lay:∀args (ord:List DictEntry->List DictEntry),c.pre args=true->(layAllW c.records (classAt s.heap) w.params ord args s).isSome=true)(spec:∀args vs ax as,c.pre args=true->WData.layableAll args=true->Laid c.records w s ax args vs as->bJ (model c.prog w) callerA (tree vs) (λfin s'=>∃v,fin=.done (.ret v)/\Od ax v s') ax)(gens:Prop):c.CallFrom (λvs=>⟨tree vs,.builtin "claim.caller" {},default,[]⟩) w free gens kept s:=by
 intro args mN zH ord Q9;(refine cC λW6 QV=>?_;obtain⟨⟨vs,ax⟩,xA⟩:=isSome_iff_exists.mp (lay args ord mN);refine QV ?_);have keeps:=layAllW_keeps _ _ _ xA;have Nl:=layAllW_rest _ _ _ xA;refine cA (reads_layAllW Q9 _ _ _ xA zH ax.heap (λ_ _ e=>e)) λas UB Rk hold=>?_;have L:Laid c.records w s ax args vs as:=⟨(aT ord Q9 xA),UB,Rk,hold,keeps,Nl.1.trans rF,Nl.2.2.1⟩;refine mQ (GS (prog:=c.prog) (w:=w) (t:=tree vs) (s:=ax) (R:=λr s'=>c.Ends s args vs ax r s'/\s'.os=s.os)
  (Shared.asleep_of_life Nl.2.2.2 hz) (N.mono (spec args vs ax as mN zH L) λfin s' Me=>rR Me λv e hv hk Ot hb=>by
   subst hv;have g:GoodWG c (classAt s.heap) (ExcName.means s.heap) args ax (.ok (.ret (.bool true))) s':=
    ⟨.inl (zD _ (.bool true) ([]) rfl (zG args) (.bool true) (Gj _ _) (λ_=>⟨nodup_nil,λ_ q=>nomatch q⟩)),.of_keep hk,Ot,hb⟩
   have z:=g.laid Gg Uu hi L;exact(gw _ e ⟨z.1,z.2.1⟩ hb))) λk r s' qV Uy Nc SU hR=>?_
 (refine cH hR λhe Ot=>?_;clear hR);refine qo (Shared.forget_eq SU) λeh _ _ eo _=>?_;have he:=he.congr eh;rw[<-eo]at Ot;refine(iL vs ax xA k _ s' Nc ?_ (λ_ i x hx=>by rw[rF]at hx;simp at hx) (Ri _) (by rw[(runN_life _ _ _ Uy).trans Nl.2.2.2]) (Shared.rest_eq Ot));refine Or.imp (λh=>?_) (λh=>?_) he
 ·refine ak h λv e d=>aT v (congrArg outcomeOf e) (XH ?_ d);exact λq b o y _=>q b o y
 ·refine fD h λv u w e d=>Jx v u w (congrArg outcomeOf e) (XG ?_ d);exact λq b o y _=>q b o y
theorem Jo{r:OpenRow}{q:Program}{loose:List Str}{Xt:Shared->Bool}{α:Type}{Yf:Shared->α}{Ya:World->α}{d:DefRec}{kwd:List (Str×Expr)}{fuel:Nat}(left:LeftO r.prog q loose Xt Yf Ya fuel)(Cw:defOf q r.name=some (d,kwd))(hp:r.prog.theDef r.name=some (d.params,d.body,d.scope))(hk:kwWritten? d.params.kwonlyargs d.params.kw_defaults=some kwd)(zF:r.records= [])(XS:r.writes=false)(k1:r.wellSaid=true)(ok:(chainsOk q&&opensWell r.prog&&(frees r.toRowW&&r.within.isEmpty))=true)(hb:r.prog.bare)(hw:r.toRowW.promised)(zG:∀args cls,r.toRowW.claim.raises args cls=false)(Gj:∀args ds,r.toRowW.claim.post args (.bool true) ds=true)(call:∀(w:World)(s:Shared),Ground q loose [] (λ_ _=>True) w s (s.heap.nsMap mainGlobals) (s.heap.nsMap builtinsNs) s.heap->Yf s=Ya w->∀args vs ax as a,r.toRowW.claim.pre args=true->WData.layableAll args=true->Laid [] w s ax args vs as->s.heap.nsMap mainGlobals r.name=some (.ref a)->bJ (model r.prog w) callerA (PySem.call (.ref a) vs) (λv s'=>Od ax v s') ax):r.Holds:=by
 obtain⟨ok,k5⟩:=aP ok;obtain⟨Rt,o1⟩:=aP ok;obtain⟨k5,k6⟩:=aP k5;refine qo (frees_parts k5) λGg hu ha Yt hm=>?_;have Uu:r.toRowW.claim.within= []:=isEmpty_iff.mp k6;have AV:r.toRowW.claim.records= []:=zF;refine⟨k1,hw,⟨hb,o1,by show r.makers.map _= [];rw[hm];rfl⟩,hw.witness,λw=>⟨(left.behind (XP:=λ_ _=>True) (λ_ _=>trivial) Rt w).1,λs' rC=>?_⟩⟩;refine vz ((left.behind (XP:=λ_ _=>True) (λ_ _=>trivial) Rt w).2 s' rC) λeN hf Ym s hT hz rF hg G y=>?_;have rF:s.gens= #[]:=Array.eq_empty_of_size_eq_zero (beq_iff_eq.mp rF);refine(xu eN hf Ym s hT (λn hn=>?_) (by refine Eq.symm AV▸?_;exact λx hx=>(nomatch hx)) (by refine Eq.symm AV▸?_;exact λx hx=>(nomatch hx)) ?_)
 ·obtain rfl:n=r.name:=by split at hn<;>simp_all
  exact pinned_of_view hg G Cw hp hk
 ·refine rO (G.fn Cw) λa o pm cd doc dV kV h1 h2 h3 h4 h5=>?_;refine Hd (c:=r.toRowW.claim) (tree:=λvs=>do match<-nsGet mainNs r.name with
   |some f=>do ret (<-PySem.call f vs)
   |none=>unsupported "claim.caller:no-such-global") hz rF zF (λh q=>by exact mO (Eq.trans XS.symm q)) zG Gj Gg Uu (ident_freeW hu ha Yt) (λargs ord mN=>?_) (λargs vs ax as mN zH L=>?_) _
  ·exact layAllW_isSome (R:=r.toRowW.claim.records) (P:=w.params) (ord:=ord) (λc hc=>by replace hc:=AV▸hc;exact mO hc) args r.args s (pre_splitW mN).1
  ·have L':Laid [] w s ax args vs as:=by refine AV▸?_;exact L
   have VA:=G.keeps (λ_ _ _ _ _=>trivial) L'.keeps;refine N.bind (N.of (wpAny_nsGet VA.T.g ?_));refine Eq.symm h1▸?_;exact N.bind (N.mono (call w s G y args vs ax as a mN zH L' h1) λv s' h=>N.pure (aT v rfl h))
section
section
variable{tb:String->Option Builtin}{p:Program}{w:World}{MQ:Nat}{ann:Option Value}
theorem pN{t:Thread}:(endAt 0 t).isSome=through t:=by
 obtain⟨cur,code,pos,stack⟩:=t;cases stack with
 |cons=>rfl
 |nil=>
  cases cur with
  |pure x=>cases x<;>rfl
  |_=>rfl
theorem yM{t:Thread}{f:Flow}(h:endAt 0 t=some f):through t=true:=by rw[<-pN,h];rfl
theorem xa{t:Thread}(h:endAt 0 t=none):through t=false:=by rw[<-pN,h];rfl
theorem qJ:∀{n:Nat}{s s':Shared}{t:Thread}{f:Flow}{c:Code}{q:Pos},segRun tb p w MQ ann 0 n s t=some (f,s',c,q)->topRun tb p w MQ ann n s t=some s'
 |0,_,_,_,_,_,_,h=>by cases h
 |n+1,s,s',t,f,c,q,h=>by
  unfold segRun at h;unfold topRun;cases he:endAt 0 t with
  |some x=>rw[he]at h;cases h;rw[yM he]
  |none=>
   rw[he]at h;rw[xa he];cases hk:stepOk MQ ann t with
   |false=>rw[hk]at h;cases h
   |true=>
    rw[hk]at h;cases hs:step (denote tb) p w s t with
    |halt=>rw[hs]at h;cases h
    |go aY Xu=>rw[hs]at h;exact qJ h
end
theorem xm{p q:Program}{loose:List Str}{Xt:Shared->Bool}{α:Type}{Yf:Shared->α}{Ya:World->α}{N:Nat}{g0:Bool}{sU:Params->Heap}{Gw:Array GenState}{zT:Drawn}{uV m₀:Nat}{ann:Option Value}{M:Nat}(Ql:∀w:World,(fencedOpening treeTable p w N).map (λs=>(s.heap,s.gens,s.drawn,s.toks))=some (sU w.params,Gw,zT,uV))(size:∀w:World,((sU w.params).isNs mainGlobals&&Gw.size==0,(sU w.params).objs.size,(sU w.params).nsMap mainGlobals "__annotations__")=(true,m₀,ann))(run:∀(w:World)(os:OsState),∃ax,topRun treeTable p w m₀ ann M ⟨sU w.params,Gw,zT,uV,os⟩ (topStub p)=some ax/\(staticsOk (importedModules p.main.body) (sU w.params) ax.heap&&namesBound p ax.heap&&gensDone ax&&laidKept (sU w.params) ax.heap)=true/\openSeen q loose (importedModules p.main.body) Xt g0 ax=openGood q loose/\Yf ax=Ya w)(le:ble M N=true):LeftO p q loose Xt Yf Ya N g0:=λw=>by
 obtain⟨⟨h,gs,d,k,os⟩,e,e'⟩:=map_eq_some_iff.mp (Ql w);cases e';have z:=Prod.mk.inj (size w);have z1:=z.1;have z2:=Prod.mk.inj z.2;have z3:=z2.2;have z2:=z2.1;obtain⟨ax,r,l1,l2,l3⟩:=run w os;replace r:=topRun_mono (N-M) _ _ _ _ r;rw[show M+(N-M)=N by have:=Nat.le_of_ble_eq_true le;omega]at r;have t:topFrom treeTable p w N ⟨sU w.params,gs,d,k,os⟩=some ax:=by
  unfold topFrom;dsimp only;rw[z1,z2,z3,r];show(match staticsOk (importedModules p.main.body) (sU w.params) ax.heap&&namesBound p ax.heap&&gensDone ax&&laidKept (sU w.params) ax.heap with|true=>_|false=>_)=_
  rw[l1]
 unfold openEnds;rw[e];show(topFrom treeTable p w N _).map _=_;rw[t];exact congrArg some (Prod.ext l2 l3)
theorem Qx:LeftO lw.row.toRowW.prog qM rd Vm WJ (λ_=>nj) 14000:=by
 refine xm (p:=pw) (M:=14000) (ann:=some (.ref 6)) (m₀:=11) (boot_open (by kernel_rfl) (by decide) (λs=>by kernel_rfl)) (λw=>by kernel_rfl) (λw os=>?_) (by decide);have h:=congrFun (PO w) os;obtain⟨⟨f,s',c,q⟩,e,e'⟩:=map_eq_some_iff.mp h;obtain⟨e1,e2⟩:=Prod.mk.inj e';obtain⟨e2,e4⟩:=Prod.mk.inj e2;have k:=Prod.mk.inj e4;have hb:=congrFun (PN w) os;have hc:=congrFun (PM w) os;refine ak (map_eq_some_iff.mp hb) λx eb b=>?_;refine ak (map_eq_some_iff.mp hc) λy ec m=>?_;cases bE (eb.symm.trans e);cases bE (ec.symm.trans e);have b:=Prod.mk.inj b;have e3:WJ s'.abs=nj:=Prod.ext b.1 (Prod.ext b.2 (Prod.ext m (Prod.ext k.1 k.2)));have r:=qJ (segRun_of e);have a:(SharedT.abs ⟨T0 w.params,11,{}, #[],boot_drawn,boot_toks,os⟩)=⟨boot_heap w.params,Array.mk [],boot_drawn,boot_toks,os⟩:=by
  show Shared.mk (absHeap (T0 w.params) 11 {}) _ _ _ _=_;rw[Ob]
 rw[a]at r;exact⟨s'.abs,r,e1,e2,e3⟩
theorem TS:lw.wellSaid=true:=by rw[PySem.W.Fast.te9446332074065402090];kernel_rfl
theorem Xw:(chainsOk qM&&opensWell lw.row.toRowW.prog&&(frees lw.row.toRowW&&lw.row.toRowW.within.isEmpty))=true:=by kernel_rfl
theorem Zc:opening pw=plainProg pw.main.scope.names:=by kernel_rfl
theorem RT:lw.row.toRowW.prog.tablesWhole=true:=by kernel_rfl
end
theorem IY(args ds:List WData):lw.row.toRowW.claim.post args (.bool true) ds=true:=by
 show(WShape.has [] (.bool true) .bool&&WTm.holds [] (.eq .res (.lit (.bool true))) {args:=args,res:=some (.bool true),after:=ds})=true;have e:(WTm.eq .res (.lit (.bool true))).value [] {args:=args,res:=some (.bool true),after:=ds}=some (.bool true):=by
  have:=w_eq_bool (R:=[]) (e:={args:=args,res:=some (.bool true),after:=ds}) (a:=.res) (b:=.lit (.bool true)) (k:=true) (l:=true) (by simp[WTm.value]) (by simp[WTm.value])
  simpa using this
 have h:WTm.holds [] (.eq .res (.lit (.bool true))) {args:=args,res:=some (.bool true),after:=ds}=true:=by
  unfold WTm.holds;rw[e]
 rw[h]
 rfl
theorem Ci{d:DefRec}{kwd:List (Str×Expr)}(Cw:defOf qM lw.name=some (d,kwd))(hp:pw.theDef lw.name=some (d.params,d.body,d.scope))(hk:kwWritten? d.params.kwonlyargs d.params.kw_defaults=some kwd)(call:∀(w:World)(s:Shared),Ground qM rd [] (λ_ _=>True) w s (s.heap.nsMap mainGlobals) (s.heap.nsMap builtinsNs) s.heap->uG s.heap=nj->∀args vs ax as a,lw.row.toRowW.claim.pre args=true->WData.layableAll args=true->Laid [] w s ax args vs as->s.heap.nsMap mainGlobals lw.name=some (.ref a)->bJ (model pw w) callerA (PySem.call (.ref a) vs) (λv s'=>Od ax v s') ax):lw.Holds:=
 holds_law TS λk1=>Jo (r:=lw.row) (q:=qM) (loose:=rd) (Xt:=Vm) (fuel:=14000) Qx Cw hp hk rfl rfl k1 Xw ⟨rfl,rfl,rfl,rfl,rfl,RT⟩ (by w_witness2) (λ_ _=>rfl) IY
  λw s G y args vs ax as a mN zH L ha=>call w s G y args vs ax as a mN zH L ha
theorem tL:∀{ds:List WData},WShape.hasItems [] ds .int=true->∃ns:List Int,ds=ns.map .int
 |[],_=>⟨[],rfl⟩
 |x::r,h=>by
  obtain⟨h1,h2⟩:=aP (show(WShape.has [] x .int&&WShape.hasItems [] r .int)=true from h)
  obtain⟨ns,e⟩:=tL h2
  induction x using PySem.W.WData.casesOn with
  |int i=>exact⟨i::ns,by rw[e];rfl⟩
  |_=>exact absurd h1 Bool.false_ne_true
theorem FH{d:WData}(h:WShape.has [] d (.list .int)=true):∃ns:List Int,d=.list (ns.map .int):=by
 induction d using PySem.W.WData.casesOn with
 |list ds=>
  obtain⟨ns,e⟩:=tL (ds:=ds) ((Bool.or_false _).symm.trans h);exact⟨ns,by rw[e]⟩
 |_=>exact absurd h Bool.false_ne_true
theorem pA{cl:Str->Option Addr}{h:Heap}:∀{ns:List Int}{vs:List Value}{as:List Addr},ReadsAllW [] cl h vs (ns.map .int) as->IntsAre vs ns
 |[],_,_,.nil=>.nil
 |n::ns,_,_,.cons a r=>by
  cases a;exact .cons n _ (pA r)
theorem z7{w:World}{h:Heap}{ax:Shared}{low:∃b o,2<=b/\ax.heap.get? b=some o}(hg:ax.gens= #[]):aq (JG w h ax low) [] [] ax:=
 ⟨rfl,(λ_ _ e=>e),(λ_ q=>nomatch q),(λ_ _ _ e=>by exact cT e),(λ_ _ _ _ e=>by exact cT e),rfl,rfl,(by rw[hg];exact AllBare.empty),(λ_ _ _ _ _ _ _ _ e=>by exact cT e)⟩
theorem IX{ns:List Int}(h:lw.row.pre.holds [] {args:=[.list (ns.map .int)]}=true):ns.length<=63:=by
 have e:WTm.value [] (.lt (.lit (.int 63)) (.len (.arg 0))) {args:=[.list (ns.map .int)]}=some (.bool (decide ((63:Int)<ns.length))):=by
  simp[WTm.value];rfl
 have v:WTm.value [] lw.row.pre {args:=[.list (ns.map .int)]}=some (.bool (!decide ((63:Int)<ns.length))):=by
  show WTm.value [] (.and (.not (.lt (.lit (.int 63)) (.len (.arg 0)))) (.lit (.bool true))) {args:=[.list (ns.map .int)]}=_;have n:WTm.value [] (.not (.lt (.lit (.int 63)) (.len (.arg 0)))) {args:=[.list (ns.map .int)]}=some (.bool (!decide ((63:Int)<ns.length))):=by
   unfold WTm.value;rw[e]
  unfold WTm.value;rw[n];cases decide ((63:Int)<ns.length)<;>rfl
 unfold WTm.holds at h;rw[v]at h;cases e:decide ((63:Int)<ns.length)with
 |true=>replace h:=e▸h;exact mO h
 |false=>have:=of_decide_eq_false e;omega
theorem uT{d:DefRec}{kwd:List (Str×Expr)}(Cw:defOf qM lw.name=some (d,kwd))(hp:pw.theDef lw.name=some (d.params,d.body,d.scope))(hk:kwWritten? d.params.kwonlyargs d.params.kw_defaults=some kwd)(plain:∀uH:List Int,uH.length<=63->Si uH):lw.Holds:=by
 refine Ci Cw hp hk λw s G y args vs ax as a mN zH L ha=>?_;refine cH (pre_splitW mN) λh1 vT=>?_;have hsh:∃ns:List Int,args= [.list (ns.map .int)]:=by
  (refine bf (hasAllW_cons (show WShape.hasAll [] args [.list .int]=true from h1)) λd r mZ h2 h3=>?_;subst mZ)
  obtain⟨ns,rfl⟩:=FH h2
  induction r using List.casesOn with
  |nil=>exact⟨ns,rfl⟩
  |cons=>exact mO h3
 obtain⟨ns,rfl⟩:=hsh;have UB:=L.reads;have hl:∃l xs,vs= [.ref l]/\ax.heap.IsList l xs.toArray/\IntsAre xs ns:=by
  cases UB with|cons a r=>
  cases r;cases a with
  |list ho hc hd hr=>exact(i2 _ _ rfl ⟨_,ho,hc,_,by simpa using hd⟩ (pA hr))
 (refine bf hl λl xs El Ye XR=>?_;clear hl;subst El);have low:∃b o,2<=b/\ax.heap.get? b=some o:=by
  refine fD (G.T.g) λo _ _ ho _=>?_;exact(ef mainGlobals o (by decide) (L.keeps _ _ ho))
 have W:n7 (JG w s.heap ax low):=Np y L.keeps G.T.g G.T.b G.T.nolimit;refine cw (plain ns (IX vT)) λf aE hf hr=>?_;have ad:g9 s.heap lw.name=some a:=by unfold g9;rw[ha];rfl
 have K:LH (JG w s.heap ax low) a f:=W.fns lw.name a f ad hf;have S:=s9 W 100;refine S.C (A:=callerA) ⟨rfl,eK rfl,eK rfl⟩ (z7 L.gens) K (.cons (.gN Ye XR) .nil) _ aE hr _ λaH s' v G' x' r'=>?_;cases r';exact⟨rfl,λb o e=>x'.keep b o e (λq=>nomatch q) (λq=>nomatch q),G'.os,G'.gens⟩
end Mine.Internal
set_option backward.match.sparseCases false
namespace Mine.Internal
open PySem
noncomputable abbrev Pr:=af->Prop
@[irreducible] noncomputable def W {α:Type} (m:M α) (Q:α->Pr):Pr:=λσ=>match m σ with
 |some p=>Q p.1 p.2
 |none=>False
abbrev R{α:Type}(m:M α)(Q:α->Pr):Pr:=λσ=>match m σ with
 |some p=>Q p.1 p.2
 |none=>False
theorem R.w{α:Type}{m:M α}{Q:α->Pr}{σ:af}(h:R m Q σ):W m Q σ:=by unfold W;exact h
theorem W.seq{α β:Type}{m:M α}{f:α->M β}{P:α->Pr}{Q:β->Pr}{σ:af}(h:W m P σ)(k:∀a aE,P a aE->W (f a) Q aE):W (m>>=f) Q σ:=by
 unfold W at h k ⊢;refine(?_:match (match m σ with|some (a,aE)=>f a aE|none=>none)with|some p=>Q p.1 p.2|none=>False)
 cases e:m σ with
 |none=>rw[e]at h;exact h.elim
 |some p=>rw[e]at h;exact k p.1 p.2 h
theorem W.mono{α:Type}{m:M α}{P Q:α->Pr}{σ:af}(h:W m P σ)(k:∀a aE,P a aE->Q a aE):W m Q σ:=by
 unfold W at h ⊢;cases e:m σ with
 |none=>rw[e]at h;exact h
 |some p=>rw[e]at h;exact k p.1 p.2 h
theorem bP{α:Type}{a:α}{Q:α->Pr}{σ:af}(q:Q a σ):W (pure a) Q σ:=by unfold W;exact q
abbrev no:Pr:=λ_=>False
abbrev cR(b:Bool)(A C:Pr):Pr:=λσ=>match b with
 |true=>A σ
 |false=>C σ
structure PE where
 E:Scope->ar->Expr->(V->Pr)->Pr
 T:Scope->ar->Expr->(Bool->Pr)->Pr
 S:Scope->ar->Stmt->(Fl->ar->Pr)->Pr
abbrev sG(v:V)(k:List V->Pr):Pr:=λσ=>match v with
 |.tup vs=>k vs σ
 |_=>False
abbrev gj(v:V)(k:Nat->Pr):Pr:=λσ=>match v with
 |.ref a=>k a σ
 |_=>False
noncomputable def bA(ih:f5)(args:(List V->Pr)->Pr)(ov:V)(k:V->Pr):kI ⊕ Am->Pr
 |.inl fi=>args λvs=>W (ih.C fi (ov::vs)) k
 |.inr id=>args λvs=>W (eS id ov vs) k
noncomputable def aK(nx:gE->M (Option (V×gE)))(turn:V->ar->(Fl->ar->Pr)->Pr)(k:Fl->ar->Pr):Nat->gE->ar->Pr
 |0,_,_=>no
 |n+1,st,env=>W (nx st) λo=>match o with
  |none=>k .next env
  |some p=>turn p.1 env λf e=>match f with
   |.next|.cont=>aK nx turn k n p.2 e
   |.brk=>k .next e
   |.ret w=>k (.ret w) e
noncomputable def gD(test:ar->(Bool->Pr)->Pr)(body:ar->(Fl->ar->Pr)->Pr)(k:Fl->ar->Pr):Nat->ar->Pr
 |0,_=>no
 |n+1,env=>test env λb=>cR b (body env λf e=>match f with
   |.next|.cont=>gD test body k n e
   |.brk=>k .next e
   |.ret w=>k (.ret w) e) (k .next env)
section
variable(g:G)(ih:f5)(c:PE)
noncomputable abbrev zd(sc:Scope)(env:ar):List Expr->(List V->Pr)->Pr
 |[],k=>k []
 |e::r,k=>c.E sc env e λv=>zd sc env r λvs=>k (v::vs)
noncomputable abbrev aS(sc:Scope):List Stmt->ar->(Fl->ar->Pr)->Pr
 |[],env,k=>k .next env
 |s::r,env,k=>c.S sc env s λf kj=>match f with
  |.next=>aS sc r kj k
  |f=>k f kj
noncomputable abbrev AL(sc:Scope)(env:ar)(op:BoolOp):List Expr->(V->Pr)->Pr
 |[],k=>no
 |[e],k=>c.E sc env e k
 |e::r,k=>c.E sc env e λv=>R (iC v) λt=>match op with
  |.And=>cR t (AL sc env op r k) (k v)
  |.Or=>cR t (k v) (AL sc env op r k)
noncomputable abbrev I1(sc:Scope)(env:ar)(op:BoolOp):List Expr->(Bool->Pr)->Pr
 |[],k=>k (op== .And)
 |e::r,k=>c.T sc env e λt=>match op with
  |.And=>cR t (I1 sc env op r k) (k false)
  |.Or=>cR t (k true) (I1 sc env op r k)
noncomputable abbrev uM(sc:Scope)(env:ar)(l:V):List CmpOp->List Expr->(Bool->Pr)->Pr
 |[op],[r],k=>c.E sc env r λv=>cR (bY r) (W (cX op l v) k) no
 |op::B4::ops,r::r'::rs,k=>c.E sc env r λv=>W (cX op l v) λb=>cR b (uM sc env v (B4::ops) (r'::rs) k) (k false)
 |_,_,_=>no
def qk(sc:Scope)(env:ar)(t:Expr)(v:V)(k:ar->Pr):Pr:=match t with
 |.Name x _=>R (putN sc env x v) k
 |.Attribute o a _=>c.E sc env o λov=>W (bq g ov a v) λ_=>k env
 |.Subscript o i _=>c.E sc env o λov=>c.E sc env i λkv=>W (iI ov kv v) λ_=>k env
 |.Tuple ts _ _=>sG v λvs=>R (eF sc env ts vs) k
 |_=>no
noncomputable abbrev y9(sc:Scope)(env:ar):List Expr->(Bool->Pr)->Pr
 |[],k=>k true
 |e::r,k=>c.T sc env e λb=>cR b (y9 sc env r k) (k false)
noncomputable abbrev zb(sc:Scope)(env:ar):Option Expr->(Option Int->Pr)->Pr
 |none,k=>k none
 |some e,k=>c.E sc env e λv=>R (f6 v) λi=>k (some i)
def KS(cu:Scope)(t elt:Expr)(ifs:List Expr)(a:Nat)(v:V)(e:ar)(k:Fl->ar->Pr):Pr:=
 qk g c cu e t v λe'=>y9 c cu e' ifs λb=>cR b (c.E cu e' elt λw=>W (d6 a w) λ_=>k .next e') (k .next e')
def Fi(sc:Scope)(env:ar)(elt:Expr)(cc:Comprehension)(cu:Scope)(k:V->Pr):Pr:=match cc with
 |⟨t,it,ifs,Ht⟩=>cR (Ht==0&&bY it&&oV sc cu) (c.E sc env it λx=>W (aQ x) λkW=>W (dq (.lst [])) λacc=>gj acc λa=>aK (aJ ih) (KS g c cu t elt ifs a) (λ_ _=>k (.ref a)) kW.2 kW.1 ⟨[],NL sc env cu⟩) no
def EH(sc:Scope)(t:Expr)(b:List Stmt)(v:V)(e:ar)(k:Fl->ar->Pr):Pr:=qk g c sc e t v λe'=>aS c sc b e' k
noncomputable def q4:PE where
 E:=λsc env e k=>match e with
  |.Constant c _ _=>R (a8 (rU c)) k
  |.Name x _=>cR (x=="__debug__") no (R (jK g sc env x) k)
  |.BinOp l op r _=>c.E sc env l λa=>c.E sc env r λb=>W (ai op a b) k
  |.UnaryOp .USub x _=>c.E sc env x λv=>R (f6 v) λi=>k (.int (-i))
  |.IfExp t b o _=>c.T sc env t λx=>cR x (c.E sc env b k) (c.E sc env o k)
  |.BoolOp op vs _=>AL c sc env op vs k
  |.Compare l ops cs _=>c.E sc env l λv=>uM c sc env v ops cs λb=>k (.bool b)
  |.List es _=>zd c sc env es λvs=>W (dE vs) k
  |.Tuple es _ _=>zd c sc env es λvs=>cR (cM vs.length) (k (.tup vs)) no
  |.Dict [] [] _=>W (dq (.cG [] 0)) k
  |.Subscript o (.Slice lo hi none _) _=>c.E sc env o λov=>zb c sc env lo λl=>zb c sc env hi λh=>W (rb ov l h) k
  |.Subscript _ (.Slice ..) _=>no
  |.Subscript o i _=>c.E sc env o λov=>c.E sc env i λkv=>W (aR ov kv) k
  |.Attribute o a _=>cR (fJ o) (c.E sc env o λov=>W (aB g ov a) k) no
  |.Call (.Attribute o n ap) args [] pos=>cR (fJ o&&ap.endLine==pos.line&&ble args.length 20) (c.E sc env o λov=>W (az g ov n) (bA ih (zd c sc env args) ov k)) no
  |.Call f args [] _=>c.E sc env f λfv=>zd c sc env args λvs=>W (cx g ih fv vs) k
  |.ListComp elt [cc] cu _=>Fi g ih c sc env elt cc cu k
  |_=>no
 T:=λsc env e k=>match e with
  |.UnaryOp .Not x _=>c.T sc env x λb=>k (!b)
  |.BoolOp op vs _=>I1 c sc env op vs k
  |.Compare l ops cs _=>c.E sc env l λv=>uM c sc env v ops cs k
  |.IfExp .. =>no
  |e=>c.E sc env e λv=>R (iC v) k
 S:=λsc env s k=>match s with
  |.Expr e _=>match e with
   |.Call .. =>c.E sc env e λ_=>k .next env
   |_=>no
  |.Pass _=>k .next env
  |.Break _=>k .brk env
  |.Continue _=>k .cont env
  |.Return none _=>k (.ret .none) env
  |.Return (some e) _=>c.E sc env e λv=>k (.ret v) env
  |.Assign [t] e _=>cR (uO [t] e) (c.E sc env e λv=>qk g c sc env t v λkj=>k .next kj) no
  |.AugAssign (.Name x _) .Add e _=>R (jK g sc env x) λa=>c.E sc env e λb=>R (f6 a) λi=>R (f6 b) λj=>R (putN sc env x (.int (i+j))) λkj=>k .next kj
  |.If t b o _=>c.T sc env t λx=>cR x (aS c sc b env k) (aS c sc o env k)
  |.While t b [] _=>gD (λe=>c.T sc e t) (λe=>aS c sc b e) k 64 env
  |.For t it b [] _=>cR (bY it) (c.E sc env it λx=>W (aQ x) λkW=>aK (aJ ih) (EH g c sc t b) k kW.2 kW.1 env) no
  |_=>no
end
noncomputable def PE.none:PE:=⟨λ_ _ _ _=>no,λ_ _ _ _=>no,λ_ _ _ _=>no⟩
noncomputable def ay(g:G):Nat->PE
 |0=>PE.none
 |n+1=>q4 g (ag g n) (ay g n)
structure Ku(ih:f5)(c:PE):Prop where
 E:∀{sc env e k σ},c.E sc env e k σ->W (ih.E sc env e) k σ
 T:∀{sc env e k σ},c.T sc env e k σ->W (ih.T sc env e) k σ
 S:∀{sc env s k σ},c.S sc env s k σ->W (ih.S sc env s) (λp=>k p.1 p.2) σ
theorem K1{ih:f5}{tP:V->ar->(Fl->ar->Pr)->Pr}{tM:V->ar->M (Fl×ar)}{k:Fl->ar->Pr}(ht:∀v e K σ,tP v e K σ->W (tM v e) (λp=>K p.1 p.2) σ):∀{n:Nat}{st:gE}{env:ar}{σ:af},aK (aJ ih) tP k n st env σ->W (w8 ih tM n st env) (λp=>k p.1 p.2) σ:=by
 intro l0
 induction l0 with
 |zero=>
  rintro _ _ _ h;exact h.elim
 |succ n hi=>
  rintro st env σ h;exact W.seq h λo aE h=>match o,h with
  |none,h=>bP h
  |some p,h=>(ht _ _ _ _ h).seq λx yA h=>by
   obtain⟨f,e⟩:=x
   induction f using Fl.casesOn with
   |next=>exact hi h
   |cont=>exact hi h
   |brk=>exact bP h
   |ret w=>exact bP h
theorem MO{tP:ar->(Bool->Pr)->Pr}{bP:ar->(Fl->ar->Pr)->Pr}{tM:ar->M Bool}{bM:ar->M (Fl×ar)}{k:Fl->ar->Pr}(ht:∀e K σ,tP e K σ->W (tM e) K σ)(hb:∀e K σ,bP e K σ->W (bM e) (λp=>K p.1 p.2) σ):∀{n:Nat}{env:ar}{σ:af},gD tP bP k n env σ->W (oj tM bM n env) (λp=>k p.1 p.2) σ:=by
 intro l0
 induction l0 with
 |zero=>
  rintro _ _ h;exact h.elim
 |succ n hi=>
  rintro env σ h;exact(ht _ _ _ h).seq λb aE h=>match b,h with
  |false,h=>Mine.Internal.bP h
  |true,h=>(hb _ _ _ h).seq λx yA h=>by
   obtain⟨f,e⟩:=x
   induction f using Fl.casesOn with
   |next=>exact hi h
   |cont=>exact hi h
   |brk=>exact Mine.Internal.bP h
   |ret w=>exact Mine.Internal.bP h
section
variable{g:G}{ih:f5}{c:PE}(A:Ku ih c)
include A
theorem wU{sc:Scope}{env:ar}:∀{l:List Expr}{k:List V->Pr}{σ:af},zd c sc env l k σ->W (gV ih sc env l) k σ:=by
 intro l0
 induction l0 with
 |nil=>
  rintro k σ h;exact bP h
 |cons e r hi=>
  rintro k σ h;exact(A.E h).seq λv aE h=>(hi h).seq λvs yA h=>bP h
theorem lE{sc:Scope}:∀{l:List Stmt}{env:ar}{k:Fl->ar->Pr}{σ:af},aS c sc l env k σ->W (dx ih sc env l) (λp=>k p.1 p.2) σ:=by
 intro l0
 induction l0 with
 |nil=>
  rintro env k σ h;exact bP h
 |cons s r hi=>
  rintro env k σ h;exact(A.S h).seq λp aE h=>match p,h with
  |(.next,e),h=>hi h
  |(.cont,e),h=>bP h
  |(.brk,e),h=>bP h
  |(.ret w,e),h=>bP h
theorem yW{sc:Scope}{env:ar}{op:BoolOp}:∀{l:List Expr}{k:V->Pr}{σ:af},AL c sc env op l k σ->W (xj ih sc env op l) k σ
 |[],k,σ,h=>h.elim
 |[e],k,σ,h=>A.E h
 |e::e'::r,k,σ,h=>(A.E h).seq λv aE h=>W.seq (R.w h) λt yA h=>match op,t,h with
  |.And,false,h=>bP h
  |.And,true,h=>yW (l:=e'::r) h
  |.Or,false,h=>yW (l:=e'::r) h
  |.Or,true,h=>bP h
theorem EY{sc:Scope}{env:ar}{op:BoolOp}:∀{l:List Expr}{k:Bool->Pr}{σ:af},I1 c sc env op l k σ->W (FE ih sc env op l) k σ
 |[],k,σ,h=>bP h
 |e::r,k,σ,h=>(A.T h).seq λt yA h=>match op,t,h with
  |.And,false,h=>bP h
  |.And,true,h=>EY (l:=r) h
  |.Or,false,h=>EY (l:=r) h
  |.Or,true,h=>bP h
theorem uI{sc:Scope}{env:ar}:∀{ops:List CmpOp}{rs:List Expr}{l:V}{k:Bool->Pr}{σ:af},uM c sc env l ops rs k σ->W (jg ih sc env l ops rs) k σ
 |[op],[r],l,k,σ,h=>(A.E h).seq λv aE h=>by
  show W (if bY r=true then cX op l v else M.fail) k aE;cases e:bY r with
  |true=>rw[e]at h;exact h
  |false=>rw[e]at h;exact h.elim
 |op::B4::ops,r::r'::rs,l,k,σ,h=>(A.E h).seq λv aE h=>W.seq h λb yA h=>match b,h with
  |true,h=>uI (ops:=B4::ops) (rs:=r'::rs) h
  |false,h=>bP h
 |[],_,_,_,_,h=>h.elim
 |[_],[],_,_,_,h=>h.elim
 |_::_::_,[],_,_,_,h=>h.elim
 |[_],_::_::_,_,_,_,h=>h.elim
 |_::_::_,[_],_,_,_,h=>h.elim
theorem qU{sc:Scope}{env:ar}{t:Expr}{v:V}{k:ar->Pr}{σ:af}(h:qk g c sc env t v k σ):W (eg g ih sc env t v) k σ:=by
 induction t using Expr.casesOn with
 |Name x p=>exact R.w (m:=putN sc env x v) h
 |Attribute o a p=>exact(A.E h).seq λov aE h=>W.seq h λ_ yA h=>bP h
 |Subscript o i p=>exact(A.E h).seq λov aE h=>(A.E h).seq λkv aE h=>W.seq h λ_ yA h=>bP h
 |Tuple ts c p=>
  induction v using V.casesOn with
  |tup vs=>exact R.w (m:=eF sc env ts vs) h
  |_=>exact h.elim
 |_=>exact h.elim
theorem IE{sc:Scope}{env:ar}:∀{l:List Expr}{k:Bool->Pr}{σ:af},y9 c sc env l k σ->W (mG ih sc env l) k σ:=by
 intro l0
 induction l0 with
 |nil=>
  rintro k σ h;exact bP h
 |cons e r hi=>
  rintro k σ h;exact(A.T h).seq λb aE h=>match b,h with
  |true,h=>hi h
  |false,h=>bP h
theorem AF{sc:Scope}{env:ar}:∀{o:Option Expr}{k:Option Int->Pr}{σ:af},zb c sc env o k σ->W (ow ih sc env o) k σ
 |none,k,σ,h=>bP h
 |some e,k,σ,h=>(A.E h).seq λv aE h=>W.seq (R.w h) λi aE h=>bP h
theorem MG{sc:Scope}{env:ar}{elt:Expr}{cc:Comprehension}{cu:Scope}{k:V->Pr}{σ:af}(h:Fi g ih c sc env elt cc cu k σ):W (nA g ih sc env elt cc cu) k σ:=by
 obtain⟨t,it,ifs,Ht⟩:=cc;unfold Fi at h;unfold nA;dsimp only at h ⊢;cases e:(Ht==0&&bY it&&oV sc cu)with
 |false=>rw[e]at h;exact h.elim
 |true=>
  rw[e]at h;rw[if_pos rfl];exact(A.E h).seq λx aE h=>W.seq h λkW aE h=>W.seq h λacc aE h=>match acc,h with
   |.ref a,h=>(K1 (tM:=λv e=>do
    let e'<-eg g ih cu e t v
    if<-mG ih cu e' ifs then
     let w<-ih.E cu e' elt
     d6 a w
     pure (.next,e')
    else pure (.next,e')) (λv e K σ h=>(qU A h).seq λe' aE h=>(IE A h).seq λb aE h=>match b,h with
     |true,h=>(A.E h).seq λw aE h=>W.seq h λ_ _ h=>bP h
     |false,h=>bP h) h).seq λ_ _ h=>bP h
theorem MF{sc:Scope}{t:Expr}{b:List Stmt}{k:Fl->ar->Pr}{kW:gE×Nat}{env:ar}{σ:af}(h:aK (aJ ih) (EH g c sc t b) k kW.2 kW.1 env σ):W (over ih (λv e=>do dx ih sc (<-eg g ih sc e t v) b) kW env) (λp=>k p.1 p.2) σ:=
 K1 (tM:=λv e=>do dx ih sc (<-eg g ih sc e t v) b) (λ_ _ _ _ h=>(qU A h).seq λ_ _ h=>lE A h) h
end
section
variable{g:G}{ih:f5}{c:PE}{sc:Scope}{env:ar}{σ:af}
def SE(g:G)(ih:f5)(c:PE)(sc:Scope)(env:ar)(k:V->Pr)(σ:af)(e:Expr):Prop:=(q4 g ih c).E sc env e k σ->W ((mh g ih).E sc env e) k σ
def Y1(g:G)(ih:f5)(c:PE)(sc:Scope)(env:ar)(k:Bool->Pr)(σ:af)(e:Expr):Prop:=(q4 g ih c).T sc env e k σ->W ((mh g ih).T sc env e) k σ
def SS(g:G)(ih:f5)(c:PE)(sc:Scope)(env:ar)(k:Fl->ar->Pr)(σ:af)(s:Stmt):Prop:=(q4 g ih c).S sc env s k σ->W ((mh g ih).S sc env s) (λp=>k p.1 p.2) σ
theorem SE.no{k:V->Pr}{e:Expr}(h:(q4 g ih c).E sc env e k σ->False):SE g ih c sc env k σ e:=λx=>(h x).elim
theorem SS.no{k:Fl->ar->Pr}{s:Stmt}(h:(q4 g ih c).S sc env s k σ->False):SS g ih c sc env k σ s:=λx=>(h x).elim
theorem q9{α:Type}{b:Bool}{m:M α}{k:α->Pr}{A:Pr}(q:A σ->W m k σ)(h:cR b A no σ):W (if b=true then m else M.fail) k σ:=by
 induction b using Bool.casesOn with
 |true=>exact q h
 |false=>exact h.elim
variable(A:Ku ih c)
include A
theorem ME{k:V->Pr}(e:Expr):SE g ih c sc env k σ e:=by
 induction e using Expr.casesOn with
 |Constant c q r=>exact λh=>R.w (m:=a8 (rU c)) h
 |Name x p=>
  intro h;have h:cR (x=="__debug__") no (R (jK g sc env x) k) σ:=h;show W (if(x=="__debug__")=true then M.fail else jK g sc env x) k σ;cases e:x=="__debug__" with
  |true=>rw[e]at h;exact h.elim
  |false=>rw[e]at h;exact R.w (m:=jK g sc env x) h
 |BinOp l op r p=>exact λh=>(A.E h).seq λa aE h=>(A.E h).seq λb aE h=>h
 |UnaryOp op x p=>
  induction op using UnaryOp.casesOn with
  |USub=>exact λh=>(A.E h).seq λa aE h=>W.seq (R.w h) λ_ _ h=>bP h
  |_=>exact SE.no id
 |IfExp t b o p=>exact λh=>(A.T h).seq λx aE h=>match x,h with
  |true,h=>A.E h
  |false,h=>A.E h
 |BoolOp op vs p=>exact λh=>yW A h
 |Compare l ops cs p=>exact λh=>(A.E h).seq λv aE h=>(uI A h).seq λ_ _ h=>bP h
 |List es p=>exact λh=>(wU A h).seq λ_ _ h=>h
 |Tuple es c p=>exact λh=>(wU A h).seq λvs aE h=>q9 (m:=(pure (V.tup vs):M V)) bP h
 |Dict ks vs p=>
  induction ks using List.casesOn with
  |nil=>
   induction vs using List.casesOn with
   |nil=>exact λh=>h
   |cons=>exact SE.no id
  |cons=>exact SE.no id
 |Subscript o i p=>
  induction i using Expr.casesOn with
  |Slice lo hi st q=>
   induction st using Option.casesOn with
   |none=>exact λh=>(A.E h).seq λov aE h=>(AF A h).seq λl aE h=>(AF A h).seq λl aE h=>h
   |some=>exact SE.no id
  |_=>exact λh=>(A.E h).seq λa aE h=>(A.E h).seq λb aE h=>h
 |Attribute o a p=>exact q9 (b:=fJ o) (m:=ih.E sc env o>>=λv=>aB g v a) λh=>(A.E h).seq λ_ _ h=>h
 |Call f args kw p=>
  induction kw using List.casesOn with
  |nil=>
   have pl:∀{f:Expr},(c.E sc env f λfv=>zd c sc env args λvs=>W (cx g ih fv vs) k) σ->W (do
     let fv<-ih.E sc env f;let vs<-gV ih sc env args
     cx g ih fv vs) k σ:=λh=>(A.E h).seq λfv aE h=>(wU A h).seq λ_ _ h=>h
   induction f using Expr.casesOn with
   |Attribute o nm ap=>exact q9 λh=>(A.E h).seq λov aE h=>W.seq h λsel aE h=>match sel,h with
    |.inl fi,h=>(wU A h).seq λ_ _ h=>h
    |.inr id,h=>(wU A h).seq λ_ _ h=>h
   |_=>exact pl
  |cons=>induction f using Expr.casesOn<;>exact SE.no id
 |ListComp elt cs cu p=>
  induction cs using List.casesOn with
  |nil=>exact SE.no id
  |cons c r=>
   induction r using List.casesOn with
   |nil=>exact MG A
   |cons=>exact SE.no id
 |_=>exact SE.no id
theorem MC{k:Bool->Pr}(e:Expr):Y1 g ih c sc env k σ e:=by
 have pl:∀{e:Expr},(c.E sc env e λv=>R (iC v) k) σ->W (ih.E sc env e>>=iC) k σ:=λh=>(A.E h).seq λv _ h=>R.w (m:=iC v) h
 induction e using Expr.casesOn with
 |UnaryOp op x p=>
  induction op using UnaryOp.casesOn with
  |Not=>exact λh=>(A.T h).seq λ_ _ h=>bP h
  |_=>exact pl
 |BoolOp op vs p=>exact EY A
 |Compare l ops cs p=>exact λh=>(A.E h).seq λ_ _ h=>uI A h
 |IfExp=>exact λh=>h.elim
 |_=>exact pl
theorem MD{k:Fl->ar->Pr}(s:Stmt):SS g ih c sc env k σ s:=by
 induction s using Stmt.casesOn with
 |Expr e p=>
  induction e using Expr.casesOn with
  |Call f args kw q=>exact λh=>(A.E h).seq λ_ _ h=>bP h
  |_=>exact SS.no id
 |Pass=>exact λh=>bP h
 |Break=>exact λh=>bP h
 |Continue=>exact λh=>bP h
 |Return v p=>
  induction v using Option.casesOn with
  |none=>exact λh=>bP h
  |some e=>exact λh=>(A.E h).seq λ_ _ h=>bP h
 |Assign ts e p=>
  induction ts using List.casesOn with
  |nil=>exact SS.no id
  |cons t r=>
   induction r using List.casesOn with
   |nil=>exact q9 λh=>(A.E h).seq λ_ _ h=>(qU A h).seq λ_ _ h=>bP h
   |cons=>exact SS.no id
 |AugAssign t op e p=>
  induction t using Expr.casesOn with
  |Name x q=>
   induction op using Operator.casesOn with
   |Add=>
    intro h;have h:R (jK g sc env x) (λa=>c.E sc env e λb=>R (f6 a) λi=>R (f6 b) λj=>R (putN sc env x (.int (i+j))) λkj=>k .next kj) σ:=h;exact W.seq (R.w h) λ_ _ h=>(A.E h).seq λ_ _ h=>W.seq (R.w h) λ_ _ h=>W.seq (R.w h) λ_ _ h=>W.seq (R.w h) λ_ _ h=>bP h
   |_=>exact SS.no id
  |_=>exact SS.no id
 |If t b o p=>exact λh=>(A.T h).seq λx aE h=>match x,h with
  |true,h=>lE A h
  |false,h=>lE A h
 |While t b o p=>
  induction o using List.casesOn with
  |nil=>exact MO (λ_ _ _ h=>A.T h) (λ_ _ _ h=>lE A h)
  |cons=>exact SS.no id
 |For t it b o p=>
  induction o using List.casesOn with
  |nil=>exact q9 λh=>(A.E h).seq λ_ _ h=>W.seq h λ_ _ h=>MF A h
  |cons=>exact SS.no id
 |_=>exact SS.no id
theorem BP:Ku (mh g ih) (q4 g ih c):=⟨λ{_ _ e _ _} h=>ME A e h,λ{_ _ e _ _} h=>MC A e h,λ{_ _ e _ _} h=>MD A e h⟩
end
theorem EX(g:G):∀n,Ku (ag g n) (ay g n)
 |0=>⟨λh=>h.elim,λh=>h.elim,λh=>h.elim⟩
 |n+1=>BP (EX g n)
abbrev cz(k:V->Pr)(fl:Fl)(_:ar):Pr:=match fl with
 |.ret v=>k v
 |.next=>k .none
 |_=>no
abbrev bx(c:PE)(sc:Scope)(r:List Stmt)(k:Fl->ar->Pr)(f:Fl)(e:ar):Pr:=match f with
 |.next=>aS c sc r e k
 |f=>k f e
def xS(n:Nat)(f:kI)(args:List V)(k:V->Pr):Pr:=match mi f args with
 |none=>no
 |some own=>aS (ay gg n) f.sc f.body ⟨own,[]⟩ (cz k)
theorem Bb{n:Nat}{f:kI}{args:List V}{k:V->Pr}{σ:af}(hg:f.sc.isGenerator=false)(h:xS n f args k σ):W ((ag gg (n+1)).C f args) k σ:=by
 unfold xS at h;show W (match mi f args with
  |none=>M.fail
  |some own=>if f.sc.isGenerator=true then _ else _) k σ
 cases e:mi f args with
 |none=>rw[e]at h;exact h.elim
 |some own=>
  rw[e]at h;dsimp only;rw[hg,if_neg (by decide)];exact(lE (EX gg n) h).seq λp aE h=>match p,h with
   |(.ret v,_),h=>bP h
   |(.next,_),h=>bP h
   |(.brk,_),h=>h.elim
   |(.cont,_),h=>h.elim
theorem kn{p:Prop}{n:Nat}{f:kI}{args:List V}{k:V->Pr}{σ:af}(e:p=xS n f args k σ)(hg:f.sc.isGenerator=false)(h:p):W ((ag gg (n+1)).C f args) k σ:=Bb hg (e▸h)
theorem ce{p:Prop}{n:Nat}{f:kI}{args:List V}{k:V->Pr}{σ:af}(h:p)(e:p=xS n f args k σ:=by kernel_rfl)(hg:f.sc.isGenerator=false:=by kernel_rfl):W ((ag gg (n+1)).C f args) k σ:=Bb hg (e▸h)
theorem YP{p q:Prop}(e:p=q)(h:p):q:=e▸h
theorem bk{p q:Prop}(h:p)(e:p=q:=by kernel_rfl):q:=e▸h
noncomputable def U4:kI:=⟨[],[],[],default⟩
noncomputable def Wz(s:Option Stmt):kI:=match s.bind yb with
 |some d=>RK d.2.1 d.2.2.1 d.2.2.2
 |none=>U4
noncomputable def aa(k:Nat):kI:=Wz prog[k]?
noncomputable def ah(k j:Nat):kI:=Wz ((prog[k]?.bind Bg).bind λc=>c.2[j]?)
noncomputable def dQ:Stmt->List Stmt
 |.For _ _ b _ _=>b
 |.While _ b _ _=>b
 |.If _ b o _=>b++o
 |_=>[]
noncomputable def aF(b:List Stmt):List Nat->Stmt
 |[]=>.Pass default
 |i::r=>match b[i]? with
  |some s=>match r with
   |[]=>s
   |_=>aF (dQ s) r
  |none=>.Pass default
noncomputable def kA(s:Stmt):Expr:=match s with
 |.For t _ _ _ _=>t
 |.Assign (t::_) _ _=>t
 |_=>.Name "" default
noncomputable def qI:Expr->List Expr
 |.Tuple ts _ _=>ts
 |_=>[]
noncomputable def ew(s:Stmt):Expr:=match s with
 |.For _ it _ _ _=>it
 |.Assign _ e _=>e
 |.AugAssign _ _ e _=>e
 |.Return (some e) _=>e
 |.Expr e _=>e
 |_=>.Name "" default
noncomputable def jv(i:Nat)(e:Expr):Expr:=match e with
 |.Call _ args _ _=>args.getD i e
 |.List es _=>es.getD i e
 |.Tuple es _ _=>es.getD i e
 |.BinOp a _ b _=>if i=0 then a else b
 |.Subscript o k _=>if i=0 then o else k
 |.ListComp elt [c] _ _=>match i with
  |0=>elt
  |_=>c.iter
 |.IfExp _ b o _=>if i=0 then b else o
 |_=>e
noncomputable def A4(e:Expr):Scope×Expr×Expr×List Expr:=match e with
 |.ListComp elt [c] sc _=>(sc,c.target,elt,c.ifs)
 |_=>(default,e,e,[])
abbrev eA(c:PE)(e:Expr)(a:Nat):V->ar->(Fl->ar->Pr)->Pr:=KS gg c (A4 e).1 (A4 e).2.1 (A4 e).2.2.1 (A4 e).2.2.2 a
noncomputable def m9(s:Stmt):Expr:=match s with
 |.While t _ _ _=>t
 |.If t _ _ _=>t
 |_=>.Name "" default
def jb(c:PE)(sc:Scope)(s:Stmt)(e:ar):(Bool->Pr)->Pr:=c.T sc e (m9 s)
def j2(c:PE)(sc:Scope)(s:Stmt)(e:ar):(Fl->ar->Pr)->Pr:=aS c sc (dQ s) e
abbrev bp(c:PE)(sc:Scope)(s:Stmt):V->ar->(Fl->ar->Pr)->Pr:=EH gg c sc (kA s) (dQ s)
section
def Up(S:List Nat)(σ τ:af):Prop:=σ.length<=τ.length/\∀j c,σ[j]?=some c->j∉S->τ[j]?=some c
theorem Up.refl{S:List Nat}{σ:af}:Up S σ σ:=⟨Nat.le_refl _,λ_ _ h _=>h⟩
theorem Up.at{σ τ:af}(u:Up [] σ τ){j:Nat}{c:aL}(h:σ[j]?=some c):τ[j]?=some c:=u.2 j c h not_mem_nil
theorem Up.ne{σ τ:af}{i:Nat}(u:Up [i] σ τ){j:Nat}{c:aL}(h:σ[j]?=some c)(n:j≠i):τ[j]?=some c:=u.2 j c h λm=>n (bz m)
theorem Up.trans{S:List Nat}{σ τ Z:af}(u:Up S σ τ)(v:Up S τ Z):Up S σ Z:=⟨ao u.1 v.1,λj c h n=>v.2 j c (u.2 j c h n) n⟩
theorem Up.sub{S T:List Nat}{σ τ:af}(u:Up S σ τ)(h:∀i,i∈S->i∈T):Up T σ τ:=⟨u.1,λj c e n=>u.2 j c e λm=>n (h j m)⟩
theorem Up.any{S:List Nat}{σ τ:af}(u:Up [] σ τ):Up S σ τ:=u.sub λ_ h=>nomatch h
theorem eG{σ:af}{j:Nat}{c:aL}(h:σ[j]?=some c):j<σ.length:=(d0 h).1
theorem Up.fresh{S:List Nat}{i:Nat}{σ τ Z:af}(u:Up S σ τ)(hi:σ.length<=i)(v:Up (i::S) τ Z):Up S σ Z:=
 ⟨ao u.1 v.1,λj c h n=>v.2 j c (u.2 j c h n) λm=>(bt m).elim (λe=>dH hi (e▸eG h)) n⟩
theorem bV{σ:af}{i j:Nat}{a b:aL}(hi:σ[i]?=some a)(hj:σ[j]?=some b)(h:a≠b):i≠j:=λe=>h (bE (hi.symm.trans (e▸hj)))
theorem Up.new{σ:af}{c:aL}:Up [] σ (σ++[c]):=⟨by simp,λj d h _=>(getElem?_append_left (eG h)).trans h⟩
theorem Up.set{σ:af}{i:Nat}{c:aL}:Up [i] σ (σ.set i c):=⟨by simp,λj d h n=>by rw[List.getElem?_set_ne λe=>n (mem_singleton.mpr e.symm)];exact h⟩
variable{σ:af}{Q:V->Pr}
theorem cq{x y:Int}(h:Q (.int (x+y)) σ):W (ai .Add (.int x) (.int y)) Q σ:=by unfold W;exact h
theorem di{x y:Int}(h:Q (.int (x-y)) σ):W (ai .Sub (.int x) (.int y)) Q σ:=by unfold W;exact h
theorem iY{b:Bool}{α:Type}{a:α}{Q:α->Pr}(hb:b=true)(h:Q a σ):W (need b>>=λ_=>pure a) Q σ:=by subst hb;unfold W;exact h
theorem Vn{b:Bool}{α:Type}{m:M α}{Q:α->Pr}(hb:b=true)(h:W m Q σ):W (need b>>=λ_=>m) Q σ:=by subst hb;unfold W at h ⊢;exact h
theorem dX{x y:Int}(hs:fe y=true)(h:Q (.int (x*y)) σ):W (ai .Mult (.int x) (.int y)) Q σ:=iY hs h
theorem nV{x y:Int}(hs:(decide (y≠0)&&fe y)=true)(h:Q (.int (x.fmod y)) σ):W (ai .Mod (.int x) (.int y)) Q σ:=iY hs h
theorem kq{x y:Int}(hs:(decide (y≠0)&&fe y)=true)(h:Q (.int (x.fdiv y)) σ):W (ai .FloorDiv (.int x) (.int y)) Q σ:=iY hs h
theorem sg{x y:Int}(hs:(decide (0<=y/\y<=1000000)&&fe x)=true)(h:Q (.int (x^y.toNat)) σ):W (ai .Pow (.int x) (.int y)) Q σ:=iY hs h
theorem yk{x y:Int}(hs:(decide (0<=y/\y<=1000000)&&fe x)=true)(h:Q (.int (x*2^y.toNat)) σ):W (ai .LShift (.int x) (.int y)) Q σ:=iY hs h
theorem LG{x y:Int}(hs:decide (0<=y)=true)(h:Q (.int (x.fdiv (2^y.toNat))) σ):W (ai .RShift (.int x) (.int y)) Q σ:=iY hs h
theorem Oa{x y:Int}(hs:decide (0<=x/\0<=y)=true)(h:Q (.int ((x.toNat&&&y.toNat:Nat):Int)) σ):W (ai .BitAnd (.int x) (.int y)) Q σ:=iY hs h
theorem Sg{x y:Int}(hs:decide (0<=x/\0<=y)=true)(h:Q (.int ((x.toNat|||y.toNat:Nat):Int)) σ):W (ai .BitOr (.int x) (.int y)) Q σ:=iY hs h
variable{B:Bool->Pr}
theorem lZ{x y:Int}(h:B (decide (x<y)) σ):W (cX .Lt (.int x) (.int y)) B σ:=by unfold W;exact h
theorem ym{x y:Int}(h:B (decide (x<=y)) σ):W (cX .LtE (.int x) (.int y)) B σ:=by unfold W;exact h
theorem Aj{x y:Int}(h:B (decide (y<x)) σ):W (cX .Gt (.int x) (.int y)) B σ:=by unfold W;exact h
theorem Ks{x y:Int}(h:B (decide (y<=x)) σ):W (cX .GtE (.int x) (.int y)) B σ:=by unfold W;exact h
theorem kr{x y:Int}(h:B (decide (x=y)) σ):W (cX .Eq (.int x) (.int y)) B σ:=by unfold W;exact h
theorem vL{x y:Int}(h:B (!decide (x=y)) σ):W (cX .NotEq (.int x) (.int y)) B σ:=by unfold W;exact h
theorem Kp{v:V}(h:B (isNone v) σ):W (cX .Is v .none) B σ:=by unfold W;exact h
theorem If{b:Bool}{A C:Pr}(h1:b=true->A σ)(h2:b=false->C σ):cR b A C σ:=by
 induction b using Bool.casesOn with
 |true=>exact h1 rfl
 |false=>exact h2 rfl
theorem DL{p:Prop}[Decidable p]{A C:Pr}(h1:p->A σ)(h2: ¬p->C σ):cR (decide p) A C σ:=If (λh=>h1 (fh h)) λh=>h2 (of_decide_eq_false h)
theorem mv{b:Bool}{A C:Pr}(e:b=true)(h:A σ):cR b A C σ:=by subst e;exact h
theorem iy{b:Bool}{A C:Pr}(e:b=false)(h:C σ):cR b A C σ:=by subst e;exact h
theorem Sr{b:Bool}{A C:Pr}(e:b=true)(h:A σ):cR b A C σ:=by subst e;exact h
theorem Ss{b:Bool}{A C:Pr}(e:b=false)(h:C σ):cR b A C σ:=by subst e;exact h
theorem W9{p:Prop}[Decidable p]{A C:Pr}(h1:p->A σ)(h2: ¬p->C σ):cR (decide p) A C σ:=by
 by_cases h:p
 ·exact Sr (decide_eq_true h) (h1 h)
 ·exact Ss (decide_eq_false h) (h2 h)
theorem dT{p:Prop}[Decidable p](h:p):decide p=true:=decide_eq_true h
theorem dF{p:Prop}[Decidable p](h: ¬p):decide p=false:=decide_eq_false h
theorem ba{α β:Type}{m:M α}{f:α->M β}{Q:β->Pr}(h:W m (λa=>W (f a) Q) σ):W (m>>=f) Q σ:=h.seq λ_ _ h=>h
theorem RD{i:Nat}{c:aL}{P:aL->Pr}(h:σ[i]?=some c)(q:P c σ):W (dP i) P σ:=by unfold W dP;refine Eq.symm h▸?_;exact q
theorem bC{α:Type}{i:Nat}{c:aL}{f:aL->M α}{Q:α->Pr}(h:σ[i]?=some c)(q:W (f c) Q σ):W (dP i>>=f) Q σ:=ba (RD h q)
theorem bR{α:Type}{i:Nat}{f:Nat->M α}{Q:α->Pr}(q:W (f i) Q σ):W (yx (.ref i)>>=f) Q σ:=by unfold W at q ⊢;exact q
theorem bI{α:Type}{i:Int}{f:Int->M α}{Q:α->Pr}(q:W (f i) Q σ):W (f6 (.int i)>>=f) Q σ:=by unfold W at q ⊢;exact q
theorem bO{α β:Type}{o:Option β}{a:β}{f:β->M α}{Q:α->Pr}(h:o=some a)(q:W (f a) Q σ):W (a8 o>>=f) Q σ:=by subst h;unfold W at q ⊢;exact q
theorem bN{α:Type}{b:Bool}{f:Unit->M α}{Q:α->Pr}(h:b=true)(q:W (f ()) Q σ):W (need b>>=f) Q σ:=by subst h;unfold W at q ⊢;exact q
theorem dS{α:Type}{o:Option α}{a:α}{Q:α->Pr}(h:o=some a)(q:Q a σ):W (a8 o) Q σ:=by subst h;unfold W;exact q
theorem bL{α:Type}{i:Nat}{u:List V}{f:List V->M α}{Q:α->Pr}(h:σ[i]?=some (.lst u))(q:W (f u) Q σ):W (getL i>>=f) Q σ:=ba (bC h (dS rfl q))
theorem bD{α:Type}{i n:Nat}{es:List (Int×V)}{f:List (Int×V)×Nat->M α}{Q:α->Pr}(h:σ[i]?=some (.cG es n))(q:W (f (es,n)) Q σ):W (getD i>>=f) Q σ:=ba (bC h (dS rfl q))
theorem bF{α:Type}{i:Nat}{c:Str}{fs:List (Str×V)}{f:Str×List (Str×V)->M α}{Q:α->Pr}(h:σ[i]?=some (.ins c fs))(q:W (f (c,fs)) Q σ):W (zL i>>=f) Q σ:=ba (bC h (dS rfl q))
theorem bB{α:Type}{i:Nat}{b:List UInt8}{f:List UInt8->M α}{Q:α->Pr}(h:σ[i]?=some (.bar b))(q:W (f b) Q σ):W (vo i>>=f) Q σ:=ba (bC h (dS rfl q))
theorem bS{α:Type}{i:Nat}{es:List Int}{f:List Int->M α}{Q:α->Pr}(h:σ[i]?=some (.set es))(q:W (f es) Q σ):W (Gz i>>=f) Q σ:=ba (bC h (dS rfl q))
theorem bG{c:aL}(q:∀i τ,Up [] σ τ->σ.length<=i->τ[i]?=some c->Q (.ref i) τ):W (dq c) Q σ:=by unfold W;exact q σ.length (σ++[c]) .new (Nat.le_refl _) (by simp)
theorem bZ{vs:List V}(hf:cM vs.length=true)(q:∀i τ,Up [] σ τ->σ.length<=i->τ[i]?=some (.lst vs)->Q (.ref i) τ):W (dE vs) Q σ:=by
 unfold dE;rw[if_pos hf];exact bG q
theorem eV{i:Nat}{c d:aL}{Q:Unit->Pr}(h:σ[i]?=some d)(q:∀τ,Up [i] σ τ->τ[i]?=some c->Q () τ):W (iE i c) Q σ:=by unfold W;exact q (σ.set i c) .set (getElem?_set_self (eG h))
theorem bc{i:Nat}{c a:Str}{fs:List (Str×V)}{v:V}(h:σ[i]?=some (.ins c fs))(hv:look a fs=some v)(hc:(gg.attrs.contains (c,a)&&nk v)=true)(q:Q v σ):W (aB gg (.ref i) a) Q σ:=bR (bF h (bN (aP hc).1 (bO hv (bN (aP hc).2 (bP q)))))
theorem cQ{i:Nat}{c a:Str}{fs fs':List (Str×V)}{v:V}{Q:Unit->Pr}(h:σ[i]?=some (.ins c fs))(e:put a v fs=fs')(hc:(gg.attrs.contains (c,a)&&cM fs.length)=true)(q:∀τ,Up [i] σ τ->τ[i]?=some (.ins c fs')->Q () τ):W (bq gg (.ref i) a v) Q σ:=by
 subst e;exact bR (bF h (bN hc (eV h q)))
theorem vt{a:Str}{v:V}{r:List (Str×V)}(h:look a ((a,v)::r)=some v):look a ((a,v)::r)=some v:=h
theorem oS{a b1:Str}{v u1:V}{r:List (Str×V)}(h:look a ((b1,u1)::(a,v)::r)=some v):look a ((b1,u1)::(a,v)::r)=some v:=h
theorem rJ{a b1 b2:Str}{v u1 u2:V}{r:List (Str×V)}(h:look a ((b1,u1)::(b2,u2)::(a,v)::r)=some v):look a ((b1,u1)::(b2,u2)::(a,v)::r)=some v:=h
theorem Nu{a b1 b2 b3:Str}{v u1 u2 u3:V}{r:List (Str×V)}(h:look a ((b1,u1)::(b2,u2)::(b3,u3)::(a,v)::r)=some v):look a ((b1,u1)::(b2,u2)::(b3,u3)::(a,v)::r)=some v:=h
theorem Nt{a b1 b2 b3 b4:Str}{v u1 u2 u3 u4:V}{r:List (Str×V)}(h:look a ((b1,u1)::(b2,u2)::(b3,u3)::(b4,u4)::(a,v)::r)=some v):look a ((b1,u1)::(b2,u2)::(b3,u3)::(b4,u4)::(a,v)::r)=some v:=h
theorem U5{a b1 b2 b3 b4 b5:Str}{v u1 u2 u3 u4 u5:V}{r:List (Str×V)}(h:look a ((b1,u1)::(b2,u2)::(b3,u3)::(b4,u4)::(b5,u5)::(a,v)::r)=some v):look a ((b1,u1)::(b2,u2)::(b3,u3)::(b4,u4)::(b5,u5)::(a,v)::r)=some v:=h
theorem RL{a b1 b2 b3 b4 b5 b6:Str}{v u1 u2 u3 u4 u5 u6:V}{r:List (Str×V)}(h:look a ((b1,u1)::(b2,u2)::(b3,u3)::(b4,u4)::(b5,u5)::(b6,u6)::(a,v)::r)=some v):look a ((b1,u1)::(b2,u2)::(b3,u3)::(b4,u4)::(b5,u5)::(b6,u6)::(a,v)::r)=some v:=h
theorem dI{i:Nat}{c m:Str}{fs:List (Str×V)}{fi:kI}{ih:f5}{as:(List V->Pr)->Pr}(h:σ[i]?=some (.ins c fs))(hm:gg.cV c m=some fi)(hl:look m fs=none)(q:as (λvs=>W (ih.C fi (.ref i::vs)) Q) σ):W (az gg (.ref i) m) (bA ih as (.ref i) Q) σ:=by
 refine bC h ?_;dsimp only;(refine Eq.symm hm▸?_;refine Eq.symm hl▸?_);exact bP q
theorem fg{i:Nat}{m:Str}{c:aL}{id:Am}{ih:f5}{as:(List V->Pr)->Pr}(h:σ[i]?=some c)(hm:(cZ c).lookup m=some id)(q:as (λvs=>W (eS id (.ref i) vs) Q) σ):W (az gg (.ref i) m) (bA ih as (.ref i) Q) σ:=by
 refine bC h ?_
 induction c using aL.casesOn with
 |ins c fs=>exact cT hm
 |_=>exact bO hm (bP q)
theorem mV{i:Nat}{c a:Str}{v:V}{r:List (Str×V)}(q:Q v σ)(h:σ[i]?=some (.ins c ((a,v)::r)):=by assumption)(hv:look a ((a,v)::r)=some v:=by kernel_rfl)(hc:(gg.attrs.contains (c,a)&&nk v)=true:=by kernel_rfl):W (aB gg (.ref i) a) Q σ:=bc h hv hc q
theorem qi{i:Nat}{c a b0:Str}{v u0:V}{r:List (Str×V)}(q:Q v σ)(h:σ[i]?=some (.ins c ((b0,u0)::(a,v)::r)):=by assumption)(hv:look a ((b0,u0)::(a,v)::r)=some v:=by kernel_rfl)(hc:(gg.attrs.contains (c,a)&&nk v)=true:=by kernel_rfl):W (aB gg (.ref i) a) Q σ:=bc h hv hc q
theorem ku{i:Nat}{c a b0 b1:Str}{v u0 u1:V}{r:List (Str×V)}(q:Q v σ)(h:σ[i]?=some (.ins c ((b0,u0)::(b1,u1)::(a,v)::r)):=by assumption)(hv:look a ((b0,u0)::(b1,u1)::(a,v)::r)=some v:=by kernel_rfl)(hc:(gg.attrs.contains (c,a)&&nk v)=true:=by kernel_rfl):W (aB gg (.ref i) a) Q σ:=bc h hv hc q
theorem vQ{i:Nat}{c a b0 b1 b2:Str}{v u0 u1 u2:V}{r:List (Str×V)}(q:Q v σ)(h:σ[i]?=some (.ins c ((b0,u0)::(b1,u1)::(b2,u2)::(a,v)::r)):=by assumption)(hv:look a ((b0,u0)::(b1,u1)::(b2,u2)::(a,v)::r)=some v:=by kernel_rfl)(hc:(gg.attrs.contains (c,a)&&nk v)=true:=by kernel_rfl):W (aB gg (.ref i) a) Q σ:=bc h hv hc q
theorem DD{i:Nat}{c a b0 b1 b2 b3:Str}{v u0 u1 u2 u3:V}{r:List (Str×V)}(q:Q v σ)(h:σ[i]?=some (.ins c ((b0,u0)::(b1,u1)::(b2,u2)::(b3,u3)::(a,v)::r)):=by assumption)(hv:look a ((b0,u0)::(b1,u1)::(b2,u2)::(b3,u3)::(a,v)::r)=some v:=by kernel_rfl)(hc:(gg.attrs.contains (c,a)&&nk v)=true:=by kernel_rfl):W (aB gg (.ref i) a) Q σ:=bc h hv hc q
theorem Kt{i:Nat}{c a b0 b1 b2 b3 b4:Str}{v u0 u1 u2 u3 u4:V}{r:List (Str×V)}(q:Q v σ)(h:σ[i]?=some (.ins c ((b0,u0)::(b1,u1)::(b2,u2)::(b3,u3)::(b4,u4)::(a,v)::r)):=by assumption)(hv:look a ((b0,u0)::(b1,u1)::(b2,u2)::(b3,u3)::(b4,u4)::(a,v)::r)=some v:=by kernel_rfl)(hc:(gg.attrs.contains (c,a)&&nk v)=true:=by kernel_rfl):W (aB gg (.ref i) a) Q σ:=bc h hv hc q
theorem jw{i:Nat}{c m:Str}{fs:List (Str×V)}{fi:kI}{ih:f5}{as:(List V->Pr)->Pr}(hm:gg.cV c m=some fi)(q:as (λvs=>W (ih.C fi (.ref i::vs)) Q) σ)(h:σ[i]?=some (.ins c fs):=by assumption)(hl:look m fs=none:=by kernel_rfl):W (az gg (.ref i) m) (bA ih as (.ref i) Q) σ:=dI h hm hl q
theorem Vp{i:Nat}{m:Str}{c:aL}{id:Am}{ih:f5}{as:(List V->Pr)->Pr}(hm:(cZ c).lookup m=some id)(q:as (λvs=>W (eS id (.ref i) vs) Q) σ)(h:σ[i]?=some c:=by assumption):W (az gg (.ref i) m) (bA ih as (.ref i) Q) σ:=fg h hm q
theorem ig{u:List V}:List.lookup ("append":Str) (cZ (.lst u))=some .app:=by kernel_rfl
theorem AP{es:List (Int×V)}{n:Nat}:List.lookup ("get":Str) (cZ (.cG es n))=some .get:=by kernel_rfl
theorem Ft{es:List (Int×V)}{n:Nat}:List.lookup ("setdefault":Str) (cZ (.cG es n))=some .qT:=by kernel_rfl
theorem Je{es:List (Int×V)}{n:Nat}:List.lookup ("pop":Str) (cZ (.cG es n))=some .pop:=by kernel_rfl
theorem Fu{es:List (List Int×V)}:List.lookup ("get":Str) (cZ (.jt es))=some .get:=by kernel_rfl
theorem tD{es:List (List Int×V)}:List.lookup ("setdefault":Str) (cZ (.jt es))=some .qT:=by kernel_rfl
theorem Jf{es:List Int}:List.lookup ("add":Str) (cZ (.set es))=some .add:=by kernel_rfl
theorem ny{b:List UInt8}:List.lookup ("append":Str) (cZ (.bar b))=some .Dj:=by kernel_rfl
theorem Fv{b:List UInt8}:List.lookup ("extend":Str) (cZ (.bar b))=some .Dh:=by kernel_rfl
theorem nZ{i:Nat}{u:List V}{v:V}(h:σ[i]?=some (.lst u))(hf:cM u.length=true)(q:∀τ,Up [i] σ τ->τ[i]?=some (.lst (u++[v]))->Q .none τ):W (eS .app (.ref i) [v]) Q σ:=bR (bO rfl (bL h (bN hf (ba (eV h λτ u e=>bP (q τ u e))))))
theorem yo{i:Int}{Q:Nat->Pr}(h:decide (0<=i/\i<1000000)=true)(q:Q i.toNat σ):W (idx i) Q σ:=bN h (bP q)
theorem Se{u w:List V}{x y:List Int}(h1:bU u=some x)(h2:bU w=some y)(hl:x.length=y.length)(h:B (decide (x=y)) σ):W (cX .Eq (.tup u) (.tup w)) B σ:=
 bO h1 (bO h2 (bN (beq_iff_eq.mpr hl) (bP h)))
theorem Sb{u w:List V}{x:List Int}(h1:bU u=some x)(h2:bU w=some x)(h:B false σ):W (cX .NotEq (.tup u) (.tup w)) B σ:=
 ba (Se h1 h2 rfl (bP (by rw[decide_eq_true rfl];exact h)))
theorem cg{i:Nat}{u:List V}{k:Int}{v:V}(h:σ[i]?=some (.lst u))(hk:decide (0<=k/\k<1000000)=true)(hv:u[k.toNat]?=some v)(q:Q v σ):W (aR (.ref i) (.int k)) Q σ:=bC h (bI (ba (yo hk (dS hv q))))
theorem dY{u:List V}{k:Int}{v:V}(hk:decide (0<=k/\k<1000000)=true)(hv:u[k.toNat]?=some v)(q:Q v σ):W (aR (.tup u) (.int k)) Q σ:=bI (ba (yo hk (dS hv q)))
theorem HP{u:List V}{k:Int}{v:V}(hk:decide (0<=k/\k<1000000)=true)(hv:u[k.toNat]?=some v)(q:Q v σ):W (aR (.gN u) (.int k)) Q σ:=bI (ba (yo hk (dS hv q)))
theorem fV{i n:Nat}{es:List (Int×V)}{k:Int}{v:V}(h:σ[i]?=some (.cG es n))(hv:aV k es=some v)(q:Q v σ):W (aR (.ref i) (.int k)) Q σ:=bC h (bI (dS hv q))
theorem jY{i:Nat}{es:List (List Int×V)}{u:List V}{k:List Int}{v:V}(h:σ[i]?=some (.jt es))(hu:bU u=some k)(hv:aV k es=some v)(q:Q v σ):W (aR (.ref i) (.tup u)) Q σ:=bC h (bO hu (dS hv q))
theorem HQ{b:List UInt8}{k:Int}{x:UInt8}(hk:decide (0<=k/\k<1000000)=true)(hf:cM b.length=true)(hv:b[k.toNat]?=some x)(q:Q (.int x.toNat) σ):W (aR (.bytes b) (.int k)) Q σ:=bI (ba (yo hk (bN hf (bO hv (bP q)))))
theorem nU{i:Nat}{u:List V}{k:Int}{v:V}{Q:Unit->Pr}(h:σ[i]?=some (.lst u))(hk:decide (0<=k/\k<1000000)=true)(hl:Nat.blt k.toNat u.length=true)(q:∀τ,Up [i] σ τ->τ[i]?=some (.lst (u.set k.toNat v))->Q () τ):W (iI (.ref i) (.int k) v) Q σ:=bR (bC h (bI (ba (yo hk (bN hl (eV h q))))))
theorem se{i n:Nat}{es:List (Int×V)}{k:Int}{v:V}{Q:Unit->Pr}(h:σ[i]?=some (.cG es n))(hf:cM es.length=true)(q:∀τ,Up [i] σ τ->τ[i]?=some (.cG (iR k v es) (if(aV k es).isSome then n else n+1))->Q () τ):W (iI (.ref i) (.int k) v) Q σ:=bR (bC h (bN hf (eV h q)))
theorem HN{i n:Nat}{u:List V}{k:List Int}{v:V}{Q:Unit->Pr}(h:σ[i]?=some (.cG [] n))(hu:bU u=some k)(q:∀τ,Up [i] σ τ->τ[i]?=some (.jt [(k,v)])->Q () τ):W (iI (.ref i) (.tup u) v) Q σ:=bR (bC h (bO hu (bN rfl (eV h q))))
theorem HM{i:Nat}{es:List (List Int×V)}{u:List V}{k:List Int}{v:V}{Q:Unit->Pr}(h:σ[i]?=some (.jt es))(hu:bU u=some k)(hf:cM es.length=true)(q:∀τ,Up [i] σ τ->τ[i]?=some (.jt (iR k v es))->Q () τ):W (iI (.ref i) (.tup u) v) Q σ:=bR (bC h (bO hu (bN hf (eV h q))))
theorem Vq{i n:Nat}{es:List (Int×V)}{k:Int}(h:σ[i]?=some (.cG es n))(q:B (aV k es).isSome σ):W (cX .In (.int k) (.ref i)) B σ:=bR (bI (bC h (bP q)))
theorem Kl{i n:Nat}{es:List (Int×V)}{k:Int}(h:σ[i]?=some (.cG es n))(q:B (!(aV k es).isSome) σ):W (cX .NotIn (.int k) (.ref i)) B σ:=ba (Vq h (bP q))
theorem Kq{i:Nat}{es:List Int}{k:Int}(h:σ[i]?=some (.set es))(hl:ble es.length 1000=true)(q:B (es.contains k) σ):W (cX .In (.int k) (.ref i)) B σ:=bR (bI (bC h (bN hl (bP q))))
theorem HR{i:Nat}{es:List Int}{k:Int}(h:σ[i]?=some (.set es))(hl:ble es.length 1000=true)(q:∀τ,Up [i] σ τ->τ[i]?=some (.set (if es.contains k then es else es++[k]))->Q .none τ):W (eS .add (.ref i) [.int k]) Q σ:=bR (bO rfl (bI (bS h (bN hl (ba (eV h λτ u e=>bP (q τ u e)))))))
theorem HS{i j:Nat}{u v:List V}(hi:σ[i]?=some (.lst u))(hj:σ[j]?=some (.lst v))(h:W (dE (u++v)) Q σ):W (ai .Add (.ref i) (.ref j)) Q σ:=bL hi (bR (bL hj h))
theorem sj{i:Nat}{u:List V}{y:Int}(hi:σ[i]?=some (.lst u))(hy:decide (0<=y/\y<=1000000)=true)(h:W (dE (replicate y.toNat u).flatten) Q σ):W (ai .Mult (.ref i) (.int y)) Q σ:=bL hi (bI (bN hy h))
theorem dr{i:Nat}{u:List V}(h:σ[i]?=some (.lst u))(hf:cM u.length=true)(q:Q (.int u.length) σ):W (aU "len" [.ref i]) Q σ:=bO rfl (bC h (bN hf (bP q)))
theorem N3{i n:Nat}{es:List (Int×V)}(h:σ[i]?=some (.cG es n))(hf:cM es.length=true)(q:Q (.int es.length) σ):W (aU "len" [.ref i]) Q σ:=bO rfl (bC h (bN hf (bP q)))
theorem so{b:List UInt8}(hf:cM b.length=true)(q:Q (.int b.length) σ):W (aU "len" [.bytes b]) Q σ:=bO rfl (bN hf (bP q))
theorem vO{u:List V}(hf:cM u.length=true)(q:Q (.int u.length) σ):W (aU "len" [.tup u]) Q σ:=bO rfl (bN hf (bP q))
theorem N2{u:List V}(hf:cM u.length=true)(q:Q (.int u.length) σ):W (aU "len" [.gN u]) Q σ:=bO rfl (bN hf (bP q))
theorem WK{i:Int}(q:Q (.int (if i<0 then -i else i)) σ):W (aU "abs" [.int i]) Q σ:=by unfold W;exact q
theorem cy{b:Int}(q:Q (.hK 0 b 1) σ):W (aX "range" [.int b]) Q σ:=by unfold W;exact q
theorem yl{a b:Int}(q:Q (.hK a b 1) σ):W (aX "range" [.int a,.int b]) Q σ:=by unfold W;exact q
theorem HO{a b c:Int}(hc:(decide (0<c)&&fe c)=true)(q:Q (.hK a b c) σ):W (aX "range" [.int a,.int b,.int c]) Q σ:=bI (bI (bI (bN hc (bP q))))
theorem nX{i:Int}(q:Q (.int i) σ):W (aX "int" [.int i]) Q σ:=by unfold W;exact q
theorem N4{b:Bool}(q:Q (.int (if b then 1 else 0)) σ):W (aX "int" [.bool b]) Q σ:=by unfold W;exact q
theorem N1{a b:Int}(q:Q (.int (if a<b then b else a)) σ):W (aU "max" [.int a,.int b]) Q σ:=by unfold W;exact q
theorem N0{a b:Int}(q:Q (.int (if b<a then b else a)) σ):W (aU "min" [.int a,.int b]) Q σ:=by unfold W;exact q
theorem mU{i:Nat}{u:List V}{Q:List V->Pr}(h:σ[i]?=some (.lst u))(q:Q u σ):W (gL (.ref i)) Q σ:=bC h (bP q)
theorem Ai{i:Nat}{u:List V}{ns:List Int}(h:σ[i]?=some (.lst u))(hu:bU u=some ns)(q:Q (.int ns.sum) σ):W (aU "sum" [.ref i]) Q σ:=bO rfl (ba (ba (mU h (dS hu (bP q)))))
theorem vM{i:Nat}{u:List V}{ns:List Int}{m:Int}(h:σ[i]?=some (.lst u))(hu:bU u=some ns)(hm:Cd ns=some m)(q:Q (.int m) σ):W (aU "max" [.ref i]) Q σ:=ba (ba (mU h (dS hu (bO hm (bP q)))))
theorem Vo{i:Nat}{u:List V}{ns:List Int}{m:Int}(h:σ[i]?=some (.lst u))(hu:bU u=some ns)(hm:oG ns=some m)(q:Q (.int m) σ):W (aU "min" [.ref i]) Q σ:=ba (ba (mU h (dS hu (bO hm (bP q)))))
theorem yj{i:Nat}{u:List V}(h:σ[i]?=some (.lst u))(hf:cM u.length=true)(q:Q (.tup u) σ):W (aX "tuple" [.ref i]) Q σ:=bO rfl (bL h (bN hf (bP q)))
theorem yi{u:List V}(q:Q (.tup u) σ):W (aX "tuple" [.tup u]) Q σ:=by unfold W;exact q
theorem HL(q:∀i τ,Up [] σ τ->σ.length<=i->τ[i]?=some (.set [])->Q (.ref i) τ):W (aX "set" []) Q σ:=bG q
theorem nY(q:∀i τ,Up [] σ τ->σ.length<=i->τ[i]?=some (.bar [])->Q (.ref i) τ):W (aX "bytearray" []) Q σ:=bG q
theorem qu{i:Nat}{b:List UInt8}(h:σ[i]?=some (.bar b))(hf:cM b.length=true)(q:Q (.bytes b) σ):W (aX "bytes" [.ref i]) Q σ:=bO rfl (bR (bB h (bN hf (bP q))))
theorem vP{i:Nat}{b:List UInt8}{x:Int}(h:σ[i]?=some (.bar b))(hc:(decide (0<=x/\x<256)&&cM b.length)=true)(q:∀τ,Up [i] σ τ->τ[i]?=some (.bar (b++[UInt8.ofNat x.toNat]))->Q .none τ):W (eS .Dj (.ref i) [.int x]) Q σ:=bR (bO rfl (bI (bB h (bN hc (ba (eV h λτ u e=>bP (q τ u e)))))))
theorem N9{i:Nat}{b c:List UInt8}(h:σ[i]?=some (.bar b))(hc:cM (b.length+c.length)=true)(q:∀τ,Up [i] σ τ->τ[i]?=some (.bar (b++c))->Q .none τ):W (eS .Dh (.ref i) [.bytes c]) Q σ:=bR (bO rfl (bO rfl (bB h (bN hc (ba (eV h λτ u e=>bP (q τ u e)))))))
theorem N6{i n:Nat}{es:List (Int×V)}{k:Int}(h:σ[i]?=some (.cG es n))(q:Q ((aV k es).getD .none) σ):W (eS .get (.ref i) [.int k]) Q σ:=bR (bC h (bI (bP q)))
theorem Kr{i:Nat}{es:List (List Int×V)}{u:List V}{k:List Int}(h:σ[i]?=some (.jt es))(hu:bU u=some k)(q:Q ((aV k es).getD .none) σ):W (eS .get (.ref i) [.tup u]) Q σ:=bR (bC h (bO hu (bP q)))
theorem N5{i n:Nat}{es:List (Int×V)}{k:Int}{d:V}(h:σ[i]?=some (.cG es n))(q:Q ((aV k es).getD d) σ):W (eS .get (.ref i) [.int k,d]) Q σ:=bR (bO rfl (bD h (bI (bP q))))
theorem Kk{i n:Nat}{u:List V}{k:List Int}{d:V}(h:σ[i]?=some (.cG [] n))(hu:bU u=some k)(q:∀τ,Up [i] σ τ->τ[i]?=some (.jt [(k,d)])->Q d τ):W (eS .qT (.ref i) [.tup u,d]) Q σ:=bR (bO rfl (bO hu (bC h (bN rfl (ba (eV h λτ u e=>bP (q τ u e)))))))
theorem Ki{i:Nat}{es:List (List Int×V)}{u:List V}{k:List Int}{v d:V}(h:σ[i]?=some (.jt es))(hu:bU u=some k)(hv:aV k es=some v)(q:Q v σ):W (eS .qT (.ref i) [.tup u,d]) Q σ:=by
 refine bR (bO rfl (bO hu (bC h ?_)));dsimp only;refine Eq.symm hv▸?_;exact bP q
theorem Kj{i:Nat}{es:List (List Int×V)}{u:List V}{k:List Int}{d:V}(h:σ[i]?=some (.jt es))(hu:bU u=some k)(hv:aV k es=none)(hf:cM es.length=true)(q:∀τ,Up [i] σ τ->τ[i]?=some (.jt (es++[(k,d)]))->Q d τ):W (eS .qT (.ref i) [.tup u,d]) Q σ:=by
 refine bR (bO rfl (bO hu (bC h ?_)));dsimp only;rw[hv];exact bN hf (ba (eV h λτ u e=>bP (q τ u e)))
theorem Sa{i n:Nat}{es:List (Int×V)}{k:Int}{v:V}(h:σ[i]?=some (.cG es n))(hv:aV k es=some v)(hf:cM es.length=true)(q:∀τ,Up [i] σ τ->τ[i]?=some (.cG (Ah k es) (n+1))->Q v τ):W (eS .pop (.ref i) [.int k]) Q σ:=bR (bO rfl (bI (bD h (bO hv (bN hf (ba (eV h λτ u e=>bP (q τ u e))))))))
theorem N8{b c:List UInt8}{lo hi:Option Int}(hf:cM b.length=true)(hc:CP b lo hi=some c)(q:Q (.bytes c) σ):W (rb (.bytes b) lo hi) Q σ:=bN hf (bO hc (bP q))
theorem N7{i:Nat}{u w:List V}{lo hi:Option Int}(h:σ[i]?=some (.lst u))(hf:cM u.length=true)(hc:CP u lo hi=some w)(q:W (dE w) Q σ):W (rb (.ref i) lo hi) Q σ:=bL h (bN hf (bO hc q))
theorem eZ{i:Nat}{u:List V}{v:V}{Q:Unit->Pr}(h:σ[i]?=some (.lst u))(hf:cM u.length=true)(q:∀τ,Up [i] σ τ->τ[i]?=some (.lst (u++[v]))->Q () τ):W (d6 i v) Q σ:=bL h (bN hf (eV h q))
theorem vN{a b c:Int}{vs:List V}(hr:j5 a b c=some vs)(hf:cM vs.length=true)(q:∀i τ,Up [] σ τ->σ.length<=i->τ[i]?=some (.lst vs)->Q (.ref i) τ):W (aX "list" [.hK a b c]) Q σ:=bO rfl (bO hr (bZ hf q))
theorem Sh{i:Int}{Q:Int->Pr}(q:Q i σ):R (f6 (.int i)) Q σ:=q
theorem vS{b:Bool}{Q:Bool->Pr}(q:Q b σ):R (iC (.bool b)) Q σ:=q
variable{N:gE×Nat->Pr}
theorem Bl{a b c:Int}{vs:List V}(h:j5 a b c=some vs)(q:N (.items vs,vs.length+1) σ):W (aQ (.hK a b c)) N σ:=bO h (bP q)
theorem Km{vs:List V}(q:N (.items vs,vs.length+1) σ):W (aQ (.tup vs)) N σ:=by unfold W;exact q
theorem Ko{b:List UInt8}(q:N (.items (b.map λx=>.int x.toNat),b.length+1) σ):W (aQ (.bytes b)) N σ:=by unfold W;exact q
theorem dj{i:Nat}{vs:List V}(h:σ[i]?=some (.lst vs))(q:N (.list i 0,vs.length+1) σ):W (aQ (.ref i)) N σ:=bC h (bP q)
theorem nW{i n:Nat}{es:List (Int×V)}(h:σ[i]?=some (.cG es n))(q:N (.dict i n es.length 0,es.length+1) σ):W (aQ (.ref i)) N σ:=bC h (bP q)
theorem ee(Inv:List V->ar->Pr)(step:∀v r env σ K,Inv (v::r) env σ->(∀e τ,Inv r e τ->K .next e τ)->turn v env K σ)(done:∀e τ,Inv [] e τ->k .next e τ):∀{vs:List V}{n:Nat}{env:ar}{σ:af},Inv vs env σ->vs.length<n->aK (aJ ih) turn k n (.items vs) env σ
 |_,0,_,_,_,l=>(not_lt_zero _ l).elim
 |[],n+1,env,σ,i,_=>bP (done env σ i)
 |v::r,n+1,env,σ,i,l=>bP (a:=some (v,gE.items r)) (step v r env σ _ i λe τ i=>ee Inv step done i (lt_of_succ_lt_succ l))
theorem oz{j:Nat}{vs:List V}(Inv:List V->ar->Pr)(keep:∀r e τ,Inv r e τ->τ[j]?=some (.lst vs))(step:∀v r env σ K,Inv (v::r) env σ->(∀e τ,Inv r e τ->K .next e τ)->turn v env K σ)(done:∀e τ,Inv [] e τ->k .next e τ):∀{m n:Nat}{r:List V}{env:ar}{σ:af},vs.drop m=r->Inv r env σ->r.length<n->aK (aJ ih) turn k n (.list j m) env σ:=by
 intro m l0
 induction l0 generalizing m with
 |zero=>
  rintro _ _ _ _ _ l;exact(not_lt_zero _ l).elim
 |succ n hi=>
  rintro r env σ e i l;refine bL (keep _ _ _ i) ?_
  induction r using List.casesOn with
  |nil=>
   rw[getElem?_eq_none (drop_eq_nil_iff.mp e)];exact bP (done env σ i)
  |cons v r=>
   have hv:vs[m]?=some v:=by rw[<-Nat.add_zero m,<-getElem?_drop,e];rfl
   rw[hv];exact bP (step v r env σ _ i λe' τ i=>hi (by rw[<-drop_drop,e];rfl) i (lt_of_succ_lt_succ l))
theorem BY{j c:Nat}{es:List (Int×V)}(Inv:List V->ar->Pr)(keep:∀r e τ,Inv r e τ->∃Nx,τ[j]?=some (.cG Nx c)/\Nx.map (·.1)=es.map (·.1))(step:∀v r env σ K,Inv (v::r) env σ->(∀e τ,Inv r e τ->K .next e τ)->turn v env K σ)(done:∀e τ,Inv [] e τ->k .next e τ):∀{m n:Nat}{r:List V}{env:ar}{σ:af},(es.map λe=>V.int e.1).drop m=r->Inv r env σ->r.length<n->aK (aJ ih) turn k n (.dict j c es.length m) env σ:=by
 intro m l0
 induction l0 generalizing m with
 |zero=>
  rintro _ _ _ _ _ l;exact(not_lt_zero _ l).elim
 |succ n hi=>
  rintro r env σ e i l;refine ak (keep _ _ _ i) λNx h hk=>?_;have hl:Nx.length=es.length:=by rw[<-length_map (f:=(·.1)),hk,length_map]
  have hm:∀m:Nat,Nx[m]?.map (λp=>V.int p.1)=(es.map λe=>V.int e.1)[m]?:=λm=>by
   have:=congrArg (λl=>(l[m]?).map V.int) hk
   simpa[getElem?_map,Function.comp_def] using this
  refine bD h (bN (by simp[hl]) ?_);dsimp only
  induction r using List.casesOn with
  |nil=>
   have:=hm m;rw[getElem?_eq_none (drop_eq_nil_iff.mp e)]at this;refine Eq.symm (Option.map_eq_none_iff.mp this)▸?_;exact bP (done env σ i)
  |cons v r=>
   have hv:=hm m;replace hv:=(e▸((Eq.symm (getElem?_drop (xs:=es.map _)))▸((Eq.symm (Nat.add_zero m))▸hv)));(refine dw hv λp hp yB=>?_;subst yB);rw[Nat.add_zero]at hp;rw[hp];exact bP (step _ r env σ _ i λe' τ i=>hi (by rw[<-drop_drop,e];rfl) i (lt_of_succ_lt_succ l))
theorem iq{test:ar->(Bool->Pr)->Pr}{body:ar->(Fl->ar->Pr)->Pr}(Inv:Nat->ar->Pr)(TN:∀m env σ K,Inv m env σ->K (m !=0) σ->test env K σ)(step:∀m env σ K,Inv (m+1) env σ->(∀e τ,Inv m e τ->K .next e τ)->body env K σ)(done:∀e τ,Inv 0 e τ->k .next e τ):∀{m n:Nat}{env:ar}{σ:af},Inv m env σ->m<n->gD test body k n env σ
 |_,0,_,_,_,l=>(not_lt_zero _ l).elim
 |0,n+1,env,σ,i,_=>TN 0 env σ _ i (done env σ i)
 |m+1,n+1,env,σ,i,l=>TN (m+1) env σ _ i (step m env σ _ i λe τ i=>iq Inv TN step done i (lt_of_succ_lt_succ l))
end
section
variable{n:Nat}{Q:V->Pr}{σ:af}
theorem rj{k m:Nat}(h:k<m)(hm:m<=1000):decide (0<=(k:Int)/\(k:Int)<1000000)=true:=decide_eq_true ⟨f7 k,ofNat_lt.mpr (d5 h (ao hm (by decide)))⟩
theorem GR{k:Nat}(h:k<=1000):decide (0<=(k:Int)/\(k:Int)<=1000000)=true:=decide_eq_true ⟨f7 k,ofNat_le.mpr (ao h (by decide))⟩
theorem OA{k:Nat}(h:k<=1000):(decide (0<=(k:Int)/\(k:Int)<=1000000)&&true)=true:=(Bool.and_true _).trans (GR h)
noncomputable def CO(s t:Int):Int:=if decide (32768<(s-t).fmod 65536)=true then(s-t).fmod 65536-65536 else(s-t).fmod 65536
theorem uh(q:Q (.int (CO s t)) σ):W ((ag gg (n+11)).C (aa 15) [.int s,.int t]) Q σ:=by
 refine ce (p:=cR (decide (32768<(s-t).fmod 65536)) (Q (.int ((s-t).fmod 65536-65536))) (Q (.int ((s-t).fmod 65536))) σ) ?_;unfold CO at q;cases h:decide (32768<(s-t).fmod 65536)<;>rw[h]at q
 ·exact iy rfl q
 ·exact mv rfl q
noncomputable def w7(k:Nat)(l a c:Int):Int:=match k with
 |0=>l
 |1=>a
 |2=>c
 |3=>l+a-c
 |4=>l+(a-c).fdiv 2
 |5=>a+(l-c).fdiv 2
 |_=>(l+a).fdiv 2
theorem wt(hk:k<7)(q:Q (.int (w7 k l a c)) σ):W ((ag gg (n+11)).C (aa 13) [.int (k+1:Nat),.int l,.int a,.int c]) Q σ:=by
 refine kn (p:=Q (.int (w7 k l a c)) σ) ?_ (by kernel_rfl) q
 rcases k with _|_|_|_|_|_|_|k
 rotate_right
 ·exact absurd hk (dH (le_add_left 7 k))
 all_goals kernel_rfl
noncomputable def f3(v:Int):Nat:=g8 (if v<0 then -v else v)
theorem yH(q:Q (.int (f3 v)) σ):W ((ag gg (n+11)).C (aa 8) [.int v]) Q σ:=
 ce (p:=Q (.int (f3 v)) σ) q
noncomputable def t7(v:Int)(s:Nat):Int:=if decide (v<0)=true then v+2^(s:Int).toNat-1 else v
theorem Bx{v:Int}{s:Nat}(hs:s<=1000)(q:Q (.int (t7 v s)) σ):W ((ag gg (n+11)).C (aa 9) [.int v,.int s]) Q σ:=by
 refine ce (p:=cR (decide (v<0)) (W (ai .Pow (.int 2) (.int s)) λv1=>W (ai .Add (.int v) v1) λv2=>W (ai .Sub v2 (.int 1)) Q) (Q (.int v)) σ) ?_;unfold t7 at q;cases h:decide (v<0)<;>rw[h]at q
 ·exact iy rfl q
 ·exact mv rfl (sg (OA hs) (cq (di q)))
theorem Io{p:Int}{t:Nat}(ht:t<=1000)(hp:p-t-1=(m:Nat))(hm:m<=1000)(q:Q (.int (1*2^m)) σ):W ((ag gg (n+11)).C (aa 14) [.int p,.int t]) Q σ:=by
 refine ce (p:=W (ai .LShift (.int 1) (.int (p-t-1))) Q σ) ?_;rw[hp];exact yk (OA hm) q
theorem EC{a s:Nat}(h1:a<s)(q:Q (.int a) σ):W ((ag gg (n+11)).C (aa 82) [.int a,.int s]) Q σ:=
 ce (p:=cR (decide ((a:Int)<0)) (Q (.int 0)) (cR (decide ((a:Int)<s)) (Q (.int a)) (Q (.int (s-1)))) σ) (iy (dF (Int.not_lt.mpr (f7 a))) (mv (dT (ofNat_lt.mpr h1)) q))
theorem jy(q:Q (.int m) σ):W ((ag gg (n+11)).C (aa 25) [.int m,.int 1]) Q σ:=
 ce (p:=Q (.int ((m+1-1).fdiv 1)) σ) (by rwa[Int.add_sub_cancel,Int.fdiv_one])
theorem j8:gg.cV "LinePredictor" "start"=some (ah 16 1):=by kernel_rfl
theorem kE:gg.cV "LinePredictor" "told"=some (ah 16 2):=by kernel_rfl
theorem dN:gg.cV "SampleGrid" "get"=some (ah 19 1):=by kernel_rfl
theorem nr:gg.cV "SampleGrid" "put"=some (ah 19 2):=by kernel_rfl
theorem jJ:gg.cV "LosslessWriter" "start"=some (ah 21 1):=by kernel_rfl
theorem j7:gg.cV "LosslessWriter" "code"=some (ah 21 2):=by kernel_rfl
theorem jf:gg.cV "LosslessWriter" "finish"=some (ah 21 3):=by kernel_rfl
theorem gJ:gg.cV "Frame" "most_across"=some (ah 27 1):=by kernel_rfl
theorem iG:gg.cV "Frame" "most_down"=some (ah 27 2):=by kernel_rfl
theorem eP:gg.cV "Frame" "mcus_across"=some (ah 27 3):=by kernel_rfl
theorem iH:gg.cV "Frame" "mcus_down"=some (ah 27 4):=by kernel_rfl
theorem hV:gg.cV "Frame" "plane_size"=some (ah 27 5):=by kernel_rfl
theorem kC:gg.cV "Frame" "blocks"=some (ah 27 6):=by kernel_rfl
theorem kB:gg.cV "Frame" "padded"=some (ah 27 7):=by kernel_rfl
theorem i1:gg.cV "HuffTable" "code"=some (ah 38 1):=by kernel_rfl
theorem AO:gg.cV "HuffTable" "read"=some (ah 38 2):=by kernel_rfl
theorem gq:gg.cV "BitWriter" "put"=some (ah 54 1):=by kernel_rfl
theorem oF:gg.cV "BitWriter" "pad"=some (ah 54 2):=by kernel_rfl
theorem lW:gg.cV "BitWriter" "octets"=some (ah 54 3):=by kernel_rfl
theorem mE:gg.cV "CodeSink" "symbol"=some (ah 56 1):=by kernel_rfl
theorem oE:gg.cV "CodeSink" "bits"=some (ah 56 2):=by kernel_rfl
theorem mF:gg.cV "CodeSink" "finish"=some (ah 56 3):=by kernel_rfl
theorem lU:gg.cV "CountSink" "symbol"=some (ah 57 1):=by kernel_rfl
theorem nv:gg.cV "CountSink" "bits"=some (ah 57 2):=by kernel_rfl
theorem lV:gg.cV "CountSink" "finish"=some (ah 57 3):=by kernel_rfl
theorem gp:gg.cV "Scan" "is_alone"=some (ah 75 1):=by kernel_rfl
theorem Cb:gg.cV "Scan" "is_finer"=some (ah 75 2):=by kernel_rfl
theorem xg:gg.cV "Plane" "at"=some (ah 80 1):=by kernel_rfl
theorem Jb:gg.cV "Plane" "put"=some (ah 80 2):=by kernel_rfl
theorem oD:gg.cV "Picture" "width"=some (ah 81 1):=by kernel_rfl
theorem nt:gg.cV "Picture" "height"=some (ah 81 2):=by kernel_rfl
theorem DH:gg.cV "Picture" "most"=some (ah 81 3):=by kernel_rfl
noncomputable def Fn(i:Nat)(Q:V->Pr):V->Pr
 |.none=>Q (.ref i)
 |_=>no
theorem su(hm:gg.cV c "__init__"=some fi)(q:∀i τ,Up [] σ τ->σ.length<=i->τ[i]?=some (.ins c [])->W (ih.C fi (.ref i::args)) (Fn i Q) τ):W (cx gg ih (.cls c) args) Q σ:=by
 unfold cx;dsimp only;refine Eq.symm hm▸?_;refine ba (bG λi τ u l h=>ba ((q i τ u l h).mono λv Z h=>?_))
 induction v using V.casesOn with
 |none=>exact bP h
 |_=>exact h.elim
noncomputable def qQ(i:Nat):List (Str×V)->Pr->Pr
 |[],k=>k
 |(a,v)::r,k=>W (bq gg (.ref i) a v) λ_=>qQ i r k
noncomputable def AM(c:Str)(fs:List (Str×V)):List (Str×V)->Bool
 |[]=>true
 |(a,v)::r=>gg.attrs.contains (c,a)&&cM fs.length&&(look a fs).isNone&&AM c (fs++[(a,v)]) r
theorem IV:∀{fs:List (Str×V)},(look a fs).isNone=true->put a v fs=fs++[(a,v)]:=by
 intro l0
 induction l0 with
 |nil=>
  rintro _;exact rfl
 |cons hd r hi=>
  obtain⟨b,u⟩:=hd;rintro h;unfold look at h;unfold put;cases e:a==b with
  |true=>replace h:=e▸h;exact mO h
  |false=>rw[e]at h;simp only[false_eq_true,if_false]at h ⊢;rw[hi h];rfl
theorem sf:∀{l fs:List (Str×V)}{σ:af},σ[i]?=some (.ins c fs)->AM c fs l=true->(∀τ,Up [i] σ τ->τ[i]?=some (.ins c (fs++l))->k τ)->qQ i l k σ:=by
 intro l0
 induction l0 with
 |nil=>
  rintro fs σ h _ q;exact q σ .refl (by rwa[append_nil])
 |cons hd r hi=>
  obtain⟨a,v⟩:=hd;rintro fs σ h ok q;unfold AM at ok;obtain⟨ok,o4⟩:=aP ok;obtain⟨o1,o3⟩:=aP ok;exact cQ h (IV o3) o1 λτ u h=>hi h o4 λZ u' h=>q Z (u.trans u') (by rwa[append_assoc]at h)
theorem sY(he:∀i (K:V->Pr) τ,qQ i l (K .none) τ=xS n fi (.ref i::args) K τ)(hm:(gg.cV c "__init__",fi.sc.isGenerator,AM c [] l)=(some fi,false,true))(q:∀i τ,Up [] σ τ->σ.length<=i->τ[i]?=some (.ins c l)->Q (.ref i) τ):W (cx gg (ag gg (n+1)) (.cls c) args) Q σ:=by
 have hm:=Prod.mk.inj hm;have Gm:=Prod.mk.inj hm.2;exact su hm.1 λi τ u l h=>kn (he i _ τ) Gm.1 (sf h Gm.2 λZ u' h=>q i Z (u.fresh l u') l h)
theorem I9(q:∀i τ,Up [] σ τ->σ.length<=i->τ[i]?=some (.ins "Plane" [("width",w),("height",h),("rows",r)])->Q (.ref i) τ):W (cx gg (ag gg (n+11)) (.cls "Plane") [w,h,r]) Q σ:=
 sY (n:=n+10) (fi:=(ah 80 0)) (l:=[("width",w),("height",h),("rows",r)]) (λi K τ=>by kernel_rfl) (by kernel_rfl) q
noncomputable def eX(f:Nat->V)(m:Nat):aL:=.lst ((range m).map f)
theorem tH{f:Nat->V}(h:k<m):((range m).map f)[k]?=some (f k):=by
 rw[getElem?_map,getElem?_range h];rfl
theorem bX{f:Nat->V}(h:σ[i]?=some (eX f m))(hk:k<m)(hm:m<=1000)(q:Q (f k) σ):W (aR (.ref i) (.int k)) Q σ:=
 cg h (rj hk hm) (tH hk) q
structure gC(σ:af)(r w h:Nat)(G:Nat->Nat->Int)(q:Nat->Nat):Prop where
 top:σ[r]?=some (eX (λy=>.ref (q y)) h)
 row:∀y,y<h->σ[q y]?=some (eX (λx=>.int (G y x)) w)
 hw:w<=1000
 hh:h<=1000
theorem gC.keep{G:Nat->Nat->Int}{q:Nat->Nat}(R:gC σ r w h G q)(k:∀(j:Nat)(u:List V),σ[j]?=some (aL.lst u)->τ[j]?=some (aL.lst u)):gC τ r w h G q:=
 ⟨k _ _ R.top,λy hy=>k _ _ (R.row y hy),R.hw,R.hh⟩
theorem gC.get{G:Nat->Nat->Int}{q:Nat->Nat}(R:gC σ r w h G q)(hy:y<h)(hx:x<w)(k:Q (.int (G y x)) σ):W (aR (.ref r) (.int y)) (λv=>W (aR v (.int x)) Q) σ:=
 bX R.top hy R.hh (bX (R.row y hy) hx R.hw k)
structure ja(σ:af)(i w h:Nat)(G:Nat->Nat->Int)(r:Nat)(q:Nat->Nat):Prop where
 obj:σ[i]?=some (.ins "Plane" [("width",.int w),("height",.int h),("rows",.ref r)])
 rows:gC σ r w h G q
theorem Tz{G:Nat->Nat->Int}{q:Nat->Nat}(P:ja σ i w h G r q)(hx:x<w)(hy:y<h)(k:Q (.int (G y x)) σ):W ((ag gg (n+21)).C (ah 80 1) [.ref i,.int x,.int y]) Q σ:=by
 let aO:=λ(v7:V)=>Q v7;let aZ:=λ(v4:V) (v6:V)=>W (aR v4 v6) aO;let bW:=λ(v4:V) (v5:V)=>W ((ag gg (n+17)).C (aa 82) [.int x,v5]) (aZ v4);let c8:=λ(v4:V)=>W (aB gg (.ref i) "width") (bW v4);let dG:=λ(v1:V) (v3:V)=>W (aR v1 v3) c8;let dR:=λ(v1:V) (v2:V)=>W ((ag gg (n+16)).C (aa 82) [.int y,v2]) (dG v1);let fC:=λ(v1:V)=>W (aB gg (.ref i) "height") (dR v1);refine ce (p:=(W (aB gg (.ref i) "rows") fC) σ) ?_;have o:=P.obj;refine ku ?_;refine qi ?_;refine EC hy (bX P.rows.top hy P.rows.hh ?_);refine mV ?_;exact EC hx (bX (P.rows.row y hy) hx P.rows.hw k)
structure et(σ:af)(i r m w h:Nat)(G:Nat->Nat->Nat->Int)(p:Nat->Nat)(q:Nat->Nat->Nat):Prop where
 obj:σ[i]?=some (.ins "SampleGrid" [("rows",.ref r)])
 top:σ[r]?=some (eX (λk=>.ref (p k)) m)
 rows:∀k,k<m->gC σ (p k) w h (G k) (q k)
 hm:m<=1000
theorem et.keep{G:Nat->Nat->Nat->Int}{p:Nat->Nat}{q:Nat->Nat->Nat}(R:et σ i r m w h G p q)(k:∀(j:Nat)(c:aL),σ[j]?=some c->(∃u,c=.lst u)\/j=i->τ[j]?=some c):et τ i r m w h G p q:=
 ⟨k _ _ R.obj (.inr rfl),k _ _ R.top (.inl ⟨_,rfl⟩),λa ha=>(R.rows a ha).keep λj u e=>k j _ e (.inl ⟨_,rfl⟩),R.hm⟩
theorem wz{G:Nat->Nat->Nat->Int}{p:Nat->Nat}{q:Nat->Nat->Nat}(R:et σ i r m w h G p q)(hk:k<m)(hx:x<w)(hy:y<h)(t:Q (.int (G k y x)) σ):W ((ag gg (n+11)).C (ah 19 1) [.ref i,.int k,.int x,.int y]) Q σ:=by
 let aO:=λ(v4:V)=>Q v4;let aZ:=λ(v3:V)=>W (aR v3 (.int x)) aO;let bW:=λ(v2:V)=>W (aR v2 (.int y)) aZ;let c8:=λ(v1:V)=>W (aR v1 (.int k)) bW;refine ce (p:=(W (aB gg (.ref i) "rows") c8) σ) ?_;have o:=R.obj;refine mV ?_;exact bX R.top hk R.hm ((R.rows k hk).get hy hx t)
theorem AE(x:Nat):decide (((x+1:Nat):Int)=0)=false:=dF λe=>succ_ne_zero x (ofNat.inj e)
theorem VJ(x:Nat):decide ((0:Int)=((x+1:Nat):Int))=false:=dF λe=>succ_ne_zero x (ofNat.inj e).symm
theorem hU(x:Nat):((x+1:Nat):Int)-1=x:=by rw[natCast_succ,Int.add_sub_cancel]
noncomputable def fu(S:List Nat):List (Int×V):=S.map λ(s:Nat)=>((s:Int),V.int 0)
noncomputable def sT(p:Nat)(S:List Nat):List Nat:=if p∈S then S else S++[p]
theorem sd{p:Nat}:∀{S:List Nat},aV (p:Int) (fu S)=if p∈S then some (.int 0)else none:=by
 intro l0
 induction l0 with
 |nil=>
  exact rfl
 |cons s S hi=>
  show(if((s:Nat):Int)=(p:Int)then some (V.int 0)else aV (p:Int) (fu S))=_;by_cases h:s=p
  ·rw[if_pos (congrArg _ h),if_pos (h▸mem_cons_self)]
  ·have e: ¬((s:Int)=(p:Int)):=λe=>h (ofNat.inj e);rw[if_neg e,hi];by_cases m:p∈S
   ·rw[if_pos m,if_pos (List.mem_cons_of_mem _ m)]
   ·rw[if_neg m,if_neg λe=>(mem_cons.mp e).elim (λe=>h e.symm) m]
theorem Dv{p:Nat}{S:List Nat}(h:p∉S):iR (p:Int) (.int 0) (fu S)=fu (S++[p]):=by
 have:(fu S).any (λe=>decide (e.1=(p:Int)))=false:=by
  rw[List.any_eq_false];intro x hx e;(refine dC hx λs hs Tw=>?_;subst Tw);exact h (ofNat.inj (fh e)▸hs)
 unfold iR fu;unfold fu at this;(refine Eq.symm this▸?_;refine Eq.symm (map_append)▸?_);rfl
noncomputable def ky(k:Nat)(mid:Int)(G:Nat->Nat->Int):Nat->Nat->Int
 |0,0=>mid
 |y+1,0=>G y 0
 |0,x+1=>G 0 x
 |y+1,x+1=>w7 k (G (y+1) x) (G y (x+1)) (G y x)
structure DF(σ:af)(i g k:Nat)(mid:Int)(t:Nat):Prop where
 obj:σ[i]?=some (.ins "LinePredictor" [("samples",.ref g),("kind",.int (k+1:Nat)),("middle",.int mid),("tops",.ref t)])
 hk:k<7
section
variable{i g k t r m w h p x y:Nat}{mid:Int}{G:Nat->Nat->Nat->Int}{pp:Nat->Nat}{qq:Nat->Nat->Nat}
theorem KV(L:DF σ i g k mid t)(R:et σ g r m w h G pp qq)(hp:p<m)(hx:x<w)(hy:y<h)(ht:σ[t]?=some (.cG es c))(he:aV (p:Int) es=some (.int 0))(q:Q (.int (ky k mid (G p) y x)) σ):aS (ay gg (n+25)) (ah 16 2).sc ((ah 16 2).body.drop 1) ⟨[("self",.ref i),("place",.int p),("x",.int x),("y",.int y)],[]⟩ (cz Q) σ:=by
 let aO:=λ(v5:V)=>Q v5;let aZ:=λ(K8:List V->Pr) (v9:V)=>K8 [.int p,.int x,v9];let bW:=λ(v7:V)=>Q v7;let c8:=λ(v6:V)=>W (az gg v6 "get") (bA (ag gg (n+21)) (λK8 H=>(W (ai .Sub (.int y) (.int 1)) (aZ K8)) H) v6 bW);let dG:=λ(Vy:List V->Pr) (pd:V)=>Vy [.int p,pd,.int y];let dR:=λ(Vw:List V->Pr) (sF:V)=>Vw [.int p,.int x,sF];let fC:=λ(Sk:List V->Pr) (EF:V) (Iq:V)=>Sk [.int p,EF,Iq];let gX:=λ(Sk:List V->Pr) (EF:V)=>W (ai .Sub (.int y) (.int 1)) (fC Sk EF);let iU:=λ(By:V)=>Q By;let eE:=λ(v11:V) (kN:V) (pX:V) (v20:V)=>W ((ag gg (n+23)).C (aa 13) [pX,v11,kN,v20]) iU;let fj:=λ(v11:V) (kN:V) (pX:V) (uo:V)=>W (az gg uo "get") (bA (ag gg (n+22)) (λSk H=>(W (ai .Sub (.int x) (.int 1)) (gX Sk)) H) uo (eE v11 kN pX));let gY:=λ(v11:V) (kN:V) (pX:V)=>W (aB gg (.ref i) "samples") (fj v11 kN pX);let jl:=λ(v11:V) (kN:V)=>W (aB gg (.ref i) "kind") (gY v11 kN);let jL:=λ(v11:V) (pY:V)=>W (az gg pY "get") (bA (ag gg (n+23)) (λVw H=>(W (ai .Sub (.int y) (.int 1)) (dR Vw)) H) pY (jl v11));let ke:=λ(b3:Bool) (v11:V)=>cR b3 (Q v11) (W (aB gg (.ref i) "samples") (jL v11));let kG:=λ(b3:Bool) (v10:V)=>W (az gg v10 "get") (bA (ag gg (n+23)) (λVy H=>(W (ai .Sub (.int x) (.int 1)) (dG Vy)) H) v10 (ke b3));let kF:=λ(b3:Bool) (b4:Bool)=>cR b4 (cR b3 (W (aB gg (.ref i) "middle") aO) (W (aB gg (.ref i) "samples") c8)) (W (aB gg (.ref i) "samples") (kG b3));let mK:=λ(b3:Bool)=>W (cX .Eq (.int x) (.int 0)) (kF b3);let mJ:=λ(v2:V)=>W (cX .Eq v2 (.int y)) mK;let mI:=λ(v1:V)=>W (aR v1 (.int p)) mJ;refine bk (p:=(W (aB gg (.ref i) "tops") mI) σ) ?_;have o:=L.obj;have go:=R.obj;refine vQ ?_;refine fV ht he (kr (kr ?_))
 rcases x with _|x
 ·refine mv rfl ?_
  rcases y with _|y
  ·refine mv rfl ?_;refine ku ?_;exact q
  ·refine iy (VJ y) ?_;refine mV ?_;refine jw dN ?_;refine di ?_;rw[hU];exact wz R hp hx (lt_of_succ_lt hy) q
 ·refine iy (AE x) ?_;have Lp:=lt_of_succ_lt hx;refine mV ?_;refine jw dN ?_;refine di ?_;rw[hU];refine wz R hp Lp hy ?_
  rcases y with _|y
  ·exact mv rfl q
  ·refine iy (VJ y) ?_;have vi:=lt_of_succ_lt hy;refine mV ?_;refine jw dN ?_;refine di ?_;rw[hU];refine wz R hp hx vi ?_;refine qi ?_;refine mV ?_;refine jw dN ?_;refine di (di ?_);rw[hU,hU];exact wz R hp Lp vi (wt L.hk q)
theorem Mm(L:DF σ i g k mid t)(R:et σ g r m w h G pp qq)(hp:p<m)(hx:x<w)(hy:y<h)(ht:σ[t]?=some (.cG (fu S) c))(hS:p∈S\/y=0)(hf:cM (fu S).length=true)(q:∀τ c',Up [t] σ τ->τ[t]?=some (.cG (fu (sT p S)) c')->Q (.int (ky k mid (G p) y x)) τ):W ((ag gg (n+26)).C (ah 16 2) [.ref i,.int p,.int x,.int y]) Q σ:=by
 let aO:=λ(_:Unit)=>aS (ay gg (n+25)) (ah 16 2).sc ((ah 16 2).body.drop 1) ⟨[("self",.ref i),("place",.int p),("x",.int x),("y",.int y)],[]⟩ (cz Q);let aZ:=λ(v3:V)=>W (iI v3 (.int p) (.int y)) aO;let bW:=λ(b2:Bool)=>cR b2 (W (aB gg (.ref i) "tops") aZ) (aS (ay gg (n+25)) (ah 16 2).sc ((ah 16 2).body.drop 1) ⟨[("self",.ref i),("place",.int p),("x",.int x),("y",.int y)],[]⟩ (cz Q));let c8:=λ(v1:V)=>W (cX .NotIn (.int p) v1) bW;refine ce (p:=(W (aB gg (.ref i) "tops") c8) σ) ?_;have o:=L.obj;refine vQ ?_;refine Kl ht ?_;have ha:=sd (p:=p) (S:=S);by_cases hm:p∈S
 ·rw[if_pos hm]at ha;rw[ha];refine iy rfl (KV L R hp hx hy ht ha (q σ c .refl ?_))
  rwa[sT,if_pos hm]
 ·rw[if_neg hm]at ha;rw[ha];refine mv rfl ?_;refine vQ ?_;have y0:=hS.resolve_left hm;subst y0;refine se ht hf λτ u e=>?_;replace e:=ha▸e;have e':τ[t]?=some (.cG (fu (sT p S)) (c+1)):=by rw[sT,if_neg hm];exact e.trans (by rw[show((0:Nat):Int)=0 from rfl,Dv hm];rfl)
  have R':=R.keep (τ:=τ) λj d hd hj=>u.ne hd ?_
  ·exact KV ⟨u.ne o (bV o ht nofun),L.hk⟩ R' hp hx hy e' (by rw[sd,sT,if_neg hm,if_pos (mem_append_right _ mem_cons_self)]) (q τ _ u e')
  ·intro e;subst e
   rcases hj with⟨v,rfl⟩|rfl
   ·exact nomatch hd.symm.trans ht
   ·exact nomatch R.obj.symm.trans ht
end
theorem aG(h:m<=1000):cM m=true:=ble_eq_true_of_le (ao h (by decide))
section
variable{ih:f5}{turn:V->ar->(Fl->ar->Pr)->Pr}{k:Fl->ar->Pr}{β:Type}{f:β->ar}{e0:ar}{a j m:Nat}{vs:List V}{st:gE}{au:af}
def S8(σ:af)(vs:List V)(st:gE):Prop:=st=.items vs\/∃j,st=.list j 0/\σ[j]?=some (aL.lst vs)
theorem kP(S:S8 σ vs st)(Inv:List V->ar->Pr)(keep:∀r e τ,Inv r e τ->Up [] σ τ)(step:∀v r env τ K,Inv (v::r) env τ->(∀e Z,Inv r e Z->K .next e Z)->turn v env K τ)(done:∀e τ,Inv [] e τ->k .next e τ)(i:Inv vs e0 au):aK (aJ ih) turn k (vs.length+1) st e0 au:=by
 rcases S with rfl|⟨j,rfl,h⟩
 ·exact ee Inv step done i (fx _)
 ·exact oz (vs:=vs) Inv (λr e τ i=>(keep r e τ i).at h) step done rfl i (fx _)
theorem ze{X:V->(Fl->ar->Pr)->Pr}(S:S8 σ vs st)(E:ar->Prop)(h0:E e0)(en:∀e v K τ,E e->v∈vs->X v K τ->turn v e K τ)(Inv:List V->Pr)(keep:∀r τ,Inv r τ->Up [] σ τ)(step:∀v r τ K,Inv (v::r) τ->(∀e Z,E e->Inv r Z->K .next e Z)->X v K τ)(done:∀e τ,E e->Inv [] τ->k .next e τ)(i:Inv vs au):aK (aJ ih) turn k (vs.length+1) st e0 au:=
 kP S (λr e τ=>Inv r τ/\(∀v∈r,v∈vs)/\E e) (λr e τ h=>keep r τ h.1) (λv r env τ K h q=>en env v K τ h.2.2 (h.2.1 v eO) (step v r τ K h.1 λe Z he i=>q e Z ⟨i,λv m=>h.2.1 v (fX _ m),he⟩)) (λe τ h=>done e τ h.2.2 h.1) ⟨i,λ_ h=>h,h0⟩
theorem kQ(S:S8 σ vs st)(he:∀b v K τ,v∈vs->turn v e0 K τ->turn v (f b) K τ)(Inv:List V->Pr)(keep:∀r τ,Inv r τ->Up [] σ τ)(step:∀v r τ K,Inv (v::r) τ->(∀b Z,Inv r Z->K .next (f b) Z)->turn v e0 K τ)(done:∀e τ,(e=e0\/∃b,e=f b)->Inv [] τ->k .next e τ)(i:Inv vs au):aK (aJ ih) turn k (vs.length+1) st e0 au:=
 kP S (λr e τ=>Inv r τ/\(∀v∈r,v∈vs)/\(e=e0\/∃b,e=f b)) (λr e τ h=>keep r τ h.1) (λv r env τ K h q=>by
  have t:=step v r τ K h.1 λb Z i=>q _ Z ⟨i,λv m=>h.2.1 v (fX _ m),.inr ⟨b,rfl⟩⟩
  rcases h.2.2 with rfl|⟨b,rfl⟩
  ·exact t
  ·exact he b v K τ (h.2.1 v eO) t) (λe τ h=>done e τ h.2.2 h.1) ⟨i,λ_ h=>h,.inl rfl⟩
theorem iP(S:S8 σ vs st)(g:V->V)(he:∀b v K τ,v∈vs->turn v e0 K τ->turn v (f b) K τ)(hl:vs.length<=1000)(u0:Up [] σ au)(l0:σ.length<=a)(h0:au[a]?=some (.lst []))(step:∀v τ K,v∈vs->Up [] σ τ->(∀b,W (d6 a (g v)) (λ_=>K .next (f b)) τ)->turn v e0 K τ)(done:∀e τ,Up [] σ τ->τ[a]?=some (.lst (vs.map g))->k .next e τ):aK (aJ ih) turn k (vs.length+1) st e0 au:=by
 refine kQ S he (λr τ=>Up [] σ τ/\∃p,p++r=vs/\τ[a]?=some (.lst (p.map g))) (λ_ _ h=>h.1) (λv r τ K ⟨u,p,e,h⟩ q=>?_) (λe τ _ ⟨u,p,e',h⟩=>done e τ u ?_) (jn u0 ([]) rfl h0)
 ·subst e;refine step v τ K (mem_append_right _ eO) u λb=>eZ h (aG ?_) λZ u' h'=>q b Z ⟨u.fresh l0 u',p++[v],by rw[append_assoc];rfl,?_⟩
  ·rw[length_map];exact ao (ao (le_add_right _ _) (Nat.le_of_eq length_append.symm)) hl
  ·rw[map_append];exact h'
 ·rw[append_nil]at e';exact e'▸h
end
theorem qX:∀m:Fin 21,mB 0 (m.val:Int) 1=some m.val:=by decide +kernel
theorem j4{m:Nat}(hm:m<21):j5 0 m 1=some ((range m).map λ(k:Nat)=>.int k):=by
 unfold j5;rw[qX ⟨m,hm⟩];refine congrArg some (dW λk _=>?_);rw[Int.zero_add,Int.one_mul]
theorem rP{k:Nat->Pr}(h:k a σ):gj (.ref a) k σ:=h
noncomputable def dB(m:Nat):List V:=(range m).map λ(k:Nat)=>.int k
theorem c7{N:gE×Nat->Pr}(hm:m<21)(q:N (.items (dB m),(dB m).length+1) σ):W (aQ (.hK 0 m 1)) N σ:=by
 have h:j5 0 m 1=some (dB m):=j4 hm;exact bO h (bP q)
def HW(σ:af)(p a:Nat):Prop:=σ[a]?=some (.ins "Component" [("ident",.int ((p:Int)+1)),("across",.int 1),("down",.int 1),("quant",.int 0)])
structure bT(σ:af)(f cs m w h prec:Nat)(co:Nat->Nat):Prop where
 obj:σ[f]?=some (.ins "Frame" [("kind",.str "lossless"),("precision",.int prec),("height",.int h),("width",.int w),("components",.ref cs),("n",.int 1)])
 cs:σ[cs]?=some (eX (λp=>.ref (co p)) m)
 co:∀p,p<m->HW σ p (co p)
 hm:0<m/\m<21
theorem bT.up{σ τ:af}{f cs m w h prec:Nat}{co:Nat->Nat}(u:Up [] σ τ)(F:bT σ f cs m w h prec co):bT τ f cs m w h prec co:=⟨u.at F.obj,u.at F.cs,λp hp=>Up.at u (F.co p hp),F.hm⟩
theorem ck{α:Type}{f:Nat->α}:((range m).map f).length=m:=by rw[length_map,length_range]
theorem eQ{α:Type}{f:Nat->α}(h:m<21):((range m).map f).length<=1000:=ck.symm▸ao (cF h) (by decide)
theorem fQ{α:Type}{c:α->Int}:∀{l:List α},bU (l.map λk=>.int (c k))=some (l.map c):=by
 intro l0
 induction l0 with
 |nil=>
  exact rfl
 |cons a l hi=>
  show(bU (l.map λk=>.int (c k))).map (c a:: ·)=_;rw[hi];rfl
theorem xi:∀m:Fin 21,0<m.val->Cd ((range m.val).map λ_=>1)=some 1:=by decide +kernel
section
variable{f cs m w h prec:Nat}{co:Nat->Nat}
theorem mc(F:bT σ f cs m w h prec co)(q:∀τ,Up [] σ τ->Q (.int 1) τ):W ((ag gg (n+11)).C (ah 27 1) [.ref f]) Q σ:=by
 let aO:=λ(v6:V)=>Q v6;let aZ:=λ(v2:V)=>W (aQ v2) λc9=>W (dq (.lst [])) λhH=>gj hH λa5=>aK (aJ (ag gg (n+7))) (eA (ay gg (n+7)) (jv 0 (ew (aF (ah 27 1).body [0]))) a5) (λ_ _=>W (aU "max" [.ref a5]) aO) c9.2 c9.1 ⟨[],[]⟩;refine ce (p:=(W (aB gg (.ref f) "components") aZ) σ) ?_;have o:=F.obj;refine DD ?_;refine dj F.cs (bG λa τ u l h0=>rP ?_);refine iP (σ:=σ) (f:=λv=>⟨[("component",v)],[]⟩) (.inr ⟨cs,rfl,F.cs⟩) (λ_=>.int 1) (λb v K τ _ h=>bk h) (eQ F.hm.2) u l h0 (λv τ K hv u q=>?_) λe τ u h=>?_
 ·obtain⟨p,hp,rfl⟩:=mem_map.mp hv;have o:=Up.at u (F.co p (mem_range.mp hp));let aO:=λ(v1:V)=>W (d6 a v1) λ_=>K .next ⟨[("component",.ref (co p))],[]⟩;refine bk (p:=(W (aB gg (.ref (co p)) "across") aO) τ) ?_;refine qi ?_;exact q _
 ·rw[List.map_map]at h;exact vM h fQ (xi ⟨m,F.hm.2⟩ F.hm.1) (q τ u)
theorem o8(F:bT σ f cs m w h prec co)(q:∀τ,Up [] σ τ->Q (.int 1) τ):W ((ag gg (n+11)).C (ah 27 2) [.ref f]) Q σ:=by
 let aO:=λ(v6:V)=>Q v6;let aZ:=λ(v2:V)=>W (aQ v2) λc9=>W (dq (.lst [])) λhH=>gj hH λa5=>aK (aJ (ag gg (n+7))) (eA (ay gg (n+7)) (jv 0 (ew (aF (ah 27 2).body [0]))) a5) (λ_ _=>W (aU "max" [.ref a5]) aO) c9.2 c9.1 ⟨[],[]⟩;refine ce (p:=(W (aB gg (.ref f) "components") aZ) σ) ?_;have o:=F.obj;refine DD ?_;refine dj F.cs (bG λa τ u l h0=>rP ?_);refine iP (σ:=σ) (f:=λv=>⟨[("component",v)],[]⟩) (.inr ⟨cs,rfl,F.cs⟩) (λ_=>.int 1) (λb v K τ _ h=>bk h) (eQ F.hm.2) u l h0 (λv τ K hv u q=>?_) λe τ u h=>?_
 ·obtain⟨p,hp,rfl⟩:=mem_map.mp hv;have o:=Up.at u (F.co p (mem_range.mp hp));let aO:=λ(v1:V)=>W (d6 a v1) λ_=>K .next ⟨[("component",.ref (co p))],[]⟩;refine bk (p:=(W (aB gg (.ref (co p)) "down") aO) τ) ?_;refine ku ?_;exact q _
 ·rw[List.map_map]at h;exact vM h fQ (xi ⟨m,F.hm.2⟩ F.hm.1) (q τ u)
theorem jc(F:bT σ f cs m w h prec co)(q:∀τ,Up [] σ τ->Q (.int w) τ):W ((ag gg (n+16)).C (ah 27 3) [.ref f]) Q σ:=by
 let aO:=λ(v6:V)=>Q v6;let aZ:=λ(v1:V) (v5:V)=>W ((ag gg (n+13)).C (aa 25) [v1,v5]) aO;let bW:=λ(v1:V) (v2:V) (v3:V)=>W (ai .Mult v2 v3) (aZ v1);let c8:=λ(v1:V) (v2:V)=>W (az gg (.ref f) "most_across") (bA (ag gg (n+11)) (λK4=>K4 []) (.ref f) (bW v1 v2));let dG:=λ(v1:V)=>W (aB gg (.ref f) "n") (c8 v1);refine ce (p:=(W (aB gg (.ref f) "width") dG) σ) ?_;have o:=F.obj;refine vQ ?_;refine Kt ?_;refine jw gJ ?_;exact mc F λτ u=>dX rfl (jy (q τ u))
theorem o9(F:bT σ f cs m w h prec co)(q:∀τ,Up [] σ τ->Q (.int h) τ):W ((ag gg (n+16)).C (ah 27 4) [.ref f]) Q σ:=by
 let aO:=λ(v6:V)=>Q v6;let aZ:=λ(v1:V) (v5:V)=>W ((ag gg (n+13)).C (aa 25) [v1,v5]) aO;let bW:=λ(v1:V) (v2:V) (v3:V)=>W (ai .Mult v2 v3) (aZ v1);let c8:=λ(v1:V) (v2:V)=>W (az gg (.ref f) "most_down") (bA (ag gg (n+11)) (λK4=>K4 []) (.ref f) (bW v1 v2));let dG:=λ(v1:V)=>W (aB gg (.ref f) "n") (c8 v1);refine ce (p:=(W (aB gg (.ref f) "height") dG) σ) ?_;have o:=F.obj;refine ku ?_;refine Kt ?_;refine jw iG ?_;exact o8 F λτ u=>dX rfl (jy (q τ u))
theorem m5(F:bT σ f cs m w h prec co)(hp:p<m)(q:∀τ,Up [] σ τ->Q (.tup [.int w,.int h]) τ):W ((ag gg (n+21)).C (ah 27 5) [.ref f,.int p]) Q σ:=by
 let aO:=λ(v8:V) (pY:V)=>Q (.tup [v8,pY]);let aZ:=λ(v8:V) (v11:V) (kJ:V)=>W ((ag gg (n+17)).C (aa 25) [v11,kJ]) (aO v8);let bW:=λ(v8:V) (v11:V)=>W (az gg (.ref f) "most_down") (bA (ag gg (n+16)) (λVx=>Vx []) (.ref f) (aZ v8 v11));let c8:=λ(v8:V) (v9:V) (v10:V)=>W (ai .Mult v9 v10) (bW v8);let dG:=λ(v2:V) (v8:V) (v9:V)=>W (aB gg v2 "down") (c8 v8 v9);let dR:=λ(v2:V) (v8:V)=>W (aB gg (.ref f) "height") (dG v2 v8);let fC:=λ(v2:V) (v5:V) (v6:V)=>W ((ag gg (n+18)).C (aa 25) [v5,v6]) (dR v2);let gX:=λ(v2:V) (v5:V)=>W (az gg (.ref f) "most_across") (bA (ag gg (n+17)) (λK7=>K7 []) (.ref f) (fC v2 v5));let iU:=λ(v2:V) (v3:V) (v4:V)=>W (ai .Mult v3 v4) (gX v2);let eE:=λ(v2:V) (v3:V)=>W (aB gg v2 "across") (iU v2 v3);let fj:=λ(v2:V)=>W (aB gg (.ref f) "width") (eE v2);let gY:=λ(v1:V)=>W (aR v1 (.int p)) fj;refine ce (p:=(W (aB gg (.ref f) "components") gY) σ) ?_;have hm:=ao (cF F.hm.2) (by decide:21<=1000);have o:=F.obj;have c:=F.co p hp;refine DD ?_;refine bX F.cs hp hm ?_;refine vQ ?_;refine bc c (by exact oS (by kernel_rfl)) (by kernel_rfl) (dX rfl ?_);refine jw gJ ?_;refine mc F λτ u=>?_;rw[Int.mul_one];refine jy ?_;have F:=F.up u;have o:=F.obj;have c:=F.co p hp;refine ku ?_;refine bc c (by exact rJ (by kernel_rfl)) (by kernel_rfl) (dX rfl ?_);refine jw iG ?_;refine o8 F λZ u'=>?_;rw[Int.mul_one];exact jy (q Z (u.trans u'))
theorem wD(F:bT σ f cs m w h prec co)(hp:p<m)(q:∀τ,Up [] σ τ->Q (.tup [.int w,.int h]) τ):W ((ag gg (n+26)).C (ah 27 6) [.ref f,.int p]) Q σ:=by
 let aO:=λ(v1:V)=>sG v1 λMq=>R (eF (ah 27 6).sc ⟨[("self",.ref f),("place",.int p)],[]⟩ (qI (kA (aF (ah 27 6).body [0]))) Mq) λe4=>aS (ay gg (n+25)) (ah 27 6).sc ((ah 27 6).body.drop 1) e4 (cz Q);refine ce (p:=(W (az gg (.ref f) "plane_size") (bA (ag gg (n+23)) (λK2=>K2 [.int p]) (.ref f) aO)) σ) ?_;have o:=F.obj;refine jw hV ?_;refine m5 F hp λτ u=>?_;let aO:=λ(v2:V) (v4:V)=>Q (.tup [v2,v4]);let aZ:=λ(v2:V) (v3:V)=>W ((ag gg (n+22)).C (aa 25) [.int h,v3]) (aO v2);let bW:=λ(v2:V)=>W (aB gg (.ref f) "n") (aZ v2);let c8:=λ(v1:V)=>W ((ag gg (n+22)).C (aa 25) [.int w,v1]) bW;refine bk (p:=(W (aB gg (.ref f) "n") c8) τ) ?_;have o:=u.at F.obj;refine Kt ?_;refine jy ?_;refine Kt ?_;exact jy (q τ u)
theorem wx(F:bT σ f cs m w h prec co)(hp:p<m)(q:∀τ,Up [] σ τ->Q (.tup [.int w,.int h]) τ):W ((ag gg (n+21)).C (ah 27 7) [.ref f,.int p]) Q σ:=by
 let aO:=λ(v6:V) (v10:V)=>Q (.tup [v6,v10]);let aZ:=λ(v6:V) (v7:V) (v9:V)=>W (ai .Mult v7 v9) (aO v6);let bW:=λ(v2:V) (v6:V) (v7:V)=>W (aB gg v2 "down") (aZ v6 v7);let c8:=λ(v2:V) (v6:V)=>W (az gg (.ref f) "mcus_down") (bA (ag gg (n+16)) (λK8=>K8 []) (.ref f) (bW v2 v6));let dG:=λ(v2:V) (v3:V) (v5:V)=>W (ai .Mult v3 v5) (c8 v2);let dR:=λ(v2:V) (v3:V)=>W (aB gg v2 "across") (dG v2 v3);let fC:=λ(v2:V)=>W (az gg (.ref f) "mcus_across") (bA (ag gg (n+16)) (λK4=>K4 []) (.ref f) (dR v2));let gX:=λ(v1:V)=>W (aR v1 (.int p)) fC;refine ce (p:=(W (aB gg (.ref f) "components") gX) σ) ?_;have hm:=ao (cF F.hm.2) (by decide:21<=1000);have o:=F.obj;refine DD ?_;refine bX F.cs hp hm ?_;refine jw eP ?_;refine jc F λτ u=>?_;have F:=F.up u;have o:=F.obj;have c:=F.co p hp;refine bc c (by exact oS (by kernel_rfl)) (by kernel_rfl) (dX rfl ?_);rw[Int.mul_one];refine jw iH ?_;refine o9 F λZ u'=>?_;have c:=Up.at u' c;refine bc c (by exact rJ (by kernel_rfl)) (by kernel_rfl) (dX rfl ?_);rw[Int.mul_one];exact q Z (u.trans u')
end
theorem zP{c:Int}:∀m:Nat,(replicate m c).foldl (λm x=>if m<x then x else m) c=c:=by
 intro l0
 induction l0 with
 |zero=>
  exact rfl
 |succ m hi=>
  rw[replicate_succ,foldl_cons,if_neg (Int.lt_irrefl c)];exact hi
theorem tE{c:Int}{m:Nat}(h:0<m):Cd ((range m).map λ_=>c)=some c:=by
 rw[map_const',length_range]
 induction m using Nat.casesOn with
 |zero=>exact absurd h (Nat.lt_irrefl 0)
 |succ m=>exact congrArg some (zP m)
theorem xf(q:∀i τ,Up [] σ τ->σ.length<=i->τ[i]?=some (.ins "Component" [("ident",a),("across",b),("down",c),("quant",d)])->Q (.ref i) τ):W (cx gg (ag gg (n+11)) (.cls "Component") [a,b,c,d]) Q σ:=
 sY (n:=n+10) (fi:=(ah 26 0)) (l:=[("ident",a),("across",b),("down",c),("quant",d)]) (λi K τ=>by kernel_rfl) (by kernel_rfl) q
theorem Ja(q:∀i τ,Up [] σ τ->σ.length<=i->τ[i]?=some (.ins "Frame" [("kind",a),("precision",b),("height",c),("width",d),("components",e),("n",f)])->Q (.ref i) τ):W (cx gg (ag gg (n+11)) (.cls "Frame") [a,b,c,d,e,f]) Q σ:=
 sY (n:=n+10) (fi:=(ah 27 0)) (l:=[("kind",a),("precision",b),("height",c),("width",d),("components",e),("n",f)]) (λi K τ=>by kernel_rfl) (by kernel_rfl) q
theorem Ca(q:∀i τ,Up [] σ τ->σ.length<=i->τ[i]?=some (.ins "Picture" [("model",a),("precision",b),("planes",c)])->Q (.ref i) τ):W (cx gg (ag gg (n+11)) (.cls "Picture") [a,b,c]) Q σ:=
 sY (n:=n+10) (fi:=(ah 81 0)) (l:=[("model",a),("precision",b),("planes",c)]) (λi K τ=>by kernel_rfl) (by kernel_rfl) q
structure jZ(σ:af)(i pl m w h prec:Nat)(md:Str)(G:Nat->Nat->Nat->Int)(po rr:Nat->Nat)(qq:Nat->Nat->Nat):Prop where
 obj:σ[i]?=some (.ins "Picture" [("model",.str md),("precision",.int prec),("planes",.ref pl)])
 sA:σ[pl]?=some (eX (λp=>.ref (po p)) m)
 pn:∀p,p<m->ja σ (po p) w h (G p) (rr p) (qq p)
 hm:0<m/\m<21
section
variable{i pl m w h prec:Nat}{md:Str}{G:Nat->Nat->Nat->Int}{po rr:Nat->Nat}{qq:Nat->Nat->Nat}
theorem ja.up{G:Nat->Nat->Int}{q:Nat->Nat}(u:Up [] σ τ)(P:ja σ i w h G r q):ja τ i w h G r q:=⟨u.at P.obj,P.rows.keep λ_ _ h=>u.at h⟩
theorem jZ.up(u:Up [] σ τ)(P:jZ σ i pl m w h prec md G po rr qq):jZ τ i pl m w h prec md G po rr qq:=⟨u.at P.obj,u.at P.sA,λp hp=>(P.pn p hp).up u,P.hm⟩
theorem wu(P:jZ σ i pl m w h prec md G po rr qq)(q:∀τ,Up [] σ τ->Q (.int w) τ):W ((ag gg (n+11)).C (ah 81 1) [.ref i]) Q σ:=by
 let aO:=λ(v6:V)=>Q v6;let aZ:=λ(v2:V)=>W (aQ v2) λc9=>W (dq (.lst [])) λhH=>gj hH λa5=>aK (aJ (ag gg (n+7))) (eA (ay gg (n+7)) (jv 0 (ew (aF (ah 81 1).body [0]))) a5) (λ_ _=>W (aU "max" [.ref a5]) aO) c9.2 c9.1 ⟨[],[]⟩;refine ce (p:=(W (aB gg (.ref i) "planes") aZ) σ) ?_;have o:=P.obj;refine ku ?_;refine dj P.sA (bG λa τ u l h0=>rP ?_);refine iP (σ:=σ) (f:=λv=>⟨[("plane",v)],[]⟩) (.inr ⟨pl,rfl,P.sA⟩) (λ_=>.int w) (λb v K τ _ h=>bk h) (eQ P.hm.2) u l h0 (λv τ K hv u q=>?_) λe τ u h=>?_
 ·obtain⟨p,hp,rfl⟩:=mem_map.mp hv;have o:=u.at (P.pn p (mem_range.mp hp)).obj;let aO:=λ(v1:V)=>W (d6 a v1) λ_=>K .next ⟨[("plane",.ref (po p))],[]⟩;refine bk (p:=(W (aB gg (.ref (po p)) "width") aO) τ) ?_;refine mV ?_;exact q _
 ·rw[List.map_map]at h;exact vM h fQ (tE P.hm.1) (q τ u)
theorem uf(P:jZ σ i pl m w h prec md G po rr qq)(q:∀τ,Up [] σ τ->Q (.int h) τ):W ((ag gg (n+11)).C (ah 81 2) [.ref i]) Q σ:=by
 let aO:=λ(v6:V)=>Q v6;let aZ:=λ(v2:V)=>W (aQ v2) λc9=>W (dq (.lst [])) λhH=>gj hH λa5=>aK (aJ (ag gg (n+7))) (eA (ay gg (n+7)) (jv 0 (ew (aF (ah 81 2).body [0]))) a5) (λ_ _=>W (aU "max" [.ref a5]) aO) c9.2 c9.1 ⟨[],[]⟩;refine ce (p:=(W (aB gg (.ref i) "planes") aZ) σ) ?_;have o:=P.obj;refine ku ?_;refine dj P.sA (bG λa τ u l h0=>rP ?_);refine iP (σ:=σ) (f:=λv=>⟨[("plane",v)],[]⟩) (.inr ⟨pl,rfl,P.sA⟩) (λ_=>.int h) (λb v K τ _ h=>bk h) (eQ P.hm.2) u l h0 (λv τ K hv u q=>?_) λe τ u h=>?_
 ·obtain⟨p,hp,rfl⟩:=mem_map.mp hv;have o:=u.at (P.pn p (mem_range.mp hp)).obj;let aO:=λ(v1:V)=>W (d6 a v1) λ_=>K .next ⟨[("plane",.ref (po p))],[]⟩;refine bk (p:=(W (aB gg (.ref (po p)) "height") aO) τ) ?_;refine qi ?_;exact q _
 ·rw[List.map_map]at h;exact vM h fQ (tE P.hm.1) (q τ u)
theorem cO{α:Type}{f:Nat->α}{m k:Nat}{v:α}{r:List α}(e:((range m).map f).drop k=v::r):k<m/\v=f k/\((range m).map f).drop (k+1)=r:=by
 have hk:k<m:=lt_of_not_le λh=>by
  replace e:=Eq.trans (Eq.symm (drop_eq_nil_iff.mpr (ck.symm▸h))) e;refine absurd e (λh=>?_);cases h
 have:=drop_eq_getElem_cons (l:=(range m).map f) (i:=k) (ck.symm▸hk);rw[e]at this;obtain⟨e1,e2⟩:=List.cons.inj this;rw[getElem_map,getElem_range]at e1;exact⟨hk,e1,e2.symm⟩
theorem dA{α:Type}{f:Nat->α}(hk:k<=m)(e:((range m).map f).drop k= []):k=m:=by
 have:=drop_eq_nil_iff.mp e;rw[ck]at this;exact Nat.le_antisymm hk this
theorem w3{f:Nat->V}:(range k).map f++[f k]=(range (k+1)).map f:=by rw[range_succ,map_append];rfl
theorem SF(f:Nat->V):aL.lst []=eX f 0:=rfl
end
theorem AI{P:Nat->Nat->Prop}(h:∀p a,l[p]?=some a->P p a)(hi:P l.length i)(p a:Nat)(e:(l++[i])[p]?=some a):P p a:=by
 replace e:=Eq.trans (Eq.symm (List.getElem?_append)) e
 split at e
 ·exact h p a e
 ·rename_i hp;replace e:=Eq.trans (Eq.symm (List.getElem?_singleton)) e
  split at e
  ·obtain rfl:=bE e;have:p=l.length:=Nat.le_antisymm (Nat.sub_eq_zero_iff_le.mp ‹_›) (le_of_not_lt hp);exact this▸hi
  ·exact cT e
theorem r9{g:Nat->V}{l:List Nat}{m:Nat}(h:l.length=m):aL.lst (l.map g)=eX (λp=>g (l.getD p 0)) m:=by
 subst h;refine congrArg aL.lst (ext_getElem? λp=>?_);by_cases hp:p<l.length
 ·rw[getElem?_map,tH hp,getElem?_eq_getElem hp,getD_eq_getElem?_getD,getElem?_eq_getElem hp];rfl
 ·rw[getElem?_eq_none (length_map g▸le_of_not_lt hp),getElem?_eq_none (ck.symm▸le_of_not_lt hp)]
section
variable{i pl m w h prec:Nat}{md:Str}{G:Nat->Nat->Nat->Int}{po rr:Nat->Nat}{qq:Nat->Nat->Nat}
theorem jz(P:jZ σ i pl m w h prec md G po rr qq)(hs:σ[s]?=some (eX (λ_=>.tup [.int 1,.int 1]) m))(q:∀τ f cs co,Up [] σ τ->bT τ f cs m w h prec co->Q (.ref f) τ):W ((ag gg (n+41)).C (aa 31) [.ref i,.ref s]) Q σ:=by
 let aO:=λ(v1:V) (v4:V)=>W (aQ v4) λxp=>aK (aJ (ag gg (n+39))) (bp (ay gg (n+39)) (aa 31).sc (aF (aa 31).body [1])) (bx (ay gg (n+40)) (aa 31).sc ((aa 31).body.drop 2) (cz Q)) xp.2 xp.1 ⟨[("picture",.ref i),("sampling",.ref s),("components",v1)],[]⟩;let aZ:=λ(v1:V) (v3:V)=>W (aX "range" [v3]) (aO v1);let bW:=λ(v1:V) (v2:V)=>W (aU "len" [v2]) (aZ v1);let c8:=λ(v1:V)=>W (aB gg (.ref i) "planes") (bW v1);refine ce (p:=(W (dE []) c8) σ) ?_;have hm:=ao (cF P.hm.2) (by decide:21<=1000);refine bZ rfl λc τ u l h0=>?_;have o:=u.at P.obj;refine ku ?_;refine dr (u.at P.sA) (aG (eQ P.hm.2)) (cy ?_);refine Eq.symm ck▸?_;refine c7 P.hm.2 ?_;refine kP (σ:=σ) (.inl rfl) (λr e τ=>Up [] σ τ/\(∃l:List Nat,(dB m).drop l.length=r/\l.length<=m/\τ[c]?=some (.lst (l.map .ref))/\∀p a,l[p]?=some a->HW τ p a)/\((∃b,e=⟨[("picture",.ref i),("sampling",.ref s),("components",.ref c),("place",b),("across",.int 1),("down",.int 1)],[]⟩)\/(∃n,r=dB n/\n=m/\e=⟨[("picture",.ref i),("sampling",.ref s),("components",.ref c)],[]⟩))) (λ_ _ _ h=>h.1) (λv r env τ K h q=>?_) (λe τ h=>?_) ⟨u,(vg ([]) rfl (zero_le _) h0 (λp a e=>nomatch e)),.inr ⟨m,rfl,rfl,rfl⟩⟩
 ·(refine bH h λu OI he=>?_;clear h;(refine nM OI λl1 e1 hl h1 h2=>?_;clear OI));(refine bH (cO e1) λhk yC e2=>?_;subst yC);let aO:=λ(K2:List V->Pr) (v4:V)=>K2 [v4];let aZ:=λ(K2:List V->Pr) (v3:V)=>W (cx gg (ag gg (n+36)) (.cls "Component") [v3,.int 1,.int 1,.int 0]) (aO K2);let bW:=λ(v1:V)=>K .next ⟨[("picture",.ref i),("sampling",.ref s),("components",.ref c),("place",.int (l1.length:Nat)),("across",.int 1),("down",.int 1)],[]⟩;have T:(W (az gg (.ref c) "append") (bA (ag gg (n+37)) (λK2 H=>(W (ai .Add (.int (l1.length:Nat)) (.int 1)) (aZ K2)) H) (.ref c) bW)) τ->bp (ay gg (n+39)) (aa 31).sc (aF (aa 31).body [1]) (.int (l1.length:Nat)) env K τ:=λt=>by
   rcases he with⟨b,rfl⟩|⟨_,_,_,rfl⟩
   ·let aO:=λ(v1:V)=>sG v1 λTA=>R (eF (aa 31).sc ⟨[("picture",.ref i),("sampling",.ref s),("components",.ref c),("place",.int (l1.length:Nat)),("across",.int 1),("down",.int 1)],[]⟩ (qI (kA (aF (aa 31).body [1,0]))) TA) λe3=>aS (ay gg (n+39)) (aa 31).sc ((dQ (aF (aa 31).body [1])).drop 1) e3 K;refine bk (p:=(W (aR (.ref s) (.int (l1.length:Nat))) aO) τ) ?_;exact bX (u.at hs) hk hm (bk t)
   ·let aO:=λ(v1:V)=>sG v1 λTA=>R (eF (aa 31).sc ⟨[("picture",.ref i),("sampling",.ref s),("components",.ref c),("place",.int (l1.length:Nat))],[]⟩ (qI (kA (aF (aa 31).body [1,0]))) TA) λe3=>aS (ay gg (n+39)) (aa 31).sc ((dQ (aF (aa 31).body [1])).drop 1) e3 K;refine bk (p:=(W (aR (.ref s) (.int (l1.length:Nat))) aO) τ) ?_;exact bX (u.at hs) hk hm (bk t)
  refine T ?_;refine Vp ig ?_;refine cq (xf λa Z u' l' h'=>nZ (u'.at h1) (aG ?_) λeM TM U1=>q _ eM ⟨(u.trans u').fresh l TM,(vg (l1++[a]) ?_ ?_ ?_ (AI (λp x e=>?_) ?_)),.inl ⟨_,rfl⟩⟩)
  ·rw[length_map];exact ao hl hm
  ·rw[length_append];exact e2
  ·rw[length_append];exact hk
  ·rw[map_append];exact U1
  ·have:=Up.at u' (h2 p x e);exact TM.ne this (bV this (u'.at h1) nofun)
  ·exact TM.ne h' (bV h' (u'.at h1) nofun)
 ·(refine bH h λu iA he=>?_;clear h;(refine nM iA λl1 e1 hl h1 h2=>?_;clear iA));have Wd:=dA hl e1
  rcases he with⟨b,rfl⟩|⟨k,e,rfl,_⟩
  ·let aO:=λ(v6:V) (v9:V)=>W (aQ v9) λxr=>aK (aJ (ag gg (n+39))) (bp (ay gg (n+39)) (aa 31).sc (aF (aa 31).body [3])) (bx (ay gg (n+40)) (aa 31).sc ((aa 31).body.drop 4) (cz Q)) xr.2 xr.1 ⟨[("picture",.ref i),("sampling",.ref s),("components",.ref c),("place",b),("across",.int 1),("down",.int 1),("frame",v6)],[]⟩;let aZ:=λ(v6:V) (v8:V)=>W (aX "range" [v8]) (aO v6);let bW:=λ(v6:V) (v7:V)=>W (aU "len" [v7]) (aZ v6);let c8:=λ(v6:V)=>W (aB gg (.ref i) "planes") (bW v6);let dG:=λ(v1:V) (v2:V) (v4:V)=>W (cx gg (ag gg (n+38)) (.cls "Frame") [.str "lossless",v1,v2,v4,.ref c,.int 1]) c8;let dR:=λ(v1:V) (v2:V)=>W (az gg (.ref i) "width") (bA (ag gg (n+37)) (λK5=>K5 []) (.ref i) (dG v1 v2));let fC:=λ(v1:V)=>W (az gg (.ref i) "height") (bA (ag gg (n+37)) (λK3=>K3 []) (.ref i) (dR v1));refine bk (p:=(W (aB gg (.ref i) "precision") fC) τ) ?_;have P:=P.up u;have o:=P.obj;refine qi ?_;refine jw nt ?_;refine uf P λeW u1=>?_;have o:=u1.at o;refine jw oD ?_;refine wu (P.up u1) λdM u2=>Ja λf gT u3 _ hf=>?_;have u':=(u1.trans u2).trans u3;have P:=P.up u';have o:=P.obj;refine ku ?_;refine dr P.sA (aG (eQ P.hm.2)) (cy ?_);refine Eq.symm ck▸?_;have F:bT gT f c m w h prec (λp=>l1.getD p 0):=⟨hf,(u'.at h1).trans (congrArg some (r9 Wd)),λp hp=>Up.at u' (h2 p _ (by rw[getD_eq_getElem?_getD,getElem?_eq_getElem (Wd.symm▸hp)];rfl)),P.hm⟩;refine c7 P.hm.2 (kQ (σ:=gT) (f:=λb':V×V=>⟨[("picture",.ref i),("sampling",.ref s),("components",.ref c),("place",b'.1),("across",.int 1),("down",.int 1),("frame",.ref f),("plane",b'.2)],[]⟩) (.inl rfl) (λ_ v K τ _ h=>bk h) (λr τ=>Up [] gT τ/\∃k,(dB m).drop k=r) (λ_ _ h=>h.1) (λv r jx K h q=>?_) (λe jx he h=>?_) ⟨.refl,0,rfl⟩)
   ·(refine pP h λu4 k e=>?_;clear h);(refine bH (cO e) λhk Ef e2=>?_;subst Ef);let aO:=λ(v2:V) (b7:Bool)=>cR b7 no (K .next ⟨[("picture",.ref i),("sampling",.ref s),("components",.ref c),("place",.int k),("across",.int 1),("down",.int 1),("frame",.ref f),("plane",v2)],[]⟩);let aZ:=λ(v2:V) (v3:V) (v4:V) (v5:V)=>W (cX .NotEq (.tup [v3,v4]) v5) (aO v2);let bW:=λ(v2:V) (v3:V) (v4:V)=>W (az gg (.ref f) "plane_size") (bA (ag gg (n+36)) (λK6=>K6 [.int k]) (.ref f) (aZ v2 v3 v4));let c8:=λ(v2:V) (v3:V)=>W (aB gg v2 "height") (bW v2 v3);let dG:=λ(v2:V)=>W (aB gg v2 "width") (c8 v2);let dR:=λ(v1:V)=>W (aR v1 (.int k)) dG;refine bk (p:=(W (aB gg (.ref i) "planes") dR) jx) ?_;have P:=P.up u4;have o:=P.obj;refine ku ?_;refine bX P.sA hk hm ?_;have o':=(P.pn k hk).obj;refine bc o' (by exact vt (by kernel_rfl)) (by kernel_rfl) (bc o' (by exact oS (by kernel_rfl)) (by kernel_rfl) ?_);have o:=u4.at hf;refine jw hV ?_;exact m5 (F.up u4) hk λsW u5=>Sb rfl rfl (iy rfl (q (_,_) sW ⟨u4.trans u5,k+1,e2⟩))
   ·have q:=q jx f c _ (u.trans (u'.trans h.1)) (F.up h.1)
    rcases he with rfl|⟨b,rfl⟩
    ·exact bk (p:=Q (.ref f) jx) q
    ·exact bk (p:=Q (.ref f) jx) q
  ·have:=congrArg List.length e;rw[dB,ck]at this;exact absurd P.hm.1 (this▸Nat.lt_irrefl 0)
end
noncomputable def LJ(w:Nat):aL:=eX (λ_=>.int 0) w
theorem KA:(replicate w [V.int 0]).flatten=(range w).map λ_=>.int 0:=by
 rw[map_const',length_range]
 induction w with
 |zero=>rfl
 |succ w ih=>rw[replicate_succ,flatten_cons,ih];rfl
structure n4(σ τ:af)(w:Nat)(l:List Nat):Prop where
 lo:∀a∈l,σ.length<=a
 row:∀a∈l,τ[a]?=some (LJ w)
 nd:l.Nodup
theorem n4.push(N:n4 σ τ w l)(u:∀(j:Nat)(c:aL),τ[j]?=some c->j∈l->Z[j]?=some c)(la:τ.length<=a)(l0:σ.length<=τ.length)(h:Z[a]?=some (LJ w)):n4 σ Z w (l++[a]) where
 lo b hb:=(mem_append.mp hb).elim (N.lo b) λe=>bz e▸ao l0 la
 row b hb:=(mem_append.mp hb).elim (λe=>u b _ (N.row b e) e) λe=>bz e▸h
 nd:=nodup_append.mpr ⟨N.nd,nodup_cons.mpr ⟨not_mem_nil,nodup_nil⟩,λx hx y hy e=>dH la (bz hy▸e▸eG (N.row x hx))⟩
theorem wo{R:Nat->Pr}(hw:w<=1000)(hh:h<21)(q:∀τ b l,Up [] σ τ->n4 σ τ w l->l.length=h->σ.length<=b->b∉l->τ[b]?=some (.lst (l.map .ref))->R b τ):(W (aX "range" [.int h]) λv2=>W (aQ v2) λc9=>W (dq (.lst [])) λhH=>gj hH λa5=>aK (aJ (ag gg (n+16))) (eA (ay gg (n+16)) (jv 0 (ew (aF (ah 19 0).body [0]))) a5) (λ_ _=>R a5) c9.2 c9.1 ⟨[],[("width",.int w)]⟩) σ:=by
 refine cy (c7 hh (bG λb τ u l0 h0=>rP ?_));refine kQ (σ:=σ) (f:=λv=>⟨[("y",v)],[("width",.int w)]⟩) (.inl rfl) (λ_ v K τ _ h=>bk h) (λr τ=>Up [] σ τ/\b<τ.length/\∃l:List Nat,(dB h).drop l.length=r/\l.length<=h/\n4 σ τ w l/\b∉l/\τ[b]?=some (.lst (l.map .ref))) (λ_ _ h=>h.1) (λv r τ K ae q=>?_) (λe τ _ ae=>?_) (rz u (eG h0) ([]) rfl (zero_le _) ⟨nofun,nofun,nodup_nil⟩ not_mem_nil h0)
 ·(refine rT ae λu hb l e hl N hn hc=>?_;clear ae);(refine bH (cO e) λhk yC e2=>?_;subst yC);let aO:=λ(v2:V)=>W (d6 b v2) λ_=>K .next ⟨[("y",.int (l.length:Nat))],[("width",.int w)]⟩;let aZ:=λ(v1:V)=>W (ai .Mult v1 (.int w)) aO;refine bk (p:=(W (dE [.int 0]) aZ) τ) ?_;refine bZ rfl λz eW u1 _ h1=>sj h1 (GR hw) (bZ ?_ λa dM u2 l2 h2=>?_)
  ·rw[toNat_natCast,KA];exact aG (ck.symm▸hw)
  ·rw[toNat_natCast,KA]at h2;have u':=u1.trans u2;have la:=ao u1.1 l2;refine eZ (u'.at hc) (aG ?_) λgT u3 h3=>q (.int (l.length:Nat)) gT (rz ((u.trans u').fresh l0 u3) (d5 hb (ao u'.1 u3.1)) (l++[a]) ?_ ?_ (N.push (λj c hj hm=>u3.ne (u'.at hj) λe=>hn (e▸hm)) la u.1 (u3.ne h2 ?_)) ?_ ?_)
   ·rw[length_map];exact ao hl (ao (cF hh) (by decide))
   ·rw[length_append];exact e2
   ·rw[length_append];exact hk
   ·exact λe=>dH la (e▸hb)
   ·exact λm=>(mem_append.mp m).elim hn λe=>dH la (bz e▸hb)
   ·rw[map_append];exact h3
 ·(refine rT ae λu hb l e hl N hn hc=>?_;clear ae);exact q τ b l u N (dA hl e) l0 hn hc
theorem ud(hw:0<w){f:Nat->V}(hP:∀v∈P,∃a,v=V.ref a)(hf:∀x,∃i,f x=.int i):eX f w≠aL.lst P:=λe=>by
 have e:=aL.lst.inj e;obtain⟨i,hi⟩:=hf 0;obtain⟨a,ha⟩:=hP (f 0) (e▸mem_map.mpr ⟨0,mem_range.mpr hw,rfl⟩);replace ha:=Eq.trans (Eq.symm hi) ha;exact V.noConfusion ha
theorem E0{l:List Nat}:∀v∈l.map V.ref,∃a,v=V.ref a:=λv h=>let ⟨a,_,e⟩:=mem_map.mp h;⟨a,e.symm⟩
theorem wY{f:Nat->Nat}:∀v∈(range m).map (λk=>V.ref (f k)),∃a,v=V.ref a:=λv h=>let ⟨a,_,e⟩:=mem_map.mp h;⟨f a,e.symm⟩
def Sl(q:Nat->Nat->Nat)(m h:Nat):Prop:=∀k y k' y',k<m->y<h->k'<m->y'<h->q k y=q k' y'->k=k'/\y=y'
theorem ip{l:List Nat}{y:Nat}(h:y<l.length):l[y]?=some (l.getD y 0):=by rw[getD_eq_getElem?_getD,getElem?_eq_getElem h];rfl
theorem getD_mem{l:List Nat}{y:Nat}(h:y<l.length):l.getD y 0∈l:=fP (ip h)
theorem Sl.push{q:Nat->Nat->Nat}{m h b:Nat}{l:List Nat}(I:Sl q m h)(lo:∀k y,k<m->y<h->q k y<b)(hi:∀a∈l,b<=a)(nd:l.Nodup)(hl:l.length=h):Sl (λk y=>if k=m then l.getD y 0 else q k y) (m+1) h:=by
 subst hl;intro k y k' y' hk hy kK vi e;have lt:∀{k},k<m+1->¬k=m->k<m:=λh n=>Nat.lt_of_le_of_ne (le_of_lt_succ h) n;by_cases h1:k=m<;>by_cases h2:k'=m<;>simp only[h1,h2,if_true,if_false]at e
 ·refine⟨h1.trans h2.symm,?_⟩;have:=(ip hy).trans ((congrArg some e).trans (ip vi).symm);exact(getElem?_inj hy nd).mp this
 ·exact absurd (lo k' y' (lt kK h2) vi) (dH (e▸hi _ (getD_mem hy)))
 ·exact absurd (lo k y (lt hk h1) hy) (dH (e▸hi _ (getD_mem vi)))
 ·exact I k y k' y' (lt hk h1) hy (lt kK h2) vi e
structure pU(σ:af)(i r m w h:Nat)(G:Nat->Nat->Nat->Int)(p:Nat->Nat)(q:Nat->Nat->Nat):Prop where
 at':et σ i r m w h G p q
 inj:Sl q m h
theorem vh{i s m w h:Nat}(V3:σ[s]?=some (eX (λ_=>.tup [.int w,.int h]) m))(hi:σ[i]?=some (.ins "SampleGrid" []))(hm:m<21)(hw:0<w/\w<=1000)(hh:h<21)(q:∀τ r p qq,Up [i] σ τ->pU τ i r m w h (λ_ _ _=>0) p qq->(∀k y,k<m->y<h->σ.length<=qq k y)->Q .none τ):W ((ag gg (n+21)).C (ah 19 0) [.ref i,.ref s]) Q σ:=by
 let aO:=λ(_:Unit)=>Q .none;refine ce (p:=(W (aQ (.ref s)) λfz=>W (dq (.lst [])) λvK=>gj vK λa4=>aK (aJ (ag gg (n+18))) (eA (ay gg (n+18)) (ew (aF (ah 19 0).body [0])) a4) (λ_ _=>W (bq gg (.ref i) "rows" (.ref a4)) aO) fz.2 fz.1 ⟨[],[]⟩) σ) ?_;refine dj V3 (bG λa eW u1 l1 h1=>rP ?_);refine kQ (σ:=σ) (f:=λb:V×V=>⟨[("width",b.1),("height",b.2)],[]⟩) (.inr ⟨s,rfl,V3⟩) (λb v K τ hv h=>by
  (refine dC hv λ_ _ Er=>?_;subst Er);exact bk h) (λr Z=>Up [] σ Z/\a<Z.length/\∃(P:List Nat) (q:Nat->Nat->Nat),((range m).map λ_=>V.tup [.int w,.int h]).drop P.length=r/\P.length<=m/\(∀k y,k<P.length->y<h->Z[q k y]?=some (LJ w)/\σ.length<=q k y)/\Sl q P.length h/\Z[a]?=some (.lst (P.map .ref))/\∀k x,P[k]?=some x->x≠a/\Z[x]?=some (eX (λy=>.ref (q k y)) h)) (λ_ _ h=>h.1) (λv r Z K ae Q'=>?_) (λe Z _ ae=>?_) (nG u1 (eG h1) ([]) (λ_ _=>0) rfl (zero_le _) nofun nofun h1 nofun)
 ·(refine nP ae λu ha P q e hP hq Rl hc hx=>?_;clear ae);refine bH (cO (f:=λ_=>V.tup [.int w,.int h]) e) λhk ev e2=>?_;have ev:v=.tup [.int w,.int h]:=ev;subst ev;let aO:=λ(v2:V)=>W (aQ v2) λc9=>W (dq (.lst [])) λhH=>gj hH λa5=>aK (aJ (ag gg (n+17))) (eA (ay gg (n+17)) (jv 0 (ew (aF (ah 19 0).body [0]))) a5) (λ_ _=>W (d6 a (.ref a5)) λ_=>K .next ⟨[("width",.int w),("height",.int h)],[]⟩) c9.2 c9.1 ⟨[],[("width",.int w)]⟩;refine bk (p:=(W (aX "range" [.int h]) aO) Z) ?_;refine wo hw.2 hh λVG b l u1 N hl lb hb H7=>?_;have la:∀x∈l,x≠a:=λx hx e=>dH (N.lo x hx) (e▸ha);refine eZ (u1.at hc) (aG ?_) λXb u2 h2=>Q' (.int w,.int h) Xb (nG ((u.trans u1).fresh l1 u2) (d5 ha (ao u1.1 u2.1)) (P++[b]) (λk y=>if k=P.length then l.getD y 0 else q k y) ?_ ?_ ?_ ?_ ?_ (AI ?_ ?_))
  ·rw[length_map];exact ao hP (ao (cF hm) (by decide))
  ·refine Eq.symm (length_append)▸?_;exact e2
  ·rw[length_append];exact hk
  ·intro k y hk hy;rw[length_append]at hk;by_cases e:k=P.length
   ·simp only[e,if_true];have m:=getD_mem (hl.symm▸hy);exact⟨u2.ne (N.row _ m) (la _ m),ao u.1 (N.lo _ m)⟩
   ·simp only[e,if_false];have r:=hq k y (Nat.lt_of_le_of_ne (le_of_lt_succ hk) e) hy;have r1:=u1.at r.1;exact⟨u2.ne r1 (bV r1 (u1.at hc) (ud hw.1 E0 λ_=>⟨0,rfl⟩)),r.2⟩
  ·refine Eq.symm (length_append)▸?_;exact Rl.push (λk y hk hy=>eG (hq k y hk hy).1) N.lo N.nd hl
  ·rw[map_append];exact h2
  ·intro k x hk;have lt:k<P.length:=lt_of_not_le λh=>nomatch (getElem?_eq_none h).symm.trans hk
   refine cH (hx k x hk) λh3 h4=>?_;refine⟨h3,(u2.ne (u1.at h4) h3).trans ?_⟩;simp only[Nat.ne_of_lt lt,if_false]
  ·have nb:b≠a:=λe=>dH lb (e▸ha);refine⟨nb,(u2.ne H7 nb).trans ?_⟩;simp only[if_true];exact congrArg some (r9 hl)
 ·(refine nP ae λu ha P q' e hP hq Rl hc hx=>?_;clear ae);have hl:=dA (f:=λ_=>V.tup [.int w,.int h]) hP e;have Wk:=u.at hi;refine cQ Wk rfl (by kernel_rfl) λVG u1 h1=>?_;have ni:∀{j:Nat}{l:List V},Z[j]?=some (.lst l)->j≠i:=λh=>bV h Wk nofun;refine q VG a (λp=>P.getD p 0) q' ((u.any).trans u1) ⟨⟨h1,(u1.ne hc (ni hc)).trans (congrArg some (r9 hl)),λk hk=>⟨?_,λy hy=>?_,hw.2,ao (cF hh) (by decide)⟩,ao (cF hm) (by decide)⟩,hl▸Rl⟩ λk y hk hy=>(hq k y (hl.symm▸hk) hy).2
  ·have:=(hx k _ (ip (hl.symm▸hk))).2;exact u1.ne this (ni this)
  ·have:=(hq k y (hl.symm▸hk) hy).1;exact u1.ne this (ni this)
theorem uP{s m w h:Nat}(hs:σ[s]?=some (eX (λ_=>.tup [.int w,.int h]) m))(hm:m<21)(hw:0<w/\w<=1000)(hh:h<21)(q:∀τ i r p qq,Up [] σ τ->σ.length<=i->pU τ i r m w h (λ_ _ _=>0) p qq->(∀k y,k<m->y<h->σ.length<=qq k y)->Q (.ref i) τ):W (cx gg (ag gg (n+21)) (.cls "SampleGrid") [.ref s]) Q σ:=
 su (fi:=(ah 19 0)) (by kernel_rfl) λi τ u0 l0 hi=>vh (u0.at hs) hi hm hw hh λZ r p qq u R lo=>q Z i r p qq (u0.fresh l0 u) l0 R λk y hk hy=>ao u0.1 (lo k y hk hy)
noncomputable def EG(G:Nat->Nat->Nat->Int)(k y x:Nat)(v:Int)(k' y' x':Nat):Int:=if k'=k/\y'=y/\x'=x then v else G k' y' x'
theorem PH{α:Type}{f:Nat->α}{w x:Nat}{v:α}:((range w).map f).set x v=(range w).map λj=>if j=x then v else f j:=by
 refine ext_getElem? λj=>?_;rw[getElem?_set,getElem?_map,getElem?_map];by_cases hj:j<w
 ·rw[getElem?_range hj,ck];by_cases e:x=j
  ·simp[e,hj]
  ·have e': ¬j=x:=λh=>e h.symm;simp[e,e']
 ·rw[getElem?_eq_none (by simpa using le_of_not_lt hj),ck];by_cases e:x=j
  ·simp[e,hj]
  ·simp[e]
theorem mH{f g:Nat->V}(h:∀x,x<w->f x=g x):eX f w=eX g w:=congrArg aL.lst (dW λx hx=>h x (mem_range.mp hx))
section
variable{i r m w h k x y:Nat}{G:Nat->Nat->Nat->Int}{p:Nat->Nat}{q:Nat->Nat->Nat}{v:Int}
theorem Pw(R:pU σ i r m w h G p q)(hk:k<m)(hx:x<w)(hy:y<h)(t:∀τ,Up [q k y] σ τ->pU τ i r m w h (EG G k y x v) p q->Q .none τ):W ((ag gg (n+11)).C (ah 19 2) [.ref i,.int k,.int x,.int y,.int v]) Q σ:=by
 let aO:=λ(_:Unit)=>Q .none;let aZ:=λ(v3:V)=>W (iI v3 (.int x) (.int v)) aO;let bW:=λ(v2:V)=>W (aR v2 (.int y)) aZ;let c8:=λ(v1:V)=>W (aR v1 (.int k)) bW;refine ce (p:=(W (aB gg (.ref i) "rows") c8) σ) ?_;obtain⟨R,I⟩:=R;have o:=R.obj;refine mV ?_;have r0:=(R.rows k hk).row y hy;refine bX R.top hk R.hm (bX (R.rows k hk).top hy (R.rows k hk).hh (nU r0 (rj hx (R.rows k hk).hw) ?_ λτ u e=>t τ u ⟨⟨u.ne o (bV o r0 nofun),?_,λk' kK=>⟨?_,λy' vi=>?_,(R.rows k' kK).hw,(R.rows k' kK).hh⟩,R.hm⟩,I⟩))
 ·rw[ck];exact ble_eq_true_of_le hx
 ·exact u.ne R.top (bV R.top r0 λc=>ud (Nat.lt_of_le_of_lt (zero_le _) hx) wY (λx=>⟨_,rfl⟩) c.symm)
 ·have:=(R.rows k' kK).top;exact u.ne this (bV this r0 λc=>ud (Nat.lt_of_le_of_lt (zero_le _) hx) wY (λx=>⟨_,rfl⟩) c.symm)
 ·by_cases c:k'=k/\y'=y
  ·obtain⟨rfl,rfl⟩:=c;rw[e];rw[toNat_natCast,PH];refine congrArg some (mH λj _=>?_);unfold EG;by_cases ej:j=x
   ·rw[if_pos ej,if_pos ⟨rfl,rfl,ej⟩]
   ·rw[if_neg ej,if_neg λc=>ej c.2.2]
  ·have:=(R.rows k' kK).row y' vi;refine(u.ne this λe=>c (I _ _ _ _ kK vi hk hy e)).trans (congrArg some (mH λj _=>?_));unfold EG;rw[if_neg λd=>c ⟨d.1,d.2.1⟩]
theorem et.congr{T:Nat->Nat->Nat->Int}(R:et σ i r m w h G p q)(e:∀k y x,k<m->y<h->x<w->G k y x=T k y x):et σ i r m w h T p q:=
 ⟨R.obj,R.top,λk hk=>⟨(R.rows k hk).top,λy hy=>((R.rows k hk).row y hy).trans (congrArg some (mH λx hx=>congrArg V.int (e k y x hk hy hx))),(R.rows k hk).hw,(R.rows k hk).hh⟩,R.hm⟩
def sV(m h w:Nat)(G T:Nat->Nat->Nat->Int)(k y x:Nat):Prop:=∀k' y' x',k'<m->y'<h->x'<w->(k'<k\/k'=k/\(y'<y\/y'=y/\x'<x))->G k' y' x'=T k' y' x'
theorem sV.put{T:Nat->Nat->Nat->Int}(D:sV m h w G T k y x):sV m h w (EG G k y x (T k y x)) T k y (x+1):=λk' y' x' h1 h2 h3 c=>by
 unfold EG
 split
 ·rename_i e;rw[e.1,e.2.1,e.2.2]
 ·rename_i e;refine D k' y' x' h1 h2 h3 (c.imp id λc=>⟨c.1,c.2.imp id λd=>⟨d.1,Nat.lt_of_le_of_ne (le_of_lt_succ d.2) λex=>e ⟨c.1,d.1,ex⟩⟩⟩)
theorem sV.row{T:Nat->Nat->Nat->Int}(D:sV m h w G T k y w):sV m h w G T k (y+1) 0:=λk' y' x' h1 h2 h3 c=>D k' y' x' h1 h2 h3 (c.imp id λc=>⟨c.1,c.2.elim (λd=>(Nat.lt_or_eq_of_le (le_of_lt_succ d)).imp id λe=>⟨e,h3⟩) λd=>absurd d.2 (not_lt_zero _)⟩)
theorem sV.Qf{T:Nat->Nat->Nat->Int}(D:sV m h w G T k h 0):sV m h w G T (k+1) 0 0:=λk' y' x' h1 h2 h3 c=>D k' y' x' h1 h2 h3 (c.elim (λd=>(Nat.lt_or_eq_of_le (le_of_lt_succ d)).imp id λe=>⟨e,.inl h2⟩) λc=>c.2.elim (λd=>absurd d (not_lt_zero _)) λd=>absurd d.2 (not_lt_zero _))
end
structure iT(σ:af)(pl m w h:Nat)(S:Nat->Nat->Nat->Int)(po rr:Nat->Nat)(sq:Nat->Nat->Nat):Prop where
 sA:σ[pl]?=some (eX (λp=>.ref (po p)) m)
 pn:∀p,p<m->ja σ (po p) w h (S p) (rr p) (sq p)
theorem iT.up{S:Nat->Nat->Nat->Int}{po rr:Nat->Nat}{sq:Nat->Nat->Nat}(u:Up [] σ τ)(P:iT σ pl m w h S po rr sq):iT τ pl m w h S po rr sq:=⟨u.at P.sA,λp hp=>(P.pn p hp).up u⟩
section
variable{f cs m w h prec pl pt g r:Nat}{co po rr:Nat->Nat}{S:Nat->Nat->Nat->Int}{sq q:Nat->Nat->Nat}{p:Nat->Nat}
theorem pU.up{G:Nat->Nat->Nat->Int}{p:Nat->Nat}{q:Nat->Nat->Nat}(u:Up [] σ τ)(R:pU σ i r m w h G p q):pU τ i r m w h G p q:=⟨R.at'.keep λ_ _ h _=>u.at h,R.inj⟩
structure Ap(σ τ:af)(g r m w h:Nat)(p:Nat->Nat)(q:Nat->Nat->Nat)(T:Nat->Nat->Nat->Int)(k y x:Nat):Prop where
 up:Up [] σ τ
 gr:∃G,pU τ g r m w h G p q/\sV m h w G T k y x
noncomputable def fB(f pl pt m g:Nat):List (Str×V):=[("frame",.ref f),("planes",.ref pl),("point",.int pt),("places",.hK 0 m 1),("found",.ref g)]
def RM(f pl pt m g w h k y:Nat)(e:ar):Prop:=e=⟨[("frame",.ref f),("planes",.ref pl),("point",.int pt),("places",.hK 0 m 1),("found",.ref g),("place",.int k),("width",.int w),("height",.int h),("y",.int y)],[]⟩\/∃b,e=⟨[("frame",.ref f),("planes",.ref pl),("point",.int pt),("places",.hK 0 m 1),("found",.ref g),("place",.int k),("width",.int w),("height",.int h),("y",.int y),("x",b)],[]⟩
theorem Nw(P:iT σ pl m w h S po rr sq)(lo:∀k y,k<m->y<h->σ.length<=q k y){K:Fl->ar->Pr}(hw:w<21)(pI:pt<=1000)(hm:m<=1000)(hk:k<m)(hy:y<h)(he:RM f pl pt m g w h k y e)(ae:Ap σ τ g r m w h p q (λp y x=>(S p y x).fdiv (2^pt)) k y 0)(done:∀e τ,RM f pl pt m g w h k y e->Ap σ τ g r m w h p q (λp y x=>(S p y x).fdiv (2^pt)) k y w->K .next e τ):aS (ay gg (n+43)) (aa 20).sc (dQ (aF (aa 20).body [2,1])) e K τ:=by
 let aO:=λ(v1:V)=>W (aQ v1) λfz=>aK (aJ (ag gg (n+42))) (bp (ay gg (n+42)) (aa 20).sc (aF (aa 20).body [2,1,0])) (bx (ay gg (n+43)) (aa 20).sc ((dQ (aF (aa 20).body [2,1])).drop 1) K) fz.2 fz.1 e;have t:(W (aX "range" [.int w]) aO) τ:=by
  refine cy (c7 hw ?_);refine ze (σ:=σ) (.inl rfl) (RM f pl pt m g w h k y) he (X:=λv K=>(W (az gg (.ref g) "put") (bA (ag gg (n+40)) (λK2 H=>(W (aR (.ref pl) (.int k)) λv3=>W (az gg v3 "at") (bA (ag gg (n+38)) (λK5=>K5 [v,.int y]) v3 λv4=>W (ai .RShift v4 (.int pt)) λv6=>K2 [.int k,v,.int y,v6])) H) (.ref g) λv1=>K .next ⟨[("frame",.ref f),("planes",.ref pl),("point",.int pt),("places",.hK 0 m 1),("found",.ref g),("place",.int k),("width",.int w),("height",.int h),("y",.int y),("x",v)],[]⟩))) (λe v K τ he hv h=>?_) (λr' τ=>∃x,(dB w).drop x=r'/\x<=w/\Ap σ τ g r m w h p q (λp y x=>(S p y x).fdiv (2^pt)) k y x) (λ_ _ LZ=>cA LZ λ_ _ _ h=>h.up) (λv r' τ K LY q'=>cA LY λx e hx ae=>?_) (λe τ he LX=>cA LX λx e' hx ae=>?_) (gw 0 rfl (zero_le _) ae)
  ·rcases he with rfl|⟨b,rfl⟩
   ·exact bk h
   ·exact bk h
  ·(refine bH (cO e) λhx wm e2=>?_;subst wm);(refine cC λVC M6=>?_;obtain⟨u,G,R,D⟩:=ae;refine M6 ?_);have P:=P.up u;have o:=R.at'.obj;refine jw nr ?_;refine bX P.sA hk hm ?_;have o':=(P.pn k hk).obj;refine dI o' xg (by kernel_rfl) (Tz (P.pn k hk) hx hy (LG (dT (f7 _)) ?_));exact Pw R hk hx hy λeM u' R'=>q' _ eM (.inr ⟨_,rfl⟩) ⟨x+1,e2,hx,u.fresh (lo k y hk hy) u',_,R',D.put⟩
  ·rw[dA hx e']at ae;exact done e τ he ae
 rcases he with rfl|⟨b,rfl⟩
 ·exact bk t
 ·exact bk t
def Oz(f pl pt m g w h k:Nat)(e:ar):Prop:=e=⟨[("frame",.ref f),("planes",.ref pl),("point",.int pt),("places",.hK 0 m 1),("found",.ref g),("place",.int k),("width",.int w),("height",.int h)],[]⟩\/(∃a,e=⟨[("frame",.ref f),("planes",.ref pl),("point",.int pt),("places",.hK 0 m 1),("found",.ref g),("place",.int k),("width",.int w),("height",.int h),("y",a)],[]⟩)\/∃a b,e=⟨[("frame",.ref f),("planes",.ref pl),("point",.int pt),("places",.hK 0 m 1),("found",.ref g),("place",.int k),("width",.int w),("height",.int h),("y",a),("x",b)],[]⟩
theorem U6(h':RM f pl pt m g w h k y e):Oz f pl pt m g w h k e:=.inr (h'.imp (λe=>⟨_,e⟩) λLS=>eL LS λb e=>(ml _ b e))
theorem Nv(P:iT σ pl m w h S po rr sq)(lo:∀k y,k<m->y<h->σ.length<=q k y){K:Fl->ar->Pr}(hw:w<21)(hh:h<21)(pI:pt<=1000)(hm:m<=1000)(hk:k<m)(he:Oz f pl pt m g w h k e)(ae:Ap σ τ g r m w h p q (λp y x=>(S p y x).fdiv (2^pt)) k 0 0)(done:∀e τ,Oz f pl pt m g w h k e->Ap σ τ g r m w h p q (λp y x=>(S p y x).fdiv (2^pt)) (k+1) 0 0->K .next e τ):aS (ay gg (n+44)) (aa 20).sc ((dQ (aF (aa 20).body [2])).drop 1) e K τ:=by
 let aO:=λ(v1:V)=>W (aQ v1) λfz=>aK (aJ (ag gg (n+43))) (bp (ay gg (n+43)) (aa 20).sc (aF (aa 20).body [2,1])) (bx (ay gg (n+44)) (aa 20).sc ((dQ (aF (aa 20).body [2])).drop 2) K) fz.2 fz.1 e;have t:(W (aX "range" [.int h]) aO) τ:=by
  refine cy (c7 hh ?_);refine ze (σ:=σ) (.inl rfl) (Oz f pl pt m g w h k) he (X:=λv K τ=>∀y:Nat,v=.int y->∀e,RM f pl pt m g w h k y e->aS (ay gg (n+43)) (aa 20).sc (dQ (aF (aa 20).body [2,1])) e K τ) (λe v K τ he hv h=>?_) (λr' τ=>∃y,(dB h).drop y=r'/\y<=h/\Ap σ τ g r m w h p q (λp y x=>(S p y x).fdiv (2^pt)) k y 0) (λ_ _ LO=>cA LO λ_ _ _ h=>h.up) (λv r' τ K LN q'=>cA LN λy e hy ae=>?_) (λe τ he LM=>cA LM λy e' hy ae=>?_) (gw 0 rfl (zero_le _) ae)
  ·obtain⟨y,_,rfl⟩:=mem_map.mp hv;have h:=h y rfl
   rcases he with rfl|⟨a,rfl⟩|⟨a,b,rfl⟩
   ·exact bk (h _ (.inl rfl))
   ·exact bk (h _ (.inl rfl))
   ·exact bk (h _ (.inr ⟨b,rfl⟩))
  ·(refine bH (cO e) λhy wg e2=>?_;subst wg);intro y' vi e he;(have MN:=ofNat.inj (V.int.inj vi);subst MN);exact Nw P lo hw pI hm hk hy he ae λe τ he ae=>q' e τ (U6 he) ⟨y+1,e2,hy,ae.up,let ⟨G,R,D⟩:=ae.gr;(aT G R D.row)⟩
  ·rw[dA hy e']at ae;exact done e τ he ⟨ae.up,let ⟨G,R,D⟩:=ae.gr;(aT G R D.Qf)⟩
 rcases he with rfl|⟨a,rfl⟩|⟨a,b,rfl⟩
 ·exact bk t
 ·exact bk t
 ·exact bk t
def YF(f pl pt m g w h:Nat)(e:ar):Prop:=e=⟨[("frame",.ref f),("planes",.ref pl),("point",.int pt),("places",.hK 0 m 1),("found",.ref g)],[]⟩\/∃k,Oz f pl pt m g w h k e
theorem wA(F:bT σ f cs m w h prec co)(P:iT σ pl m w h S po rr sq)(hw:0<w/\w<21)(hh:h<21)(pI:pt<=1000)(Q':∀τ g r p q,Up [] σ τ->et τ g r m w h (λp y x=>(S p y x).fdiv (2^pt)) p q->Q (.ref g) τ):W ((ag gg (n+46)).C (aa 20) [.ref f,.ref pl,.int pt]) Q σ:=by
 let aO:=λ(v2:V) (v7:V)=>W (aQ v2) λF0=>aK (aJ (ag gg (n+44))) (bp (ay gg (n+44)) (aa 20).sc (aF (aa 20).body [2])) (bx (ay gg (n+45)) (aa 20).sc ((aa 20).body.drop 3) (cz Q)) F0.2 F0.1 ⟨[("frame",.ref f),("planes",.ref pl),("point",.int pt),("places",v2),("found",v7)],[]⟩;let aZ:=λ(v2:V)=>W (aQ v2) λnC=>W (dq (.lst [])) λNV=>gj NV λa6=>aK (aJ (ag gg (n+42))) (eA (ay gg (n+42)) (jv 0 (ew (aF (aa 20).body [1]))) a6) (λ_ _=>W (cx gg (ag gg (n+43)) (.cls "SampleGrid") [.ref a6]) (aO v2)) nC.2 nC.1 ⟨[],[("frame",.ref f)]⟩;let bW:=λ(v1:V)=>W (aX "range" [v1]) aZ;refine ce (p:=(W (aU "len" [.ref pl]) bW) σ) ?_;have hm:=ao (cF F.hm.2) (by decide:21<=1000);refine dr P.sA (aG (eQ F.hm.2)) (cy ?_);refine Eq.symm ck▸?_;refine c7 F.hm.2 (bG λa τ u l h0=>rP ?_);refine kQ (σ:=σ) (f:=λv=>⟨[("place",v)],[("frame",.ref f)]⟩) (.inl rfl) (λb v K τ hv h=>bk h) (λr' τ=>Up [] σ τ/\∃k,(dB m).drop k=r'/\k<=m/\τ[a]?=some (eX (λ_=>.tup [.int w,.int h]) k)) (λ_ _ h=>h.1) (λv r' τ K ⟨u,k,e,hk,h⟩ q'=>?_) (λe τ _ ⟨u,k,e',hk,hs⟩=>?_) (i3 u 0 rfl (zero_le _) h0)
 ·(refine bH (cO e) λhk DQ e2=>?_;subst DQ);let aO:=λ(v1:V)=>W (d6 a v1) λ_=>K .next ⟨[("place",.int k)],[("frame",.ref f)]⟩;refine bk (p:=(W (az gg (.ref f) "padded") (bA (ag gg (n+41)) (λK2=>K2 [.int k]) (.ref f) aO)) τ) ?_;have F:=F.up u;have o:=F.obj;refine jw kB ?_;refine wx F hk λeW u1=>eZ (u1.at h) (aG ?_) λdM u2 h2=>q' _ dM (i3 ((u.trans u1).fresh l u2) (k+1) e2 hk ?_)
  ·rw[ck];exact ao (cF hk) hm
  ·rw[h2];exact congrArg some (congrArg aL.lst w3)
 ·rw[dA hk e']at hs;refine uP hs F.hm.2 ⟨hw.1,ao (cF hw.2) (by decide)⟩ hh λeW g r p q u1 l1 R0 lo=>c7 F.hm.2 ?_;have P:=P.up u;have F:=F.up u;refine kP (σ:=τ) (.inl rfl) (λr' e eM=>YF f pl pt m g w h e/\∃k,(dB m).drop k=r'/\k<=m/\Ap τ eM g r m w h p q (λp y x=>(S p y x).fdiv (2^pt)) k 0 0) (λ_ _ _ ⟨_,_,_,_,h⟩=>h.up) (λv r' env eM K ae q'=>?_) (λe eM ae=>?_) ⟨.inl rfl,0,rfl,zero_le _,u1,_,R0,λk' y' x' _ _ _ c=>c.elim (λd=>absurd d (not_lt_zero _)) λc=>c.2.elim (λd=>absurd d (not_lt_zero _)) λd=>absurd d.2 (not_lt_zero _)⟩
  ·obtain⟨he,k,e,hk,ae⟩:=ae;(refine bH (cO e) λhk DO e2=>?_;subst DO);have mid:∀e,Oz f pl pt m g w h k e->∀dM,Up [] eM dM->aS (ay gg (n+44)) (aa 20).sc ((dQ (aF (aa 20).body [2])).drop 1) e K dM:=λe he dM u3=>
    Nv P lo hw.2 hh pI hm hk he ⟨ae.up.trans u3,let ⟨G,R,D⟩:=ae.gr;(aT G (R.up u3) D)⟩ λe gT he ae=>q' e gT (i3 (.inr ⟨k,he⟩) (k+1) e2 hk ae)
   have pad:∀zQ,(∀dM,Up [] eM dM->R (eF (aa 20).sc zQ (qI (kA (aF (aa 20).body [2,0]))) [.int w,.int h]) (λe4=>aS (ay gg (n+44)) (aa 20).sc ((dQ (aF (aa 20).body [2])).drop 1) e4 K) dM)->(W (az gg (.ref f) "padded") (bA (ag gg (n+42)) (λK2=>K2 [.int k]) (.ref f) λv1=>sG v1 λMq=>R (eF (aa 20).sc zQ (qI (kA (aF (aa 20).body [2,0]))) Mq) λe4=>aS (ay gg (n+44)) (aa 20).sc ((dQ (aF (aa 20).body [2])).drop 1) e4 K)) eM:=λzQ h=>by
    have F:=F.up ae.up;have o:=F.obj;refine jw kB ?_;exact wx F hk λdM u3=>h dM u3
   rcases he with rfl|⟨k0,rfl|⟨a,rfl⟩|⟨a,b,rfl⟩⟩
   ·exact bk (pad ⟨[("frame",.ref f),("planes",.ref pl),("point",.int pt),("places",.hK 0 m 1),("found",.ref g),("place",.int k)],[]⟩ λdM u3=>bk (mid _ (.inl rfl) dM u3))
   ·exact bk (pad ⟨[("frame",.ref f),("planes",.ref pl),("point",.int pt),("places",.hK 0 m 1),("found",.ref g),("place",.int k),("width",.int w),("height",.int h)],[]⟩ λdM u3=>bk (mid _ (.inl rfl) dM u3))
   ·exact bk (pad ⟨[("frame",.ref f),("planes",.ref pl),("point",.int pt),("places",.hK 0 m 1),("found",.ref g),("place",.int k),("width",.int w),("height",.int h),("y",a)],[]⟩ λdM u3=>bk (mid _ (.inr (.inl ⟨a,rfl⟩)) dM u3))
   ·exact bk (pad ⟨[("frame",.ref f),("planes",.ref pl),("point",.int pt),("places",.hK 0 m 1),("found",.ref g),("place",.int k),("width",.int w),("height",.int h),("y",a),("x",b)],[]⟩ λdM u3=>bk (mid _ (.inr (.inr (ml a b rfl))) dM u3))
  ·obtain⟨he,k,e',hk,ae⟩:=ae;rw[dA hk e']at ae;obtain⟨u2,G,R,D⟩:=ae;have q:=Q' eM g r p q (u.trans u2) (R.at'.congr λk y x hk hy hx=>D k y x hk hy hx (.inl hk))
   rcases he with rfl|⟨k0,rfl|⟨a,rfl⟩|⟨a,b,rfl⟩⟩
   ·exact bk (p:=Q (.ref g) eM) q
   ·exact bk (p:=Q (.ref g) eM) q
   ·exact bk (p:=Q (.ref g) eM) q
   ·exact bk (p:=Q (.ref g) eM) q
end
structure dJ(σ:af)(s ps ds m k pt:Nat):Prop where
 obj:∃a,σ[s]?=some (.ins "Scan" [("places",.ref ps),("dc_slots",.ref ds),("ac_slots",a),("start",.int (k+1:Nat)),("end",.int 0),("high",.int 0),("low",.int pt)])
 ps:σ[ps]?=some (eX (λ(j:Nat)=>.int j) m)
 ds:σ[ds]?=some (eX (λ(j:Nat)=>.int j) m)
theorem dJ.up{σ τ:af}{s ps ds m k pt:Nat}(u:Up [] σ τ)(S:dJ σ s ps ds m k pt):dJ τ s ps ds m k pt:=⟨let ⟨a,h⟩:=S.obj;⟨a,u.at h⟩,u.at S.ps,u.at S.ds⟩
theorem Fq(q:∀i τ,Up [] σ τ->σ.length<=i->τ[i]?=some (.ins "Scan" [("places",a),("dc_slots",b),("ac_slots",c),("start",d),("end",e),("high",f),("low",g)])->Q (.ref i) τ):W (cx gg (ag gg (n+11)) (.cls "Scan") [a,b,c,d,e,f,g]) Q σ:=
 sY (n:=n+10) (fi:=(ah 75 0)) (l:=[("places",a),("dc_slots",b),("ac_slots",c),("start",d),("end",e),("high",f),("low",g)]) (λi K τ=>by kernel_rfl) (by kernel_rfl) q
section
variable{f cs m w h prec s ps ds k pt x y:Nat}{co:Nat->Nat}
theorem mw(S:dJ σ s ps ds m k pt)(hm:m<21)(q:Q (.bool (decide ((m:Int)=1))) σ):W ((ag gg (n+11)).C (ah 75 1) [.ref s]) Q σ:=by
 let aO:=λ(b3:Bool)=>Q (.bool b3);let aZ:=λ(v2:V)=>W (cX .Eq v2 (.int 1)) aO;let bW:=λ(v1:V)=>W (aU "len" [v1]) aZ;refine ce (p:=(W (aB gg (.ref s) "places") bW) σ) ?_;refine eL (S.obj) λ_ o=>?_;refine mV ?_;refine dr S.ps (aG (eQ hm)) (kr ?_);refine Eq.symm ck▸?_;exact q
theorem kL(F:bT σ f cs m w h prec co)(S:dJ σ s ps ds m k pt)(q:∀τ,Up [] σ τ->Q (.int w) τ):W ((ag gg (n+31)).C (aa 49) [.ref f,.ref s]) Q σ:=by
 let aO:=λ(K5:List V->Pr) (v7:V)=>K5 [v7];let aZ:=λ(K5:List V->Pr) (v6:V)=>W (aR v6 (.int 0)) (aO K5);let bW:=λ(v8:V)=>Q v8;let c8:=λ(v4:V)=>W (aR v4 (.int 0)) bW;let dG:=λ(v9:V)=>Q v9;let dR:=λ(b3:Bool)=>cR b3 (W (az gg (.ref f) "blocks") (bA (ag gg (n+26)) (λK5 H=>(W (aB gg (.ref s) "places") (aZ K5)) H) (.ref f) c8)) (W (az gg (.ref f) "mcus_across") (bA (ag gg (n+28)) (λVz=>Vz []) (.ref f) dG));let fC:=λ(v1:V)=>R (iC v1) dR;refine ce (p:=(W (az gg (.ref s) "is_alone") (bA (ag gg (n+27)) (λK2=>K2 []) (.ref s) fC)) σ) ?_;(refine cC λY4 Uj=>?_;refine eL (S.obj) λ_ o=>?_;refine Uj ?_);have o':=F.obj;refine dI o gp (by kernel_rfl) (mw S F.hm.2 (vS (If (λ_=>?_) λ_=>?_)))
 ·refine dI o' kC (by kernel_rfl) (bc o (by exact vt (by kernel_rfl)) (by kernel_rfl) (bX S.ps F.hm.1 (ao (cF F.hm.2) (by decide)) ?_));exact wD F F.hm.1 λτ u=>dY rfl rfl (q τ u)
 ·refine dI o' eP (by kernel_rfl) ?_;exact jc F q
theorem ue(F:bT σ f cs m w h prec co)(S:dJ σ s ps ds m k pt)(hh:h<21)(q:∀τ,Up [] σ τ->Q (.int ((w:Int)*h)) τ):W ((ag gg (n+31)).C (aa 50) [.ref f,.ref s]) Q σ:=by
 let aO:=λ(K5:List V->Pr) (v7:V)=>K5 [v7];let aZ:=λ(K5:List V->Pr) (v6:V)=>W (aR v6 (.int 0)) (aO K5);let bW:=λ(v4:V)=>sG v4 λXe=>R (eF (aa 50).sc ⟨[("frame",.ref f),("scan",.ref s)],[]⟩ (qI (kA (aF (aa 50).body [0,0]))) Xe) λe9=>aS (ay gg (n+29)) (aa 50).sc ((((dQ (aF (aa 50).body [0])).drop 0).take 2).drop 1) e9 (bx (ay gg (n+30)) (aa 50).sc ((aa 50).body.drop 1) (cz Q));let c8:=λ(pY:V)=>Q pY;let dG:=λ(v10:V) (kJ:V)=>W (ai .Mult v10 kJ) c8;let dR:=λ(v10:V)=>W (az gg (.ref f) "mcus_down") (bA (ag gg (n+27)) (λVx=>Vx []) (.ref f) (dG v10));let fC:=λ(b3:Bool)=>cR b3 (W (az gg (.ref f) "blocks") (bA (ag gg (n+27)) (λK5 H=>(W (aB gg (.ref s) "places") (aZ K5)) H) (.ref f) bW)) (W (az gg (.ref f) "mcus_across") (bA (ag gg (n+27)) (λHV=>HV []) (.ref f) dR));let gX:=λ(v1:V)=>R (iC v1) fC;refine ce (p:=(W (az gg (.ref s) "is_alone") (bA (ag gg (n+27)) (λK2=>K2 []) (.ref s) gX)) σ) ?_;refine eL (S.obj) λ_ o=>?_;have o':=F.obj;have hs:fe (h:Int)=true:=ble_eq_true_of_le (ao (cF hh) (by decide));refine dI o gp (by kernel_rfl) (mw S F.hm.2 (vS (If (λ_=>?_) λ_=>?_)))
 ·refine dI o' kC (by kernel_rfl) (bc o (by exact vt (by kernel_rfl)) (by kernel_rfl) (bX S.ps F.hm.1 (ao (cF F.hm.2) (by decide)) ?_));exact wD F F.hm.1 λτ u=>bk (p:=W (ai .Mult (.int w) (.int h)) Q τ) (dX hs (q τ u))
 ·refine dI o' eP (by kernel_rfl) (jc F λτ u=>?_);refine dI (u.at o') iH (by kernel_rfl) (o9 (F.up u) λeM u'=>dX hs (q eM (u.trans u')))
noncomputable def pe(m x y:Nat):aL:=eX (λ(p:Nat)=>.tup [.int p,.int p,.int x,.int y]) m
theorem Bt(F:bT σ f cs m w h prec co)(S:dJ σ s ps ds m k pt)(q:∀τ u,Up [] σ τ->σ.length<=u->τ[u]?=some (pe m x y)->Q (.ref u) τ):W ((ag gg (n+31)).C (aa 51) [.ref f,.ref s,.int x,.int y]) Q σ:=by
 let aO:=λ(v6:V)=>Q v6;let aZ:=λ(v5:V)=>W (dE [(.tup [.int 0,v5,.int x,.int y])]) aO;let bW:=λ(v4:V)=>W (aR v4 (.int 0)) aZ;let c8:=λ(v7:V) (v10:V)=>W (aQ v10) λxq=>aK (aJ (ag gg (n+29))) (bp (ay gg (n+29)) (aa 51).sc (aF (aa 51).body [2])) (bx (ay gg (n+30)) (aa 51).sc ((aa 51).body.drop 3) (cz Q)) xq.2 xq.1 ⟨[("frame",.ref f),("scan",.ref s),("x",.int x),("y",.int y),("found",v7)],[]⟩;let dG:=λ(v7:V) (v9:V)=>W (aX "range" [v9]) (c8 v7);let dR:=λ(v7:V) (v8:V)=>W (aU "len" [v8]) (dG v7);let fC:=λ(v7:V)=>W (aB gg (.ref s) "places") (dR v7);let gX:=λ(b3:Bool)=>cR b3 (W (aB gg (.ref s) "places") bW) (W (dE []) fC);let iU:=λ(v1:V)=>R (iC v1) gX;refine ce (p:=(W (az gg (.ref s) "is_alone") (bA (ag gg (n+27)) (λK2=>K2 []) (.ref s) iU)) σ) ?_;refine eL (S.obj) λa o=>?_;have hm:=ao (cF F.hm.2) (by decide:21<=1000);refine dI o gp (by kernel_rfl) (mw S F.hm.2 (vS (DL (λh1=>?_) λ_=>?_)))
 ·(have MN:=ofNat.inj h1;subst MN);refine mV ?_;exact bX S.ps (Nat.zero_lt_one) hm (bZ rfl λi τ u l h=>q τ i u l h)
 ·refine bZ rfl λg τ u l h0=>?_;have o:=u.at o;refine mV ?_;refine dr (u.at S.ps) (aG (eQ F.hm.2)) (cy ?_);rw[ck];refine c7 F.hm.2 (kP (σ:=σ) (.inl rfl) (λr e τ=>(e=⟨[("frame",.ref f),("scan",.ref s),("x",.int x),("y",.int y),("found",.ref g)],[]⟩\/∃p c sp,e=⟨[("frame",.ref f),("scan",.ref s),("x",.int x),("y",.int y),("found",.ref g),("place",p),("component",c),("down",.int 0),("across",.int 0),("spot",sp)],[]⟩)/\Up [] σ τ/\∃p,(dB m).drop p=r/\p<=m/\τ[g]?=some (pe p x y)) (λ_ _ _ h=>h.2.1) (λv r env τ K ae q'=>?_) (λe τ ae=>?_) (rA (.inl rfl) u 0 rfl (zero_le _) h0))
  ·(refine xK ae λhe u p e hp hg=>?_;clear ae);(refine bH (cO e) λhp iA e2=>?_;subst iA);have F:=F.up u;have S:=S.up u;obtain⟨a',o⟩:=S.obj;have o1:=F.obj;have c:=F.co p hp;let aO:=λ(K8:List V->Pr) (v10:V) (v11:V) (kJ:V)=>K8 [(.tup [.int p,v10,v11,kJ])];let aZ:=λ(v3:V) (v6:V) (K8:List V->Pr) (v10:V) (v11:V)=>W (aR (.tup [v3,v6]) (.int 1)) (aO K8 v10 v11);let bW:=λ(v3:V) (v6:V) (K8:List V->Pr) (v10:V)=>W (aR (.tup [v3,v6]) (.int 0)) (aZ v3 v6 K8 v10);let c8:=λ(v3:V) (v6:V) (K8:List V->Pr) (v9:V)=>W (aR v9 (.int p)) (bW v3 v6 K8);let dG:=λ(v3:V) (v6:V) (v7:V)=>K .next ⟨[("frame",.ref f),("scan",.ref s),("x",.int x),("y",.int y),("found",.ref g),("place",.int p),("component",.ref (co p)),("down",.int 0),("across",.int 0),("spot",.tup [v3,v6])],[]⟩;let dR:=λ(v3:V) (v6:V)=>W (az gg (.ref g) "append") (bA (ag gg (n+25)) (λK8 H=>(W (aB gg (.ref s) "places") (c8 v3 v6 K8)) H) (.ref g) (dG v3 v6));let fC:=λ(v3:V) (v5:V)=>W (ai .Add v5 (.int 0)) (dR v3);let gX:=λ(v3:V) (v4:V)=>W (ai .Mult (.int y) v4) (fC v3);let iU:=λ(v3:V)=>W (aB gg (.ref (co p)) "down") (gX v3);let eE:=λ(v2:V)=>W (ai .Add v2 (.int 0)) iU;let fj:=λ(v1:V)=>W (ai .Mult (.int x) v1) eE;have inner:(W (aB gg (.ref (co p)) "across") fj) τ:=by
    refine bc c (by exact oS (by kernel_rfl)) (by kernel_rfl) (dX rfl (cq (bc c (by exact rJ (by kernel_rfl)) (by kernel_rfl) (dX rfl (cq ?_)))));refine fg hg ig (bc o (by exact vt (by kernel_rfl)) (by kernel_rfl) (bX S.ps hp hm (dY rfl rfl (dY rfl rfl (nZ hg (aG ?_) λeM u' h'=>q' _ eM (rA (.inr (ve _ _ _ rfl)) (u.fresh l u') (p+1) e2 hp ?_))))))
    ·rw[ck];exact ao (cF hp) hm
    ·simp only[h',Int.mul_one,Int.mul_one,Int.add_zero,Int.add_zero];exact congrArg some (congrArg aL.lst w3)
   rcases he with rfl|⟨p0,c0,s0,rfl⟩
   ·let aO:=λ(v4:V) (v6:V)=>W (aQ v6) λkU=>aK (aJ (ag gg (n+28))) (bp (ay gg (n+28)) (aa 51).sc (aF (aa 51).body [2,1])) (bx (ay gg (n+29)) (aa 51).sc ((dQ (aF (aa 51).body [2])).drop 2) K) kU.2 kU.1 ⟨[("frame",.ref f),("scan",.ref s),("x",.int x),("y",.int y),("found",.ref g),("place",.int p),("component",v4)],[]⟩;let aZ:=λ(v4:V) (v5:V)=>W (aX "range" [v5]) (aO v4);let bW:=λ(v4:V)=>W (aB gg v4 "down") (aZ v4);let c8:=λ(v1:V) (v3:V)=>W (aR v1 v3) bW;let dG:=λ(v1:V) (v2:V)=>W (aR v2 (.int p)) (c8 v1);let dR:=λ(v1:V)=>W (aB gg (.ref s) "places") (dG v1);refine bk (p:=(W (aB gg (.ref f) "components") dR) τ) ?_;refine bc o1 (by exact Nt (by kernel_rfl)) (by kernel_rfl) (bc o (by exact vt (by kernel_rfl)) (by kernel_rfl) (bX S.ps hp hm (bX F.cs hp hm (bc c (by exact rJ (by kernel_rfl)) (by kernel_rfl) ?_))));let aO:=λ(v2:V)=>W (aQ v2) λc9=>aK (aJ (ag gg (n+27))) (bp (ay gg (n+27)) (aa 51).sc (aF (aa 51).body [2,1,0])) (bx (ay gg (n+28)) (aa 51).sc ((dQ (aF (aa 51).body [2,1])).drop 1) K) c9.2 c9.1 ⟨[("frame",.ref f),("scan",.ref s),("x",.int x),("y",.int y),("found",.ref g),("place",.int p),("component",.ref (co p)),("down",.int 0)],[]⟩;let aZ:=λ(v1:V)=>W (aX "range" [v1]) aO;refine bk (p:=(W (aB gg (.ref (co p)) "across") aZ) τ) ?_;exact bc c (by exact oS (by kernel_rfl)) (by kernel_rfl) (cy (bk inner))
   ·let aO:=λ(v4:V) (v6:V)=>W (aQ v6) λkU=>aK (aJ (ag gg (n+28))) (bp (ay gg (n+28)) (aa 51).sc (aF (aa 51).body [2,1])) (bx (ay gg (n+29)) (aa 51).sc ((dQ (aF (aa 51).body [2])).drop 2) K) kU.2 kU.1 ⟨[("frame",.ref f),("scan",.ref s),("x",.int x),("y",.int y),("found",.ref g),("place",.int p),("component",v4),("down",.int 0),("across",.int 0),("spot",s0)],[]⟩;let aZ:=λ(v4:V) (v5:V)=>W (aX "range" [v5]) (aO v4);let bW:=λ(v4:V)=>W (aB gg v4 "down") (aZ v4);let c8:=λ(v1:V) (v3:V)=>W (aR v1 v3) bW;let dG:=λ(v1:V) (v2:V)=>W (aR v2 (.int p)) (c8 v1);let dR:=λ(v1:V)=>W (aB gg (.ref s) "places") (dG v1);refine bk (p:=(W (aB gg (.ref f) "components") dR) τ) ?_;refine bc o1 (by exact Nt (by kernel_rfl)) (by kernel_rfl) (bc o (by exact vt (by kernel_rfl)) (by kernel_rfl) (bX S.ps hp hm (bX F.cs hp hm (bc c (by exact rJ (by kernel_rfl)) (by kernel_rfl) ?_))));let aO:=λ(v2:V)=>W (aQ v2) λc9=>aK (aJ (ag gg (n+27))) (bp (ay gg (n+27)) (aa 51).sc (aF (aa 51).body [2,1,0])) (bx (ay gg (n+28)) (aa 51).sc ((dQ (aF (aa 51).body [2,1])).drop 1) K) c9.2 c9.1 ⟨[("frame",.ref f),("scan",.ref s),("x",.int x),("y",.int y),("found",.ref g),("place",.int p),("component",.ref (co p)),("down",.int 0),("across",.int 0),("spot",s0)],[]⟩;let aZ:=λ(v1:V)=>W (aX "range" [v1]) aO;refine bk (p:=(W (aB gg (.ref (co p)) "across") aZ) τ) ?_;exact bc c (by exact oS (by kernel_rfl)) (by kernel_rfl) (cy (bk inner))
  ·(refine xK ae λhe u p e' hp hg=>?_;clear ae);rw[dA hp e']at hg;have q:=q τ g u l hg
   rcases he with rfl|⟨p0,c0,s0,rfl⟩
   ·exact bk (p:=Q (.ref g) τ) q
   ·exact bk (p:=Q (.ref g) τ) q
end
noncomputable def Cq:aL->Bool
 |.gen _=>true
 |.busy=>true
 |.sy .. =>true
 |_=>false
def i9(σ τ:af):Prop:=σ.length<=τ.length/\∀(j:Nat)(c:aL),σ[j]?=some c->Cq c=false->τ[j]?=some c
theorem i9.trans(u:i9 σ τ)(v:i9 τ Z):i9 σ Z:=⟨ao u.1 v.1,λj c h n=>v.2 j c (u.2 j c h n) n⟩
theorem Up.g(u:Up [] σ τ):i9 σ τ:=⟨u.1,λj c h _=>u.at h⟩
theorem i9.set(u:Up [i] σ τ)(h:σ[i]?=some c)(g:Cq c=true):i9 σ τ:=⟨u.1,λj d hd n=>u.ne hd λe=>by
 subst e;replace n:=(g▸((bE (hd.symm.trans h))▸n));exact PA n⟩
def KG(σ τ:af):Prop:=∀(j:Nat)(c:aL),σ[j]?=some c->Cq c=true->τ[j]?=some c
theorem Up.kg(u:Up [] σ τ):KG σ τ:=λj c h _=>u.at h
theorem KG.set(u:Up [i] σ τ)(h:σ[i]?=some c)(g:Cq c=false):KG σ τ:=λj d hd n=>u.ne hd λe=>by
 subst e;replace n:=(g▸((bE (hd.symm.trans h))▸n));exact mO n
noncomputable def qG(env:List (Str×V))(pre:Option (List Stmt×Expr))(it:Nat):Ao:={(rH (aa 52) []).getD ⟨(aa 52).sc,[],"",.Name "" default,none,0⟩ with env:=env,pre:=pre,it:=it}
noncomputable def Ms:List Stmt×Expr:=(((rH (aa 52) []).getD ⟨(aa 52).sc,[],"",.Name "" default,none,0⟩).pre).getD ([],.Name "" default)
noncomputable def uE(f s w:Nat):List (Str×V):=[("frame",.ref f),("scan",.ref s),("across",.int w)]
noncomputable def Sx(f s w:Nat)(b:V):List (Str×V):=[("frame",.ref f),("scan",.ref s),("across",.int w),("index",b)]
noncomputable def ur(f s:Nat):Ao:=qG [("frame",.ref f),("scan",.ref s)] (some Ms) 0
noncomputable def ot(f s w k j:Nat):Ao:=qG (Sx f s w (.int k)) none j
theorem Ax(q:∀i τ,Up [] σ τ->σ.length<=i->τ[i]?=some (.gen (ur f s))->Q (.ref i) τ):W ((ag gg (n+1)).C (aa 52) [.ref f,.ref s]) Q σ:=by
 have e:(ag gg (n+1)).C (aa 52) [.ref f,.ref s]=dq (.gen (ur f s)):=by kernel_rfl
 rw[e];exact bG q
theorem RY{α β:Type}{m:M β}{f:β->M α}{a:β}{Q:α->Pr}(h:m=λσ=>some (a,σ))(q:W (f a) Q σ):W (m>>=f) Q σ:=by subst h;unfold W at q ⊢;exact q
section
variable{f cs m w h prec s ps ds k kk pt:Nat}{co:Nat->Nat}
theorem bT.s6(u:i9 σ τ)(F:bT σ f cs m w h prec co):bT τ f cs m w h prec co:=⟨u.2 _ _ F.obj rfl,u.2 _ _ F.cs rfl,λp hp=>u.2 _ _ (F.co p hp) rfl,F.hm⟩
theorem dJ.s6(u:i9 σ τ)(S:dJ σ s ps ds m k pt):dJ τ s ps ds m k pt:=⟨let ⟨a,h⟩:=S.obj;⟨a,u.2 _ _ h rfl⟩,u.2 _ _ S.ps rfl,u.2 _ _ S.ds rfl⟩
theorem xF{gi j k M:Nat}{env:List (Str×V)}{pre:Option (List Stmt×Expr)}{it:Nat}{Ny:List (Str×V)}{Q:Option V->Pr}(F:bT σ f cs m w h prec co)(S:dJ σ s ps ds m kk pt)(hw:0<w/\w<21)(hb:σ[gi]?=some .busy)(hj:σ[j]?=some (.sy k 1 (M+1)))(he:env=uE f s w\/∃b,env=Sx f s w b)(q:∀τ u,i9 σ τ->τ[gi]?=some (.gen (ot f s w k j))->τ[j]?=some (.sy (k+1) 1 M)->τ[u]?=some (pe m (k%w) (k/w))->Q (some (.ref u)) τ):W (nH (ag gg (n+41)) gi (qG Ny pre it) env j) Q σ:=by
 refine ba (bC hj (bP ?_));refine ba (eV hj λτ u1 h1=>?_);have Wr:=u1.ne hb (bV hb hj nofun);have F:=F.s6 (i9.set u1 hj rfl);have S:=S.s6 (i9.set u1 hj rfl);have e1:putN (qG Ny pre it).sc ⟨env,[]⟩ (qG Ny pre it).target (.int k)=λσ=>some (⟨Sx f s w (.int k),[]⟩,σ):=by
  rcases he with rfl|⟨b,rfl⟩<;>kernel_rfl
 refine RY e1 (W.seq (P:=λv Z=>∃u,v=.ref u/\Up [] τ Z/\Z[u]?=some (pe m (k%w) (k/w))) ((EX gg _).E (bk (p:=(W (ai .Mod (.int k) (.int w)) λv1=>W (ai .FloorDiv (.int k) (.int w)) λv2=>W ((ag gg (n+40)).C (aa 51) [.ref f,.ref s,v1,v2]) (λv Z=>∃u,v=.ref u/\Up [] τ Z/\Z[u]?=some (pe m (k%w) (k/w)))) τ) ?_)) λv Z h=>?_)
 ·have hs:(decide ((w:Int)≠0)&&fe w)=true:=and_eq_true_iff.mpr ⟨decide_eq_true λe=>absurd hw.1 (ofNat.inj e▸Nat.lt_irrefl 0),ble_eq_true_of_le (ao (cF hw.2) (by decide))⟩;refine nV hs (kq hs ?_);rw[<-ofNat_fmod,<-ofNat_fdiv];exact Bt F S λZ u u2 _ h=>(gw u rfl u2 h)
 ·obtain⟨u,rfl,u2,h⟩:=h;have Ru:=u2.at Wr;refine ba (bC Ru (bP ?_));refine bN (by kernel_rfl) (ba (eV Ru λaH u3 h3=>bP (q aH u ((i9.set u1 hj rfl).trans (u2.g.trans (i9.set u3 Ru rfl))) h3 ?_ ?_)))
  ·exact u3.ne (u2.at h1) (bV (u2.at h1) Ru nofun)
  ·exact u3.ne h (bV h Ru nofun)
theorem GF{gi j k M:Nat}{Q:Option (V×gE)->Pr}(F:bT σ f cs m w h prec co)(S:dJ σ s ps ds m kk pt)(hw:0<w/\w<21)(hg:σ[gi]?=some (.gen (ot f s w k j)))(hj:σ[j]?=some (.sy (k+1:Nat) 1 M))(q0:M=0->∀τ,i9 σ τ->Q none τ)(q1:∀M',M=M'+1->∀τ u,i9 σ τ->τ[gi]?=some (.gen (ot f s w (k+1) j))->τ[j]?=some (.sy (k+2:Nat) 1 M')->τ[u]?=some (pe m ((k+1)%w) ((k+1)/w))->Q (some (.ref u,.gen gi)) τ):W (aJ (ag gg (n+41)) (.gen gi)) Q σ:=by
 refine ba (bC hg (ba (eV (c:=.busy) hg λτ u1 h1=>?_)));have ug:=i9.set u1 hg rfl;have Ov:=u1.ne hj (bV hj hg nofun);have e:oR (ag gg (n+41)) (ot f s w k j)=λσ=>some ((Sx f s w (.int k),j),σ):=by kernel_rfl
 refine RY e ?_
 induction M using Nat.casesOn with
 |zero=>exact ba (bC Ov (bP (ba (bC h1 (bP (bP (bP (q0 rfl τ ug))))))))
 |succ M=>exact xF (k:=k+1) (F.s6 ug) (S.s6 ug) hw h1 Ov (.inr ⟨_,rfl⟩) λZ u u2 h2 h3 h4=>bP (q1 M rfl Z u (ug.trans u2) h2 h3 h4)
theorem NY{Q:Nat->Pr}(q:∀i τ,Up [] σ τ->τ[i]?=some c->Q i τ):W (Qp c) Q σ:=by unfold W;exact q σ.length (σ++[c]) .new (by simp)
theorem CG{gi M:Nat}{Q:Option (V×gE)->Pr}(F:bT σ f cs m w h prec co)(S:dJ σ s ps ds m kk pt)(hw:0<w/\w<21)(hh:h<21)(hM:w*h=M+1)(Yu:M+1<21)(hg:σ[gi]?=some (.gen (ur f s)))(q:∀τ u j,i9 σ τ->τ[gi]?=some (.gen (ot f s w 0 j))->τ[j]?=some (.sy (0+1:Nat) 1 M)->τ[u]?=some (pe m (0%w) (0/w))->Q (some (.ref u,.gen gi)) τ):W (aJ (ag gg (n+41)) (.gen gi)) Q σ:=by
 refine ba (bC hg (ba (eV (c:=.busy) hg λτ u1 h1=>?_)));have ug:=i9.set u1 hg rfl;have F:=F.s6 ug;have S:=S.s6 ug;refine W.seq (P:=λx Z=>∃j,x=(uE f s w,j)/\Up [] τ Z/\Z[j]?=some (.sy 0 1 (M+1))) ?_ λx Z hx=>?_
 ·refine W.seq (P:=λp Z=>p=(.next,⟨uE f s w,[]⟩)/\Up [] τ Z) ((lE (EX gg _) (k:=λfl e Z=>(fl,e)=(.next,⟨uE f s w,[]⟩)/\Up [] τ Z) (bk (p:=W ((ag gg (n+39)).C (aa 49) [.ref f,.ref s]) (λv Z=>(Fl.next,ar.mk [("frame",.ref f),("scan",.ref s),("across",v)] [])=(.next,⟨uE f s w,[]⟩)/\Up [] τ Z) τ) (kL F S λZ u=>⟨rfl,u⟩)))) λp Z hp=>?_;obtain⟨rfl,u2⟩:=hp;have F:=F.up u2;have S:=S.up u2;refine bO (a:=⟨(),rfl⟩) rfl (W.seq (P:=λv aH=>v=.hK 0 (M+1:Nat) 1/\Up [] Z aH) ((EX gg _).E (bk (p:=(W ((ag gg (n+39)).C (aa 50) [.ref f,.ref s]) λv=>W (aX "range" [v]) λr aH=>r=.hK 0 (M+1:Nat) 1/\Up [] Z aH) Z) ?_)) λv aH hv=>?_)
  ·refine ue F S hh λaH u=>cy ⟨?_,u⟩;rw[<-natCast_mul,hM]
  ·obtain⟨rfl,u3⟩:=hv;refine bO (a:=⟨(0,(M+1:Nat),1),rfl⟩) rfl (bO (qX ⟨M+1,Yu⟩) (ba (NY λj eM u4 h4=>bP (gw j rfl ((u2.trans u3).trans u4) h4))))
 ·(refine cA hx λj D1 u2 hj=>?_;clear hx;subst D1);exact xF (k:=0) (F.up u2) (S.up u2) hw (u2.at h1) hj (.inl rfl) λaH u u3 h2 h3 h4=>bP (q aH u j (ug.trans (u2.g.trans u3)) h2 h3 h4)
end
noncomputable def SJ:aL->Bool
 |.lst _=>true
 |.gen _=>true
 |.busy=>true
 |.sy .. =>true
 |_=>false
def KL(σ τ:af):Prop:=∀(j:Nat)(c:aL),σ[j]?=some c->SJ c=true->τ[j]?=some c
theorem KL.trans(u:KL σ τ)(v:KL τ Z):KL σ Z:=λj c h n=>v j c (u j c h n) n
theorem Up.kl(u:Up [] σ τ):KL σ τ:=λj c h _=>u.at h
theorem KL.set(u:Up [i] σ τ)(h:σ[i]?=some c)(g:SJ c=false):KL σ τ:=λj d hd n=>u.ne hd λe=>by
 subst e;replace n:=(g▸((bE (hd.symm.trans h))▸n));exact mO n
set_option genInjectivity false in
set_option genSizeOf false in
structure Cx where
 (m w h k:Nat)
 mid:Int
 G:Nat->Nat->Nat->Int
 (wr sl g lp sk t r:Nat)
 pp:Nat->Nat
 qq:Nat->Nat->Nat
 α:Type
 I:α->Pr
 J:α->Nat->Int->Pr
 E:α->Pr
 ok:α->Nat->Int->Prop
 nx:α->Nat->Int->α
 c:Str
 (fs fb ff:kI)
 fin:α->V->Prop
 (f cs prec s ps ds pt:Nat)
 co:Nat->Nat
structure vR(C:Cx)(τ:af):Prop where
 wr:τ[C.wr]?=some (.ins "LosslessWriter" [("slots",.ref C.sl),("samples",.ref C.g),("predictor",.ref C.lp),("sink",.ref C.sk)])
 sl:τ[C.sl]?=some (eX (λ(j:Nat)=>.int j) C.m)
 lp:DF τ C.lp C.g C.k C.mid C.t
 gr:et τ C.g C.r C.m C.w C.h C.G C.pp C.qq
 sk:∃fs,τ[C.sk]?=some (.ins C.c fs)/\(look "symbol" fs,look "bits" fs,look "finish" fs)=(none,none,none)
 fr:bT τ C.f C.cs C.m C.w C.h C.prec C.co
 sc:dJ τ C.s C.ps C.ds C.m C.k C.pt
structure Cx.Ok(C:Cx):Prop where
 mt:gg.cV C.c "symbol"=some C.fs/\gg.cV C.c "bits"=some C.fb/\gg.cV C.c "finish"=some C.ff
 stI:∀{a τ},C.I a τ->vR C τ
 TR:∀{a s v τ},C.J a s v τ->vR C τ
 top:∀{a σ τ e k},C.I a σ->σ[C.t]?=some (.cG e k)->Up [C.t] σ τ->C.I a τ
 gen:∀{a σ τ},C.I a σ->i9 σ τ->C.I a τ
 sym:∀{n a s v σ Q},C.I a σ->C.ok a s v->(∀τ,C.J a s v τ->τ[C.t]?=σ[C.t]?->KL σ τ->Q .none τ)->W ((ag gg (n+20)).C C.fs [.ref C.sk,.tup [.int 0,.int s],.int (f3 v)]) Q σ
 bits:∀{n a s v σ Q},C.J a s v σ->0<f3 v/\f3 v<16->(∀τ,C.I (C.nx a s v) τ->τ[C.t]?=σ[C.t]?->KL σ τ->Q .none τ)->W ((ag gg (n+20)).C C.fb [.ref C.sk,.int (t7 v (f3 v)),.int (f3 v)]) Q σ
 skip:∀{a s v σ},C.J a s v σ->¬(0<f3 v/\f3 v<16)->C.I (C.nx a s v) σ
 finish:∀{n a σ Q},C.I a σ->(∀τ v,C.fin a v->C.E a τ->KL σ τ->Q v τ)->W ((ag gg (n+30)).C C.ff [.ref C.sk]) Q σ
noncomputable def Cx.dv(C:Cx)(p y x:Nat):Int:=CO (C.G p y x) (ky C.k C.mid (C.G p) y x)
theorem Mo{C:Cx}(O:C.Ok){S:List Nat}{a:C.α}{p x y c:Nat}(hp:p<C.m)(hx:x<C.w)(hy:y<C.h)(hI:C.I a σ)(ht:σ[C.t]?=some (.cG (fu S) c))(hS:p∈S\/y=0)(hf:cM (fu S).length=true)(vj:C.ok a p (C.dv p y x))(q:∀τ c',C.I (C.nx a p (C.dv p y x)) τ->τ[C.t]?=some (.cG (fu (sT p S)) c')->KL σ τ->Q .none τ):W ((ag gg (n+36)).C (ah 21 2) [.ref C.wr,.int p,.int p,.int x,.int y]) Q σ:=by
 let aO:=λ(v8:V) (HV:List V->Pr) (pd:V)=>HV [(.tup [.int 0,pd]),v8];let aZ:=λ(v8:V) (HV:List V->Pr) (kJ:V)=>W (aR kJ (.int p)) (aO v8 HV);let bW:=λ(v8:V) (Vv:List V->Pr) (uo:V)=>Vv [uo,v8];let c8:=λ(sF:V)=>Q .none;let dG:=λ(v7:V) (v8:V) (mx:V)=>W (az gg mx "bits") (bA (ag gg (n+32)) (λVv H=>(W ((ag gg (n+31)).C (aa 9) [v7,v8]) (bW v8 Vv)) H) mx c8);let dR:=λ(v7:V) (v8:V) (RZ:Bool)=>cR RZ (W (aB gg (.ref C.wr) "sink") (dG v7 v8)) (Q .none);let fC:=λ(v8:V) (Vu:List V->Pr) (Iq:V)=>Vu [Iq,v8];let gX:=λ(Ay:V)=>Q .none;let iU:=λ(v7:V) (v8:V) (v20:V)=>W (az gg v20 "bits") (bA (ag gg (n+32)) (λVu H=>(W ((ag gg (n+31)).C (aa 9) [v7,v8]) (fC v8 Vu)) H) v20 gX);let eE:=λ(v7:V) (v8:V) (YX:Bool)=>cR YX (W (cX .Lt v8 (.int 16)) (dR v7 v8)) (Q .none);let fj:=λ(v7:V) (v8:V) (v10:V)=>W (cX .Lt (.int 0) v8) (eE v7 v8);let gY:=λ(v7:V) (v8:V) (v9:V)=>W (az gg v9 "symbol") (bA (ag gg (n+33)) (λHV H=>(W (aB gg (.ref C.wr) "slots") (aZ v8 HV)) H) v9 (fj v7 v8));let jl:=λ(v7:V) (v8:V)=>W (aB gg (.ref C.wr) "sink") (gY v7 v8);let jL:=λ(v7:V)=>W ((ag gg (n+33)).C (aa 8) [v7]) (jl v7);let ke:=λ(v2:V) (v5:V)=>W ((ag gg (n+33)).C (aa 15) [v5,v2]) jL;let kG:=λ(v2:V) (v4:V)=>W (az gg v4 "get") (bA (ag gg (n+32)) (λK6=>K6 [.int p,.int x,.int y]) v4 (ke v2));let kF:=λ(v2:V)=>W (aB gg (.ref C.wr) "samples") (kG v2);let mK:=λ(v1:V)=>W (az gg v1 "told") (bA (ag gg (n+33)) (λK3=>K3 [.int p,.int x,.int y]) v1 kF);refine ce (p:=(W (aB gg (.ref C.wr) "predictor") mK) σ) ?_;have T:=O.stI hI;have o1:=T.wr;have o2:=T.lp.obj;refine ku ?_;refine jw kE ?_;refine Mm T.lp T.gr hp hx hy ht hS hf λτ c' u e=>?_;have hI:=O.top hI ht u;have kl:=KL.set u ht rfl;have T:=O.stI hI;have o1:=T.wr;have o2:=T.gr.obj;refine qi ?_;refine jw dN ?_;refine wz T.gr hp hx hy (uh (yH ?_));refine vQ ?_;refine ak (T.sk) λfs h1 h2=>?_;have h2:=Prod.mk.inj h2;refine dI h1 O.mt.1 h2.1 ?_;refine mV ?_;refine bX T.sl hp T.gr.hm (O.sym hI vj λτ hJ ht XD=>?_);have ht:=ht.trans e;have kl:=kl.trans XD;have T:=O.TR hJ;have fin: ¬(0<f3 (C.dv p y x)/\f3 (C.dv p y x)<16)->Q .none τ:=λh=>q τ c' (O.skip hJ h) ht kl;refine lZ (DL (λh0=>lZ (DL (λh1=>?_) λh1=>fin λh=>h1 (ofNat_lt.mpr h.2))) λh0=>fin λh=>h0 (ofNat_lt.mpr h.1));have h:=And.intro (ofNat_lt.mp h0) (ofNat_lt.mp h1);have o1:=T.wr;refine vQ ?_;refine ak (T.sk) λfs h1 h2=>?_;refine dI h1 O.mt.2.1 (Prod.mk.inj (Prod.mk.inj h2).2).1 ?_;exact Bx (ao (cF h.2) (by decide)) (O.bits hJ h λτ hI Uw XC=>q τ c' hI (Uw.trans ht) (kl.trans XC))
noncomputable def Cx.row(C:Cx)(k:Nat):Nat->C.α->C.α
 |0,a=>a
 |p+1,a=>C.nx (C.row k p a) p (C.dv p (k/C.w) (k%C.w))
noncomputable def Cx.all(C:Cx)(a:C.α):Nat->C.α
 |0=>a
 |k+1=>C.row k C.m (C.all a k)
theorem DA:sT p (range p)=range (p+1):=by
 rw[sT,if_neg (λh=>Nat.lt_irrefl p (mem_range.mp h)),range_succ]
theorem DB(h:p<m):sT p (range m)=range m:=by rw[sT,if_pos (mem_range.mpr h)]
def Oi(gi wr fo:Nat)(i:Int)(e:ar):Prop:=e=⟨[("units",.ref gi),("interval",.int 0),("writer",.ref wr),("found",.ref fo),("many",.int i)],[]⟩\/(∃u,e=⟨[("units",.ref gi),("interval",.int 0),("writer",.ref wr),("found",.ref fo),("many",.int i),("unit",u)],[]⟩)\/∃u a b c d,e=⟨[("units",.ref gi),("interval",.int 0),("writer",.ref wr),("found",.ref fo),("many",.int i),("unit",u),("spot",a),("place",b),("x",c),("y",d)],[]⟩
def VL(gi wr fo:Nat)(i:Int)(u:V)(e:ar):Prop:=e=⟨[("units",.ref gi),("interval",.int 0),("writer",.ref wr),("found",.ref fo),("many",.int i),("unit",u)],[]⟩\/∃a b c d,e=⟨[("units",.ref gi),("interval",.int 0),("writer",.ref wr),("found",.ref fo),("many",.int i),("unit",u),("spot",a),("place",b),("x",c),("y",d)],[]⟩
section
variable{C:Cx}{gi fo ui k:Nat}{a0:C.α}{K:Fl->ar->Pr}{e:ar}
theorem Ez(O:C.Ok)(hk:k%C.w<C.w/\k/C.w<C.h)(vj:∀p,p<C.m->C.ok (C.row k p (C.all a0 k)) p (C.dv p (k/C.w) (k%C.w)))(hI:C.I (C.all a0 k) σ)(ht:σ[C.t]?=some (.cG (fu (range (if k=0 then 0 else C.m))) c))(hu:σ[ui]?=some (pe C.m (k%C.w) (k/C.w)))(he:Oi gi C.wr fo i e)(q:∀e τ c',(∃i,Oi gi C.wr fo i e)->C.I (C.all a0 (k+1)) τ->τ[C.t]?=some (.cG (fu (range C.m)) c')->KL σ τ->K .next e τ):bp (ay gg (n+44)) (aa 23).sc (aF (aa 23).body [3]) (.ref ui) e K σ:=by
 have hm:=(O.stI hI).fr.hm;have key:∀e,VL gi C.wr fo i (.ref ui) e->(W (aQ (.ref ui)) λrk=>aK (aJ (ag gg (n+43))) (bp (ay gg (n+43)) (aa 23).sc (aF (aa 23).body [3,1])) (bx (ay gg (n+44)) (aa 23).sc ((dQ (aF (aa 23).body [3])).drop 2) K) rk.2 rk.1 e) σ:=λe he=>by
  refine dj hu ?_;refine oz (λr e τ=>VL gi C.wr fo i (.ref ui) e/\KL σ τ/\∃p,((range C.m).map λ(p:Nat)=>V.tup [.int p,.int p,.int (k%C.w:Nat),.int (k/C.w:Nat)]).drop p=r/\p<=C.m/\C.I (C.row k p (C.all a0 k)) τ/\∃c,τ[C.t]?=some (.cG (fu (range (if k=0 then p else C.m))) c)) (λr e τ ae=>ae.2.1 _ _ hu rfl) (λv r e τ K' ae q'=>?_) (λe τ ae=>?_) rfl (ry he (λ_ _ h _=>h) 0 rfl (zero_le _) hI c ht) (fx _)
  ·(refine rS ae λhe kl p e1 hp hI c ht=>?_;clear ae);refine bH (cO (f:=λ(p:Nat)=>V.tup [.int p,.int p,.int (k%C.w:Nat),.int (k/C.w:Nat)]) e1) λhp ev e2=>?_;have ev:v=V.tup [.int p,.int p,.int (k%C.w:Nat),.int (k/C.w:Nat)]:=ev;subst ev;let aO:=λ(v1:V)=>K' .next ⟨[("units",.ref gi),("interval",.int 0),("writer",.ref C.wr),("found",.ref fo),("many",.int i),("unit",.ref ui),("spot",.int p),("place",.int p),("x",.int (k%C.w:Nat)),("y",.int (k/C.w:Nat))],[]⟩;have t:(W (az gg (.ref C.wr) "code") (bA (ag gg (n+41)) (λK2=>K2 [.int p,.int p,.int (k%C.w:Nat),.int (k/C.w:Nat)]) (.ref C.wr) aO)) τ:=by
    refine dI (O.stI hI).wr j7 (by kernel_rfl) ?_;refine Mo O hp hk.1 hk.2 hI ht ?_ (aG ?_) (vj p hp) λeM c' Yv Uw XE=>q' _ eM (ry (.inr (nE _ _ _ _ rfl)) (kl.trans XE) (p+1) e2 hp Yv c' ?_)
    ·by_cases Nj:k=0
     ·exact .inr (by rw[Nj,Nat.zero_div])
     ·rw[if_neg Nj];exact .inl (mem_range.mpr hp)
    ·simp only[fu,length_map,length_range]
     split
     ·exact ao (cF hp) (ao (cF hm.2) (by decide))
     ·exact ao (cF hm.2) (by decide)
    ·rw[Uw];by_cases Nj:k=0
     ·rw[if_pos Nj,if_pos Nj,DA]
     ·rw[if_neg Nj,if_neg Nj,DB hp]
   rcases he with rfl|⟨a,b,c,d,rfl⟩
   ·exact bk t
   ·exact bk t
  ·(refine rS ae λhe kl p e1 hp hI c ht=>?_;clear ae);(have qY:=dA (f:=λ(p:Nat)=>V.tup [.int p,.int p,.int (k%C.w:Nat),.int (k/C.w:Nat)]) hp e1;subst qY);have ht:τ[C.t]?=some (.cG (fu (range C.m)) c):=by rw[ht];split<;>rfl
   have q:=λe (he:∃i,Oi gi C.wr fo i e)=>q e τ c he hI ht kl
   rcases he with rfl|⟨a,b,c,d,rfl⟩
   ·exact bk (p:=K .next ⟨[("units",.ref gi),("interval",.int 0),("writer",.ref C.wr),("found",.ref fo),("many",.int (i+1)),("unit",.ref ui)],[]⟩ τ) (q _ ⟨i+1,.inr (.inl ⟨_,rfl⟩)⟩)
   ·exact bk (p:=K .next ⟨[("units",.ref gi),("interval",.int 0),("writer",.ref C.wr),("found",.ref fo),("many",.int (i+1)),("unit",.ref ui),("spot",a),("place",b),("x",c),("y",d)],[]⟩ τ) (q _ ⟨i+1,.inr (.inr (Gb _ _ _ _ _ rfl))⟩)
 rcases he with rfl|⟨u,rfl⟩|⟨u,a,b,c,d,rfl⟩
 ·exact bk (key ⟨[("units",.ref gi),("interval",.int 0),("writer",.ref C.wr),("found",.ref fo),("many",.int i),("unit",.ref ui)],[]⟩ (.inl rfl))
 ·exact bk (key ⟨[("units",.ref gi),("interval",.int 0),("writer",.ref C.wr),("found",.ref fo),("many",.int i),("unit",.ref ui)],[]⟩ (.inl rfl))
 ·exact bk (key ⟨[("units",.ref gi),("interval",.int 0),("writer",.ref C.wr),("found",.ref fo),("many",.int i),("unit",.ref ui),("spot",a),("place",b),("x",c),("y",d)],[]⟩ (.inr (nE _ _ _ _ rfl)))
theorem yK(O:C.Ok){Kx:Fl->ar->Pr}(hw:0<C.w/\C.w<21)(vj:∀k p,k<C.w*C.h->p<C.m->C.ok (C.row k p (C.all a0 k)) p (C.dv p (k/C.w) (k%C.w)))(done:∀e τ,(∃i,Oi gi C.wr fo i e)->C.I (C.all a0 (C.w*C.h)) τ->τ[fo]?=some (.lst [])->Kx .next e τ):∀{M k fuel:Nat}{σ:af}{e:ar}{c:Nat},k+1+M=C.w*C.h->M<fuel->σ[gi]?=some (.gen (ot C.f C.s C.w k j))->σ[j]?=some (.sy (k+1:Nat) 1 M)->C.I (C.all a0 (k+1)) σ->σ[C.t]?=some (.cG (fu (range C.m)) c)->σ[fo]?=some (.lst [])->(∃i,Oi gi C.wr fo i e)->aK (aJ (ag gg (n+44))) (bp (ay gg (n+44)) (aa 23).sc (aF (aa 23).body [3])) Kx fuel (.gen gi) e σ:=by
 intro M k l0
 induction l0 generalizing M k with
 |zero=>
  rintro _ _ _ _ l _ _ _ _ _ _;exact(not_lt_zero _ l).elim
 |succ fuel hi=>
  rintro σ e c hM l hg hj hI ht hf he;have T:=O.stI hI;refine GF (n:=n+3) T.fr T.sc hw hg hj (λm0 τ ug=>?_) λM' m1 τ u ug h1 h2 h3=>?_
  ·subst m0;have hM:k+1=C.w*C.h:=hM;exact done e τ he (hM▸O.gen hI ug) (ug.2 _ _ hf rfl)
  ·subst m1;have hk:k+1<C.w*C.h:=hM▸Nat.lt_add_of_pos_right (succ_pos _);refine eL he λi he=>?_;refine Ez O ⟨mod_lt _ hw.1,Nat.div_lt_of_lt_mul hk⟩ (vj (k+1) · hk) (O.gen hI ug) (ug.2 _ _ (show σ[C.t]?=some (.cG (fu (range (if k+1=0 then 0 else C.m))) c) from ht) rfl) h3 he λe eM c' he hI ht kl=>?_
   exact hi (by simp only[<-hM];exact Nat.add_right_comm _ _ _) (lt_of_succ_lt_succ l) (kl _ _ h1 rfl) (kl _ _ h2 rfl) hI ht (kl _ _ (ug.2 _ _ hf rfl) rfl) he
end
theorem Kn{N:gE×Nat->Pr}(h:σ[i]?=some (.gen g))(q:N (.gen i,64) σ):W (aQ (.ref i)) N σ:=bC h (bP q)
noncomputable def sI(a b c:V)(t:Nat):List (Str×V):=[("samples",a),("kind",b),("middle",c),("tops",.ref t)]
theorem yF(h:σ[i]?=some (.ins "LinePredictor" (sI a b c t0)))(q:∀τ t,Up [i] σ τ->σ.length<=t->τ[t]?=some (.cG [] 0)->τ[i]?=some (.ins "LinePredictor" (sI a b c t))->Q .none τ):W ((ag gg (n+11)).C (ah 16 1) [.ref i]) Q σ:=by
 let aO:=λ(_:Unit)=>Q .none;let aZ:=λ(v1:V)=>W (bq gg (.ref i) "tops" v1) aO;refine ce (p:=(W (dq (.cG [] 0)) aZ) σ) ?_;refine bG λt τ u l h0=>cQ (u.at h) (fs':=sI a b c t) (by kernel_rfl) (by kernel_rfl) λZ u1 h1=>q Z t (u.any.trans u1) l (u1.ne h0 (bV h0 (u.at h) nofun)) h1
theorem yD(hw:σ[i]?=some (.ins "LosslessWriter" [("slots",.ref sl),("samples",.ref g),("predictor",.ref lp),("sink",.ref sk)]))(h:σ[lp]?=some (.ins "LinePredictor" (sI a b c t0)))(q:∀τ t,Up [lp] σ τ->σ.length<=t->τ[t]?=some (.cG [] 0)->τ[lp]?=some (.ins "LinePredictor" (sI a b c t))->Q .none τ):W ((ag gg (n+16)).C (ah 21 1) [.ref i]) Q σ:=by
 let aO:=λ(v2:V)=>Q .none;let aZ:=λ(v1:V)=>W (az gg v1 "start") (bA (ag gg (n+13)) (λK3=>K3 []) v1 aO);refine ce (p:=(W (aB gg (.ref i) "predictor") aZ) σ) ?_;refine ku ?_;refine dI h j8 (by kernel_rfl) (yF h q)
theorem wq{C:Cx}(O:C.Ok){a:C.α}(hI:C.I a σ)(q:∀τ v,C.fin a v->C.E a τ->KL σ τ->Q v τ):W ((ag gg (n+36)).C (ah 21 3) [.ref C.wr]) Q σ:=by
 let aO:=λ(v2:V)=>Q v2;let aZ:=λ(v1:V)=>W (az gg v1 "finish") (bA (ag gg (n+33)) (λK3=>K3 []) v1 aO);refine ce (p:=(W (aB gg (.ref C.wr) "sink") aZ) σ) ?_;have T:=O.stI hI;have o:=T.wr;refine vQ ?_;refine ak (T.sk) λfs h1 h2=>?_;exact dI h1 O.mt.2.2 (Prod.mk.inj (Prod.mk.inj h2).2).2 (O.finish hI q)
structure Vr(τ:af)(wr t f s fo:Nat)(Q:V->Pr) where
 C:Cx
 a0:C.α
 O:C.Ok
 hI:C.I a0 τ
 e:(C.wr,C.t,C.f,C.s)=(wr,t,f,s)
 hw:0<C.w/\C.w<21
 hh:C.h<21
 hN:∃M,C.w*C.h=M+1/\M+1<21
 ok:∀k p,k<C.w*C.h->p<C.m->C.ok (C.row k p (C.all a0 k)) p (C.dv p (k/C.w) (k%C.w))
 fin:∀Z aH v,C.fin (C.all a0 (C.w*C.h)) v->C.E (C.all a0 (C.w*C.h)) Z->Z[fo]?=some (.lst [])->Up [fo] Z aH->aH[fo]?=some (.lst [v])->Q (.ref fo) aH
theorem iV{gi wr lp sl g sk t0 f s:Nat}{a b c:V}(hg:σ[gi]?=some (.gen (ur f s)))(hw:σ[wr]?=some (.ins "LosslessWriter" [("slots",.ref sl),("samples",.ref g),("predictor",.ref lp),("sink",.ref sk)]))(h:σ[lp]?=some (.ins "LinePredictor" (sI a b c t0)))(mk:∀τ t fo,Up [lp] σ τ->σ.length<=t->t≠fo->σ.length<=fo->τ[t]?=some (.cG [] 0)->τ[lp]?=some (.ins "LinePredictor" (sI a b c t))->Nonempty (Vr τ wr t f s fo Q)):W ((ag gg (n+46)).C (aa 23) [.ref gi,.int 0,.ref wr]) Q σ:=by
 let aO:=λ(v1:V) (v2:V)=>W (aQ (.ref gi)) λnC=>aK (aJ (ag gg (n+44))) (bp (ay gg (n+44)) (aa 23).sc (aF (aa 23).body [3])) (bx (ay gg (n+45)) (aa 23).sc ((aa 23).body.drop 4) (cz Q)) nC.2 nC.1 ⟨[("units",.ref gi),("interval",.int 0),("writer",.ref wr),("found",v1),("many",.int 0)],[]⟩;let aZ:=λ(v1:V)=>W (az gg (.ref wr) "start") (bA (ag gg (n+43)) (λK3=>K3 []) (.ref wr) (aO v1));refine ce (p:=(W (dE []) aZ) σ) ?_;refine bZ rfl λfo τ u l0 h0=>?_;have o:=u.at hw;refine jw jJ ?_;refine yD o (u.at h) λτ t u1 lt ht Rc=>?_;have Ow:=u1.ne (u.at hg) (bV (u.at hg) (u.at h) nofun);have SU:=u1.ne h0 (bV h0 (u.at h) nofun);obtain⟨P⟩:=mk τ t fo (u.any.trans u1) (ao u.1 lt) (bV ht SU nofun) l0 ht Rc;obtain⟨C,a0,O,hI,e,hW,hh,⟨M,hN,hM⟩,ok,fin⟩:=P;have e1:=Prod.mk.inj e;have e2:=Prod.mk.inj e1.2;have e3:=Prod.mk.inj e2.2;obtain rfl:=e1.1;obtain rfl:=e2.1;obtain rfl:=e3.1;obtain rfl:=e3.2;have T:=O.stI hI;have done:∀e τ,(∃i,Oi gi C.wr fo i e)->C.I (C.all a0 (C.w*C.h)) τ->τ[fo]?=some (.lst [])->bx (ay gg (n+45)) (aa 23).sc ((aa 23).body.drop 4) (cz Q) .next e τ:=λe τ he hI hf=>by
  let aO:=λ(K2:List V->Pr) (v3:V)=>K2 [v3];let aZ:=λ(v1:V)=>Q (.ref fo);have t:(W (az gg (.ref fo) "append") (bA (ag gg (n+43)) (λK2 H=>(W (az gg (.ref C.wr) "finish") (bA (ag gg (n+42)) (λK4=>K4 []) (.ref C.wr) (aO K2))) H) (.ref fo) aZ)) τ:=by
   refine fg hf ig (dI (O.stI hI).wr jf (by kernel_rfl) (wq O hI λZ v hv hE kl=>nZ (kl _ _ hf rfl) rfl λaH u h'=>fin Z aH v hv hE (kl _ _ hf rfl) u h'))
  obtain⟨i,rfl|⟨u,rfl⟩|⟨u,a,b,c,d,rfl⟩⟩:=he
  ·exact bk t
  ·exact bk t
  ·exact bk t
 refine Kn Ow (CG (n:=n+3) T.fr T.sc hW hh hN hM Ow λeM u j ug h1 h2 h3=>?_);have hk:0<C.w*C.h:=hN▸succ_pos _;refine Ez O ⟨mod_lt _ hW.1,Nat.div_lt_of_lt_mul hk⟩ (ok 0 · hk) (O.gen hI ug) (ug.2 _ _ ht rfl) h3 (.inl rfl) λe τ c' he hI ht kl=>?_;exact yK O hW ok done (by rw[hN,Nat.add_comm]) (lt_of_succ_lt (Nat.lt_trans hM (by decide))) (kl _ _ h1 rfl) (kl _ _ h2 rfl) hI ht (kl _ _ (ug.2 _ _ SU rfl) rfl) he
noncomputable def jq(c:Nat):List (Nat×Nat)->Nat
 |[]=>0
 |(a,k)::r=>if a=c then k else jq c r
noncomputable def eT(es:List (Nat×Nat))(c:Nat):List (Nat×Nat):=if es.any (λp=>decide (p.1=c))then es.map (λp=>if p.1=c then(c,jq c es+1)else p)else es++[(c,1)]
noncomputable def n9(e:Nat->Int)(es:List (Nat×Nat)):List (Int×V):=es.map λp=>(e p.1,.int (p.2:Nat))
noncomputable def fL(es:List (Nat×Nat)):List (Int×V):=es.map λp=>((p.1:Int),.int (p.2:Nat))
section
variable{e:Nat->Int}{c:Nat}
def sv(e:Nat->Int)(c:Nat)(es:List (Nat×Nat)):Prop:=∀p∈es,e p.1=e c->p.1=c
theorem Mu:sv (λc=>(c:Int)) c es:=λ_ _ h=>ofNat.inj h
theorem Dx:∀{es:List (Nat×Nat)},sv e c es->(aV (e c) (n9 e es)).getD (.int 0)=.int (jq c es:Nat):=by
 intro l0
 induction l0 with
 |nil=>
  rintro _;exact rfl
 |cons hd r hi=>
  obtain⟨a,k⟩:=hd;rintro t;refine(?_:(if e a=e c then some (V.int k)else aV (e c) (n9 e r)).getD (.int 0)=.int (if a=c then k else jq c r:Nat));by_cases h:a=c
  ·rw[if_pos (congrArg _ h),if_pos h];rfl
  ·rw[if_neg λq=>h (t _ mem_cons_self q),if_neg h];exact hi λp hp=>t p (fX _ hp)
theorem Kd:∀{es:List (Nat×Nat)},sv e c es->(n9 e es).any (λp=>decide (p.1=e c))=es.any (λp=>decide (p.1=c)):=by
 intro l0
 induction l0 with
 |nil=>
  rintro _;exact rfl
 |cons hd r hi=>
  obtain⟨a,k⟩:=hd;rintro t;refine(?_:(decide (e a=e c)||(n9 e r).any _)=(decide (a=c)||r.any _));rw[hi λp hp=>t p (List.mem_cons_of_mem _ hp),decide_eq_decide.mpr ⟨t _ mem_cons_self,congrArg e⟩]
theorem GA:∀{es:List (Nat×Nat)},es.any (λp=>decide (p.1=c))=false->jq c es=0:=by
 intro l0
 induction l0 with
 |nil=>
  rintro _;exact rfl
 |cons hd r hi=>
  obtain⟨a,k⟩:=hd;rintro h;rw[any_cons,Bool.or_eq_false_iff]at h;show(if a=c then k else jq c r)=0;rw[if_neg (of_decide_eq_false h.1),hi h.2]
theorem HF(t:sv e c es):iR (e c) (.int ((jq c es:Nat)+1)) (n9 e es)=n9 e (eT es c):=by
 unfold iR eT;rw[Kd t];by_cases h:es.any (λp=>decide (p.1=c))=true
 ·rw[if_pos h,if_pos h,n9,n9,List.map_map,List.map_map];refine dW λp hp=>?_;refine(?_:(if e p.1=e c then(e p.1,V.int ((jq c es:Nat)+1))else(e p.1,V.int (p.2:Nat)))=(λp:Nat×Nat=>(e p.1,V.int (p.2:Nat))) (if p.1=c then(c,jq c es+1)else p));by_cases h:p.1=c
  ·rw[if_pos (congrArg _ h),if_pos h,h];rfl
  ·rw[if_neg λq=>h (t p hp q),if_neg h]
 ·rw[if_neg h,if_neg h,GA (Bool.eq_false_iff.mpr h),n9,n9,map_append];rfl
end
noncomputable def eB(l:List Nat):List (Nat×Nat):=l.foldl eT []
theorem oX:eB (l++[c])=eT (eB l) c:=by unfold eB;rw[List.foldl_append];rfl
theorem C6:(eT es c).length<=es.length+1:=by
 unfold eT
 split
 ·rw[length_map];exact le_succ _
 ·rw[length_append];exact Nat.le_refl _
theorem nR:∀{l:List Nat},(eB l).length<=l.length:=by
 have:∀(l:List Nat)(es:List (Nat×Nat)),(l.foldl eT es).length<=es.length+l.length:=λl=>by
  induction l with
  |nil=>exact λes=>Nat.le_refl _
  |cons c l ih=>exact λes=>ao (ih (eT es c)) (ao (Nat.add_le_add_right C6 _) (by simp only[length_cons,Nat.add_assoc,Nat.add_comm 1];exact Nat.le_refl _))
 exact λ{l}=>ao (this l []) (by simp only[List.length_nil,Nat.zero_add];exact Nat.le_refl _)
theorem m4{e:Nat->Int}{X:V->Pr}(t:sv e c es)(h:σ[i]?=some (.cG (n9 e es) k))(hf:es.length<=1000)(q:∀τ k',Up [i] σ τ->τ[i]?=some (.cG (n9 e (eT es c)) k')->X .none τ):W (az gg (.ref i) "get") (bA (ag gg n) (λK2=>K2 [.int (e c),.int 0]) (.ref i) λv1=>W (ai .Add v1 (.int 1)) λv3=>W (iI (.ref i) (.int (e c)) v3) λ_=>X .none) σ:=by
 refine fg h AP (N5 h ?_);rw[Dx t];refine cq (se h (aG ?_) λτ u e=>?_)
 ·simp only[n9,length_map];exact hf
 ·rw[HF t]at e;exact q τ _ u e
theorem kM{X:V->Pr}(h:σ[i]?=some (.cG (fL es) k))(hf:es.length<=1000)(q:∀τ k',Up [i] σ τ->τ[i]?=some (.cG (fL (eT es c)) k')->X .none τ):W (az gg (.ref i) "get") (bA (ag gg n) (λK2=>K2 [.int c,.int 0]) (.ref i) λv1=>W (ai .Add v1 (.int 1)) λv3=>W (iI (.ref i) (.int c) v3) λ_=>X .none) σ:=
 m4 (e:=λc=>(c:Int)) Mu h hf q
noncomputable def M7:aL->Bool
 |.lst _=>true
 |.ins c _=>!(c=="BitWriter")
 |_=>false
def Bm(σ τ:af):Prop:=σ.length<=τ.length/\∀(j:Nat)(c:aL),σ[j]?=some c->M7 c=true->τ[j]?=some c
theorem Bm.trans{σ τ Z:af}(u:Bm σ τ)(v:Bm τ Z):Bm σ Z:=⟨ao u.1 v.1,λj c h n=>v.2 j c (u.2 j c h n) n⟩
theorem Up.s{σ τ:af}(u:Up [] σ τ):Bm σ τ:=⟨u.1,λj c h _=>u.at h⟩
theorem Bm.set{σ τ:af}{i:Nat}{c:aL}(u:Up [i] σ τ)(h:σ[i]?=some c)(g:M7 c=false):Bm σ τ:=⟨u.1,λj d hd n=>u.ne hd λe=>by
 subst e;replace n:=(g▸((bE (hd.symm.trans h))▸n));exact mO n⟩
theorem QZ{c:aL}(h:M7 c=true):Cq c=false:=by induction c using aL.casesOn<;>first|rfl|exact mO h
theorem i9.s{σ τ:af}(u:i9 σ τ):Bm σ τ:=⟨u.1,λj c h n=>u.2 j c h (QZ n)⟩
theorem Dy{K:Type}[DecidableEq K]{k:K}{r:List (K×V)}:∀{l:List (K×V)},aV k (l++r)=(aV k l).or (aV k r):=by
 intro l0
 induction l0 with
 |nil=>
  exact rfl
 |cons hd l hi=>
  obtain⟨a,v⟩:=hd;refine(?_:(if a=k then some v else aV k (l++r))=(if a=k then some v else aV k l).or (aV k r))
  split
  ·rfl
  ·exact hi
theorem lP{K:Type}[DecidableEq K]{key:Nat->K}(inj:∀i j,key i=key j->i=j){f:Nat->V}{p:Nat}:∀{j:Nat},aV (key p) ((range j).map λi=>(key i,f i))=if p<j then some (f p)else none:=by
 intro l0
 induction l0 with
 |zero=>
  exact rfl
 |succ j hi=>
  simp only[range_succ,map_append,Dy,hi];by_cases h:p<j
  ·rw[if_pos h,if_pos (lt_succ_of_lt h)];rfl
  ·rw[if_neg h];show aV (key p) [(key j,f j)]=_;refine(?_:(if key j=key p then some (f j)else none)=_);by_cases e:p=j
   ·rw[if_pos (by rw[e]),if_pos (e▸fx _),e]
   ·rw[if_neg λh=>e (inj _ _ h).symm,if_neg λh'=>h (Nat.lt_of_le_of_ne (le_of_lt_succ h') e)]
noncomputable def pk(p:Nat):List Int:=[0,(p:Int)]
theorem q5(i j:Nat)(h:pk i=pk j):i=j:=ofNat.inj (List.cons.inj (List.cons.inj h).2).1
noncomputable def mj(f:Nat->V)(j:Nat):aL:=match j with
 |0=>.cG [] 0
 |j=>.jt ((range j).map λp=>(pk p,f p))
structure fK(τ:af)(sk cc lo:Nat)(a:List (List Nat))(ds:List Nat):Prop where
 obj:τ[sk]?=some (.ins "CountSink" [("counts",.ref cc)])
 len:ds.length=a.length
 top:τ[cc]?=some (mj (λp=>.ref (ds.getD p 0)) ds.length)
 nd:ds.Nodup
 each:∀(p d:Nat)(l:List Nat),ds[p]?=some d->a[p]?=some l->∃k,τ[d]?=some (.cG (fL (eB l)) k)
 Jj:∀d∈ds,lo<=d
 OD:cc<lo
noncomputable def lh(a:List (List Nat))(p:Nat)(v:Int):List (List Nat):=if p<a.length then a.set p (a.getD p []++[f3 v])else a++[[f3 v]]
theorem xe(q:∀sk cc τ,Up [] σ τ->σ.length<=sk->σ.length<=cc->fK τ sk cc τ.length [] []->Q (.ref sk) τ):W (cx gg (ag gg (n+21)) (.cls "CountSink") []) Q σ:=by
 refine su (fi:=(ah 57 0)) (by kernel_rfl) λi τ u0 l0 hi=>?_;refine ce (p:=(W (dq (.cG [] 0)) λv1=>W (bq gg (.ref i) "counts" v1) λ_=>Fn i Q .none) τ) ?_;refine bG λcc eW u1 l1 h1=>cQ (u1.at hi) (fs':=[("counts",.ref cc)]) (by kernel_rfl) (by kernel_rfl) λdM u2 h2=>?_;exact q i cc dM ((u0.trans u1).fresh l0 u2) l0 (ao u0.1 l1) ⟨h2,rfl,u2.ne h1 (bV h1 (u1.at hi) nofun),nodup_nil,nofun,nofun,d5 (eG h1) u2.1⟩
theorem gv{f:Nat->V}{j:Nat}(h:0<j):mj f j=.jt ((range j).map λp=>(pk p,f p)):=by
 induction j using Nat.casesOn with
 |zero=>cases h
 |succ j=>rfl
theorem xD{l:List Nat}{p z:Nat}(h:p<l.length):(l++[z]).getD p 0=l.getD p 0:=by rw[getD_eq_getElem?_getD,getD_eq_getElem?_getD,getElem?_append_left h]
theorem xC{l:List Nat}{z:Nat}:(l++[z]).getD l.length 0=z:=by rw[getD_eq_getElem?_getD,List.getElem?_concat_length];rfl
theorem tJ{l:List Nat}{z:Nat}:(range l.length).map (λp=>(pk p,V.ref (l.getD p 0)))++[(pk l.length,V.ref z)]=(range (l++[z]).length).map λp=>(pk p,V.ref ((l++[z]).getD p 0)):=by
 simp only[length_append,List.length_singleton,range_succ,map_append]
 congr 1
 ·refine dW λp hp=>?_;rw[xD (mem_range.mp hp)]
 ·show _= [(pk l.length,V.ref ((l++[z]).getD l.length 0))];rw[xC]
section
variable{sk cc lo p:Nat}{a:List (List Nat)}{ds:List Nat}{v:Int}
theorem fK.cell(C:fK σ sk cc lo a ds){d:Nat}(h:d∈ds):∃es k,σ[d]?=some (.cG es k):=by
 obtain⟨p,hp,e⟩:=List.getElem_of_mem h;have ha:p<a.length:=C.len▸hp;obtain⟨k,h⟩:=C.each p d a[p] (e▸getElem?_eq_getElem hp) (getElem?_eq_getElem ha);exact(ml _ _ h)
theorem tI{f:Nat->V}{j:Nat}{c:Str}{fs:List (Str×V)}:aL.ins c fs≠mj f j:=by induction j using Nat.casesOn<;>exact nofun
theorem fK.sc(C:fK σ sk cc lo a ds):sk≠cc:=bV C.obj C.top tI
theorem fK.dc(C:fK σ sk cc lo a ds){d:Nat}(h:d∈ds):d≠cc:=λe=>dH (C.Jj d h) (e▸C.OD)
theorem fK.push{τ Z:af}{z:Nat}(C:fK σ sk cc lo a ds)(hl:lo<=σ.length)(lz:σ.length<=z)(u:Up [] σ τ)(hz:∃k,Z[z]?=some (.cG (fL (eB [f3 v])) k))(u1:∀(j:Nat)(c:aL),τ[j]?=some c->j≠cc->j≠z->Z[j]?=some c)(hc:Z[cc]?=some (mj (λp=>.ref ((ds++[z]).getD p 0)) (ds++[z]).length)):fK Z sk cc lo (lh a a.length v) (ds++[z]):=by
 have nz:∀{j:Nat}{c:aL},σ[j]?=some c->j≠z:=λh e=>dH lz (e▸eG h);rw[show lh a a.length v=a++[[f3 v]] from if_neg (Nat.lt_irrefl _)]
 refine⟨u1 _ _ (u.at C.obj) C.sc (nz C.obj),by simp only[length_append,length_append,C.len];rfl,hc,?_,?_,?_,C.OD⟩
 ·refine nodup_append.mpr ⟨C.nd,nodup_cons.mpr ⟨not_mem_nil,nodup_nil⟩,λx hx y hy e=>?_⟩;refine iN (C.cell hx) λ_ _ h=>?_;exact nz h (e.trans (bz hy))
 ·intro p d l hd hl;rw[List.getElem?_append]at hd hl;by_cases hp:p<ds.length
  ·replace hd:=Eq.trans (Eq.symm (if_pos hp)) hd;replace hl:=(if_pos (C.len▸hp))▸hl;obtain⟨k,h⟩:=C.each p d l hd hl;exact⟨k,u1 _ _ (u.at h) (C.dc (fP hd)) (nz h)⟩
  ·replace hd:=(Eq.trans (Eq.symm (List.getElem?_singleton)) (Eq.trans (Eq.symm (if_neg hp)) hd));rw[if_neg (C.len▸hp),List.getElem?_singleton]at hl
   split at hd
   ·rename_i e;replace hl:=(if_pos (C.len▸e))▸hl;obtain rfl:=bE hd;obtain rfl:=bE hl;exact hz
   ·exact cT hd
 ·exact λd hd=>(mem_append.mp hd).elim (C.Jj d) λe=>bz e▸ao hl lz
theorem fK.up{τ:af}(u:Up [] σ τ)(C:fK σ sk cc lo a ds):fK τ sk cc lo a ds:=
 ⟨u.at C.obj,C.len,u.at C.top,C.nd,λp d l h1 h2=>let ⟨k,h⟩:=C.each p d l h1 h2;⟨k,u.at h⟩,C.Jj,C.OD⟩
theorem fK.bump{Z:af}{d k:Nat}(C:fK σ sk cc lo a ds)(hp:p<a.length)(hd:ds[p]?=some d)(u:Up [d] σ Z)(h:Z[d]?=some (.cG (fL (eB (a.getD p []++[f3 v]))) k)):fK Z sk cc lo (lh a p v) ds:=by
 rw[show lh a p v=a.set p (a.getD p []++[f3 v]) from if_pos hp]
 have dm:=fP hd;refine iN (C.cell dm) λ_ _ hc=>?_;refine⟨u.ne C.obj (bV C.obj hc nofun),by rw[length_set,C.len],u.ne C.top (C.dc dm).symm,C.nd,?_,C.Jj,C.OD⟩;intro p' d' l' oP qg;rw[getElem?_set]at qg
 split at qg
 ·rename_i e;subst e;obtain rfl:=bE (hd.symm.trans oP);obtain rfl:=bE qg;exact⟨k,h⟩
 ·rename_i e;obtain⟨k',h'⟩:=C.each p' d' l' oP qg;refine⟨k',u.ne h' λed=>e ?_⟩;subst ed;have lt:p<ds.length:=C.len.symm▸hp;exact(getElem?_inj lt C.nd).mp (hd.trans oP.symm)
theorem qC(C:fK σ sk cc lo a ds)(hl:lo<=σ.length)(hp:p<=a.length)(hA:a.length<=1000)(ha:∀l∈a,l.length<=900)(q:∀τ OC,fK τ sk cc lo (lh a p v) OC->Up (cc::ds) σ τ->Q .none τ):W ((ag gg (n+16)).C (ah 57 1) [.ref sk,.tup [.int 0,.int p],.int (f3 v)]) Q σ:=by
 let aO:=λ(K3:List V->Pr) (v4:V)=>K3 [(.tup [.int 0,.int p]),v4];let aZ:=λ(_:Unit)=>Q .none;let bW:=λ(v2:V) (v7:V)=>W (iI v2 (.int (f3 v)) v7) aZ;let c8:=λ(v2:V) (v5:V)=>W (ai .Add v5 (.int 1)) (bW v2);let dG:=λ(v2:V)=>W (az gg v2 "get") (bA (ag gg (n+12)) (λK6=>K6 [.int (f3 v),.int 0]) v2 (c8 v2));let dR:=λ(v1:V)=>W (az gg v1 "setdefault") (bA (ag gg (n+13)) (λK3 H=>(W (dq (.cG [] 0)) (aO K3)) H) v1 dG);refine ce (p:=(W (aB gg (.ref sk) "counts") dR) σ) ?_;have o:=C.obj;refine mV ?_;have Cz:=C.top;by_cases h0:p<a.length
 ·have hd:p<ds.length:=C.len.symm▸h0;have kp:=gv (f:=λp=>V.ref (ds.getD p 0)) (Nat.lt_of_le_of_lt (zero_le p) hd);rw[kp]at Cz;refine fg Cz tD (bG λz eW u1 lz hz=>Ki (u1.at Cz) (k:=pk p) (v:=.ref (ds.getD p 0)) rfl ?_ ?_)
  ·rw[lP q5,if_pos hd]
  ·have e1:=ip hd;have e2:a[p]?=some (a.getD p []):=by rw[getD_eq_getElem?_getD,getElem?_eq_getElem h0];rfl
   obtain⟨k,h⟩:=C.each p _ _ e1 e2;refine kM (u1.at h) (ao nR (ao (ha _ (fP e2)) (by decide))) λτ k' u h'=>?_;rw[<-oX]at h';exact q τ ds ((C.up u1).bump h0 e1 u h') (u1.any.trans (u.sub λi hi=>fX _ (bz hi▸getD_mem hd)))
 ·have e:=Nat.le_antisymm hp (le_of_not_lt h0);subst e;have fin:∀z eW dM,Up [] σ eW->σ.length<=z->eW[z]?=some (.cG [] 0)->Up [cc] eW dM->dM[cc]?=some (mj (λp=>.ref ((ds++[z]).getD p 0)) (ds++[z]).length)->(W (az gg (.ref z) "get") (bA (ag gg (n+12)) (λK2=>K2 [.int (f3 v:Nat),.int 0]) (.ref z) λv1=>W (ai .Add v1 (.int 1)) λv3=>W (iI (.ref z) (.int (f3 v:Nat)) v3) λ_=>Q .none)) dM:=λz eW dM u1 lz hz u2 h2=>by
   have zc:z≠cc:=λe=>dH lz (e▸eG C.top);refine kM (es:=[]) (u2.ne hz zc) (zero_le _) λgT k' u3 h3=>?_;refine q gT (ds++[z]) (C.push hl lz u1 ⟨k',h3⟩ (λj c hj h1 h2=>u3.ne (u2.ne hj h1) h2) (u3.ne h2 zc.symm)) ⟨ao u1.1 (ao u2.1 u3.1),λj c hj hn=>u3.ne (u2.ne (u1.at hj) λe=>hn (e▸eO)) λe=>dH lz (e▸eG hj)⟩
  cases hL:ds.length with
  |zero=>
   have hd:=List.eq_nil_of_length_eq_zero hL;replace Cz:=hL▸Cz;refine fg Cz Ft (bG λz eW u1 lz hz=>Kk (u1.at Cz) (k:=pk a.length) rfl λdM u2 h2=>fin z eW dM u1 lz hz u2 ?_);subst hd;(refine Eq.symm h2▸?_;refine(C.len)▸?_);rfl
  |succ j=>
   have lt:0<ds.length:=hL▸succ_pos j;replace Cz:=(gv lt)▸Cz;refine fg Cz tD (bG λz eW u1 lz hz=>Kj (u1.at Cz) (k:=pk a.length) rfl ?_ (aG ?_) λdM u2 h2=>fin z eW dM u1 lz hz u2 ?_)
   ·rw[lP q5,<-C.len,if_neg (Nat.lt_irrefl _)]
   ·rw[ck,C.len];exact hA
   ·rw[h2,gv (by rw[length_append];exact d5 lt (le_add_right _ _)),<-tJ,C.len]
end
theorem i9.fresh{S:List Nat}{σ τ Z:af}(u:i9 σ τ)(h:∀i∈S,σ.length<=i)(v:Up S τ Z):i9 σ Z:=⟨ao u.1 v.1,λj c e n=>v.2 j c (u.2 j c e n) λm=>dH (h j m) (eG e)⟩
theorem DF.s{σ τ:af}(u:Bm σ τ){i g k t:Nat}{mid:Int}(L:DF σ i g k mid t):DF τ i g k mid t:=⟨u.2 _ _ L.obj (by kernel_rfl),L.hk⟩
theorem vR.s{C:Cx}{σ τ:af}(u:Bm σ τ)(hc:∀fs,M7 (.ins C.c fs)=true)(S:vR C σ):vR C τ where
 wr:=u.2 _ _ S.wr (by kernel_rfl)
 sl:=u.2 _ _ S.sl rfl
 lp:=S.lp.s u
 gr:=S.gr.keep λj c h hj=>u.2 _ _ h (by
  rcases hj with⟨v,rfl⟩|rfl
  ·rfl
  ·rw[Option.some.inj (h.symm.trans S.gr.obj)];kernel_rfl)
 sk:=let ⟨fs,h,e⟩:=S.sk;⟨fs,u.2 _ _ h (hc fs),e⟩
 fr:=⟨u.2 _ _ S.fr.obj (by kernel_rfl),u.2 _ _ S.fr.cs rfl,λp hp=>u.2 _ _ (S.fr.co p hp) (by kernel_rfl),S.fr.hm⟩
 sc:=⟨let ⟨a,h⟩:=S.sc.obj;⟨a,u.2 _ _ h (by kernel_rfl)⟩,u.2 _ _ S.sc.ps rfl,u.2 _ _ S.sc.ds rfl⟩
def NF(fW j1:af)(sk cc lo:Nat)(a:List (List Nat)):Pr:=λτ=>i9 fW τ/\Bm j1 τ/\∃ds,fK τ sk cc lo a ds
noncomputable def rX(fW j1:af)(m w h k:Nat)(mid:Int)(G:Nat->Nat->Nat->Int)(wr sl g lp sk t r:Nat)(pp:Nat->Nat)(qq:Nat->Nat->Nat)(f cs prec s ps ds pt:Nat)(co:Nat->Nat)(cc lo:Nat):Cx:=
 {m,w,h,k,mid,G,wr,sl,g,lp,sk,t,r,pp,qq,f,cs,prec,s,ps,ds,pt,co,α:=List (List Nat),I:=NF fW j1 sk cc lo,J:=λa p v=>NF fW j1 sk cc lo (lh a p v),E:=NF fW j1 sk cc lo,
  ok:=λa p _=>p<=a.length/\a.length<=1000/\∀l∈a,l.length<=900,nx:=lh,c:="CountSink",fs:=(ah 57 1),fb:=(ah 57 2),ff:=(ah 57 3),fin:=λ_ v=>v=.bytes []}
section
variable{fW j1:af}{m w h k:Nat}{mid:Int}{G:Nat->Nat->Nat->Int}{wr sl g lp sk t r:Nat}{pp:Nat->Nat}{qq:Nat->Nat->Nat}{f cs prec s ps ds pt:Nat}{co:Nat->Nat}{cc lo:Nat}
theorem NC(S:vR (rX fW j1 m w h k mid G wr sl g lp sk t r pp qq f cs prec s ps ds pt co cc lo) j1)(tc:t≠cc)(tl:t<lo)(ct:fW.length<=t)(YN:fW.length<=cc)(cl:fW.length<=lo)(l0:lo<=j1.length)(u0:i9 fW j1):(rX fW j1 m w h k mid G wr sl g lp sk t r pp qq f cs prec s ps ds pt co cc lo).Ok where
 mt:=⟨lU,nv,lV⟩
 stI h:=S.s h.2.1 λfs=>by kernel_rfl
 TR h:=S.s h.2.1 λfs=>by kernel_rfl
 top:=λ{a σ τ e k} ⟨h1,h2,ds,h3⟩ ht u=>by
  have td:t∉ds:=λhd=>dH (h3.Jj _ hd) tl;refine⟨h1.fresh (λi hi=>bz hi▸ct) u,h2.trans (Bm.set u ht rfl),ds,u.ne h3.obj (bV h3.obj ht nofun),h3.len,u.ne h3.top tc.symm,h3.nd,λp d l hd hl=>?_,h3.Jj,h3.OD⟩;obtain⟨k,h⟩:=h3.each p d l hd hl;exact⟨k,u.ne h λ(e:d=t)=>td (e▸fP hd)⟩
 gen:=λ⟨h1,h2,ds,h3⟩ u=>by
  have kt:∀{f:Nat->V}{j:Nat},Cq (mj f j)=false:=λ{f j}=>by induction j using Nat.casesOn<;>rfl
  refine⟨h1.trans u,h2.trans u.s,ds,u.2 _ _ h3.obj rfl,h3.len,u.2 _ _ h3.top kt,h3.nd,λp d l hd hl=>?_,h3.Jj,h3.OD⟩;obtain⟨k,h⟩:=h3.each p d l hd hl;exact⟨k,u.2 _ _ h rfl⟩
 sym:=λ{n a s v σ Q} ⟨h1,h2,ds,h3⟩ ok q=>by
  refine qC (n:=n+4) h3 (ao l0 h2.1) ok.1 ok.2.1 ok.2.2 λτ OC C u=>?_;have kc:∀{i:Nat}{c:aL},i∈cc::ds->σ[i]?=some c->M7 c=false/\SJ c=false:=λ{i c} hi hc=>by
   rcases bt hi with rfl|hi
   ·refine Eq.symm (bE (hc.symm.trans h3.top))▸?_;cases ds.length<;>exact⟨rfl,rfl⟩
   ·refine iN (h3.cell hi) λ_ _ hd=>?_;rw[Option.some.inj (hc.symm.trans hd)];exact⟨rfl,rfl⟩
  refine q τ ⟨h1.fresh (λi hi=>?_) u,h2.trans ⟨u.1,λj c hj hs=>u.2 j c hj λhm=>?_⟩,OC,C⟩ ?_ λj c hj hl=>u.2 j c hj λhm=>?_
  ·rcases bt hi with rfl|hi
   ·exact YN
   ·exact ao cl (h3.Jj i hi)
  ·replace hs:=((kc hm hj).1)▸hs;exact mO hs
  ·have hn:t∉cc::ds:=λhm=>(bt hm).elim tc λhd=>dH (h3.Jj _ hd) tl;have lt:t<σ.length:=d5 tl (ao l0 h2.1);have h:σ[t]?=some σ[t]:=getElem?_eq_getElem lt;exact(u.2 _ _ h hn).trans h.symm
  ·replace hl:=((kc hm hj).2)▸hl;exact mO hl
 bits:=λ{n a s v σ Q} hJ _ q=>kn (n:=n+19) (f:=(ah 57 2)) (p:=Q .none σ) (by kernel_rfl) (by kernel_rfl) (q _ hJ rfl λ_ _ h _=>h)
 skip:=λhJ _=>hJ
 finish:=λ{n a σ Q} hI q=>kn (n:=n+29) (f:=(ah 57 3)) (p:=Q (.bytes []) σ) (by kernel_rfl) (by kernel_rfl) (q _ _ rfl hI λ_ _ h _=>h)
end
theorem qc(q:∀i τ t,Up [] σ τ->σ.length<=i->τ[i]?=some (.ins "LinePredictor" (sI a b c t))->Q (.ref i) τ):W (cx gg (ag gg (n+11)) (.cls "LinePredictor") [a,b,c]) Q σ:=by
 refine su (fi:=(ah 16 0)) (by kernel_rfl) λi τ u0 l0 hi=>?_;refine ce (p:=qQ i [("samples",a),("kind",b),("middle",c)] (W (dq (.cG [] 0)) λv4=>W (bq gg (.ref i) "tops" v4) λ_=>Fn i Q .none) τ) ?_;refine sf hi (by kernel_rfl) λeW u1 h1=>bG λt dM u2 l2 h2=>cQ (u2.at h1) (fs':=sI a b c t) (by kernel_rfl) (by kernel_rfl) λgT u3 h3=>?_;exact q i gT t (u0.fresh l0 (u1.trans (u2.any.trans u3))) l0 h3
theorem jI(q:∀i τ,Up [] σ τ->σ.length<=i->τ[i]?=some (.ins "LosslessWriter" [("slots",a),("samples",b),("predictor",c),("sink",d)])->Q (.ref i) τ):W (cx gg (ag gg (n+11)) (.cls "LosslessWriter") [a,b,c,d]) Q σ:=
 sY (n:=n+10) (fi:=(ah 21 0)) (l:=[("slots",a),("samples",b),("predictor",c),("sink",d)]) (λi K τ=>by kernel_rfl) (by kernel_rfl) q
section
variable{f cs m w h prec s ps ds k pt e g:Nat}{co:Nat->Nat}
theorem jA(F:bT σ f cs m w h prec co)(S:dJ σ s ps ds m k pt)(hp:(prec:Int)-pt-1=(e:Nat))(pI:pt<=1000)(he:e<=1000)(q:∀i τ t,Up [] σ τ->σ.length<=i->τ[i]?=some (.ins "LinePredictor" (sI (.ref g) (.int (k+1:Nat)) (.int (1*2^e)) t))->Q (.ref i) τ):W ((ag gg (n+26)).C (aa 70) [.ref f,.ref s,.ref g]) Q σ:=by
 let aO:=λ(v5:V)=>Q v5;let aZ:=λ(v1:V) (v4:V)=>W (cx gg (ag gg (n+23)) (.cls "LinePredictor") [.ref g,v1,v4]) aO;let bW:=λ(v1:V) (v2:V) (v3:V)=>W ((ag gg (n+22)).C (aa 14) [v2,v3]) (aZ v1);let c8:=λ(v1:V) (v2:V)=>W (aB gg (.ref s) "low") (bW v1 v2);let dG:=λ(v1:V)=>W (aB gg (.ref f) "precision") (c8 v1);refine ce (p:=(W (aB gg (.ref s) "start") dG) σ) ?_;obtain⟨_,o⟩:=S.obj;have o1:=F.obj;exact bc o (by exact Nu (by kernel_rfl)) (by kernel_rfl) (bc o1 (by exact oS (by kernel_rfl)) (by kernel_rfl) (bc o (by exact RL (by kernel_rfl)) (by kernel_rfl) (Io pI hp he (qc q))))
end
noncomputable def IF(D:Nat->Nat->Int)(k:Nat):Nat->List (List Nat)->List (List Nat)
 |0,a=>a
 |p+1,a=>lh (IF D k p a) p (D p k)
noncomputable def iQ(D:Nat->Nat->Int)(q k:Nat):List Nat:=(range k).map λi=>f3 (D q i)
theorem zZ{D:Nat->Nat->Int}:iQ D q k++[f3 (D q k)]=iQ D q (k+1):=by
 unfold iQ;simp only[range_succ,map_append];rfl
noncomputable def wN(D:Nat->Nat->Int)(m k p:Nat):List (List Nat):=(range (if k=0 then p else m)).map λq=>iQ D q (if q<p then k+1 else k)
theorem AH{D:Nat->Nat->Int}{m k:Nat}:∀{p:Nat},p<=m->IF D k p (wN D m k 0)=wN D m k p:=by
 intro l0
 induction l0 with
 |zero=>
  rintro _;exact rfl
 |succ p hi=>
  rintro hp;refine(?_:lh (IF D k p (wN D m k 0)) p (D p k)=wN D m k (p+1));rw[hi (Nat.le_of_succ_le hp)];unfold lh wN;by_cases hk:k=0
  ·subst hk;rw[if_pos rfl,if_pos rfl,ck,if_neg (Nat.lt_irrefl p),range_succ,map_append]
   congr 1
   ·refine dW λq hq=>?_;have:=mem_range.mp hq;rw[if_pos this,if_pos (lt_succ_of_lt this)]
   ·show _= [iQ D p (if p<p+1 then 0+1 else 0)];rw[if_pos (Nat.lt_succ_self p)];rfl
  ·rw[if_neg hk,if_neg hk,ck,if_pos (show p<m from hp),PH]
   refine dW λq hq=>?_;by_cases e:q=p
   ·subst e;rw[if_pos rfl,if_pos (Nat.lt_succ_self q),getD_eq_getElem?_getD,getElem?_map,getElem?_range hp];show iQ D q (if q<q then k+1 else k)++[f3 (D q k)]=_;rw[if_neg (Nat.lt_irrefl q),zZ]
   ·rw[if_neg e];by_cases h:q<p
    ·rw[if_pos h,if_pos (lt_succ_of_lt h)]
    ·rw[if_neg h,if_neg λh'=>h (Nat.lt_of_le_of_ne (le_of_lt_succ h') e)]
theorem EO{D:Nat->Nat->Int}{m k:Nat}:wN D m k m=wN D m (k+1) 0:=by
 unfold wN;have e:(if k=0 then m else m)=m:=by split<;>rfl
 (refine Eq.symm e▸?_;refine Eq.symm (if_neg (succ_ne_zero k))▸?_);refine dW λq hq=>?_;rw[if_pos (mem_range.mp hq),if_neg (not_lt_zero q)]
theorem PC{D:Nat->Nat->Int}:wN D m 0 0= []:=rfl
theorem MA{D:Nat->Nat->Int}(hm:m<21)(hp:p<=m)(hk:k<21):p<=(wN D m k p).length/\(wN D m k p).length<=1000/\∀l∈wN D m k p,l.length<=900:=by
 unfold wN;rw[ck];refine⟨?_,?_,λl hl=>?_⟩
 ·split
  ·exact Nat.le_refl _
  ·exact hp
 ·split
  ·exact ao hp (ao (cF hm) (by decide))
  ·exact ao (cF hm) (by decide)
 ·(refine dC hl λq _ Ej=>?_;subst Ej);unfold iQ;rw[ck]
  split
  ·exact ao hk (by decide)
  ·exact ao (cF hk) (by decide)
section
variable{fW j1:af}{m w h k:Nat}{mid:Int}{G:Nat->Nat->Nat->Int}{wr sl g lp sk t r:Nat}{pp:Nat->Nat}{qq:Nat->Nat->Nat}{f cs prec s ps ds pt:Nat}{co:Nat->Nat}{cc lo:Nat}
noncomputable def vA(w k:Nat)(mid:Int)(G:Nat->Nat->Nat->Int)(p i:Nat):Int:=CO (G p (i/w) (i%w)) (ky k mid (G p) (i/w) (i%w))
theorem vD{k':Nat}{a:List (List Nat)}:∀{p:Nat},(rX fW j1 m w h k mid G wr sl g lp sk t r pp qq f cs prec s ps ds pt co cc lo).row k' p a=IF (vA w k mid G) k' p a
 |0=>rfl
 |p+1=>congrArg (λx=>lh x p (vA w k mid G p k')) (vD (p:=p))
theorem vE:∀{k':Nat},(rX fW j1 m w h k mid G wr sl g lp sk t r pp qq f cs prec s ps ds pt co cc lo).all [] k'=wN (vA w k mid G) m k' 0
 |0=>rfl
 |k'+1=>by
  refine(?_:(rX fW j1 m w h k mid G wr sl g lp sk t r pp qq f cs prec s ps ds pt co cc lo).row k' m ((rX fW j1 m w h k mid G wr sl g lp sk t r pp qq f cs prec s ps ds pt co cc lo).all [] k')=_);rw[vE,vD,AH (Nat.le_refl m),EO]
end
def du(τ:af)(cc m:Nat)(D:Nat->List (Nat×Nat))(dd:Nat->Nat):Prop:=τ[cc]?=some (.jt ((range m).map λp=>(pk p,.ref (dd p))))/\∀p,p<m->∃k,τ[dd p]?=some (.cG (fL (D p)) k)
section
variable{f cs m w h prec s ps ds k pt e g r:Nat}{co:Nat->Nat}{G:Nat->Nat->Nat->Int}{pp:Nat->Nat}{qq:Nat->Nat->Nat}
theorem iK(h:(c==d)=false):aL.ins c fs≠aL.ins d gs:=λe=>by
 injection e with e _
 rw[e,beq_self_eq_true]at h;exact PA h
theorem sZ(F:bT σ f cs m w h prec co)(S:dJ σ s ps ds m k pt)(R:et σ g r m w h G pp qq)(hk:k<7)(hw:0<w/\w<21)(hh:h<21)(hN:∃M,w*h=M+1/\M+1<21)(hp:(prec:Int)-pt-1=(e:Nat))(pI:pt<=1000)(he:e<=1000)(q:∀τ cc dd,i9 σ τ->du τ cc m (λp=>eB (iQ (vA w k (1*2^e) G) p (w*h))) dd->Q (.ref cc) τ):W ((ag gg (n+51)).C (aa 71) [.ref f,.ref s,.ref g,.int 0]) Q σ:=by
 let aO:=λ(v7:V)=>Q v7;let aZ:=λ(v1:V) (v6:V)=>W (aB gg v1 "counts") aO;let bW:=λ(v1:V) (v4:V) (v5:V)=>W ((ag gg (n+48)).C (aa 23) [v5,.int 0,v4]) (aZ v1);let c8:=λ(v1:V) (v4:V)=>W ((ag gg (n+47)).C (aa 52) [.ref f,.ref s]) (bW v1 v4);let dG:=λ(v1:V) (v2:V) (v3:V)=>W (cx gg (ag gg (n+48)) (.cls "LosslessWriter") [v2,.ref g,v3,v1]) (c8 v1);let dR:=λ(v1:V) (v2:V)=>W ((ag gg (n+47)).C (aa 70) [.ref f,.ref s,.ref g]) (dG v1 v2);let fC:=λ(v1:V)=>W (aB gg (.ref s) "dc_slots") (dR v1);refine ce (p:=(W (cx gg (ag gg (n+48)) (.cls "CountSink") []) fC) σ) ?_;refine xe λsk cc τ u lk lc hC=>?_;have S1:=S.up u;obtain⟨_,o⟩:=S1.obj;refine bc o (by exact oS (by kernel_rfl)) (by kernel_rfl) (jA (F.up u) S1 hp pI he λlp eW t0 u1 l1 h1=>jI λwr dM u2 l2 h2=>Ax λgi gT u3 l3 h3=>?_);have uB:=(u1.trans u2).trans u3;have uA:=u.trans uB;have hL:=(u2.trans u3).at h1;refine iV (n:=n+2) h3 (u3.at h2) hL λjx t fo u4 lt tf lf ht Rc=>?_;have kp:∀{j:Nat}{c:aL},gT[j]?=some c->(∀fs,c≠.ins "LinePredictor" fs)->jx[j]?=some c:=λh n=>u4.ne h (bV h hL (n _));have F3:=F.up uA;have S3:=S.up uA;have G3:=R.keep (τ:=gT) λj c h _=>uA.at h;have C3:=hC.up uB;have ug:i9 σ jx:=uA.g.fresh (λi hi=>bz hi▸ao u.1 l1) u4;have C4:fK jx sk cc jx.length [] []:=⟨kp C3.obj λ_=>iK (by kernel_rfl),rfl,kp C3.top λ_=>nofun,nodup_nil,nofun,nofun,d5 (eG C3.top) u4.1⟩;have St:vR (rX σ jx m w h k (1*2^e) G wr ds g lp sk t r pp qq f cs prec s ps ds pt co cc jx.length) jx:=
  {wr:=kp (u3.at h2) λ_=>iK (by kernel_rfl)
   sl:=kp S3.ds λ_=>nofun
   lp:=⟨Rc,hk⟩
   gr:=G3.keep λj c h hj=>kp h λfs=>by
    rcases hj with⟨v,rfl⟩|rfl
    ·exact nofun
    ·rw[Option.some.inj (h.symm.trans G3.obj)];exact iK (by kernel_rfl)
   sk:=(aT _ C4.obj (by kernel_rfl))
   fr:=⟨kp F3.obj λ_=>iK (by kernel_rfl),kp F3.cs λ_=>nofun,λp hp=>kp (F3.co p hp) λ_=>iK (by kernel_rfl),F3.hm⟩
   sc:=⟨let ⟨a,h⟩:=S3.obj;⟨a,kp h λ_=>iK (by kernel_rfl)⟩,kp S3.ps λ_=>nofun,kp S3.ds λ_=>nofun⟩}
 have Cz:cc<t:=d5 (eG C3.top) lt;refine⟨⟨_,[],NC St (Nat.ne_of_gt Cz) (eG ht) (ao uA.1 lt) lc ug.1 (Nat.le_refl _) ug,⟨ug,⟨Nat.le_refl _,λ_ _ h _=>h⟩,[],C4⟩,rfl,hw,hh,hN,λk' p kK hp=>?_,λZ aH _ _ hE hf u5 _=>?_⟩⟩
 ·(refine ak hN λM e1 e2=>?_;clear hN);(refine Eq.symm vE▸?_;refine Eq.symm vD▸?_;refine Eq.symm (AH (m:=m) (cF hp))▸?_);exact MA F.hm.2 (cF hp) (Nat.lt_trans (show k'<w*h from kK) (e1▸e2))
 ·rw[vE]at hE;(refine NB hE λg1 _ OC c1=>?_;clear hE);have hl:OC.length=m:=c1.len.trans (by
   (refine ak hN λM e1 _=>?_;clear hN);rw[wN,ck,if_neg (e1▸succ_ne_zero M)])
  have o:=c1.obj;refine bc (u5.ne o (bV o hf nofun)) (by exact vt (by kernel_rfl)) (by kernel_rfl) (q aH cc (λp=>OC.getD p 0) (g1.fresh (λi hi=>bz hi▸ao uA.1 lf) u5) ⟨?_,λp hp=>?_⟩)
  ·have c:=c1.top;rw[gv (hl▸F.hm.1),hl]at c;exact u5.ne c (bV c hf nofun)
  ·(refine ak hN λM e1 _=>?_;clear hN);obtain⟨k',h⟩:=c1.each p _ (iQ (vA w k (1*2^e) G) p (w*h)) (ip (hl.symm▸hp)) (by
    refine(?_:(wN (vA w k (1*2^e) G) m (w*h) 0)[p]?=_);rw[wN,if_neg (e1▸succ_ne_zero M),getElem?_map,getElem?_range hp];show some (iQ _ p (if p<0 then _ else _))=_;rw[if_neg (not_lt_zero p)])
   exact⟨k',u5.ne h (bV h hf nofun)⟩
end
structure Bw(σ:af)(i f:Nat)(b:List UInt8)(r z:Nat):Prop where
 obj:σ[i]?=some (.ins "BitWriter" [("full",.ref f),("rest",.int r),("size",.int z)])
 bar:σ[f]?=some (.bar b)
 lt:r<2^z
theorem Bw.ne(B:Bw σ i f b r z):f≠i:=bV B.bar B.obj nofun
theorem i0(z:Nat):((2:Int)^(z:Int).toNat)=((2^z:Nat):Int):=by simp only[toNat_natCast,Int.natCast_pow];rfl
theorem IB{x:Nat}(h:x<256):fe (x:Int)=true:=ble_eq_true_of_le (ao (cF h) (by decide))
theorem GQ{k:Nat}(h:k<=1000):(decide (0<=(k:Int)/\(k:Int)<=1000000)&&fe 1)=true:=and_eq_true_iff.mpr ⟨GR h,rfl⟩
theorem pC(q:∀i f τ,Up [] σ τ->σ.length<=i->σ.length<=f->Bw τ i f [] 0 0->Q (.ref i) τ):W (cx gg (ag gg (n+11)) (.cls "BitWriter") []) Q σ:=by
 refine su (fi:=(ah 54 0)) (by kernel_rfl) λi τ u0 l0 hi=>?_;refine ce (p:=(W (aX "bytearray" []) λv1=>qQ i [("full",v1),("rest",.int 0),("size",.int 0)] (Fn i Q .none)) τ) ?_;refine nY λf eW u1 l1 h1=>sf (u1.at hi) (by kernel_rfl) λdM u2 h2=>?_;exact q i f dM ((u0.trans u1).fresh l0 u2) l0 (ao u0.1 l1) ⟨h2,u2.ne h1 (bV h1 (u1.at hi) nofun),by decide⟩
section
variable{i f r z:Nat}{b:List UInt8}
theorem Fc{v s:V}(B:Bw σ i f b r z)(hz:z<400)(hb:b.length<=900)(q:∀τ b' r',Up [i,f] σ τ->Bw τ i f b' r' (z%8)->b'.length=b.length+z/8->Q .none τ):gD (jb (ay gg (n+14)) (ah 54 1).sc (aF (ah 54 1).body [3])) (j2 (ay gg (n+14)) (ah 54 1).sc (aF (ah 54 1).body [3])) (bx (ay gg (n+15)) (ah 54 1).sc ((ah 54 1).body.drop 4) (cz Q)) 64 ⟨[("self",.ref i),("value",v),("size",s)],[]⟩ σ:=by
 refine iq (λm e τ=>e=⟨[("self",.ref i),("value",v),("size",s)],[]⟩/\Up [i,f] σ τ/\∃b' r' z',Bw τ i f b' r' z'/\z'%8=z%8/\z'/8=m/\b'.length+m=b.length+z/8/\z'<=z) (λm e τ K ae t=>?_) (λm e τ K ae q'=>?_) (λe τ ae=>?_) (m:=z/8) (ik rfl .refl b r z B rfl rfl rfl (Nat.le_refl _)) (Nat.lt_of_le_of_lt (div_le_div_right (cF hz)) (by decide))
 ·(refine fU ae λTq u b' r' z' B _ hm _ _=>?_;clear ae;subst Tq);let aO:=λ(b2:Bool)=>K b2;let aZ:=λ(v1:V)=>W (cX .GtE v1 (.int 8)) aO;refine bk (p:=(W (aB gg (.ref i) "size") aZ) τ) ?_;have o:=B.obj;refine ku ?_;refine Ks ?_;have e:decide ((8:Int)<=(z':Int))=(m !=0):=by
   subst hm;by_cases h:8<=z'
   ·rw[dT (show(8:Int)<=z' from ofNat_le.mpr h)]
    exact(bne_iff_ne.mpr (Nat.ne_of_gt (div_pos h (by decide)))).symm
   ·rw[dF (show ¬((8:Int)<=z') from λc=>h (ofNat_le.mp c)),Nat.div_eq_of_lt (lt_of_not_le h)];rfl
  rw[e];exact t
 ·(refine fU ae λTj u b' r' z' B Ur hm hl Uq=>?_;clear ae;subst Tj);have h8:8<=z':=le_of_not_lt λh=>by replace hm:=(Nat.div_eq_of_lt h)▸hm;cases hm
  obtain⟨z1,rfl⟩:∃z1,z'=z1+8:=⟨z'-8,(Nat.sub_add_cancel h8).symm⟩;have Us:z1%8=z%8:=(Nat.add_mod_right z1 8).symm.trans Ur;have H6:z1/8=m:=Nat.succ.inj ((Nat.add_div_right z1 (by decide)).symm.trans hm);have CA:b'.length<=1000:=by
   have:z/8<=50:=div_le_div_right (c:=8) (cF hz);exact ao (le_add_right _ _) (ao (Nat.le_of_eq hl) (ao (Nat.add_le_add hb this) (by decide)))
  let aO:=λ(K5:List V->Pr) (v8:V)=>K5 [v8];let aZ:=λ(K5:List V->Pr) (v6:V) (v7:V)=>W (ai .RShift v6 v7) (aO K5);let bW:=λ(K5:List V->Pr) (v6:V)=>W (aB gg (.ref i) "size") (aZ K5 v6);let c8:=λ(_:Unit)=>K .next ⟨[("self",.ref i),("value",v),("size",s)],[]⟩;let dG:=λ(pd:V)=>W (bq gg (.ref i) "rest" pd) c8;let dR:=λ(v9:V) (kJ:V)=>W (ai .BitAnd v9 kJ) dG;let fC:=λ(v9:V) (v11:V)=>W (ai .Sub v11 (.int 1)) (dR v9);let gX:=λ(v9:V) (v10:V)=>W (ai .LShift (.int 1) v10) (fC v9);let iU:=λ(v9:V)=>W (aB gg (.ref i) "size") (gX v9);let eE:=λ(v4:V)=>W (aB gg (.ref i) "rest") iU;let fj:=λ(v3:V)=>W (az gg v3 "append") (bA (ag gg (n+12)) (λK5 H=>(W (aB gg (.ref i) "rest") (bW K5)) H) v3 eE);let gY:=λ(_:Unit)=>W (aB gg (.ref i) "full") fj;let jl:=λ(v2:V)=>W (bq gg (.ref i) "size" v2) gY;let jL:=λ(v1:V)=>W (ai .Sub v1 (.int 8)) jl;refine bk (p:=(W (aB gg (.ref i) "size") jL) τ) ?_;have o:=B.obj;refine ku ?_;refine di ?_;rw[show((z1+8:Nat):Int)-8=(z1:Nat) by simp only[natCast_add];exact Int.add_sub_cancel _ _];refine cQ o (fs':=[("full",.ref f),("rest",.int r'),("size",.int z1)]) (by kernel_rfl) (by kernel_rfl) λeW u1 h1=>?_;have hf:=u1.ne B.bar B.ne;refine bc h1 (by exact vt (by kernel_rfl)) (by kernel_rfl) (fg hf ny (bc h1 (by exact oS (by kernel_rfl)) (by kernel_rfl) (bc h1 (by exact rJ (by kernel_rfl)) (by kernel_rfl) (LG (dT (f7 _)) ?_))));rw[i0,<-ofNat_fdiv];have lt:r'/2^z1<256:=Nat.div_lt_of_lt_mul (by refine(Nat.pow_add 2 z1 8)▸?_;exact B.lt);refine vP hf (and_eq_true_iff.mpr ⟨dT ⟨f7 _,ofNat_lt.mpr lt⟩,aG CA⟩) λdM u2 h2=>?_;have o2:=u2.ne h1 B.ne.symm;refine bc o2 (by exact oS (by kernel_rfl)) (by kernel_rfl) (bc o2 (by exact rJ (by kernel_rfl)) (by kernel_rfl) (yk (GQ ?_) (di ?_)))
  ·exact ao (ao (le_add_right _ _) Uq) (ao (cF hz) (by decide))
  ·have p1:0<2^z1:=two_pow_pos z1;rw[i0,Int.one_mul,show((2^z1:Nat):Int)-1=((2^z1-1:Nat):Int) from(ofNat_sub p1).symm]
   refine Oa (dT ⟨f7 _,f7 _⟩) ?_;simp only[toNat_natCast,toNat_natCast,Nat.and_two_pow_sub_one_eq_mod];refine cQ o2 (fs':=[("full",.ref f),("rest",.int (r'%2^z1:Nat)),("size",.int z1)]) (by kernel_rfl) (by kernel_rfl) λgT u3 h3=>?_;refine q' _ gT (ik rfl (u.trans ?_) (b'++[UInt8.ofNat (r'/2^z1:Nat)]) (r'%2^z1) z1 ⟨h3,(u3.ne h2 B.ne).trans (by simp only[toNat_natCast]),mod_lt _ p1⟩ Us H6 ?_ (ao (le_add_right _ _) Uq))
   ·exact((u1.sub λj hj=>mem_cons.mpr (.inl (bz hj))).trans (u2.sub λj hj=>fX _ hj)).trans (u3.sub λj hj=>mem_cons.mpr (.inl (bz hj)))
   ·simp only[length_append,List.length_singleton,Nat.add_assoc,Nat.add_comm 1 m];exact hl
 ·(refine cC λSm FX=>?_;(refine fU ae λEm u b' r' z' B Ur hm hl Uq=>?_;clear ae;subst Em);refine FX ?_);have e:z'=z%8:=by refine Ur▸?_;exact(Nat.mod_eq_of_lt (lt_of_not_le λh=>Nat.ne_of_gt (div_pos h (by decide)) hm)).symm
  subst e;exact bk (p:=Q .none τ) (q τ b' r' u B hl)
def BT(σ:af)(i f T:Nat):Prop:=∃b r,Bw σ i f b r (T%8)/\b.length=T/8
theorem qD{T v s:Nat}(B:BT σ i f T)(hs:s<=64)(hv:v<2^s)(hT:T<=6000)(q:∀τ,Up [i,f] σ τ->BT τ i f (T+s)->Q .none τ):W ((ag gg (n+16)).C (ah 54 1) [.ref i,.int v,.int s]) Q σ:=by
 let aO:=λ(_:Unit)=>gD (jb (ay gg (n+14)) (ah 54 1).sc (aF (ah 54 1).body [3])) (j2 (ay gg (n+14)) (ah 54 1).sc (aF (ah 54 1).body [3])) (bx (ay gg (n+15)) (ah 54 1).sc ((ah 54 1).body.drop 4) (cz Q)) 64 ⟨[("self",.ref i),("value",.int v),("size",.int s)],[]⟩;let aZ:=λ(v6:V)=>W (bq gg (.ref i) "size" v6) aO;let bW:=λ(v5:V)=>W (ai .Add v5 (.int s)) aZ;let c8:=λ(_:Unit)=>W (aB gg (.ref i) "size") bW;let dG:=λ(v4:V)=>W (bq gg (.ref i) "rest" v4) c8;let dR:=λ(v3:V)=>W (ai .BitOr v3 (.int v)) dG;let fC:=λ(v2:V)=>W (ai .LShift v2 (.int s)) dR;let gX:=λ(_:Unit)=>gD (jb (ay gg (n+14)) (ah 54 1).sc (aF (ah 54 1).body [3])) (j2 (ay gg (n+14)) (ah 54 1).sc (aF (ah 54 1).body [3])) (bx (ay gg (n+15)) (ah 54 1).sc ((ah 54 1).body.drop 4) (cz Q)) 64 ⟨[("self",.ref i),("value",.int v),("size",.int s)],[]⟩;let iU:=λ(pY:V)=>W (bq gg (.ref i) "size" pY) gX;let eE:=λ(pd:V)=>W (ai .Add pd (.int s)) iU;let fj:=λ(_:Unit)=>W (aB gg (.ref i) "size") eE;let gY:=λ(kJ:V)=>W (bq gg (.ref i) "rest" kJ) fj;let jl:=λ(v11:V)=>W (ai .BitOr v11 (.int v)) gY;let jL:=λ(v10:V)=>W (ai .LShift v10 (.int s)) jl;let ke:=λ(_:Unit)=>gD (jb (ay gg (n+14)) (ah 54 1).sc (aF (ah 54 1).body [3])) (j2 (ay gg (n+14)) (ah 54 1).sc (aF (ah 54 1).body [3])) (bx (ay gg (n+15)) (ah 54 1).sc ((ah 54 1).body.drop 4) (cz Q)) 64 ⟨[("self",.ref i),("value",.int v),("size",.int s)],[]⟩;let kG:=λ(uo:V)=>W (bq gg (.ref i) "size" uo) ke;let kF:=λ(pX:V)=>W (ai .Add pX (.int s)) kG;let mK:=λ(_:Unit)=>W (aB gg (.ref i) "size") kF;let mJ:=λ(sF:V)=>W (bq gg (.ref i) "rest" sF) mK;let mI:=λ(mx:V)=>W (ai .BitOr mx (.int v)) mJ;let uY:=λ(kN:V)=>W (ai .LShift kN (.int s)) mI;let uX:=λ(b9:Bool)=>cR (!b9) no (W (aB gg (.ref i) "rest") uY);let zx:=λ(v8:V)=>W (cX .Lt (.int v) v8) uX;let zw:=λ(_:Unit)=>gD (jb (ay gg (n+14)) (ah 54 1).sc (aF (ah 54 1).body [3])) (j2 (ay gg (n+14)) (ah 54 1).sc (aF (ah 54 1).body [3])) (bx (ay gg (n+15)) (ah 54 1).sc ((ah 54 1).body.drop 4) (cz Q)) 64 ⟨[("self",.ref i),("value",.int v),("size",.int s)],[]⟩;let Co:=λ(By:V)=>W (bq gg (.ref i) "size" By) zw;let zv:=λ(Iq:V)=>W (ai .Add Iq (.int s)) Co;let zu:=λ(_:Unit)=>W (aB gg (.ref i) "size") zv;let FW:=λ(EF:V)=>W (bq gg (.ref i) "rest" EF) zu;let M4:=λ(Ay:V)=>W (ai .BitOr Ay (.int v)) FW;let QC:=λ(v20:V)=>W (ai .LShift v20 (.int s)) M4;let M3:=λ(b7:Bool)=>cR b7 (W (ai .LShift (.int 1) (.int s)) zx) no;let M1:=λ(b1:Bool)=>cR b1 no (W (cX .LtE (.int 0) (.int v)) M3);refine ce (p:=(W (cX .Lt (.int s) (.int 0)) M1) σ) ?_;refine cw B λb r B hb=>?_;have o:=B.obj;have SW:T%8<8:=mod_lt _ (by decide);have hr:r<256:=Nat.lt_trans B.lt (Nat.pow_lt_pow_right (by decide) SW);refine lZ (iy (dF (Int.not_lt.mpr (f7 _))) (ym (mv (dT (f7 _)) (yk (GQ (ao hs (by decide))) ?_))));rw[i0,Int.one_mul];refine lZ (iy (by rw[dT (ofNat_lt.mpr hv)];rfl) ?_);refine qi ?_;refine yk (and_eq_true_iff.mpr ⟨GR (ao hs (by decide)),IB hr⟩) ?_;rw[i0,<-natCast_mul];refine Sg (dT ⟨f7 _,f7 _⟩) ?_;simp only[toNat_natCast,toNat_natCast];refine cQ o (fs':=[("full",.ref f),("rest",.int (r*2^s|||v:Nat)),("size",.int (T%8:Nat))]) (by kernel_rfl) (by kernel_rfl) λeW u1 h1=>?_
 refine bc h1 (by exact rJ (by kernel_rfl)) (by kernel_rfl) (cq ?_);rw[<-natCast_add];refine cQ h1 (fs':=[("full",.ref f),("rest",.int (r*2^s|||v:Nat)),("size",.int (T%8+s:Nat))]) (by kernel_rfl) (by kernel_rfl) λdM u2 h2=>?_
 have B2:Bw dM i f b (r*2^s|||v) (T%8+s):=⟨h2,u2.ne (u1.ne B.bar B.ne) B.ne,Nat.or_lt_two_pow (by rw[Nat.pow_add];exact Nat.mul_lt_mul_of_pos_right B.lt (two_pow_pos s)) (d5 hv (Nat.pow_le_pow_right (by decide) (le_add_left _ _)))⟩
 have e1:T=8*(T/8)+T%8:=(Nat.div_add_mod T 8).symm;refine Fc (n:=n) B2 (d5 (Nat.add_lt_add_of_lt_of_le SW hs) (by decide)) (hb▸ao (div_le_div_right hT) (by decide)) λτ b' r' u B' hl=>q τ ?_ ⟨b',r',?_,?_⟩
 ·exact((u1.trans u2).sub λj hj=>mem_cons.mpr (.inl (bz hj))).trans u
 ·rwa[show(T+s)%8=(T%8+s)%8 from(Nat.mod_add_mod T 8 s).symm]
 ·rw[hl,hb];have:(T+s)/8=(8*(T/8)+(T%8+s))/8:=by rw[<-Nat.add_assoc,<-e1]
  rw[this,Nat.mul_add_div (by decide)]
theorem ED{T:Nat}(B:BT σ i f T)(hT:T<=6000)(q:∀τ T',Up [i,f] σ τ->BT τ i f T'->T'/8=(T+7)/8->Q .none τ):W ((ag gg (n+21)).C (ah 54 2) [.ref i]) Q σ:=by
 let aO:=λ(K4:List V->Pr) (v8:V) (v10:V)=>K4 [v8,v10];let aZ:=λ(K4:List V->Pr) (v8:V) (v9:V)=>W (ai .Sub (.int 8) v9) (aO K4 v8);let bW:=λ(K4:List V->Pr) (v8:V)=>W (aB gg (.ref i) "size") (aZ K4 v8);let c8:=λ(K4:List V->Pr) (v7:V)=>W (ai .Sub v7 (.int 1)) (bW K4);let dG:=λ(K4:List V->Pr) (v6:V)=>W (ai .LShift (.int 1) v6) (c8 K4);let dR:=λ(K4:List V->Pr) (v5:V)=>W (ai .Sub (.int 8) v5) (dG K4);let fC:=λ(v3:V)=>Q .none;let gX:=λ(b2:Bool)=>cR b2 (W (az gg (.ref i) "put") (bA (ag gg (n+17)) (λK4 H=>(W (aB gg (.ref i) "size") (dR K4)) H) (.ref i) fC)) (Q .none);let iU:=λ(v1:V)=>W (cX .Gt v1 (.int 0)) gX;refine ce (p:=(W (aB gg (.ref i) "size") iU) σ) ?_;refine cw (id B) λb r B hb=>?_;have o:=B.obj;have SW:T%8<8:=mod_lt _ (by decide);refine ku ?_;refine Aj (DL (λh=>?_) λh=>?_)
 ·have e:((8:Int)-(T%8:Nat))=(8-T%8:Nat):=(ofNat_sub (cF SW)).symm;have hs:8-T%8<=8:=sub_le _ _;refine jw gq ?_;refine bc o (by exact rJ (by kernel_rfl)) (by kernel_rfl) (di ?_);rw[e];refine yk (GQ (ao hs (by decide))) (di ?_);rw[i0,Int.one_mul,show((2^(8-T%8):Nat):Int)-1=((2^(8-T%8)-1:Nat):Int) from(ofNat_sub (two_pow_pos _)).symm]
  refine bc o (by exact rJ (by kernel_rfl)) (by kernel_rfl) (di ?_);rw[e];have hv:2^(8-T%8)-1<2^(8-T%8):=Nat.sub_lt (two_pow_pos _) (by decide);refine qD (T:=T) (v:=2^(8-T%8)-1) (s:=8-T%8) ⟨b,r,B,hb⟩ (ao hs (by decide)) hv hT λτ u B'=>q τ _ u B' ?_;have:0<T%8:=ofNat_lt.mp h
  lia
 ·refine q σ T .refl ⟨b,r,B,hb⟩ ?_;have:T%8=0:=eq_zero_of_not_pos λc=>h (ofNat_lt.mpr c)
  omega
theorem wC(B:BT σ i f T)(hT:T/8<=1000)(q:∀b:List UInt8,b.length=T/8->Q (.bytes b) σ):W ((ag gg (n+11)).C (ah 54 3) [.ref i]) Q σ:=by
 let aO:=λ(v2:V)=>Q v2;let aZ:=λ(v1:V)=>W (aX "bytes" [v1]) aO;refine ce (p:=(W (aB gg (.ref i) "full") aZ) σ) ?_;refine cw B λb r B hb=>?_;have o:=B.obj;refine mV ?_;exact qu B.bar (aG (hb▸hT)) (q b hb)
end
def iS(σ:af)(ti:Nat)(L:Nat->Option Nat):Prop:=∃a b c d es k,σ[ti]?=some (.ins "HuffTable" [("counts",a),("symbols",b),("rows",c),("codes",.ref d)])/\σ[d]?=some (.cG es k)/\∀s l,L s=some l->l<=16/\∃x:Nat,x<2^l/\aV (s:Int) es=some (.tup [.int x,.int l])
theorem iS.g(u:i9 σ τ){L:Nat->Option Nat}:iS σ ti L->iS τ ti L:=λMg=>gO Mg λa b c d es k h1 h2 h3=>⟨a,b,c,d,es,k,u.2 _ _ h1 rfl,u.2 _ _ h2 rfl,h3⟩
def fm(σ:af)(tt m:Nat)(L:Nat->Nat->Option Nat):Prop:=∃tb:Nat->Nat,σ[tt]?=some (.jt ((range m).map λp=>(pk p,.ref (tb p))))/\∀p,p<m->iS σ (tb p) (L p)
theorem fm.g(u:i9 σ τ){L:Nat->Nat->Option Nat}:fm σ tt m L->fm τ tt m L:=λMf=>ak Mf λtb h e=>⟨tb,u.2 _ _ h rfl,λp hp=>(e p hp).g u⟩
theorem pa{L:Nat->Option Nat}(T:iS σ ti L)(hL:L s=some l)(q:∀x:Nat,x<2^l->l<=16->Q (.tup [.int x,.int l]) σ):W ((ag gg (n+11)).C (ah 38 1) [.ref ti,.int s]) Q σ:=by
 let aO:=λ(v2:V) (b4:Bool)=>cR b4 no (Q v2);let aZ:=λ(v2:V)=>W (cX .Is v2 .none) (aO v2);let bW:=λ(v1:V)=>W (az gg v1 "get") (bA (ag gg (n+8)) (λK3=>K3 [.int s]) v1 aZ);refine ce (p:=(W (aB gg (.ref ti) "codes") bW) σ) ?_;(refine gO T λa b c d es k h1 h2 h3=>?_;clear T);refine cN (h3 s l hL) λhl x hx hv=>?_;refine vQ ?_;refine fg h2 AP (N6 h2 ?_);rw[hv];exact Kp (iy rfl (q x hx hl))
theorem C8(v:Int):v.natAbs<2^g8 v:=by
 unfold g8
 split
 ·rename_i h;rw[h];decide
 ·rename_i h;exact Nat.lt_log2_self
theorem z0(v:Int):f3 v=g8 v:=by
 unfold f3
 split
 ·unfold g8;rw[Int.natAbs_neg]
 ·rfl
theorem Hi:∃x:Nat,t7 v (f3 v)=x/\x<2^f3 v:=by
 have h:=C8 v;rw[z0];generalize g8 v=s at h;unfold t7;rw[i0];generalize 2^s=P at h;by_cases hv:v<0
 ·rw[if_pos (decide_eq_true hv)];exact⟨P-1-v.natAbs,by omega,by exact Nat.sub_one_sub_lt_of_lt h⟩
 ·rw[if_neg (by rwa[decide_eq_true_eq])];exact⟨v.natAbs,by lia,h⟩
noncomputable def mT(L:Nat->Nat->Option Nat)(T:Nat)(p:Nat)(v:Int):Nat:=T+(L p (f3 v)).getD 0+if 0<f3 v/\f3 v<16 then f3 v else 0
def hZ(fW j1:af)(bw fb tt sk:Nat)(T:Nat):Pr:=λτ=>i9 fW τ/\Bm j1 τ/\T<=6000/\BT τ bw fb T/\τ[sk]?=some (.ins "CodeSink" [("tables",.ref tt),("writer",.ref bw)])
noncomputable def oW(fW j1:af)(m w h k:Nat)(mid:Int)(G:Nat->Nat->Nat->Int)(wr sl g lp sk t r:Nat)(pp:Nat->Nat)(qq:Nat->Nat->Nat)(f cs prec s ps ds pt:Nat)(co:Nat->Nat)(bw fb tt:Nat)(L:Nat->Nat->Option Nat):Cx:=
 {m,w,h,k,mid,G,wr,sl,g,lp,sk,t,r,pp,qq,f,cs,prec,s,ps,ds,pt,co,α:=Nat,I:=hZ fW j1 bw fb tt sk,J:=λT p v τ=>hZ fW j1 bw fb tt sk (T+(L p (f3 v)).getD 0) τ/\T+(L p (f3 v)).getD 0+16<=6000,E:=λT τ=>i9 fW τ,
  ok:=λT p v=>p<m/\T+60<=6000/\(L p (f3 v)).isSome,nx:=mT L,c:="CodeSink",fs:=(ah 56 1),fb:=(ah 56 2),ff:=(ah 56 3),fin:=λT v=>∃b:List UInt8,v=.bytes b/\b.length=(T+7)/8}
section
variable{fW j1:af}{m w h k:Nat}{mid:Int}{G:Nat->Nat->Nat->Int}{wr sl g lp sk t r:Nat}{pp:Nat->Nat}{qq:Nat->Nat->Nat}{f cs prec s ps ds pt:Nat}{co:Nat->Nat}{bw fb tt T:Nat}{L:Nat->Nat->Option Nat}
theorem hZ.keep(h:hZ fW j1 bw fb tt sk T σ)(cb:fW.length<=bw/\fW.length<=fb)(u:Up [bw,fb] σ τ):i9 fW τ/\KL σ τ/\∀{j:Nat}{c:aL},σ[j]?=some c->M7 c=true->τ[j]?=some c:=by
 (refine qo h λh1 h2 _ Aw h6=>?_;clear h;(refine cw Aw λb r B0 _=>?_;clear Aw));have kc:∀{i:Nat}{c:aL},i∈ [bw,fb]->σ[i]?=some c->M7 c=false/\SJ c=false:=λ{i c} hi hc=>by
  rcases bt hi with rfl|hi
  ·rw[Option.some.inj (hc.symm.trans B0.obj)];exact⟨by kernel_rfl,rfl⟩
  ·(have E4:=bz hi;subst E4);rw[Option.some.inj (hc.symm.trans B0.bar)];exact⟨rfl,rfl⟩
 refine⟨h1.fresh (λi hi=>?_) u,λj c hj hl=>u.2 j c hj λhm=>by(replace hl:=((kc hm hj).2)▸hl;exact mO hl),λhj hs=>u.2 _ _ hj λhm=>by(replace hs:=((kc hm hj).1)▸hs;exact mO hs)⟩
 rcases bt hi with rfl|hi
 ·exact cb.1
 ·(have qZ:=bz hi;subst qZ);exact cb.2
theorem hZ.put(h:hZ fW j1 bw fb tt sk T σ)(cb:fW.length<=bw/\fW.length<=fb)(u:Up [bw,fb] σ τ)(hT:T'<=6000)(B:BT τ bw fb T'):hZ fW j1 bw fb tt sk T' τ/\KL σ τ:=by
 refine bH (h.keep cb u) λh1 kl ns=>?_;exact⟨⟨h1,h.2.1.trans ⟨u.1,λj c hj hs=>ns hj hs⟩,hT,B,ns h.2.2.2.2 (by kernel_rfl)⟩,kl⟩
theorem FV(tl:t<j1.length)(hl:j1.length<=σ.length)(tb:t≠bw/\t≠fb)(u:Up [bw,fb] σ τ):τ[t]?=σ[t]?:=by
 have h:σ[t]?=some σ[t]:=getElem?_eq_getElem (d5 tl hl);exact(u.2 _ _ h λhm=>(bt hm).elim tb.1 λhm=>tb.2 (bz hm)).trans h.symm
theorem GZ(hT:fm fW tt m L)(cb:fW.length<=bw/\fW.length<=fb)(hI:hZ fW j1 bw fb tt sk T σ)(hp:S<m)(UZ:T+60<=6000)(hs:(L S (f3 v)).isSome)(q:∀τ,hZ fW j1 bw fb tt sk (T+(L S (f3 v)).getD 0) τ->T+(L S (f3 v)).getD 0+16<=6000->Up [bw,fb] σ τ->KL σ τ->Q .none τ):W ((ag gg (n+20)).C (ah 56 1) [.ref sk,.tup [.int 0,.int S],.int (f3 v)]) Q σ:=by
 refine eL (isSome_iff_exists.mp hs) λl hl=>?_;refine ak (hT.g hI.1) λZa XX V0=>?_;have o:=hI.2.2.2.2;refine kn (n:=n+19) (p:=(W (aB gg (.ref sk) "tables") λv1=>W (aR v1 (.tup [.int 0,.int S])) λv2=>W (az gg v2 "code") (bA (ag gg (n+17)) (λK4=>K4 [.int (f3 v)]) v2 λv3=>sG v3 λXf=>R (eF (ah 56 1).sc ⟨[("self",.ref sk),("key",.tup [.int 0,.int S]),("s",.int (f3 v))],[]⟩ (qI (kA (aF (ah 56 1).body [0]))) Xf) λe6=>aS (ay gg (n+19)) (ah 56 1).sc ((ah 56 1).body.drop 1) e6 (cz Q))) σ) (by kernel_rfl) (by kernel_rfl) ?_;refine mV ?_;refine jY XX (k:=pk S) rfl (by rw[lP q5,if_pos hp]) ?_;refine gO (V0 S hp) λa b c d es k' h1 h2 h3=>?_;refine dI h1 i1 (by kernel_rfl) (pa (V0 S hp) hl λx hx Rh=>?_);let aO:=λ(v2:V)=>Q .none;let aZ:=λ(v1:V)=>W (az gg v1 "put") (bA (ag gg (n+17)) (λK3=>K3 [.int x,.int l]) v1 aO);refine bk (p:=(W (aB gg (.ref sk) "writer") aZ) σ) ?_;refine qi ?_;refine cw (hI.2.2.2.1) λbb r B hb=>?_;refine dI B.obj gq (by kernel_rfl) (qD ⟨bb,r,B,hb⟩ (ao Rh (by decide)) hx hI.2.2.1 λτ u B'=>?_);have hle:T+l+16<=6000:=ao (Nat.add_le_add_right (Nat.add_le_add_left Rh T) 16) (ao (Nat.add_le_add_left (by decide:16+16<=60) T) UZ);obtain⟨hJ,kl⟩:=hZ.put hI cb u (ao (le_add_right _ _) hle) B';replace q:=hl▸q;exact q τ hJ hle u kl
theorem CR(cb:fW.length<=bw/\fW.length<=fb)(hJ:hZ fW j1 bw fb tt sk T σ)(UZ:T+16<=6000)(hc:f3 v<16)(q:∀τ,hZ fW j1 bw fb tt sk (T+f3 v) τ->Up [bw,fb] σ τ->KL σ τ->Q .none τ):W ((ag gg (n+20)).C (ah 56 2) [.ref sk,.int (t7 v (f3 v)),.int (f3 v)]) Q σ:=by
 have o:=hJ.2.2.2.2;refine ak (Hi (v:=v)) λx hx yy=>?_;refine Eq.symm hx▸?_;refine kn (n:=n+19) (p:=(W (aB gg (.ref sk) "writer") λv1=>W (az gg v1 "put") (bA (ag gg (n+17)) (λK3=>K3 [.int x,.int (f3 v)]) v1 λv2=>Q .none)) σ) (by kernel_rfl) (by kernel_rfl) ?_;refine qi ?_;refine cw (hJ.2.2.2.1) λbb r B hb=>?_;refine dI B.obj gq (by kernel_rfl) (qD ⟨bb,r,B,hb⟩ (ao (cF hc) (by decide)) yy hJ.2.2.1 λτ u B'=>?_);obtain⟨hI,kl⟩:=hZ.put hJ cb u (ao (Nat.add_le_add_left (cF hc) T) UZ) B';exact q τ hI u kl
theorem G8(cb:fW.length<=bw/\fW.length<=fb)(Vd:fW.length<=sk)(hI:hZ fW j1 bw fb tt sk T σ)(q:∀τ b,i9 fW τ->KL σ τ->(b:List UInt8).length=(T+7)/8->Q (.bytes b) τ):W ((ag gg (n+30)).C (ah 56 3) [.ref sk]) Q σ:=by
 have o:=hI.2.2.2.2;refine kn (n:=n+29) (p:=(W (aB gg (.ref sk) "writer") λv1=>W (az gg v1 "pad") (bA (ag gg (n+27)) (λK3=>K3 []) v1 λv2=>W (aB gg (.ref sk) "writer") λv4=>W (az gg v4 "octets") (bA (ag gg (n+27)) (λK6=>K6 []) v4 λv5=>W (cx gg (ag gg (n+27)) (.cls "BitWriter") []) λv7=>W (bq gg (.ref sk) "writer" v7) λ_=>Q v5))) σ) (by kernel_rfl) (by kernel_rfl) ?_;refine qi ?_;refine cw (id hI.2.2.2.1) λbb r B hb=>?_;refine dI B.obj oF (by kernel_rfl) (ED hI.2.2.2.1 hI.2.2.1 λτ T' u B' Ws=>?_);have hle:T'/8<=1000:=Ws▸ao (div_le_div_right (Nat.add_le_add_right hI.2.2.1 7)) (by decide);refine cw (id B') λb' r' B1 Wr=>?_;have o:=u.2 _ _ hI.2.2.2.2 (λhm=>(bt hm).elim (bV hI.2.2.2.2 B.obj (iK (by kernel_rfl))) λhm=>bV hI.2.2.2.2 B.bar nofun (bz hm));refine qi ?_;refine dI B1.obj lW (by kernel_rfl) (wC B' hle λb hb=>pC λYO Zl dM u2 l2 _ B2=>?_);have o2:=u2.at o;refine cQ o2 (fs':=[("tables",.ref tt),("writer",.ref YO)]) (by kernel_rfl) (by kernel_rfl) λgT u3 h3=>?_;refine bH (hI.keep cb u) λg1 kl _=>?_;refine q gT b ((g1.trans u2.g).fresh (λi hi=>bz hi▸Vd) u3) ((kl.trans u2.kl).trans (KL.set u3 o2 rfl)) (hb.trans Ws)
theorem JS(S:vR (oW fW j1 m w h k mid G wr sl g lp sk t r pp qq f cs prec s ps ds pt co bw fb tt L) j1)(tb:t≠bw/\t≠fb)(ct:fW.length<=t)(tl:t<j1.length)(cb:fW.length<=bw/\fW.length<=fb)(Vd:fW.length<=sk)(hT:fm fW tt m L):(oW fW j1 m w h k mid G wr sl g lp sk t r pp qq f cs prec s ps ds pt co bw fb tt L).Ok where
 mt:=⟨mE,oE,mF⟩
 stI h:=S.s h.2.1 λfs=>by kernel_rfl
 TR h:=S.s h.1.2.1 λfs=>by kernel_rfl
 top:=λ{a σ τ e k} ⟨h1,h2,h3,⟨b,r,B,hb⟩,h5⟩ ht u=>
  ⟨h1.fresh (λi hi=>bz hi▸ct) u,h2.trans (Bm.set u ht rfl),h3,⟨b,r,⟨u.ne B.obj tb.1.symm,u.ne B.bar tb.2.symm,B.lt⟩,hb⟩,u.ne h5 (bV h5 ht nofun)⟩
 gen:=λ⟨h1,h2,h3,⟨b,r,B,hb⟩,h5⟩ u=>⟨h1.trans u,h2.trans u.s,h3,⟨b,r,⟨u.2 _ _ B.obj rfl,u.2 _ _ B.bar rfl,B.lt⟩,hb⟩,u.2 _ _ h5 rfl⟩
 sym:=λ{n T s v σ Q} hI ok q=>GZ hT cb hI ok.1 ok.2.1 ok.2.2 λτ hJ hle u kl=>q τ ⟨hJ,hle⟩ (FV tl hI.2.1.1 tb u) kl
 bits:=λ{n T s v σ Q} hJ hc q=>CR cb hJ.1 hJ.2 hc.2 λτ hI u kl=>q τ (by
  refine(?_:hZ _ _ _ _ _ _ (mT L T s v) τ);unfold mT;rw[if_pos hc];exact hI) (FV tl hJ.1.2.1.1 tb u) kl
 skip:=λ{T s v σ} hJ hc=>by
  refine(?_:hZ _ _ _ _ _ _ (mT L T s v) σ);unfold mT;refine Eq.symm (if_neg hc)▸?_;exact hJ.1
 finish:=λ{n T σ Q} hI q=>G8 cb Vd hI λτ b u kl hb=>q τ _ ⟨b,rfl,hb⟩ u kl
end
noncomputable def Iz(x:UInt8):List UInt8:=if x=255 then [255,0]else [x]
noncomputable def aC(b:List UInt8):List UInt8:=b.flatMap Iz
theorem gh{a b:List UInt8}:aC (a++b)=aC a++aC b:=List.flatMap_append
theorem fG{x:UInt8}{r:List UInt8}:aC (x::r)=Iz x++aC r:=rfl
theorem Iy{x:UInt8}:(Iz x).length<=2:=by unfold Iz;split<;>simp
theorem dO:∀{b:List UInt8},(aC b).length<=2*b.length
 |[]=>Nat.le_refl _
 |x::r=>by
  rw[fG,length_append,length_cons,Nat.mul_succ,Nat.add_comm];exact Nat.add_le_add dO Iy
theorem Lb{x:UInt8}{m:Nat}(h:m<=1000):(decide (0<=(x.toNat:Int)/\(x.toNat:Int)<256)&&cM m)=true:=and_eq_true_iff.mpr ⟨dT ⟨f7 _,ofNat_lt.mpr x.toNat_lt⟩,aG h⟩
theorem VV{x y:UInt8}:decide ((x.toNat:Int)=(y.toNat:Int))=decide (x=y):=decide_eq_decide.mpr ⟨λe=>UInt8.toNat_inj.mp (ofNat.inj e),λe=>by rw[e]⟩
theorem Il{b:List UInt8}(hb:b.length<=60)(q:∀τ,Up [] σ τ->Q (.bytes (aC b)) τ):W ((ag gg (n+11)).C (aa 62) [.bytes b]) Q σ:=by
 let aO:=λ(v1:V)=>W (aQ (.bytes b)) λfz=>aK (aJ (ag gg (n+9))) (bp (ay gg (n+9)) (aa 62).sc (aF (aa 62).body [1])) (bx (ay gg (n+10)) (aa 62).sc ((aa 62).body.drop 2) (cz Q)) fz.2 fz.1 ⟨[("octets",.bytes b),("found",v1)],[]⟩;refine ce (p:=(W (aX "bytearray" []) aO) σ) ?_;refine nY λf τ u l h0=>Ko ?_;have hl:b.length=(b.map λx=>V.int x.toNat).length:=(length_map _).symm;simp only[hl];refine ze (σ:=σ) (.inl rfl) (λe=>e=⟨[("octets",.bytes b),("found",.ref f)],[]⟩\/∃x,e=⟨[("octets",.bytes b),("found",.ref f),("octet",x)],[]⟩) (.inl rfl) (X:=λv K=>(W (az gg (.ref f) "append") (bA (ag gg (n+7)) (λK2=>K2 [v]) (.ref f) λv1=>W (cX .Eq v (.int 255)) λb3=>cR b3 (W (az gg (.ref f) "append") (bA (ag gg (n+6)) (λK5=>K5 [.int 0]) (.ref f) λv4=>K .next ⟨[("octets",.bytes b),("found",.ref f),("octet",v)],[]⟩)) (K .next ⟨[("octets",.bytes b),("found",.ref f),("octet",v)],[]⟩)))) (λe v K τ he hv h=>?_) (λr τ=>Up [] σ τ/\∃a c,a++c=b/\r=c.map (λx=>V.int x.toNat)/\τ[f]?=some (.bar (aC a))) (λ_ _ h=>h.1) (λv r τ K ae q'=>?_) (λe τ he ae=>?_) (jN u ([]) b rfl rfl h0)
 ·rcases he with rfl|⟨x,rfl⟩
  ·exact bk h
  ·exact bk h
 ·(refine nN ae λu a c e er h=>?_;clear ae);cases c with
  |nil=>cases er
  |cons x c=>
   obtain⟨rfl,rfl⟩:=List.cons.inj er;have ha:a.length<=60:=ao (by simp only[<-e,length_append];exact le_add_right _ _) hb;have hs:(aC a).length<=1000:=ao dO (ao (Nat.mul_le_mul_left 2 ha) (by decide));have e':(a++[x])++c=b:=by rw[append_assoc];exact e
   refine fg h ny (vP h (Lb hs) λeW u1 h1=>kr ?_);rw[toNat_natCast,UInt8.ofNat_toNat]at h1;refine DL (λzK=>?_) λzK=>?_
   ·have hx:x=255:=UInt8.toNat_inj.mp (ofNat.inj zK);refine fg h1 ny (vP h1 (and_eq_true_iff.mpr ⟨rfl,aG ?_⟩) λdM u2 h2=>q' _ dM (.inr ⟨_,rfl⟩) (jN (u.fresh l (u1.trans u2)) (a++[x]) c e' rfl (h2.trans ?_)))
    ·rw[length_append];exact ao (Nat.add_le_add_right (ao dO (Nat.mul_le_mul_left 2 ha)) 1) (by decide)
    ·rw[gh,hx,append_assoc];rfl
   ·have hx: ¬x=255:=λe=>zK (by rw[e];rfl);refine q' _ eW (.inr ⟨_,rfl⟩) (jN (u.fresh l u1) (a++[x]) c e' rfl (h1.trans ?_));simp only[gh,fG,Iz,if_neg hx];rfl
 ·(refine nN ae λu a c e er h=>?_;clear ae);have hc:c= []:=List.map_eq_nil_iff.mp er.symm;subst hc;rw[append_nil]at e;subst e;have t:W (aX "bytes" [.ref f]) Q τ:=qu h (aG (ao dO (ao (Nat.mul_le_mul_left 2 hb) (by decide)))) (q τ u)
  rcases he with rfl|⟨x,rfl⟩
  ·exact bk t
  ·exact bk t
theorem Mn{iv:Nat}{b:List UInt8}(hb:b.length<=60)(hi:σ[iv]?=some (.lst [.bytes b]))(q:∀τ,Up [] σ τ->Q (.bytes (aC b)) τ):W ((ag gg (n+21)).C (aa 66) [.ref iv]) Q σ:=by
 let aO:=λ(v1:V) (v3:V)=>W (aQ v3) λnC=>aK (aJ (ag gg (n+19))) (bp (ay gg (n+19)) (aa 66).sc (aF (aa 66).body [1])) (bx (ay gg (n+20)) (aa 66).sc ((aa 66).body.drop 2) (cz Q)) nC.2 nC.1 ⟨[("intervals",.ref iv),("found",v1)],[]⟩;let aZ:=λ(v1:V) (v2:V)=>W (aX "range" [v2]) (aO v1);let bW:=λ(v1:V)=>W (aU "len" [.ref iv]) (aZ v1);refine ce (p:=(W (aX "bytearray" []) bW) σ) ?_;refine nY λf τ u l h0=>?_;have hi:=u.at hi;refine dr hi rfl (cy ?_);refine bk (p:=(W (az gg (.ref f) "extend") (bA (ag gg (n+17)) (λK H=>(W (aR (.ref iv) (.int 0)) λv=>W ((ag gg (n+16)).C (aa 62) [v]) λw=>K [w]) H) (.ref f) λ_=>W (aX "bytes" [.ref f]) Q)) τ) ?_;refine fg h0 Fv (cg hi rfl rfl (Il hb λeW u1=>N9 (u1.at h0) (aG ?_) λdM u2 h2=>?_))
 ·exact ao (Nat.add_le_add_left dO 0) (ao (Nat.add_le_add_left (Nat.mul_le_mul_left 2 hb) 0) (by decide))
 ·exact qu h2 (aG (ao dO (ao (Nat.mul_le_mul_left 2 hb) (by decide)))) (q dM ((u.trans u1).fresh l u2))
theorem EN:∃t,Iz x=x::t/\(x=255->t= [0])/\(¬x=255->t= []):=by
 unfold Iz
 split
 ·rename_i h;exact⟨[0],by rw[h],λ_=>rfl,λn=>(n h).elim⟩
 ·rename_i h;exact⟨[],rfl,λe=>(h e).elim,λ_=>rfl⟩
section
variable{a c b:List UInt8}{x:UInt8}
theorem Gy(e:a++x::c=b):(aC b)[(aC a).length]?=some x:=by
 refine ak (EN (x:=x)) λt ht _=>?_;simp only[<-e,gh,fG,ht,List.getElem?_append_right (Nat.le_refl _),Nat.sub_self];rfl
theorem Gx(e:a++x::c=b)(h:x=255):(aC b)[(aC a).length+1]?=some 0:=by
 refine cA (EN (x:=x)) λt ht h1 _=>?_;simp only[<-e,gh,fG,ht,h1 h,List.getElem?_append_right (le_succ _)];show([x,0]++aC c)[(aC a).length+1-(aC a).length]?=_;rw[Nat.add_sub_cancel_left];rfl
theorem Lf(h: ¬x=255):(aC (a++[x])).length=(aC a).length+1:=by
 rw[gh,length_append,fG,Iz,if_neg h];rfl
theorem Le(h:x=255):(aC (a++[x])).length=(aC a).length+1+1:=by
 rw[gh,length_append,fG,Iz,if_pos h];rfl
theorem SH(h:(aC b)[k]?=some y):k<(aC b).length:=(d0 h).1
theorem RN(e:a++c=b):(c.length !=0)=decide (((aC a).length:Int)<((aC b).length:Int)):=by
 induction c using List.casesOn with
 |nil=>rw[append_nil]at e;rw[e,dF (Int.lt_irrefl _)];rfl
 |cons x c=>simp only[dT (ofNat_lt.mpr (SH (Gy e)))];rfl
theorem sr{Q:V->Pr}{k:Nat}{y:UInt8}(hb:b.length<=60)(h:(aC b)[k]?=some y)(q:Q (.int y.toNat) σ):W (aR (.bytes (aC b)) (.int k)) Q σ:=
 have hl:(aC b).length<=1000:=ao dO (ao (Nat.mul_le_mul_left 2 hb) (by decide))
 HQ (rj (SH h) hl) (aG hl) h q
theorem Bs(hb:b.length<=60)(q:∀τ,Up [] σ τ->Q (.bytes b) τ):W ((ag gg (n+11)).C (aa 63) [.bytes (aC b)]) Q σ:=by
 let aO:=λ(v1:V)=>gD (jb (ay gg (n+9)) (aa 63).sc (aF (aa 63).body [2])) (j2 (ay gg (n+9)) (aa 63).sc (aF (aa 63).body [2])) (bx (ay gg (n+10)) (aa 63).sc ((aa 63).body.drop 3) (cz Q)) 64 ⟨[("octets",.bytes (aC b)),("found",v1),("at",.int 0)],[]⟩;refine ce (p:=(W (aX "bytearray" []) aO) σ) ?_;have hl:(aC b).length<=1000:=ao dO (ao (Nat.mul_le_mul_left 2 hb) (by decide));refine nY λf τ u l h0=>?_;refine iq (λm e τ=>∃a c,a++c=b/\c.length=m/\e=⟨[("octets",.bytes (aC b)),("found",.ref f),("at",.int (aC a).length)],[]⟩/\Up [] σ τ/\τ[f]?=some (.bar a)) (λm e τ K ae t=>?_) (λm e τ K ae q'=>?_) (λe τ ae=>?_) (m:=b.length) (dg ([]) b rfl rfl rfl u h0) (Nat.lt_of_le_of_lt hb (by decide))
 ·(refine dh ae λa c e Pl Pk u h=>?_;clear ae;subst Pl;subst Pk);let aO:Bool->Pr:=λb2 H=>(K b2) H;let aZ:V->Pr:=λv1 H=>(W (cX .Lt (.int (aC a).length) v1) aO) H;refine bk (p:=(W (aU "len" [.bytes (aC b)]) aZ) τ) ?_;refine so (aG hl) (lZ ?_);rw[<-RN e];exact t
 ·(refine dh ae λa c e hm Pj u h=>?_;clear ae;subst Pj)
  induction c using List.casesOn with
  |nil=>cases hm
  |cons x c=>
   have e':(a++[x])++c=b:=by rw[append_assoc];exact e
   have g0:=Gy e;let aO:(List V->Pr)->V->Pr:=λK2 v3 H=>(K2 [v3]) H;let aZ:V->Bool->Pr:=λv6 R3 H=>(cR R3 no (aS (ay gg (n+9)) (aa 63).sc ((dQ (aF (aa 63).body [2])).drop 2) ⟨[("octets",.bytes (aC b)),("found",.ref f),("at",v6)],[]⟩ K)) H;let bW:V->V->Pr:=λv6 v9 H=>(W (cX .NotEq v9 (.int 0)) (aZ v6)) H;let c8:V->Bool->Pr:=λv6 b8 H=>(cR b8 no (W (aR (.bytes (aC b)) v6) (bW v6))) H;let dG:V->V->Pr:=λv6 v7 H=>(W (cX .GtE v6 v7) (c8 v6)) H;let dR:V->Pr:=λv6 H=>(W (aU "len" [.bytes (aC b)]) (dG v6)) H;let fC:Bool->Pr:=λb5 H=>(cR b5 (W (ai .Add (.int (aC a).length) (.int 1)) dR) (aS (ay gg (n+9)) (aa 63).sc ((dQ (aF (aa 63).body [2])).drop 2) ⟨[("octets",.bytes (aC b)),("found",.ref f),("at",.int (aC a).length)],[]⟩ K)) H;let gX:V->Pr:=λv4 H=>(W (cX .Eq v4 (.int 255)) fC) H;let iU:V->Pr:=λv1 H=>(W (aR (.bytes (aC b)) (.int (aC a).length)) gX) H;refine bk (p:=(W (az gg (.ref f) "append") (bA (ag gg (n+7)) (λK2 H=>(W (aR (.bytes (aC b)) (.int (aC a).length)) (aO K2)) H) (.ref f) iU)) τ) ?_;have ha:a.length<=1000:=ao (by rw[<-e,length_append];exact le_add_right _ _) (ao hb (by decide));refine fg h ny (sr hb g0 (vP h (Lb ha) λeW u1 h1=>sr hb g0 (kr ?_)));rw[toNat_natCast,UInt8.ofNat_toNat]at h1;have u2:=u.fresh l u1;refine DL (λzK=>?_) λzK=>?_
   ·have hx:x=255:=UInt8.toNat_inj.mp (ofNat.inj zK);have g1:=Gx e hx;refine cq (so (aG hl) (Ks ?_));rw[<-natCast_succ];refine iy (dF (Int.not_le.mpr (ofNat_lt.mpr (SH g1)))) (sr hb g1 (vL (iy rfl ?_)));refine bk (p:=K .next ⟨[("octets",.bytes (aC b)),("found",.ref f),("at",.int (((aC a).length+1:Nat)+1))],[]⟩ eW) ?_;rw[<-natCast_succ];exact q' _ eW (dg (a++[x]) c e' (Nat.succ.inj hm) (by rw[Le hx]) u2 h1)
   ·have hx: ¬x=255:=λe=>zK (by rw[e];rfl);refine bk (p:=K .next ⟨[("octets",.bytes (aC b)),("found",.ref f),("at",.int ((aC a).length+1))],[]⟩ eW) ?_;rw[<-natCast_succ];exact q' _ eW (dg (a++[x]) c e' (Nat.succ.inj hm) (by rw[Lf hx]) u2 h1)
 ·(refine dh ae λa c e hm O3 u h=>?_;clear ae;subst O3);have hc:=List.eq_nil_of_length_eq_zero hm;subst hc;rw[append_nil]at e;subst e;exact bk (p:=W (aX "bytes" [.ref f]) Q τ) (qu h (aG (ao hb (by decide))) (q τ u))
theorem yP{iv nu:V}{KB:Bool->Pr}(hb:b.length<=60)(hx:x=255)(e:a++x::c=b)(q:KB true σ):(ay gg (n+17)).T (aa 65).sc ⟨[("data",.bytes (aC b)),("intervals",iv),("numbers",nu),("begin",.int 0),("at",.int (aC a).length)],[]⟩ (m9 (aF (aa 65).body [4,0,1])) KB σ:=by
 have hl:(aC b).length<=1000:=ao dO (ao (Nat.mul_le_mul_left 2 hb) (by decide));have g1:=Gx e hx;let aO:Bool->Pr:=λb6 H=>(cR b6 (KB true) (KB false)) H;let aZ:V->Pr:=λv5 H=>(W (cX .Eq v5 (.int 0)) aO) H;let bW:V->Pr:=λv4 H=>(W (aR (.bytes (aC b)) v4) aZ) H;let c8:Bool->Pr:=λb3 H=>(cR b3 (W (ai .Add (.int (aC a).length) (.int 1)) bW) (KB false)) H;let dG:V->V->Pr:=λv1 v2 H=>(W (cX .Lt v1 v2) c8) H;let dR:V->Pr:=λv1 H=>(W (aU "len" [.bytes (aC b)]) (dG v1)) H;refine bk (p:=(W (ai .Add (.int (aC a).length) (.int 1)) dR) σ) ?_;refine cq ?_;refine so (aG hl) ?_;refine lZ ?_;rw[<-natCast_succ];refine mv (dT (ofNat_lt.mpr (SH g1))) ?_;refine cq ?_;rw[<-natCast_succ];refine sr hb g1 ?_;exact kr (mv rfl q)
theorem Im(hb:b.length<=60)(q:∀τ iv nu,Up [] σ τ->τ[iv]?=some (.lst [.bytes b])->Q (.tup [.ref iv,.ref nu]) τ):W ((ag gg (n+21)).C (aa 65) [.bytes (aC b)]) Q σ:=by
 let aO:V->V->Pr:=λv1 v2 H=>(gD (jb (ay gg (n+19)) (aa 65).sc (aF (aa 65).body [4])) (j2 (ay gg (n+19)) (aa 65).sc (aF (aa 65).body [4])) (bx (ay gg (n+20)) (aa 65).sc ((aa 65).body.drop 5) (cz Q)) 64 ⟨[("data",.bytes (aC b)),("intervals",v1),("numbers",v2),("begin",.int 0),("at",.int 0)],[]⟩) H;let aZ:V->Pr:=λv1 H=>(W (dE []) (aO v1)) H;refine ce (p:=(W (dE []) aZ) σ) ?_;have hl:(aC b).length<=1000:=ao dO (ao (Nat.mul_le_mul_left 2 hb) (by decide));refine bZ rfl λiv Kz u0 l0 hi=>bZ rfl λnu τ u1 l1 hn=>?_;refine iq (λm e eM=>∃a c,a++c=b/\c.length=m/\e=⟨[("data",.bytes (aC b)),("intervals",.ref iv),("numbers",.ref nu),("begin",.int 0),("at",.int (aC a).length)],[]⟩/\eM=τ) (λm e τ K ae t=>?_) (λm e τ K ae q'=>?_) (λe τ ae=>?_) (m:=b.length) (dt ([]) b rfl rfl rfl rfl) (Nat.lt_of_le_of_lt hb (by decide))
 ·(refine bj ae λa c e OV OU OT=>?_;clear ae;subst OV;subst OU;subst OT);let aO:Bool->Pr:=λb2 H=>(K b2) H;let aZ:V->Pr:=λv1 H=>(W (cX .Lt (.int (aC a).length) v1) aO) H;refine bk (p:=(W (aU "len" [.bytes (aC b)]) aZ) τ) ?_;refine so (aG hl) (lZ ?_);rw[<-RN e];exact t
 ·(refine bj ae λa c e hm OQ OP=>?_;clear ae;subst OQ;subst OP)
  induction c using List.casesOn with
  |nil=>cases hm
  |cons x c=>
   have e':(a++[x])++c=b:=by rw[append_assoc];exact e
   have g0:=Gy e;let aO:V->Pr:=λv3 H=>(K .next ⟨[("data",.bytes (aC b)),("intervals",.ref iv),("numbers",.ref nu),("begin",.int 0),("at",v3)],[]⟩) H;let aZ:V->Pr:=λv5 H=>(K .next ⟨[("data",.bytes (aC b)),("intervals",.ref iv),("numbers",.ref nu),("begin",.int 0),("at",v5)],[]⟩) H;let bW:(List V->Pr)->V->Pr:=λHV pd H=>(HV [pd]) H;let c8:(List V->Pr)->V->Pr:=λHV kJ H=>(W ((ag gg (n+14)).C (aa 63) [kJ]) (bW HV)) H;let dG:(List V->Pr)->V->Pr:=λOg pX H=>(Og [pX]) H;let dR:(List V->Pr)->V->Pr:=λOg sF H=>(W (ai .Sub sF (.int 208)) (dG Og)) H;let fC:(List V->Pr)->V->Pr:=λOg mx H=>(W (aR (.bytes (aC b)) mx) (dR Og)) H;let gX:V->V->Pr:=λv6 uo H=>(K .next ⟨[("data",.bytes (aC b)),("intervals",.ref iv),("numbers",.ref nu),("begin",uo),("at",uo),("last",v6)],[]⟩) H;let iU:V->V->Pr:=λv6 pY H=>(W (ai .Add v6 (.int 2)) (gX v6)) H;let eE:V->V->Pr:=λv6 v10 H=>(W (az gg (.ref nu) "append") (bA (ag gg (n+15)) (λOg H=>(W (ai .Add v6 (.int 1)) (fC Og)) H) (.ref nu) (iU v6))) H;let fj:(List V->Pr)->V->Pr:=λVt Py H=>(Vt [Py]) H;let gY:(List V->Pr)->V->Pr:=λVt TJ H=>(W ((ag gg (n+14)).C (aa 63) [TJ]) (fj Vt)) H;let jl:(List V->Pr)->V->Pr:=λOf TH H=>(Of [TH]) H;let jL:(List V->Pr)->V->Pr:=λOf Xp H=>(W (ai .Sub Xp (.int 208)) (jl Of)) H;let ke:(List V->Pr)->V->Pr:=λOf v30 H=>(W (aR (.bytes (aC b)) v30) (jL Of)) H;let kG:V->V->Pr:=λv6 VP H=>(K .next ⟨[("data",.bytes (aC b)),("intervals",.ref iv),("numbers",.ref nu),("begin",VP),("at",VP),("last",v6)],[]⟩) H;let kF:V->V->Pr:=λv6 VQ H=>(W (ai .Add v6 (.int 2)) (kG v6)) H;let mK:V->V->Pr:=λv6 By H=>(W (az gg (.ref nu) "append") (bA (ag gg (n+15)) (λOf H=>(W (ai .Add v6 (.int 1)) (ke Of)) H) (.ref nu) (kF v6))) H;let mJ:(List V->Pr)->V->Pr:=λSj Xo H=>(Sj [Xo]) H;let mI:(List V->Pr)->V->Pr:=λSj TG H=>(W ((ag gg (n+14)).C (aa 63) [TG]) (mJ Sj)) H;let uY:(List V->Pr)->V->Pr:=λOe Xl H=>(Oe [Xl]) H;let uX:(List V->Pr)->V->Pr:=λOe Xm H=>(W (ai .Sub Xm (.int 208)) (uY Oe)) H;let zx:(List V->Pr)->V->Pr:=λOe Xn H=>(W (aR (.bytes (aC b)) Xn) (uX Oe)) H;let zw:V->V->Pr:=λv6 VN H=>(K .next ⟨[("data",.bytes (aC b)),("intervals",.ref iv),("numbers",.ref nu),("begin",VN),("at",VN),("last",v6)],[]⟩) H;let Co:V->V->Pr:=λv6 Y9 H=>(W (ai .Add v6 (.int 2)) (zw v6)) H;let zv:V->V->Pr:=λv6 VO H=>(W (az gg (.ref nu) "append") (bA (ag gg (n+15)) (λOe H=>(W (ai .Add v6 (.int 1)) (zx Oe)) H) (.ref nu) (Co v6))) H;let zu:V->Bool->Pr:=λv6 Vh H=>(cR (!Vh) no (W (az gg (.ref iv) "append") (bA (ag gg (n+15)) (λSj H=>(W (rb (.bytes (aC b)) (some (0)) (some ((aC a).length))) (mI Sj)) H) (.ref iv) (zv v6)))) H;let FW:V->V->Pr:=λv6 EF H=>(R (iC EF) (zu v6)) H;let M4:V->V->Pr:=λv6 Ay H=>(W ((ag gg (n+12)).C (aa 60) [Ay]) (FW v6)) H;let QC:V->V->Pr:=λv6 v20 H=>(W (aR (.bytes (aC b)) v20) (M4 v6)) H;let M3:V->Bool->Pr:=λv6 b9 H=>(cR b9 no (W (ai .Add v6 (.int 1)) (QC v6))) H;let M1:V->V->V->Pr:=λv6 v7 v8 H=>(W (cX .GtE v7 v8) (M3 v6)) H;let Uh:V->V->Pr:=λv6 v7 H=>(W (aU "len" [.bytes (aC b)]) (M1 v6 v7)) H;let Ug:V->Pr:=λv6 H=>(W (ai .Add v6 (.int 1)) (Uh v6)) H;let Ue:Bool->Pr:=λb2 H=>(cR b2 (W (ai .Add (.int (aC a).length) (.int 1)) aO) ((ay gg (n+17)).T (aa 65).sc ⟨[("data",.bytes (aC b)),("intervals",.ref iv),("numbers",.ref nu),("begin",.int 0),("at",.int (aC a).length)],[]⟩ (m9 (aF (aa 65).body [4,0,1])) λb4=>cR b4 (W (ai .Add (.int (aC a).length) (.int 2)) aZ) (W ((ag gg (n+15)).C (aa 64) [.bytes (aC b),.int (aC a).length]) Ug))) H;let Ud:V->Pr:=λv1 H=>(W (cX .NotEq v1 (.int 255)) Ue) H;refine bk (p:=(W (aR (.bytes (aC b)) (.int (aC a).length)) Ud) τ) ?_;refine sr hb g0 (vL ?_);by_cases hx:x=255
   ·have g1:=Gx e hx;refine iy (by rw[dT (by rw[hx];rfl)];rfl) ?_;refine yP hb hx e (mv rfl (cq ?_));refine YP (p:=K .next ⟨[("data",.bytes (aC b)),("intervals",.ref iv),("numbers",.ref nu),("begin",.int 0),("at",.int (((aC a).length+1:Nat)+1))],[]⟩ τ) (by rw[natCast_succ,Int.add_assoc];rfl) ?_;rw[<-natCast_succ];exact q' _ τ (dt (a++[x]) c e' (Nat.succ.inj hm) (by rw[Le hx]) rfl)
   ·refine mv (by rw[dF (show ¬((x.toNat:Int)=255) from λh=>hx (UInt8.toNat_inj.mp (ofNat.inj h)))];rfl) (cq ?_)
    rw[<-natCast_succ];exact q' _ τ (dt (a++[x]) c e' (Nat.succ.inj hm) (by rw[Lf hx]) rfl)
 ·(refine bj ae λa c e hm OK OJ=>?_;clear ae;subst OK;subst OJ);have hc:=List.eq_nil_of_length_eq_zero hm;subst hc;rw[append_nil]at e;subst e;have hi:=u1.at hi;let aO:(List V->Pr)->V->Pr:=λK2 v4 H=>(K2 [v4]) H;let aZ:(List V->Pr)->V->Pr:=λK2 v3 H=>(W ((ag gg (n+17)).C (aa 63) [v3]) (aO K2)) H;let bW:V->Pr:=λv1 H=>(Q (.tup [.ref iv,.ref nu])) H;refine bk (p:=(W (az gg (.ref iv) "append") (bA (ag gg (n+18)) (λK2 H=>(W (rb (.bytes (aC a)) (some (0)) none) (aZ K2)) H) (.ref iv) bW)) τ) ?_;refine fg hi ig (N8 (aG hl) (c:=aC a) ?_ (Bs hb λeW u2=>nZ (u2.at hi) rfl λdM u3 h3=>q dM iv nu (((u0.trans u1).trans u2).fresh l0 u3) h3));refine(?_:(if(0:Int)<=0/\(0:Int)<=((aC a).length:Int)then some ((aC a).drop (0:Int).toNat)else none)=some (aC a));rw[if_pos ⟨Int.le_refl _,natCast_nonneg _⟩];rfl
end
theorem zj(q:∀sk bw fb τ,Up [] σ τ->σ.length<=sk->σ.length<=bw/\σ.length<=fb->BT τ bw fb 0->τ[sk]?=some (.ins "CodeSink" [("tables",.ref tt),("writer",.ref bw)])->Q (.ref sk) τ):W (cx gg (ag gg (n+21)) (.cls "CodeSink") [.ref tt]) Q σ:=by
 refine su (fi:=(ah 56 0)) (by kernel_rfl) λi τ u0 l0 hi=>?_;refine ce (p:=(W (bq gg (.ref i) "tables" (.ref tt)) λ_=>W (cx gg (ag gg (n+18)) (.cls "BitWriter") []) λv1=>W (bq gg (.ref i) "writer" v1) λ_=>Fn i Q .none) τ) ?_;refine cQ hi (fs':=[("tables",.ref tt)]) (by kernel_rfl) (by kernel_rfl) λeW u1 h1=>pC λbw fb dM u2 l2 l3 B=>?_;have h2:=u2.at h1;refine cQ h2 (fs':=[("tables",.ref tt),("writer",.ref bw)]) (by kernel_rfl) (by kernel_rfl) λgT u3 h3=>?_;have l4:=ao u0.1 u1.1;exact q i bw fb gT (u0.fresh l0 (u1.trans (u2.any.trans u3))) l0 ⟨ao l4 l2,ao l4 l3⟩ ⟨[],0,⟨u3.ne B.obj (bV B.obj h2 (iK (by kernel_rfl))),u3.ne B.bar (bV B.bar h2 nofun),B.lt⟩,rfl⟩ h3
section
variable{f cs m w h prec s ps ds k pt e g r:Nat}{co:Nat->Nat}
theorem uk(F:bT σ f cs m w h prec co)(S:dJ σ s ps ds m k pt)(hk:k<7)(hp:pt<prec)(q:Q .none σ):W ((ag gg (n+21)).C (aa 69) [.ref f,.ref s]) Q σ:=by
 let aO:=λ(b7:Bool)=>cR (!b7) no (Q .none);let aZ:=λ(v4:V) (v6:V)=>W (cX .Lt v4 v6) aO;let bW:=λ(v4:V) (b5:Bool)=>cR b5 (W (aB gg (.ref f) "precision") (aZ v4)) no;let c8:=λ(v4:V)=>W (cX .LtE (.int 0) v4) (bW v4);let dG:=λ(YY:Bool)=>cR (!YY) no (Q .none);let dR:=λ(v10:V) (kJ:V)=>W (cX .Lt v10 kJ) dG;let fC:=λ(v10:V) (R2:Bool)=>cR R2 (W (aB gg (.ref f) "precision") (dR v10)) no;let gX:=λ(v10:V)=>W (cX .LtE (.int 0) v10) (fC v10);let iU:=λ(Vi:Bool)=>cR (!Vi) no (Q .none);let eE:=λ(mx:V) (pX:V)=>W (cX .Lt mx pX) iU;let fj:=λ(mx:V) (Vj:Bool)=>cR Vj (W (aB gg (.ref f) "precision") (eE mx)) no;let gY:=λ(mx:V)=>W (cX .LtE (.int 0) mx) (fj mx);let jl:=λ(Vh:Bool)=>cR (!Vh) no (Q .none);let jL:=λ(v20:V) (EF:V)=>W (cX .Lt v20 EF) jl;let ke:=λ(v20:V) (YV:Bool)=>cR YV (W (aB gg (.ref f) "precision") (jL v20)) no;let kG:=λ(v20:V)=>W (cX .LtE (.int 0) v20) (ke v20);let kF:=λ(RZ:Bool)=>cR RZ no (W (aB gg (.ref s) "low") kG);let mK:=λ(pY:V)=>W (cX .NotEq pY (.int 0)) kF;let mJ:=λ(b9:Bool)=>cR b9 no (W (aB gg (.ref s) "high") mK);let mI:=λ(v8:V)=>W (cX .NotEq v8 (.int 0)) mJ;let uY:=λ(b3:Bool)=>cR (!b3) no (W (aB gg (.ref s) "end") mI);let uX:=λ(YS:Bool)=>cR (!YS) no (Q .none);let zx:=λ(By:V) (TJ:V)=>W (cX .Lt By TJ) uX;let zw:=λ(By:V) (YT:Bool)=>cR YT (W (aB gg (.ref f) "precision") (zx By)) no;let Co:=λ(By:V)=>W (cX .LtE (.int 0) By) (zw By);let zv:=λ(v1:V) (b2:Bool)=>cR b2 (W (cX .LtE v1 (.int 7)) uY) no;let zu:=λ(v1:V)=>W (cX .LtE (.int 1) v1) (zv v1);refine ce (p:=(W (aB gg (.ref s) "start") zu) σ) ?_;refine eL (S.obj) λ_ o=>?_;have o1:=F.obj;refine bc o (by exact Nu (by kernel_rfl)) (by kernel_rfl) (ym (mv (dT (ofNat_le.mpr (succ_le_succ (zero_le k)))) (ym (iy (by rw[dT (show(((k+1:Nat):Int)<=7) from ofNat_le.mpr hk)];rfl) ?_))))
 refine bc o (by exact Nt (by kernel_rfl)) (by kernel_rfl) (vL (iy rfl (bc o (by exact U5 (by kernel_rfl)) (by kernel_rfl) (vL (iy rfl ?_)))));refine bc o (by exact RL (by kernel_rfl)) (by kernel_rfl) (ym (mv (dT (f7 _)) (bc o1 (by exact oS (by kernel_rfl)) (by kernel_rfl) (lZ (iy (by rw[dT (ofNat_lt.mpr hp)];rfl) q)))))
theorem oq(hw:0<w/\w<21)(q:Q .none σ):W ((ag gg (n+21)).C (aa 22) [.int w,.int 0]) Q σ:=by
 let aO:=λ(b3:Bool)=>cR b3 no (Q .none);let aZ:=λ(v2:V)=>W (cX .NotEq v2 (.int 0)) aO;let bW:=λ(b1:Bool)=>cR b1 no (W (ai .Mod (.int 0) (.int w)) aZ);refine ce (p:=(W (cX .Lt (.int 0) (.int 0)) bW) σ) ?_;refine lZ (iy rfl (nV (and_eq_true_iff.mpr ⟨decide_eq_true λe=>absurd hw.1 (ofNat.inj e▸Nat.lt_irrefl 0),ble_eq_true_of_le (ao (cF hw.2) (by decide))⟩) (vL ?_)));rw[Int.zero_fmod];exact iy rfl q
end
noncomputable def ext(c:Nat):Nat:=if 0<c/\c<16 then c else 0
noncomputable def i8(L:Nat->Nat->Option Nat)(p c:Nat):Nat:=(L p c).getD 0+ext c
noncomputable def wW(L:Nat->Nat->Option Nat)(D:Nat->Nat->Int)(k p:Nat):Nat:=((range p).map λq=>i8 L q (f3 (D q k))).sum
noncomputable def wI(L:Nat->Nat->Option Nat)(D:Nat->Nat->Int)(m N:Nat):Nat:=((range N).map λk=>wW L D k m).sum
section
variable{fW j1:af}{m w h k:Nat}{mid:Int}{G:Nat->Nat->Nat->Int}{wr sl g lp sk t r:Nat}{pp:Nat->Nat}{qq:Nat->Nat->Nat}{f cs prec s ps ds pt:Nat}{co:Nat->Nat}{bw fb tt:Nat}{L:Nat->Nat->Option Nat}
theorem xP{k' T:Nat}:∀{p:Nat},(oW fW j1 m w h k mid G wr sl g lp sk t r pp qq f cs prec s ps ds pt co bw fb tt L).row k' p T=T+wW L (vA w k mid G) k' p:=by
 intro l0
 induction l0 with
 |zero=>
  exact rfl
 |succ p hi=>
  refine(?_:mT L ((oW fW j1 m w h k mid G wr sl g lp sk t r pp qq f cs prec s ps ds pt co bw fb tt L).row k' p T) p (vA w k mid G p k')=_);simp only[hi,mT,wW,wW,range_succ,map_append,sum_append,Nat.add_assoc,Nat.add_assoc]
  congr 2
theorem rW:∀{k':Nat},(oW fW j1 m w h k mid G wr sl g lp sk t r pp qq f cs prec s ps ds pt co bw fb tt L).all (0:Nat) k'=wI L (vA w k mid G) m k'
 |0=>rfl
 |k'+1=>(xP (p:=m)).trans ((congrArg (λx:Nat=>x+wW L (vA w k mid G) k' m) rW).trans (by simp only[wI,wI,range_succ,map_append,sum_append];rfl))
end
theorem EL{α:Type}{f:α->Nat}:∀{l:List α},(∀x∈l,f x<=B)->(l.map f).sum<=l.length*B:=by
 intro l0
 induction l0 with
 |nil=>
  rintro _;exact zero_le _
 |cons x l hi=>
  rintro h;rw[map_cons,sum_cons,length_cons,Nat.succ_mul,Nat.add_comm];exact Nat.add_le_add (hi λy hy=>h y (fX _ hy)) (h x eO)
section
variable{L:Nat->Nat->Option Nat}{D:Nat->Nat->Int}
theorem GW(h:∀p s l,L p s=some l->l<=16):i8 L p c<=32:=by
 have h1:(L p c).getD 0<=16:=by
  cases e:L p c with
  |none=>exact zero_le _
  |some l=>exact h p c l e
 have h2:ext c<=16:=by
  unfold ext
  split
  ·rename_i h;exact cF h.2
  ·exact zero_le _
 exact Nat.add_le_add h1 h2
theorem AG(h:∀p s l,L p s=some l->l<=16):wW L D k p<=p*32:=by
 have:=EL (f:=λq=>i8 L q (f3 (D q k))) (B:=32) (l:=range p) λq _=>GW h
 rwa[length_range]at this
theorem AB(h:∀p s l,L p s=some l->l<=16):wI L D m N<=N*(m*32):=by
 have:=EL (f:=λk=>wW L D k m) (B:=m*32) (l:=range N) λq _=>AG h
 rwa[length_range]at this
variable{f cs m w h prec s ps ds k pt e g r:Nat}{co:Nat->Nat}{G:Nat->Nat->Nat->Int}{pp:Nat->Nat}{qq:Nat->Nat->Nat}{tt:Nat}
theorem Br(F:bT σ f cs m w h prec co)(S:dJ σ s ps ds m k pt)(R:et σ g r m w h G pp qq)(hT:fm σ tt m L)(hk:k<7)(hw:0<w/\w<21)(hh:h<21)(hN:∃M,w*h=M+1/\M+1<21)(h6:w*h*m<=6)(Q8:pt<prec)(hp:(prec:Int)-pt-1=(e:Nat))(pI:pt<=1000)(he:e<=1000)(hL:∀p i,p<m->i<w*h->(L p (f3 (vA w k (1*2^e) G p i))).isSome)(JF:∀p s l,L p s=some l->l<=16)(q:∀τ b,i9 σ τ->(b:List UInt8).length=(wI L (vA w k (1*2^e) G) m (w*h)+7)/8->b.length<=60->Q (.bytes (aC b)) τ):W ((ag gg (n+61)).C (aa 73) [.ref f,.ref s,.ref g,.int 0,.ref tt]) Q σ:=by
 let aO:=λ(v10:V)=>Q v10;let aZ:=λ(v9:V)=>W ((ag gg (n+58)).C (aa 66) [v9]) aO;let bW:=λ(v7:V) (v8:V)=>W ((ag gg (n+57)).C (aa 23) [v8,.int 0,v7]) aZ;let c8:=λ(v7:V)=>W ((ag gg (n+56)).C (aa 52) [.ref f,.ref s]) (bW v7);let dG:=λ(v4:V) (v5:V) (v6:V)=>W (cx gg (ag gg (n+58)) (.cls "LosslessWriter") [v5,.ref g,v4,v6]) c8;let dR:=λ(v4:V) (v5:V)=>W (cx gg (ag gg (n+57)) (.cls "CodeSink") [.ref tt]) (dG v4 v5);let fC:=λ(v4:V)=>W (aB gg (.ref s) "dc_slots") (dR v4);let gX:=λ(v3:V)=>W ((ag gg (n+58)).C (aa 70) [.ref f,.ref s,.ref g]) fC;let iU:=λ(v2:V)=>W ((ag gg (n+58)).C (aa 22) [v2,.int 0]) gX;let eE:=λ(v1:V)=>W ((ag gg (n+57)).C (aa 49) [.ref f,.ref s]) iU;refine ce (p:=(W ((ag gg (n+58)).C (aa 69) [.ref f,.ref s]) eE) σ) ?_;refine uk F S hk Q8 (kL F S λY8 ua=>oq hw ?_);have F:=F.up ua;have S:=S.up ua;refine jA F S hp pI he λlp eW t0 u1 l1 h1=>?_;obtain⟨_,o⟩:=(S.up u1).obj;refine bc o (by exact oS (by kernel_rfl)) (by kernel_rfl) (zj λsk bw fb dM u2 lk lb hB X3=>jI λwr gT u3 l3 h3=>Ax λgi jx u4 l4 h4=>?_);have uB:=(u2.trans u3).trans u4;have uA:=(ua.trans u1).trans uB;have Wt:=uB.at h1;refine iV (n:=n+11) h4 (u4.at h3) Wt λsW t fo u5 lt tf lf ht Rc=>?_;have kp:∀{j:Nat}{c:aL},jx[j]?=some c->(∀fs,c≠.ins "LinePredictor" fs)->sW[j]?=some c:=λh n=>u5.ne h (bV h Wt (n _));have F4:=F.up (u1.trans uB);have S4:=S.up (u1.trans uB);have G4:=R.keep (τ:=jx) λj c h _=>uA.at h;have l5:=ao ua.1 l1;have ug:i9 σ sW:=uA.g.fresh (λi hi=>bz hi▸l5) u5;have lc:=ao (ua.trans u1).1 lk;have XB:σ.length<=bw/\σ.length<=fb:=⟨ao (ua.trans u1).1 lb.1,ao (ua.trans u1).1 lb.2⟩;have VU:=kp ((u3.trans u4).at X3) λ_=>iK (by kernel_rfl);(refine cw hB λbb rr B hb=>?_;clear hB);have B5:BT sW bw fb 0:=⟨bb,rr,⟨kp ((u3.trans u4).at B.obj) λ_=>iK (by kernel_rfl),kp ((u3.trans u4).at B.bar) λ_=>nofun,B.lt⟩,hb⟩;have St:vR (oW σ sW m w h k (1*2^e) G wr ds g lp sk t r pp qq f cs prec s ps ds pt co bw fb tt L) sW:=
  {wr:=kp (u4.at h3) λ_=>iK (by kernel_rfl)
   sl:=kp S4.ds λ_=>nofun
   lp:=⟨Rc,hk⟩
   gr:=G4.keep λj c h hj=>kp h λfs=>by
    rcases hj with⟨v,rfl⟩|rfl
    ·exact nofun
    ·rw[Option.some.inj (h.symm.trans G4.obj)];exact iK (by kernel_rfl)
   sk:=(aT _ VU (by kernel_rfl))
   fr:=⟨kp F4.obj λ_=>iK (by kernel_rfl),kp F4.cs λ_=>nofun,λp hp=>kp (F4.co p hp) λ_=>iK (by kernel_rfl),F4.hm⟩
   sc:=⟨let ⟨a,h⟩:=S4.obj;⟨a,kp h λ_=>iK (by kernel_rfl)⟩,kp S4.ps λ_=>nofun,kp S4.ds λ_=>nofun⟩}
 have tb:t≠bw/\t≠fb:=⟨Nat.ne_of_gt (d5 (eG ((u3.trans u4).at B.obj)) lt),Nat.ne_of_gt (d5 (eG ((u3.trans u4).at B.bar)) lt)⟩;refine⟨⟨_,(0:Nat),JS St tb (ao uA.1 lt) (eG ht) XB lc hT,⟨ug,⟨Nat.le_refl _,λ_ _ h _=>h⟩,zero_le _,B5,VU⟩,rfl,hw,hh,hN,λk' p kK hp=>⟨hp,?_,hL p k' hp kK⟩,λZ aH v hv hE hf u6 H8=>?_⟩⟩
 ·have b1:=AB (D:=vA w k (1*2^e) G) JF (m:=m) (N:=k');have b2:=ao (AG (D:=vA w k (1*2^e) G) JF (k:=k') (p:=p)) (Nat.mul_le_mul_right 32 (cF hp));have b3:k'*(m*32)+m*32<=w*h*(m*32):=by rw[<-Nat.succ_mul];exact Nat.mul_le_mul_right _ kK
  have b4:w*h*(m*32)<=192:=by rw[<-Nat.mul_assoc];exact Nat.mul_le_mul_right 32 h6
  have b5:=Nat.add_le_add (ao (Nat.add_le_add b1 b2) (ao b3 b4)) (Nat.le_refl 60);exact ao (Nat.le_of_eq (congrArg (· +60) (xP.trans (congrArg (λx:Nat=>x+wW L (vA w k (1*2^e) G) k' p) rW)))) (ao b5 (by decide))
 ·(refine ak hv λb Ef H7=>?_;clear hv;subst Ef);have H7:b.length=(wI L (vA w k (1*2^e) G) m (w*h)+7)/8:=H7.trans (congrArg (λx:Nat=>(x+7)/8) rW);have b4:wI L (vA w k (1*2^e) G) m (w*h)<=192:=ao (AB JF) (by rw[<-Nat.mul_assoc];exact Nat.mul_le_mul_right 32 h6);have WC:b.length<=60:=H7▸ao (div_le_div_right (Nat.add_le_add_right b4 7)) (by decide);have Xr:i9 σ aH:=i9.fresh hE (λi hi=>bz hi▸ao uA.1 lf) u6;exact Mn WC H8 λτ u=>q τ b (Xr.trans u.g) H7 WC
end
def eD(σ:af)(i:Nat):Prop:=∃a b:Nat,b<2147483647/\σ[i]?=some (.lst [.int a,.int b])
theorem ic{y:Nat}(h:y<=18446744073709551615):fe (y:Int)=true:=ble_eq_true_of_le h
theorem Qr{t:Nat}(h0:0<t)(h1:t<=1000000):(decide ((t:Int)≠0)&&fe t)=true:=and_eq_true_iff.mpr ⟨decide_eq_true λe=>absurd h0 (ofNat.inj e▸Nat.lt_irrefl 0),ic (ao h1 (by decide))⟩
theorem gf{i t:Nat}(S:eD σ i)(ht:0<t/\t<=1000000)(q:∀τ (d:Nat),Up [i] σ τ->eD τ i->d<t->Q (.int d) τ):W ((ag gg (n+11)).C (aa 86) [.ref i,.int t]) Q σ:=by
 let aO:=λ(v5:V) (_:Unit)=>Q v5;let aZ:=λ(v5:V) (v7:V)=>W (iI (.ref i) (.int 0) v7) (aO v5);let bW:=λ(v5:V) (v6:V)=>W (ai .FloorDiv v6 (.int t)) (aZ v5);let c8:=λ(v5:V)=>W (aR (.ref i) (.int 0)) (bW v5);let dG:=λ(v4:V)=>W (ai .Mod v4 (.int t)) c8;let dR:=λ(v3:V)=>W (aX "int" [v3]) dG;let fC:=λ(v20:V)=>Q v20;let gX:=λ(uo:V)=>W (ai .Mod uo (.int t)) fC;let iU:=λ(pX:V)=>W (aX "int" [pX]) gX;let eE:=λ(sF:V)=>W (ai .FloorDiv sF (.int 32)) iU;let fj:=λ(mx:V)=>W (ai .Mod mx (.int 2147483629)) eE;let gY:=λ(kN:V)=>W (aX "int" [kN]) fj;let jl:=λ(pd:V) (pY:V)=>W (ai .Mult pd pY) gY;let jL:=λ(pd:V)=>W (aR (.ref i) (.int 1)) (jl pd);let ke:=λ(_:Unit)=>W (aR (.ref i) (.int 1)) jL;let kG:=λ(kJ:V)=>W (iI (.ref i) (.int 1) kJ) ke;let kF:=λ(v11:V)=>W (ai .Mod v11 (.int 2147483647)) kG;let mK:=λ(v10:V)=>W (aX "int" [v10]) kF;let mJ:=λ(v9:V)=>W (ai .Add v9 (.int 7)) mK;let mI:=λ(v8:V)=>W (ai .Mult v8 (.int 39373)) mJ;let uY:=λ(b2:Bool)=>cR b2 (W (aR (.ref i) (.int 0)) dR) (W (aR (.ref i) (.int 1)) mI);let uX:=λ(v1:V)=>W (cX .Gt v1 (.int 0)) uY;refine ce (p:=(W (aR (.ref i) (.int 0)) uX) σ) ?_;(refine cw S λa b hb h=>?_;clear S);have hm:=Qr ht.1 ht.2;refine cg h rfl rfl (Aj (DL (λ_=>?_) λ_=>?_))
 ·refine cg h rfl rfl (nX (nV hm (cg h rfl rfl (kq hm ?_))));rw[<-ofNat_fmod,<-ofNat_fdiv];exact nU h rfl rfl λτ u e=>q τ _ u ⟨a/t,b,hb,e⟩ (mod_lt _ ht.1)
 ·refine cg h rfl rfl (dX rfl (cq (nX (nV rfl ?_))));rw[show((b:Int)*39373+7).fmod 2147483647=(((b*39373+7)%2147483647:Nat):Int) from(ofNat_fmod (b*39373+7) 2147483647).symm]
  have lt:(b*39373+7)%2147483647<2147483647:=mod_lt _ (by decide);generalize (b*39373+7)%2147483647=c at lt;refine nU h rfl rfl λτ u e=>?_;have e:τ[i]?=some (.lst [.int a,.int c]):=e;refine cg e rfl rfl (cg e rfl rfl (dX (ic (ao (cF lt) (by decide))) (nX (nV rfl (kq rfl (nX (nV hm ?_)))))));rw[show(((c:Int)*c).fmod 2147483629).fdiv 32=(((c*c)%2147483629/32:Nat):Int) by
   rw[<-natCast_mul,show((c*c:Nat):Int).fmod 2147483629=((c*c%2147483629:Nat):Int) from(ofNat_fmod _ 2147483629).symm]
   exact(ofNat_fdiv _ 32).symm,<-ofNat_fmod]
  exact q τ _ u ⟨a,c,lt,e⟩ (mod_lt _ ht.1)
theorem om(S:eD σ i)(hl:σ[l]?=some (.lst vs))(sM:i≠l)(h0:0<vs.length/\vs.length<=1000)(q:∀τ v,Up [i] σ τ->eD τ i->v∈vs->Q v τ):W ((ag gg (n+16)).C (aa 87) [.ref i,.ref l]) Q σ:=by
 let aO:=λ(v3:V)=>Q v3;let aZ:=λ(v2:V)=>W (aR (.ref l) v2) aO;let bW:=λ(v1:V)=>W ((ag gg (n+12)).C (aa 86) [.ref i,v1]) aZ;refine ce (p:=(W (aU "len" [.ref l]) bW) σ) ?_;refine dr hl (aG h0.2) (gf S ⟨h0.1,ao h0.2 (by decide)⟩ λτ d u S' hd=>?_);refine cg (u.ne hl sM.symm) (rj hd h0.2) (by simp only[toNat_natCast];exact getElem?_eq_getElem hd) (q τ _ u S' (getElem_mem hd))
theorem yG{s:List Int}(q:∀τ i,Up [] σ τ->σ.length<=i->eD τ i->Q (.ref i) τ)(hs:s.length<=1000):W ((ag gg (n+11)).C (aa 85) [.gN (s.map .int),.int 0]) Q σ:=by
 let aO:=λ(v3:V)=>aS (ay gg (n+10)) (aa 85).sc ((aa 85).body.drop 2) ⟨[("script",.gN (s.map .int)),("k",.int 0),("cell",v3)],[]⟩ (cz Q);let aZ:=λ(b2:Bool)=>cR b2 (W (aR (.gN (s.map .int)) (.int 0)) aO) (aS (ay gg (n+10)) (aa 85).sc ((aa 85).body.drop 2) ⟨[("script",.gN (s.map .int)),("k",.int 0),("cell",.int 0)],[]⟩ (cz Q));let bW:=λ(v1:V)=>W (cX .Lt (.int 0) v1) aZ;refine ce (p:=(W (aU "len" [.gN (s.map .int)]) bW) σ) ?_;have key:∀c:Int,aS (ay gg (n+10)) (aa 85).sc ((aa 85).body.drop 2) ⟨[("script",.gN (s.map .int)),("k",.int 0),("cell",.int c)],[]⟩ (cz Q) σ:=λc=>by
  let aO:=λ(v20:V)=>Q v20;let aZ:=λ(kN:V) (uo:V)=>W (dE [uo,kN]) aO;let bW:=λ(v4:V) (kN:V) (pX:V)=>W (ai .Mult v4 pX) (aZ kN);let c8:=λ(v4:V) (kN:V) (Vj:Bool)=>W (aX "int" [.bool Vj]) (bW v4 kN);let dG:=λ(v4:V) (kN:V) (mx:V)=>W (cX .GtE v4 mx) (c8 v4 kN);let dR:=λ(v4:V) (kN:V)=>W (ai .Pow (.int 10) (.int 18)) (dG v4 kN);let fC:=λ(v4:V) (pY:V)=>W (ai .Mod pY (.int 2147483647)) (dR v4);let gX:=λ(v4:V) (pd:V)=>W (aX "int" [pd]) (fC v4);let iU:=λ(v4:V) (kJ:V)=>W (ai .Mult kJ (.int 48271)) (gX v4);let eE:=λ(v4:V) (v11:V)=>W (ai .Add v11 (.int 17)) (iU v4);let fj:=λ(v4:V) (v9:V) (v10:V)=>W (ai .Add v9 v10) (eE v4);let gY:=λ(v4:V) (v9:V)=>W (ai .Mult (.int 31) (.int 0)) (fj v4 v9);let jl:=λ(v4:V) (v6:V) (v8:V)=>W (ai .Add v6 v8) (gY v4);let jL:=λ(v4:V) (v6:V) (v7:V)=>W (ai .Mult v7 (.int 0)) (jl v4 v6);let ke:=λ(v4:V) (v6:V)=>W (ai .Mult (.int 7919) (.int 0)) (jL v4 v6);let kG:=λ(v4:V) (v5:V)=>W (ai .Mod v5 (.int 2147483629)) (ke v4);let kF:=λ(v4:V)=>W (aX "int" [v4]) (kG v4);let mK:=λ(v1:V) (v3:V)=>W (aU "max" [v1,v3]) kF;let mJ:=λ(v1:V) (v2:V)=>W (aX "int" [v2]) (mK v1);let mI:=λ(v1:V)=>W (ai .Sub (.int (-1)) (.int c)) (mJ v1);refine bk (p:=(W (aX "int" [.int c]) mI) σ) ?_;refine nX (di (nX (N1 (nX (nV rfl (dX rfl (dX rfl (cq (dX rfl (cq (cq (dX rfl (nX (nV rfl ?_))))))))))))));obtain⟨B,hB⟩:∃B:Nat,(if c< -1-c then -1-c else c)=B:=by
   refine Int.eq_ofNat_of_zero_le ?_
   split<;>lia
  refine Eq.symm hB▸?_;generalize hM:Int.fmod _ 2147483647=M;obtain⟨M,rfl⟩:∃N:Nat,M=N:=Int.eq_ofNat_of_zero_le (hM▸Int.fmod_nonneg_of_pos _ (by decide));have lt:M<2147483647:=ofNat_lt.mp (hM▸Int.fmod_lt_of_pos _ (by decide));refine sg rfl (Ks (N4 (dX ?_ (bZ rfl λi τ u l h=>q τ i u l ?_))))
  ·split<;>rfl
  ·by_cases hc:decide ((10:Int)^(18:Int).toNat<=(B:Int))=true
   ·rw[if_pos hc,Int.mul_one]at h;exact⟨B,M,lt,h⟩
   ·rw[if_neg hc,Int.mul_zero]at h;exact⟨0,M,lt,h⟩
 refine N2 (aG (by rwa[length_map])) (lZ (DL (λh=>?_) λ_=>key 0));have h:0<s.length:=by rw[length_map]at h;exact ofNat_lt.mp h
 exact HP rfl (v:=.int s[0]) (by rw[getElem?_map];exact congrArg (Option.map V.int) (getElem?_eq_getElem h)) (key _)
theorem pW(hk:k<7)(q:∀τ,Up [] σ τ->Q (.int (w7 k l a c)) τ):W ((ag gg (n+11)).C (aa 88) [.int (k+1:Nat),.int l,.int a,.int c]) Q σ:=by
 let aO:=λ(sF:V)=>Q sF;let aZ:=λ(kN:V) (mx:V)=>W (aR kN mx) aO;let bW:=λ(kN:V)=>W (ai .Sub (.int (k+1:Nat)) (.int 1)) (aZ kN);let c8:=λ(v9:V) (v11:V) (pd:V) (pY:V)=>W (dE [.int l,.int a,.int c,v9,v11,pd,pY]) bW;let dG:=λ(v7:V) (v9:V) (v11:V) (pd:V)=>W (aR v7 (.int 2)) (c8 v9 v11 pd);let dR:=λ(v7:V) (v9:V) (v11:V) (kJ:V)=>W (ai .Add (.int a) kJ) (dG v7 v9 v11);let fC:=λ(v7:V) (v9:V) (v11:V)=>W (aR v7 (.int 1)) (dR v7 v9 v11);let gX:=λ(v7:V) (v9:V) (v10:V)=>W (ai .Add (.int l) v10) (fC v7 v9);let iU:=λ(v7:V) (v9:V)=>W (aR v7 (.int 0)) (gX v7 v9);let eE:=λ(v7:V) (v8:V)=>W (ai .Sub v8 (.int c)) (iU v7);let fj:=λ(v7:V)=>W (ai .Add (.int l) (.int a)) (eE v7);let gY:=λ(v2:V) (v4:V) (v6:V)=>W (dE [v2,v4,v6]) fj;let jl:=λ(v2:V) (v4:V) (v5:V)=>W (ai .FloorDiv v5 (.int 2)) (gY v2 v4);let jL:=λ(v2:V) (v4:V)=>W (ai .Add (.int l) (.int a)) (jl v2 v4);let ke:=λ(v2:V) (v3:V)=>W (ai .FloorDiv v3 (.int 2)) (jL v2);let kG:=λ(v2:V)=>W (ai .Sub (.int l) (.int c)) (ke v2);let kF:=λ(v1:V)=>W (ai .FloorDiv v1 (.int 2)) kG;refine ce (p:=(W (ai .Sub (.int a) (.int c)) kF) σ) ?_;refine di (kq rfl (di (kq rfl (cq (kq rfl (bZ rfl λi τ u _ h=>cq (di (cg h rfl rfl (cq (cg h rfl rfl (cq (cg h rfl rfl (bZ rfl λj eW u1 _ h1=>di ?_)))))))))))));rw[hU];refine cg h1 (rj hk (by decide)) (v:=.int (w7 k l a c)) ?_ (q eW (u.trans u1));simp only[toNat_natCast]
 rcases k with _|_|_|_|_|_|_|k
 rotate_right
 ·exact absurd hk (dH (le_add_left 7 k))
 all_goals rfl
noncomputable def bl(s:Nat):Nat:=if s=0 then 0 else s.log2+1
theorem Bd(h:0<s):bl s=bl (s/2)+1:=by
 unfold bl;rw[if_neg (Nat.ne_of_gt h),Nat.log2_def];by_cases h2:2<=s
 ·rw[if_pos h2,if_neg (Nat.ne_of_gt (div_pos h2 (by decide)))]
 ·have:s=1:=Nat.le_antisymm (le_of_lt_succ (lt_of_not_le h2)) h;subst this
  rfl
theorem RQ(h:s<=65536):bl s<64:=by
 unfold bl
 split
 ·decide
 ·rename_i h0;have:s.log2<17:=(log2_lt h0).mpr (Nat.lt_of_le_of_lt h (by decide));exact d5 (Nat.succ_lt_succ this) (by decide)
theorem xo(hs:s<=65536)(q:Q (.int (bl s)) σ):aS (ay gg (n+10)) (aa 89).sc ((aa 89).body.drop 2) ⟨[("found",v),("size",.int s)],[]⟩ (cz Q) σ:=by
 refine bk (p:=(gD (jb (ay gg (n+9)) (aa 89).sc (aF (aa 89).body [3])) (j2 (ay gg (n+9)) (aa 89).sc (aF (aa 89).body [3])) (bx (ay gg (n+10)) (aa 89).sc ((aa 89).body.drop 4) (cz Q)) 64 ⟨[("found",v),("size",.int s),("many",.int 0)],[]⟩) σ) ?_;refine iq (λm e τ=>τ=σ/\∃s':Nat,e=⟨[("found",v),("size",.int s'),("many",.int (bl s-m:Nat))],[]⟩/\bl s'=m/\m<=bl s) (λm e τ K ae t=>?_) (λm e τ K ae q'=>?_) (λe τ ae=>?_) (m:=bl s) (i3 rfl s (by rw[Nat.sub_self];rfl) rfl (Nat.le_refl _)) (RQ hs)
 ·(refine lL ae λEx s' mZ Po _=>?_;clear ae;subst Ex;subst mZ;subst Po);refine bk (p:=(W (cX .Gt (.int s') (.int 0)) λb=>K b) τ) (Aj ?_);have e:decide ((0:Int)<(s':Int))=(bl s' !=0):=by
   by_cases h:0<s'
   ·rw[dT (show(0:Int)<(s':Int) from ofNat_lt.mpr h),Bd h];rfl
   ·have:s'=0:=eq_zero_of_not_pos h;subst this;rfl
  rw[e];exact t
 ·(refine lL ae λEo s' wk hm hle=>?_;clear ae;subst Eo;subst wk);have h0:0<s':=Nat.pos_of_ne_zero λe=>by subst e;cases hm
  refine bk (p:=(W (ai .FloorDiv (.int s') (.int 2)) λv1=>W (ai .Add (.int (bl s-(m+1):Nat)) (.int 1)) λv2=>K .next ⟨[("found",v),("size",v1),("many",v2)],[]⟩) τ) (kq rfl (cq ?_));rw[show(s':Int).fdiv 2=((s'/2:Nat):Int) from(ofNat_fdiv s' 2).symm,<-natCast_succ]
  exact q' _ τ (i3 rfl (s'/2) (by rw[Nat.succ_eq_add_one,<-Nat.sub_add_comm hle,Nat.add_sub_add_right]) (Nat.succ.inj ((Bd h0).symm.trans hm)) (Nat.le_of_succ_le hle))
 ·(refine lL ae λwh s' mY _ _=>?_;clear ae;subst wh;subst mY);exact bk (p:=Q (.int (bl s-0:Nat)) τ) q
theorem qB(q:Q (.int (f3 (CO s t))) σ):W ((ag gg (n+11)).C (aa 89) [.int (s-t)]) Q σ:=by
 let aO:=λ(v1:V) (v3:V)=>aS (ay gg (n+10)) (aa 89).sc ((aa 89).body.drop 2) ⟨[("found",v1),("size",v3)],[]⟩ (cz Q);let aZ:=λ(v1:V) (b2:Bool)=>cR b2 (aS (ay gg (n+10)) (aa 89).sc ((aa 89).body.drop 2) ⟨[("found",v1),("size",v1)],[]⟩ (cz Q)) (W (ai .Sub (.int 65536) v1) (aO v1));let bW:=λ(v1:V)=>W (cX .LtE v1 (.int 32768)) (aZ v1);refine ce (p:=(W (ai .Mod (.int (s-t)) (.int 65536)) bW) σ) ?_;refine nV rfl (ym ?_);rw[z0]at q;unfold CO at q;have h0:=Int.fmod_nonneg_of_pos (s-t) (b:=65536) (by decide);have h1:=Int.fmod_lt_of_pos (s-t) (b:=65536) (by decide);generalize (s-t).fmod 65536=f at h0 h1 q;obtain⟨f,rfl⟩:=Int.eq_ofNat_of_zero_le h0;have h1:f<65536:=ofNat_lt.mp h1;refine DL (λh=>?_) λh=>?_
 ·rw[if_neg (by rw[decide_eq_true_eq];exact Int.not_lt.mpr h)]at q;exact xo (cF h1) q
 ·rw[if_pos (by rw[decide_eq_true_eq];exact Int.not_le.mp h)]at q;refine di ?_;have e:((65536:Int)-f)=((65536-f:Nat):Int):=(ofNat_sub (cF h1)).symm;have e2:((f:Int)-65536).natAbs=65536-f:=by lia
  rw[e];refine xo (sub_le _ _) ?_;have:g8 ((f:Int)-65536)=bl (65536-f):=by unfold g8 bl;rw[e2]
  rwa[this]at q
abbrev Jr(n r k:Nat)(mid:Int)(y x:Nat)(F:V->Pr):Pr:=
 W (cX .Eq (.int x) (.int 0)) λb1=>cR b1 (W (cX .Eq (.int y) (.int 0)) λb2=>cR b2 (F (.int mid)) (W (ai .Sub (.int y) (.int 1)) λv3=>W (aR (.ref r) v3) λv4=>W (aR v4 (.int 0)) λv5=>F v5))
  (W (cX .Eq (.int y) (.int 0)) λb6=>cR b6 (W (aR (.ref r) (.int y)) λv7=>W (ai .Sub (.int x) (.int 1)) λv8=>W (aR v7 v8) λv9=>F v9) (W (aR (.ref r) (.int y)) λv10=>W (ai .Sub (.int x) (.int 1)) λv11=>W (aR v10 v11) λkJ=>W (ai .Sub (.int y) (.int 1)) λpd=>W (aR (.ref r) pd) λpY=>W (aR pY (.int x)) λkN=>W (ai .Sub (.int y) (.int 1)) λmx=>W (aR (.ref r) mx) λsF=>W (ai .Sub (.int x) (.int 1)) λpX=>W (aR sF pX) λuo=>W ((ag gg (n+24)).C (aa 88) [.int (k+1:Nat),kJ,kN,uo]) λv20=>F v20))
section
variable{r w h k x y:Nat}{mid:Int}{G:Nat->Nat->Int}{qr:Nat->Nat}{F:V->Pr}
theorem xn(R:gC σ r w h G qr)(hk:k<7)(hx:x<w)(hy:y<h)(q:∀τ,Up [] σ τ->F (.int (ky k mid G y x)) τ):Jr n r k mid y x F σ:=by
 refine kr ?_
 rcases x with _|x
 ·refine mv rfl (kr ?_)
  rcases y with _|y
  ·exact mv rfl (q σ .refl)
  ·refine iy (AE y) (di ?_);rw[hU];exact bX R.top (lt_of_succ_lt hy) R.hh (bX (R.row y (lt_of_succ_lt hy)) hx R.hw (q σ .refl))
 ·refine iy (AE x) (kr ?_);have Lp:=lt_of_succ_lt hx
  rcases y with _|y
  ·refine mv rfl (bX R.top hy R.hh (di ?_));rw[hU];exact bX (R.row 0 hy) Lp R.hw (q σ .refl)
  ·have vi:=lt_of_succ_lt hy;refine iy (AE y) (bX R.top hy R.hh (di ?_));rw[hU];refine bX (R.row (y+1) hy) Lp R.hw (di ?_);rw[hU];refine bX R.top vi R.hh (bX (R.row y vi) hx R.hw (di ?_));rw[hU];refine bX R.top vi R.hh (di ?_);rw[hU];exact bX (R.row y vi) Lp R.hw (pW hk q)
noncomputable def gG(w k:Nat)(mid:Int)(G:Nat->Nat->Int)(N:Nat):List Nat:=(range N).map λi=>f3 (CO (G (i/w) (i%w)) (ky k mid G (i/w) (i%w)))
theorem uU(hx:x<w):gG w k mid G (w*y+x)++[f3 (CO (G y x) (ky k mid G y x))]=gG w k mid G (w*y+x+1):=by
 have h0:0<w:=Nat.lt_of_le_of_lt (zero_le _) hx;have e1:(w*y+x)/w=y:=by rw[Nat.mul_add_div h0,Nat.div_eq_of_lt hx,Nat.add_zero]
 have e2:(w*y+x)%w=x:=by rw[Nat.mul_add_mod,Nat.mod_eq_of_lt hx]
 unfold gG;rw[range_succ,map_append];show _=_++[f3 (CO (G ((w*y+x)/w) ((w*y+x)%w)) (ky k mid G ((w*y+x)/w) ((w*y+x)%w)))];rw[e1,e2]
def Qy(r k d:Nat)(mid:Int)(yv:V)(e:ar):Prop:=e=⟨[("rows",.ref r),("kind",.int (k+1:Nat)),("middle",.int mid),("counts",.ref d),("y",yv)],[]⟩\/∃a b c,e=⟨[("rows",.ref r),("kind",.int (k+1:Nat)),("middle",.int mid),("counts",.ref d),("y",yv),("x",a),("told",b),("size",c)],[]⟩
theorem MZ{d kk:Nat}{e:ar}{K:Fl->ar->Pr}(R:gC σ r w h G qr)(hk:k<7)(hw:w<21)(hy:y<h)(hN:w*h<=900)(hd:σ[d]?=some (.cG (fL (eB (gG w k mid G (w*y)))) kk))(he:Qy r k d mid (.int y) e)(done:∀e τ k',Qy r k d mid (.int y) e->Up [d] σ τ->τ[d]?=some (.cG (fL (eB (gG w k mid G (w*(y+1))))) k')->K .next e τ):aS (ay gg (n+29)) (aa 90).sc (dQ (aF (aa 90).body [0])) e K σ:=by
 let aO:=λ(v3:V)=>W (aQ v3) λnC=>aK (aJ (ag gg (n+28))) (bp (ay gg (n+28)) (aa 90).sc (aF (aa 90).body [0,0])) (bx (ay gg (n+29)) (aa 90).sc ((dQ (aF (aa 90).body [0])).drop 1) K) nC.2 nC.1 e;let aZ:=λ(v2:V)=>W (aX "range" [v2]) aO;let bW:=λ(v1:V)=>W (aU "len" [v1]) aZ;have t:(W (aR (.ref r) (.int y)) bW) σ:=by
  refine bX R.top hy R.hh (dr (R.row y hy) (aG (eQ hw)) (cy ?_));rw[ck];refine c7 hw (ee (λr' e τ=>Qy r k d mid (.int y) e/\Up [d] σ τ/\∃x,(dB w).drop x=r'/\x<=w/\∃k',τ[d]?=some (.cG (fL (eB (gG w k mid G (w*y+x)))) k')) (λv r' e τ K ae q'=>?_) (λe τ ae=>?_) (jO he .refl 0 rfl (zero_le _) kk hd) (fx _))
  ·(refine ix ae λhe u x e1 hx k' h=>?_;clear ae);(refine bH (cO e1) λhx we e2=>?_;subst we);have R:=R.keep (τ:=τ) λj c hj=>u.ne hj (bV hj hd nofun);have t1:∀eM,Up [] τ eM->(W (aR (.ref r) (.int y)) λv1=>W (aR v1 (.int x)) λv2=>W (ai .Sub v2 (.int (ky k mid G y x))) λv3=>W ((ag gg (n+26)).C (aa 89) [v3]) λv4=>W (az gg (.ref d) "get") (bA (ag gg (n+25)) (λK6=>K6 [v4,.int 0]) (.ref d) λv5=>W (ai .Add v5 (.int 1)) λv7=>W (iI (.ref d) v4 v7) λ_=>K .next ⟨[("rows",.ref r),("kind",.int (k+1:Nat)),("middle",.int mid),("counts",.ref d),("y",.int y),("x",.int x),("told",.int (ky k mid G y x)),("size",v4)],[]⟩)) eM:=λeM u'=>by
    have R:=R.keep (τ:=eM) λ_ _ hj=>u'.at hj;refine bX R.top hy R.hh (bX (R.row y hy) hx R.hw (di (qB ?_)));refine kM (X:=λ_=>K .next ⟨[("rows",.ref r),("kind",.int (k+1:Nat)),("middle",.int mid),("counts",.ref d),("y",.int y),("x",.int x),("told",.int (ky k mid G y x)),("size",.int (f3 (CO (G y x) (ky k mid G y x))))],[]⟩) (u'.at h) ?_ λdM k2 u2 h2=>q' _ dM (jO (.inr (ve _ _ _ rfl)) (u.trans (u'.any.trans u2)) (x+1) e2 hx k2 ?_)
    ·refine ao nR ?_;simp only[gG,ck];exact ao (ao (cF (Nat.add_lt_add_left hx _)) (Nat.mul_le_mul_left w hy)) (ao hN (by decide))
    ·rw[h2,<-oX,uU hx];rfl
   rcases he with rfl|⟨a,b,c,rfl⟩
   ·exact bk (xn (n:=n) (mid:=mid) (F:=λv=>aS (ay gg (n+28)) (aa 90).sc ((dQ (aF (aa 90).body [0,0])).drop 1) ⟨[("rows",.ref r),("kind",.int (k+1:Nat)),("middle",.int mid),("counts",.ref d),("y",.int y),("x",.int x),("told",v)],[]⟩ K) R hk hx hy λeM u'=>bk (t1 eM u'))
   ·exact bk (xn (n:=n) (mid:=mid) (F:=λv=>aS (ay gg (n+28)) (aa 90).sc ((dQ (aF (aa 90).body [0,0])).drop 1) ⟨[("rows",.ref r),("kind",.int (k+1:Nat)),("middle",.int mid),("counts",.ref d),("y",.int y),("x",.int x),("told",v),("size",c)],[]⟩ K) R hk hx hy λeM u'=>bk (t1 eM u'))
  ·(refine ix ae λhe u x e1 hx k' h=>?_;clear ae);replace h:=(dA hx e1)▸h;have q:=done e τ k' he u h
   rcases he with rfl|⟨a,b,c,rfl⟩
   ·exact bk q
   ·exact bk q
 rcases he with rfl|⟨a,b,c,rfl⟩
 ·exact bk t
 ·exact bk t
theorem sE{d kk:Nat}(R:gC σ r w h G qr)(hk:k<7)(hw:w<21)(hh:h<21)(hN:w*h<=900)(hd:σ[d]?=some (.cG [] kk))(q:∀τ k',Up [d] σ τ->τ[d]?=some (.cG (fL (eB (gG w k mid G (w*h)))) k')->Q (.ref d) τ):W ((ag gg (n+31)).C (aa 90) [.ref r,.int (k+1:Nat),.int mid,.ref d]) Q σ:=by
 let aO:=λ(v2:V)=>W (aQ v2) λc9=>aK (aJ (ag gg (n+29))) (bp (ay gg (n+29)) (aa 90).sc (aF (aa 90).body [0])) (bx (ay gg (n+30)) (aa 90).sc ((aa 90).body.drop 1) (cz Q)) c9.2 c9.1 ⟨[("rows",.ref r),("kind",.int (k+1:Nat)),("middle",.int mid),("counts",.ref d)],[]⟩;let aZ:=λ(v1:V)=>W (aX "range" [v1]) aO;refine ce (p:=(W (aU "len" [.ref r]) aZ) σ) ?_;refine dr R.top (aG (eQ hh)) (cy ?_);rw[ck];refine c7 hh (ee (λr' e τ=>(e=⟨[("rows",.ref r),("kind",.int (k+1:Nat)),("middle",.int mid),("counts",.ref d)],[]⟩\/∃yv,Qy r k d mid yv e)/\Up [d] σ τ/\∃y,(dB h).drop y=r'/\y<=h/\∃k',τ[d]?=some (.cG (fL (eB (gG w k mid G (w*y)))) k')) (λv r' e τ K ae q'=>?_) (λe τ ae=>?_) (jO (.inl rfl) .refl 0 rfl (zero_le _) kk hd) (fx _))
 ·(refine ix ae λhe u y e1 hy k' h'=>?_;clear ae);(refine bH (cO e1) λhy DW e2=>?_;subst DW);have R:=R.keep (τ:=τ) λj c hj=>u.ne hj (bV hj hd nofun);have t:∀e,Qy r k d mid (.int y) e->aS (ay gg (n+29)) (aa 90).sc (dQ (aF (aa 90).body [0])) e K τ:=λe he=>MZ R hk hw hy hN h' he λe eM k2 he u' h2=>q' e eM (jO (.inr ⟨_,he⟩) (u.trans u') (y+1) e2 hy k2 h2)
  rcases he with rfl|⟨yv,rfl|⟨a,b,c,rfl⟩⟩
  ·exact bk (t ⟨[("rows",.ref r),("kind",.int (k+1:Nat)),("middle",.int mid),("counts",.ref d),("y",.int y)],[]⟩ (.inl rfl))
  ·exact bk (t ⟨[("rows",.ref r),("kind",.int (k+1:Nat)),("middle",.int mid),("counts",.ref d),("y",.int y)],[]⟩ (.inl rfl))
  ·exact bk (t ⟨[("rows",.ref r),("kind",.int (k+1:Nat)),("middle",.int mid),("counts",.ref d),("y",.int y),("x",a),("told",b),("size",c)],[]⟩ (.inr (ve _ _ _ rfl)))
 ·(refine ix ae λhe u y e1 hy k' h'=>?_;clear ae);rw[dA hy e1]at h';have q:=q τ k' u h'
  rcases he with rfl|⟨yv,rfl|⟨a,b,c,rfl⟩⟩
  ·exact bk (p:=Q (.ref d) τ) q
  ·exact bk (p:=Q (.ref d) τ) q
  ·exact bk (p:=Q (.ref d) τ) q
end
noncomputable def jH:List Nat->Nat->Nat->Nat->Option (List (Nat×Nat×Nat))
 |[],_,_,_=>some []
 |m::r,s,c,p=>if 2^s<=c+m/\0<m then none else(jH r (s+1) ((c+m)*2) (p+m)).map ((c,m,p):: ·)
noncomputable def EZ(x:Nat×Nat×Nat):V:=.tup [.int x.1,.int x.2.1,.int x.2.2]
noncomputable def w9(m:Nat):List V:=(range m).map λ(k:Nat)=>.int (k+1:Nat)
theorem yn{N:gE×Nat->Pr}(q:N (.items (w9 16),(w9 16).length+1) σ):W (aQ (.hK 1 17 1)) N σ:=Bl (vs:=w9 16) (by kernel_rfl) q
theorem wB(hl:cs.length=16)(hr:jH cs 1 0 0=some rs)(q:∀τ i,Up [] σ τ->τ[i]?=some (.lst (rs.map EZ))->Q (.ref i) τ):W ((ag gg (n+11)).C (aa 36) [.tup (cs.map λ(c:Nat)=>.int c)]) Q σ:=by
 let aO:V->V->Pr:=λv1 v4 H=>(W (aQ v4) λxp=>aK (aJ (ag gg (n+9))) (bp (ay gg (n+9)) (aa 36).sc (aF (aa 36).body [2])) (bx (ay gg (n+10)) (aa 36).sc ((aa 36).body.drop 3) (cz Q)) xp.2 xp.1 ⟨[("counts",(.tup (cs.map λ(c:Nat)=>.int c))),("rows",v1),("code",.int 0),("place",.int 0)],[]⟩) H;let aZ:V->V->Pr:=λv1 v3 H=>(W (aX "range" [.int 1,v3]) (aO v1)) H;let bW:V->V->Pr:=λv1 v2 H=>(W (ai .Add v2 (.int 1)) (aZ v1)) H;let c8:V->Pr:=λv1 H=>(W (aU "len" [(.tup (cs.map λ(c:Nat)=>.int c))]) (bW v1)) H;refine ce (p:=(W (dE []) c8) σ) ?_;refine bZ rfl λi τ u l h0=>vO (aG (by rw[length_map,hl];decide)) (cq ?_);rw[length_map,hl];refine yl (yn ?_);refine ee (λr e τ=>(∃c p:Nat,(e=⟨[("counts",.tup (cs.map λ(c:Nat)=>.int c)),("rows",.ref i),("code",.int c),("place",.int p)],[]⟩\/∃a b,e=⟨[("counts",.tup (cs.map λ(c:Nat)=>.int c)),("rows",.ref i),("code",.int c),("place",.int p),("size",a),("many",b)],[]⟩)/\∃k d r',(w9 16).drop k=r/\k<=16/\jH (cs.drop k) (k+1) c p=some r'/\d++r'=rs/\d.length=k/\τ[i]?=some (.lst (d.map EZ)))/\Up [] σ τ) (λv r e τ K ae q'=>?_) (λe τ ae=>?_) ⟨(iL 0 0 (.inl rfl) 0 ([]) rs rfl (zero_le _) hr rfl rfl h0),u⟩ (fx _)
 ·obtain⟨⟨c,p,he,k,d,r',e1,hk,oM,hd,Cv,h⟩,u⟩:=ae;refine bH (cO (f:=λ(k:Nat)=>V.int (k+1:Nat)) e1) λhk ev e2=>?_;have ev:v=.int (k+1:Nat):=ev;subst ev;have kK:k<cs.length:=hl.symm▸hk;rw[drop_eq_getElem_cons kK,jH]at oM
  split at oM
  ·exact cT oM
  rename_i hc;refine dw oM λr2 SM er=>?_;subst er;have fin:∀e eM,(e=⟨[("counts",.tup (cs.map λ(c:Nat)=>.int c)),("rows",.ref i),("code",.int ((c+cs[k]:Nat)*2)),("place",.int (p+cs[k]:Nat)),("size",.int (k+1:Nat)),("many",.int (cs[k]:Nat))],[]⟩)->Up [i] τ eM->eM[i]?=some (.lst (d.map EZ++[EZ (c,cs[k],p)]))->K .next e eM:=λe eM he u' h'=>by
   subst he;refine q' _ eM ⟨(iL ((c+cs[k])*2) (p+cs[k]) (.inr (ml _ _ rfl)) (k+1) (d++[(c,cs[k],p)]) r2 e2 hk SM (by rw[append_assoc];exact hd) (by rw[length_append,Cv];rfl) (by rw[map_append];exact h')),u.fresh l u'⟩
  let aO:V->V->V->Pr:=λv2 v6 v10 H=>(K .next ⟨[("counts",(.tup (cs.map λ(c:Nat)=>.int c))),("rows",.ref i),("code",v10),("place",v6),("size",.int (k+1:Nat)),("many",v2)],[]⟩) H;let aZ:V->V->V->Pr:=λv2 v6 v11 H=>(K .next ⟨[("counts",(.tup (cs.map λ(c:Nat)=>.int c))),("rows",.ref i),("code",v11),("place",v6),("size",.int (k+1:Nat)),("many",v2)],[]⟩) H;let bW:V->V->V->Bool->Pr:=λv2 v5 v6 b9 H=>(cR b9 no (W (ai .Mult v5 (.int 2)) (aZ v2 v6))) H;let c8:V->V->V->Pr:=λv2 v6 kJ H=>(K .next ⟨[("counts",(.tup (cs.map λ(c:Nat)=>.int c))),("rows",.ref i),("code",kJ),("place",v6),("size",.int (k+1:Nat)),("many",v2)],[]⟩) H;let dG:V->V->V->Bool->Pr:=λv2 v5 v6 b8 H=>(cR b8 (W (cX .Gt v2 (.int 0)) (bW v2 v5 v6)) (W (ai .Mult v5 (.int 2)) (c8 v2 v6))) H;let dR:V->V->V->V->Pr:=λv2 v5 v6 v7 H=>(W (cX .GtE v5 v7) (dG v2 v5 v6)) H;let fC:V->V->V->Pr:=λv2 v5 v6 H=>(W (ai .Pow (.int 2) (.int (k+1:Nat))) (dR v2 v5 v6)) H;let gX:V->V->Pr:=λv2 v5 H=>(W (ai .Add (.int p) v2) (fC v2 v5)) H;let iU:V->V->Pr:=λv2 v3 H=>(W (ai .Add (.int c) v2) (gX v2)) H;let eE:V->Pr:=λv2 H=>(W (az gg (.ref i) "append") (bA (ag gg (n+7)) (λK4=>K4 [(.tup [.int c,v2,.int p])]) (.ref i) (iU v2))) H;let fj:V->Pr:=λv1 H=>(W (aR (.tup (cs.map λ(c:Nat)=>.int c)) v1) eE) H;have t:(W (ai .Sub (.int (k+1:Nat)) (.int 1)) fj) τ:=by
   refine di ?_;rw[hU];refine dY (rj kK (hl▸by decide)) (v:=.int (cs[k]:Nat)) (by simp only[toNat_natCast,getElem?_map,getElem?_eq_getElem kK];rfl) ?_;refine fg h ig (nZ h (aG ?_) λeM u' h'=>?_)
   ·rw[length_map,Cv];exact ao (cF hk) (by decide)
   ·refine cq (cq (sg (OA (ao hk (by decide))) (Ks ?_)));simp only[i0,<-natCast_add,<-natCast_add];refine DL (λh1=>Aj (iy (dF λh2=>hc ⟨ofNat_le.mp h1,ofNat_lt.mp h2⟩) ?_)) λ_=>?_
    ·exact dX rfl (fin _ eM rfl u' h')
    ·exact dX rfl (fin _ eM rfl u' h')
  rcases he with rfl|⟨a,b,rfl⟩
  ·exact bk t
  ·exact bk t
 ·(refine cC λSm FX=>?_;(refine cC λH2 ri=>?_;obtain⟨⟨c,p,he,k,d,r',e1,hk,oM,hd,Cv,h⟩,u⟩:=ae;refine ri ?_);refine FX ?_);have Nh:=dA (f:=λ(k:Nat)=>V.int (k+1:Nat)) hk e1;rw[Nh,<-hl,List.drop_length]at oM;obtain rfl:=bE oM;rw[append_nil]at hd;subst hd;have q:=q τ i u h
  rcases he with rfl|⟨a,b,rfl⟩
  ·exact bk (p:=Q (.ref i) τ) q
  ·exact bk (p:=Q (.ref i) τ) q
theorem NZ(hu:bU u=some ns)(hm:oG ns=some m)(q:Q (.int m) σ):W (aU "min" [.tup u]) Q σ:=ba (ba (bP (a:=u) (dS hu (bO hm (bP q)))))
theorem NW(hu:bU u=some ns)(q:Q (.int ns.sum) σ):W (aU "sum" [.tup u]) Q σ:=bO rfl (ba (ba (bP (a:=u) (dS hu (bP q)))))
theorem uj{cs ss:List Nat}{mn:Nat}(hl:cs.length=16)(Ng:oG (cs.map λ(c:Nat)=>(c:Int))=some (mn:Int))(zE:(cs.map λ(c:Nat)=>(c:Int)).sum=ss.length)(hs:ss.length<=256)(rE:ss.Nodup)(q:∀τ,Up [] σ τ->Q .none τ):W ((ag gg (n+21)).C (aa 37) [.tup (cs.map λ(c:Nat)=>.int c),.tup (ss.map λ(c:Nat)=>.int c)]) Q σ:=by
 let aO:V->Pr:=λv6 H=>(W (aQ (.tup (ss.map λ(c:Nat)=>.int c))) λkU=>aK (aJ (ag gg (n+19))) (bp (ay gg (n+19)) (aa 37).sc (aF (aa 37).body [3])) (bx (ay gg (n+20)) (aa 37).sc ((aa 37).body.drop 4) (cz Q)) kU.2 kU.1 ⟨[("counts",(.tup (cs.map λ(c:Nat)=>.int c))),("symbols",(.tup (ss.map λ(c:Nat)=>.int c))),("met",v6)],[]⟩) H;let aZ:V->Pr:=λv10 H=>(W (aQ (.tup (ss.map λ(c:Nat)=>.int c))) λxq=>aK (aJ (ag gg (n+19))) (bp (ay gg (n+19)) (aa 37).sc (aF (aa 37).body [3])) (bx (ay gg (n+20)) (aa 37).sc ((aa 37).body.drop 4) (cz Q)) xq.2 xq.1 ⟨[("counts",(.tup (cs.map λ(c:Nat)=>.int c))),("symbols",(.tup (ss.map λ(c:Nat)=>.int c))),("met",v10)],[]⟩) H;let bW:V->Pr:=λkJ H=>(W (aQ (.tup (ss.map λ(c:Nat)=>.int c))) λpF=>aK (aJ (ag gg (n+19))) (bp (ay gg (n+19)) (aa 37).sc (aF (aa 37).body [3])) (bx (ay gg (n+20)) (aa 37).sc ((aa 37).body.drop 4) (cz Q)) pF.2 pF.1 ⟨[("counts",(.tup (cs.map λ(c:Nat)=>.int c))),("symbols",(.tup (ss.map λ(c:Nat)=>.int c))),("met",kJ)],[]⟩) H;let c8:Bool->Pr:=λb9 H=>(cR b9 no (W (aX "set" []) bW)) H;let dG:V->Pr:=λv8 H=>(W (cX .Gt v8 (.int 256)) c8) H;let dR:Bool->Pr:=λb5 H=>(cR b5 no (W (aU "len" [(.tup (ss.map λ(c:Nat)=>.int c))]) dG)) H;let fC:V->V->Pr:=λv3 v4 H=>(W (cX .NotEq v3 v4) dR) H;let gX:V->Pr:=λv3 H=>(W (aU "len" [(.tup (ss.map λ(c:Nat)=>.int c))]) (fC v3)) H;let iU:V->Pr:=λuo H=>(W (aQ (.tup (ss.map λ(c:Nat)=>.int c))) λLn=>aK (aJ (ag gg (n+19))) (bp (ay gg (n+19)) (aa 37).sc (aF (aa 37).body [3])) (bx (ay gg (n+20)) (aa 37).sc ((aa 37).body.drop 4) (cz Q)) Ln.2 Ln.1 ⟨[("counts",(.tup (cs.map λ(c:Nat)=>.int c))),("symbols",(.tup (ss.map λ(c:Nat)=>.int c))),("met",uo)],[]⟩) H;let eE:V->Pr:=λIq H=>(W (aQ (.tup (ss.map λ(c:Nat)=>.int c))) λLm=>aK (aJ (ag gg (n+19))) (bp (ay gg (n+19)) (aa 37).sc (aF (aa 37).body [3])) (bx (ay gg (n+20)) (aa 37).sc ((aa 37).body.drop 4) (cz Q)) Lm.2 Lm.1 ⟨[("counts",(.tup (cs.map λ(c:Nat)=>.int c))),("symbols",(.tup (ss.map λ(c:Nat)=>.int c))),("met",Iq)],[]⟩) H;let fj:V->Pr:=λXq H=>(W (aQ (.tup (ss.map λ(c:Nat)=>.int c))) λLl=>aK (aJ (ag gg (n+19))) (bp (ay gg (n+19)) (aa 37).sc (aF (aa 37).body [3])) (bx (ay gg (n+20)) (aa 37).sc ((aa 37).body.drop 4) (cz Q)) Ll.2 Ll.1 ⟨[("counts",(.tup (cs.map λ(c:Nat)=>.int c))),("symbols",(.tup (ss.map λ(c:Nat)=>.int c))),("met",Xq)],[]⟩) H;let gY:Bool->Pr:=λYU H=>(cR YU no (W (aX "set" []) fj)) H;let jl:V->Pr:=λAy H=>(W (cX .Gt Ay (.int 256)) gY) H;let jL:Bool->Pr:=λYW H=>(cR YW no (W (aU "len" [(.tup (ss.map λ(c:Nat)=>.int c))]) jl)) H;let ke:V->V->Pr:=λmx sF H=>(W (cX .NotEq mx sF) jL) H;let kG:V->Pr:=λmx H=>(W (aU "len" [(.tup (ss.map λ(c:Nat)=>.int c))]) (ke mx)) H;let kF:V->Pr:=λv30 H=>(W (aQ (.tup (ss.map λ(c:Nat)=>.int c))) λLk=>aK (aJ (ag gg (n+19))) (bp (ay gg (n+19)) (aa 37).sc (aF (aa 37).body [3])) (bx (ay gg (n+20)) (aa 37).sc ((aa 37).body.drop 4) (cz Q)) Lk.2 Lk.1 ⟨[("counts",(.tup (cs.map λ(c:Nat)=>.int c))),("symbols",(.tup (ss.map λ(c:Nat)=>.int c))),("met",v30)],[]⟩) H;let mK:V->Pr:=λVO H=>(W (aQ (.tup (ss.map λ(c:Nat)=>.int c))) λLj=>aK (aJ (ag gg (n+19))) (bp (ay gg (n+19)) (aa 37).sc (aF (aa 37).body [3])) (bx (ay gg (n+20)) (aa 37).sc ((aa 37).body.drop 4) (cz Q)) Lj.2 Lj.1 ⟨[("counts",(.tup (cs.map λ(c:Nat)=>.int c))),("symbols",(.tup (ss.map λ(c:Nat)=>.int c))),("met",VO)],[]⟩) H;let mJ:V->Pr:=λTG H=>(W (aQ (.tup (ss.map λ(c:Nat)=>.int c))) λLi=>aK (aJ (ag gg (n+19))) (bp (ay gg (n+19)) (aa 37).sc (aF (aa 37).body [3])) (bx (ay gg (n+20)) (aa 37).sc ((aa 37).body.drop 4) (cz Q)) Li.2 Li.1 ⟨[("counts",(.tup (cs.map λ(c:Nat)=>.int c))),("symbols",(.tup (ss.map λ(c:Nat)=>.int c))),("met",TG)],[]⟩) H;let mI:Bool->Pr:=λYQ H=>(cR YQ no (W (aX "set" []) mJ)) H;let uY:V->Pr:=λTH H=>(W (cX .Gt TH (.int 256)) mI) H;let uX:Bool->Pr:=λYR H=>(cR YR no (W (aU "len" [(.tup (ss.map λ(c:Nat)=>.int c))]) uY)) H;let zx:V->V->Pr:=λPy VQ H=>(W (cX .NotEq Py VQ) uX) H;let zw:V->Pr:=λPy H=>(W (aU "len" [(.tup (ss.map λ(c:Nat)=>.int c))]) (zx Py)) H;let Co:Bool->Pr:=λRZ H=>(cR RZ no (W (aU "sum" [(.tup (cs.map λ(c:Nat)=>.int c))]) zw)) H;let zv:V->Pr:=λpY H=>(W (cX .Lt pY (.int 0)) Co) H;let zu:Bool->Pr:=λb2 H=>(cR b2 no (W (aU "min" [(.tup (cs.map λ(c:Nat)=>.int c))]) zv)) H;let FW:V->Pr:=λv1 H=>(W (cX .NotEq v1 (.int 16)) zu) H;refine ce (p:=(W (aU "len" [(.tup (cs.map λ(c:Nat)=>.int c))]) FW) σ) ?_;refine vO (aG (by rw[length_map,hl];decide)) (vL ?_);rw[length_map,hl];refine iy rfl (NZ fQ Ng (lZ (iy (dF (Int.not_lt.mpr (f7 _))) (NW fQ ?_))));rw[zE];have Q5:(ss.map λ(c:Nat)=>V.int c).length<=1000:=by rw[length_map];exact ao hs (by decide)
 refine vO (aG Q5) (vL ?_);rw[length_map];refine iy (by rw[dT rfl];rfl) (vO (aG Q5) (Aj ?_));rw[length_map];refine iy (dF (Int.not_lt.mpr (ofNat_le.mpr hs))) (HL λm τ u l h0=>Km ?_);refine ee (λr e τ=>(e=⟨[("counts",.tup (cs.map λ(c:Nat)=>.int c)),("symbols",.tup (ss.map λ(c:Nat)=>.int c)),("met",.ref m)],[]⟩\/∃a,e=⟨[("counts",.tup (cs.map λ(c:Nat)=>.int c)),("symbols",.tup (ss.map λ(c:Nat)=>.int c)),("met",.ref m),("symbol",a)],[]⟩)/\Up [] σ τ/\∃a c,a++c=ss/\r=c.map (λ(c:Nat)=>V.int c)/\τ[m]?=some (.set (a.map λ(c:Nat)=>(c:Int)))) (λv r e τ K ae q'=>?_) (λe τ ae=>?_) (tQ (.inl rfl) u ([]) ss rfl rfl h0) (fx _)
 ·(refine CN ae λhe u a c e1 er h=>?_;clear ae)
  induction c using List.casesOn with
  |nil=>cases er
  |cons x c=>
   obtain⟨rfl,rfl⟩:=List.cons.inj er;have hx:(a.map λ(c:Nat)=>(c:Int)).contains (x:Int)=false:=by
    rw[Bool.eq_false_iff];intro hc;refine dC (List.contains_iff_mem.mp hc) λy hy e=>?_;have:=nodup_append.mp (e1▸rE);exact this.2.2 y hy x eO (ofNat.inj e)
   have Nl:ble (a.map λ(c:Nat)=>(c:Int)).length 1000=true:=by
    refine ble_eq_true_of_le ?_;rw[length_map];exact ao (by rw[<-e1,length_append];exact le_add_right _ _) (ao hs (by decide))
   let aO:V->Pr:=λv2 H=>(K .next ⟨[("counts",(.tup (cs.map λ(c:Nat)=>.int c))),("symbols",(.tup (ss.map λ(c:Nat)=>.int c))),("met",.ref m),("symbol",.int x)],[]⟩) H;let aZ:Bool->Pr:=λb1 H=>(cR b1 no (W (az gg (.ref m) "add") (bA (ag gg (n+17)) (λK3=>K3 [.int x]) (.ref m) aO))) H;have t:(W (cX .In (.int x) (.ref m)) aZ) τ:=by
    refine Kq h Nl (iy hx (fg h Jf (HR h Nl λeM u' h'=>q' _ eM (tQ (.inr ⟨_,rfl⟩) (u.fresh l u') (a++[x]) c (by rw[append_assoc];exact e1) rfl ?_))));rw[h',hx,map_append];rfl
   rcases he with rfl|⟨b,rfl⟩
   ·exact bk t
   ·exact bk t
 ·(refine bH ae λhe u _=>?_;clear ae)
  rcases he with rfl|⟨b,rfl⟩
  ·exact bk (p:=Q .none τ) (q τ u)
  ·exact bk (p:=Q .none τ) (q τ u)
noncomputable def eI:List (Nat×Nat×Nat)->Nat->List (Nat×Nat)
 |[],_=>[]
 |(f,m,_)::r,s=>(range m).map (λj=>(f+j,s))++eI r (s+1)
noncomputable def iO(ss:List Nat)(E:List (Nat×Nat)):List (Int×V):=(range E.length).map λi=>((ss.getD i 0:Int),.tup [.int (E.getD i (0,0)).1,.int (E.getD i (0,0)).2])
theorem zV(rE:ss.Nodup)(hl:E.length<ss.length):iR (ss.getD E.length 0:Int) (.tup [.int x.1,.int x.2]) (iO ss E)=iO ss (E++[x]):=by
 have h:(iO ss E).any (λe=>decide (e.1=(ss.getD E.length 0:Int)))=false:=by
  rw[List.any_eq_false];intro y hy e;(refine dC hy λi hi Ei=>?_;subst Ei);have hi:=mem_range.mp hi;have e:=ofNat.inj (fh e);have h1:=ip (Nat.lt_trans hi hl);have h2:=ip hl;rw[e]at h1;exact Nat.ne_of_lt hi ((getElem?_inj (Nat.lt_trans hi hl) rE).mp (h1.trans h2.symm))
 unfold iR;rw[h];show iO ss E++_=_;unfold iO;simp only[length_append,List.length_singleton,range_succ,map_append]
 congr 1
 ·refine dW λi hi=>?_;rw[getD_eq_getElem?_getD (l:=E),getD_eq_getElem?_getD (l:=E++[x]),getElem?_append_left (mem_range.mp hi)]
 ·show _= [((ss.getD E.length 0:Int),V.tup [.int ((E++[x]).getD E.length (0,0)).1,.int ((E++[x]).getD E.length (0,0)).2])];rw[getD_eq_getElem?_getD (l:=E++[x]),List.getElem?_concat_length];rfl
def Q2(i:Nat)(cs ss:V)(s f m p:V)(e:ar):Prop:=e=⟨[("self",.ref i),("counts",cs),("symbols",ss),("size",s),("first",f),("many",m),("place",p)],[]⟩\/∃k,e=⟨[("self",.ref i),("counts",cs),("symbols",ss),("size",s),("first",f),("many",m),("place",p),("k",k)],[]⟩
noncomputable abbrev Nb(cs:V)(ss:List Nat)(ro co:Nat):List (Str×V):=[("counts",cs),("symbols",.tup (ss.map λ(c:Nat)=>.int c)),("rows",.ref ro),("codes",.ref co)]
theorem Gf{i ro co kk f m s:Nat}{cs SD cv:V}{ss:List Nat}{E:List (Nat×Nat)}{e:ar}{K:Fl->ar->Pr}(rE:ss.Nodup)(V1:ss.length<=900)(hm:E.length+m<=ss.length)(gZ:m<21)(ho:σ[i]?=some (.ins "HuffTable" (Nb cv ss ro co)))(hc:σ[co]?=some (.cG (iO ss E) kk))(he:Q2 i cs SD (.int s) (.int f) (.int m) (.int E.length) e)(done:∀e τ k',Q2 i cs SD (.int s) (.int f) (.int m) (.int E.length) e->Up [co] σ τ->τ[co]?=some (.cG (iO ss (E++(range m).map λj=>(f+j,s))) k')->K .next e τ):aS (ay gg (n+29)) (ah 38 0).sc ((dQ (aF (ah 38 0).body [5])).drop 1) e K σ:=by
 let aO:V->Pr:=λv1 H=>(W (aQ v1) λfz=>aK (aJ (ag gg (n+28))) (bp (ay gg (n+28)) (ah 38 0).sc (aF (ah 38 0).body [5,1])) (bx (ay gg (n+29)) (ah 38 0).sc ((dQ (aF (ah 38 0).body [5])).drop 2) K) fz.2 fz.1 e) H;have t:(W (aX "range" [.int m]) aO) σ:=by
  refine cy (c7 gZ ?_);refine ee (λr e τ=>Q2 i cs SD (.int s) (.int f) (.int m) (.int E.length) e/\Up [co] σ τ/\∃j,(dB m).drop j=r/\j<=m/\∃k',τ[co]?=some (.cG (iO ss (E++(range j).map λj=>(f+j,s))) k')) (λv r e τ K ae q'=>?_) (λe τ ae=>?_) (jO he .refl 0 rfl (zero_le _) kk (by rw[show(range 0).map (λj=>(f+j,s))= [] from rfl,append_nil];exact hc)) (fx _)
  ·(refine ix ae λhe u j e1 hj k' h=>?_;clear ae);(refine bH (cO e1) λhj wj e2=>?_;subst wj);have og:=u.ne ho (bV ho hc nofun);have hlen:(E++(range j).map λj=>(f+j,s)).length=E.length+j:=by rw[length_append,ck]
   have yy:E.length+j<ss.length:=d5 (Nat.add_lt_add_left hj _) hm;let aO:Unit->Pr:=λ_ H=>(K .next ⟨[("self",.ref i),("counts",cs),("symbols",SD),("size",.int s),("first",.int f),("many",.int m),("place",.int E.length),("k",.int j)],[]⟩) H
   let aZ:V->V->V->Pr:=λv1 v2 v5 H=>(W (iI v2 v5 (.tup [v1,.int s])) aO) H;let bW:V->V->V->V->Pr:=λv1 v2 v3 v4 H=>(W (aR v3 v4) (aZ v1 v2)) H;let c8:V->V->V->Pr:=λv1 v2 v3 H=>(W (ai .Add (.int E.length) (.int j)) (bW v1 v2 v3)) H;let dG:V->V->Pr:=λv1 v2 H=>(W (aB gg (.ref i) "symbols") (c8 v1 v2)) H;let dR:V->Pr:=λv1 H=>(W (aB gg (.ref i) "codes") (dG v1)) H;have t:(W (ai .Add (.int f) (.int j)) dR) τ:=by
    refine cq (bc og (by exact Nu (by kernel_rfl)) (by kernel_rfl) (bc og (by exact oS (by kernel_rfl)) (by kernel_rfl) (cq ?_)));simp only[<-natCast_add,<-natCast_add];refine dY (rj yy (ao V1 (by decide))) (v:=.int (ss.getD (E.length+j) 0:Nat)) (by simp only[toNat_natCast,getElem?_map,ip yy];rfl) ?_;have e3:=zV (x:=(f+j,s)) rE (hlen.symm▸yy);rw[hlen,append_assoc,show((range j).map λj=>(f+j,s))++[(f+j,s)]=(range (j+1)).map λj=>(f+j,s) by rw[range_succ,map_append];rfl]at e3;refine se h (aG ?_) λeM u' h'=>q' _ eM (rA (.inr ⟨_,rfl⟩) (u.trans u') (j+1) e2 hj (by rw[e3]at h';exact⟨_,h'⟩));simp only[iO,ck,hlen];exact ao (cF yy) (ao V1 (by decide))
   rcases he with rfl|⟨b,rfl⟩
   ·exact bk t
   ·exact bk t
  ·(refine ix ae λhe u j e1 hj k' h=>?_;clear ae);replace h:=(dA hj e1)▸h;have q:=done e τ k' he u h
   rcases he with rfl|⟨b,rfl⟩
   ·exact bk q
   ·exact bk q
 rcases he with rfl|⟨b,rfl⟩
 ·exact bk t
 ·exact bk t
noncomputable def Ff:List (Nat×Nat×Nat)->Nat->Prop
 |[],_=>True
 |(_,m,q)::r,p=>q=p/\Ff r (p+m)
theorem BQ:∀{cs:List Nat}{s c p:Nat}{rs:List (Nat×Nat×Nat)},jH cs s c p=some rs->Ff rs p/\rs.length=cs.length:=by
 intro l0
 induction l0 with
 |nil=>
  rintro _ _ _ _ h;obtain rfl:=bE h;exact⟨trivial,rfl⟩
 |cons m r hi=>
  rintro s c p rs h;rw[jH]at h
  split at h
  ·exact cT h
  refine dw h λr2 h2 e=>?_;subst e;have:=hi h2;exact⟨⟨rfl,this.1⟩,congrArg (· +1) this.2⟩
theorem xy{i mn:Nat}{cs ss:List Nat}{rs:List (Nat×Nat×Nat)}(hi:σ[i]?=some (.ins "HuffTable" []))(hl:cs.length=16)(Ng:oG (cs.map λ(c:Nat)=>(c:Int))=some (mn:Int))(zE:(cs.map λ(c:Nat)=>(c:Int)).sum=ss.length)(hs:ss.length<=20)(rE:ss.Nodup)(hr:jH cs 1 0 0=some rs)(hE:(eI rs 1).length=ss.length)(q:∀τ ro co k,Up [i] σ τ->τ[i]?=some (.ins "HuffTable" (Nb (.tup (cs.map λ(c:Nat)=>.int c)) ss ro co))->τ[co]?=some (.cG (iO ss (eI rs 1)) k)->Q .none τ):W ((ag gg (n+31)).C (ah 38 0) [.ref i,(.tup (cs.map λ(c:Nat)=>.int c)),(.tup (ss.map λ(c:Nat)=>.int c))]) Q σ:=by
 let aO:V->Pr:=λv8 H=>(W (aQ v8) λQY=>aK (aJ (ag gg (n+29))) (bp (ay gg (n+29)) (ah 38 0).sc (aF (ah 38 0).body [5])) (bx (ay gg (n+30)) (ah 38 0).sc ((ah 38 0).body.drop 6) (cz Q)) QY.2 QY.1 ⟨[("self",.ref i),("counts",(.tup (cs.map λ(c:Nat)=>.int c))),("symbols",(.tup (ss.map λ(c:Nat)=>.int c)))],[]⟩) H;let aZ:V->Pr:=λv7 H=>(W (aX "range" [.int 1,v7]) aO) H;let bW:Unit->Pr:=λ_ H=>(W (ai .Add (.int 16) (.int 1)) aZ) H;let c8:V->Pr:=λv6 H=>(W (bq gg (.ref i) "codes" v6) bW) H;let dG:Unit->Pr:=λ_ H=>(W (dq (.cG [] 0)) c8) H;let dR:V->Pr:=λv5 H=>(W (bq gg (.ref i) "rows" v5) dG) H;let fC:V->Pr:=λv4 H=>(W ((ag gg (n+28)).C (aa 36) [v4]) dR) H;let gX:Unit->Pr:=λ_ H=>(W (aB gg (.ref i) "counts") fC) H;let iU:V->Pr:=λv3 H=>(W (bq gg (.ref i) "symbols" v3) gX) H;let eE:Unit->Pr:=λ_ H=>(W (aX "tuple" [(.tup (ss.map λ(c:Nat)=>.int c))]) iU) H;let fj:V->Pr:=λv2 H=>(W (bq gg (.ref i) "counts" v2) eE) H;let gY:V->Pr:=λv1 H=>(W (aX "tuple" [(.tup (cs.map λ(c:Nat)=>.int c))]) fj) H;refine ce (p:=(W ((ag gg (n+28)).C (aa 37) [(.tup (cs.map λ(c:Nat)=>.int c)),(.tup (ss.map λ(c:Nat)=>.int c))]) gY) σ) ?_;refine uj hl Ng zE (ao hs (by decide)) rE λKz u0=>?_;have h0:=u0.at hi;refine yi (cQ h0 (fs':=[("counts",(.tup (cs.map λ(c:Nat)=>.int c)))]) (by kernel_rfl) (by kernel_rfl) λeW u1 h1=>yi (cQ h1 (fs':=[("counts",(.tup (cs.map λ(c:Nat)=>.int c))),("symbols",(.tup (ss.map λ(c:Nat)=>.int c)))]) (by kernel_rfl) (by kernel_rfl) λdM u2 h2=>?_));refine bc h2 (by exact vt (by kernel_rfl)) (by kernel_rfl) (wB hl hr λgT ro u3 h3=>?_);have xB:=u3.at h2;refine cQ xB (fs':=[("counts",(.tup (cs.map λ(c:Nat)=>.int c))),("symbols",(.tup (ss.map λ(c:Nat)=>.int c))),("rows",.ref ro)]) (by kernel_rfl) (by kernel_rfl) λjx u4 h4=>bG λco sW u5 l5 h5=>?_;have Rx:=u5.at h4;refine cQ Rx (fs':=Nb (.tup (cs.map λ(c:Nat)=>.int c)) ss ro co) (by kernel_rfl) (by kernel_rfl) λKy u6 h6=>?_;have V4:=u6.ne (u5.at (u4.ne h3 (bV h3 xB nofun))) (bV (u5.at (u4.ne h3 (bV h3 xB nofun))) Rx nofun);have zI:=u6.ne h5 (bV h5 Rx nofun);have uv:Up [i] σ jx:=u0.any.trans (u1.trans (u2.trans (u3.any.trans u4)));have uu:Up [i] σ Ky:=uv.trans (u5.any.trans u6);have hp:=BQ hr;have Q7:rs.length=16:=hp.2.trans hl;refine cq (yl (yn ?_));refine ee (λr e τ=>(e=⟨[("self",.ref i),("counts",(.tup (cs.map λ(c:Nat)=>.int c))),("symbols",(.tup (ss.map λ(c:Nat)=>.int c)))],[]⟩\/∃s f m p,Q2 i (.tup (cs.map λ(c:Nat)=>.int c)) (.tup (ss.map λ(c:Nat)=>.int c)) s f m p e)/\Up [co] Ky τ/\∃(k:Nat) (E:List (Nat×Nat)) (k':Nat),(w9 16).drop k=r/\k<=16/\Ff (rs.drop k) E.length/\E++eI (rs.drop k) (k+1)=eI rs 1/\τ[co]?=some (.cG (iO ss E) k')) (λv r e τ K ae q'=>?_) (λe τ ae=>?_) (ik (.inl rfl) .refl 0 ([]) 0 rfl (zero_le _) hp.1 rfl zI) (fx _)
 ·(refine fU ae λhe u k E k' e1 hk Ct Nn hc=>?_;clear ae);refine bH (cO (f:=λ(k:Nat)=>V.int (k+1:Nat)) e1) λhk ev e2=>?_;have ev:v=.int (k+1:Nat):=ev;subst ev;have kK:k<rs.length:=Q7.symm▸hk;have ed:=drop_eq_getElem_cons kK;obtain⟨x,hx⟩:∃x,x=rs[k]:=⟨_,rfl⟩;obtain⟨f,m,p⟩:=x;rw[ed,<-hx]at Ct Nn;obtain⟨X6,Ct⟩:=Ct;subst X6;rw[eI,<-append_assoc]at Nn;have hlen:(E++(range m).map λj=>(f+j,k+1)).length=E.length+m:=by rw[length_append,ck]
  have hm:E.length+m<=ss.length:=by
   simp only[<-hE,<-Nn,length_append,hlen];exact le_add_right _ _
  have ho:=u.ne h6 (bV h6 zI nofun);have oM:=u.ne V4 (bV V4 zI nofun);have mid:∀e,Q2 i (.tup (cs.map λ(c:Nat)=>.int c)) (.tup (ss.map λ(c:Nat)=>.int c)) (.int (k+1:Nat)) (.int f) (.int m) (.int E.length) e->aS (ay gg (n+29)) (ah 38 0).sc ((dQ (aF (ah 38 0).body [5])).drop 1) e K τ:=λe he=>
   Gf rE (ao hs (by decide)) hm (Nat.lt_of_le_of_lt (ao (le_add_left _ _) hm) (Nat.lt_succ_of_le hs)) ho hc he λe eM k2 he u' h'=>q' e eM (ik (.inr (nE _ _ _ _ he)) (u.trans u') (k+1) _ k2 e2 hk (by rw[hlen];exact Ct) Nn h')
  have pad:∀zQ,R (eF (ah 38 0).sc zQ (qI (kA (aF (ah 38 0).body [5,0]))) [.int f,.int m,.int E.length]) (λe5=>aS (ay gg (n+29)) (ah 38 0).sc ((dQ (aF (ah 38 0).body [5])).drop 1) e5 K) τ->(W (aB gg (.ref i) "rows") λv1=>W (ai .Sub (.int (k+1:Nat)) (.int 1)) λv2=>W (aR v1 v2) λv3=>sG v3 λXg=>R (eF (ah 38 0).sc zQ (qI (kA (aF (ah 38 0).body [5,0]))) Xg) λe5=>aS (ay gg (n+29)) (ah 38 0).sc ((dQ (aF (ah 38 0).body [5])).drop 1) e5 K) τ:=λzQ h=>by
   refine bc ho (by exact rJ (by kernel_rfl)) (by kernel_rfl) (di ?_);rw[hU];exact cg oM (rj hk (by decide)) (v:=EZ (f,m,E.length)) (by simp only[toNat_natCast,getElem?_map,getElem?_eq_getElem kK,<-hx];rfl) h
  rcases he with rfl|⟨s1,f1,m1,p1,rfl|⟨b,rfl⟩⟩
  ·exact bk (pad ⟨[("self",.ref i),("counts",(.tup (cs.map λ(c:Nat)=>.int c))),("symbols",(.tup (ss.map λ(c:Nat)=>.int c))),("size",.int (k+1:Nat))],[]⟩ (bk (mid ⟨[("self",.ref i),("counts",(.tup (cs.map λ(c:Nat)=>.int c))),("symbols",(.tup (ss.map λ(c:Nat)=>.int c))),("size",.int (k+1:Nat)),("first",.int f),("many",.int m),("place",.int E.length)],[]⟩ (.inl rfl))))
  ·exact bk (pad ⟨[("self",.ref i),("counts",(.tup (cs.map λ(c:Nat)=>.int c))),("symbols",(.tup (ss.map λ(c:Nat)=>.int c))),("size",.int (k+1:Nat)),("first",f1),("many",m1),("place",p1)],[]⟩ (bk (mid ⟨[("self",.ref i),("counts",(.tup (cs.map λ(c:Nat)=>.int c))),("symbols",(.tup (ss.map λ(c:Nat)=>.int c))),("size",.int (k+1:Nat)),("first",.int f),("many",.int m),("place",.int E.length)],[]⟩ (.inl rfl))))
  ·exact bk (pad ⟨[("self",.ref i),("counts",(.tup (cs.map λ(c:Nat)=>.int c))),("symbols",(.tup (ss.map λ(c:Nat)=>.int c))),("size",.int (k+1:Nat)),("first",f1),("many",m1),("place",p1),("k",b)],[]⟩ (bk (mid ⟨[("self",.ref i),("counts",(.tup (cs.map λ(c:Nat)=>.int c))),("symbols",(.tup (ss.map λ(c:Nat)=>.int c))),("size",.int (k+1:Nat)),("first",.int f),("many",.int m),("place",.int E.length),("k",b)],[]⟩ (.inr ⟨_,rfl⟩))))
 ·(refine fU ae λhe u k E k' e1 hk Ct Nn hc=>?_;clear ae);have Nh:=dA (f:=λ(k:Nat)=>V.int (k+1:Nat)) hk e1;rw[Nh,<-Q7,List.drop_length,eI,append_nil]at Nn;subst Nn;have q:=q τ ro co k' (uu.fresh (ao uv.1 l5) (u.sub λj hj=>mem_cons.mpr (.inl (bz hj)))) (u.ne h6 (bV h6 zI nofun)) hc
  rcases he with rfl|⟨s1,f1,m1,p1,rfl|⟨b,rfl⟩⟩
  ·exact bk (p:=Q .none τ) q
  ·exact bk (p:=Q .none τ) q
  ·exact bk (p:=Q .none τ) q
noncomputable def cv(c:Nat×Nat):V:=.tup [.int c.1,.ref c.2]
noncomputable def qd{α:Type}:Nat->List (Nat×α)->List (Nat×α)->List (Nat×α)
 |0,_,_=>[]
 |n+1,c::cs,p::ps=>if c.1<=p.1 then c::qd n cs (p::ps)else p::qd n (c::cs) ps
 |n+1,c::cs,[]=>c::qd n cs []
 |n+1,[],p::ps=>p::qd n [] ps
 |_+1,[],[]=>[]
theorem lQ{Q:V->Pr}{i:Nat}{cs:List (Nat×Nat)}{a:Nat}(h:σ[i]?=some (.lst (cs.map cv)))(ha:a<cs.length)(hl:cs.length<=1000)(q:Q (cv cs[a]) σ):W (aR (.ref i) (.int a)) Q σ:=
 cg h (rj ha hl) (by simp only[toNat_natCast,getElem?_map,getElem?_eq_getElem ha];rfl) q
section
variable{ci pi:Nat}{cs ps:List (Nat×Nat)}{f a b:Nat}{KB:Bool->Pr}
theorem Jg(hc:σ[ci]?=some (.lst (cs.map cv)))(hp:σ[pi]?=some (.lst (ps.map cv)))(hl:cs.length<=900/\ps.length<=900)(q:KB (decide (a<cs.length)||decide (b<ps.length)) σ):jb (ay gg (n+9)) (aa 42).sc (aF (aa 42).body [2]) ⟨[("coins",.ref ci),("packs",.ref pi),("found",.ref f),("at",.int a),("to",.int b)],[]⟩ KB σ:=by
 let aO:Bool->Pr:=λb4 H=>(cR b4 (KB true) (KB false)) H;let aZ:V->Pr:=λv3 H=>(W (cX .Lt (.int b) v3) aO) H;let bW:Bool->Pr:=λb2 H=>(cR b2 (KB true) (W (aU "len" [.ref pi]) aZ)) H;let c8:V->Pr:=λv1 H=>(W (cX .Lt (.int a) v1) bW) H;refine bk (p:=(W (aU "len" [.ref ci]) c8) σ) ?_;refine dr hc (aG (by rw[length_map];exact ao hl.1 (by decide))) (lZ ?_);rw[length_map];by_cases h1:a<cs.length
 ·rw[dT h1]at q;exact mv (dT (ofNat_lt.mpr h1)) q
 ·refine iy (dF λh=>h1 (ofNat_lt.mp h)) (dr hp (aG (by rw[length_map];exact ao hl.2 (by decide))) (lZ ?_));rw[length_map];rw[dF h1,Bool.false_or]at q;by_cases h2:b<ps.length
  ·rw[dT h2]at q;exact mv (dT (ofNat_lt.mpr h2)) q
  ·rw[dF h2]at q;exact iy (dF λh=>h2 (ofNat_lt.mp h)) q
noncomputable def Om(cs ps:List (Nat×Nat))(a b:Nat):Bool:=match ps[b]?,cs[a]? with
 |none,_=>true
 |some p,some c=>decide (c.1<=p.1)
 |some _,none=>false
theorem Qs(hc:σ[ci]?=some (.lst (cs.map cv)))(hp:σ[pi]?=some (.lst (ps.map cv)))(hl:cs.length<=900/\ps.length<=900)(hb:b<=ps.length)(q:KB (Om cs ps a b) σ):(ay gg (n+8)).T (aa 42).sc ⟨[("coins",.ref ci),("packs",.ref pi),("found",.ref f),("at",.int a),("to",.int b)],[]⟩ (m9 (aF (aa 42).body [2,0])) KB σ:=by
 let aO:Bool->Pr:=λb9 H=>(cR b9 (KB true) (KB false)) H;let aZ:V->V->Pr:=λv6 v8 H=>(W (cX .LtE v6 v8) aO) H;let bW:V->V->Pr:=λv6 v7 H=>(W (aR v7 (.int 0)) (aZ v6)) H;let c8:V->Pr:=λv6 H=>(W (aR (.ref pi) (.int b)) (bW v6)) H;let dG:V->Pr:=λv5 H=>(W (aR v5 (.int 0)) c8) H;let dR:Bool->Pr:=λb4 H=>(cR b4 (W (aR (.ref ci) (.int a)) dG) (KB false)) H;let fC:V->Pr:=λv3 H=>(W (cX .Lt (.int a) v3) dR) H;let gX:Bool->Pr:=λb2 H=>(cR b2 (KB true) (W (aU "len" [.ref ci]) fC)) H;let iU:V->Pr:=λv1 H=>(W (cX .Eq (.int b) v1) gX) H;refine bk (p:=(W (aU "len" [.ref pi]) iU) σ) ?_;unfold Om at q;refine dr hp (aG (by rw[length_map];exact ao hl.2 (by decide))) (kr ?_);rw[length_map];by_cases h1:b=ps.length
 ·replace q:=(getElem?_eq_none (Nat.le_of_eq h1.symm))▸q;exact mv (dT (congrArg _ h1)) q
 ·have Ry:=Nat.lt_of_le_of_ne hb h1;rw[getElem?_eq_getElem Ry]at q;refine iy (dF λh=>h1 (ofNat.inj h)) (dr hc (aG (by rw[length_map];exact ao hl.1 (by decide))) (lZ ?_));rw[length_map];by_cases h2:a<cs.length
  ·rw[getElem?_eq_getElem h2]at q;have q:KB (decide (cs[a].1<=ps[b].1)) σ:=q;refine mv (dT (ofNat_lt.mpr h2)) (lQ hc h2 (ao hl.1 (by decide)) (dY rfl rfl (lQ hp Ry (ao hl.2 (by decide)) (dY rfl rfl (ym ?_)))));by_cases h3:cs[a].1<=ps[b].1
   ·exact mv (dT (ofNat_le.mpr h3)) (by rwa[dT h3]at q)
   ·exact iy (dF λh=>h3 (ofNat_le.mp h)) (by rwa[dF h3]at q)
  ·rw[getElem?_eq_none (le_of_not_lt h2)]at q;exact iy (dF λh=>h2 (ofNat_lt.mp h)) q
theorem Fw{m:Nat}(h:Om cs ps a b=true)(hm:a<cs.length\/b<ps.length):∃ha:a<cs.length,qd (m+1) (cs.drop a) (ps.drop b)=cs[a]::qd m (cs.drop (a+1)) (ps.drop b):=by
 unfold Om at h;by_cases h2:a<cs.length
 ·refine⟨h2,?_⟩;rw[drop_eq_getElem_cons h2];by_cases h1:b<ps.length
  ·rw[getElem?_eq_getElem h1,getElem?_eq_getElem h2]at h;have h:decide (cs[a].1<=ps[b].1)=true:=h;rw[drop_eq_getElem_cons h1,qd,if_pos (of_decide_eq_true h)]
  ·rw[drop_eq_nil_iff.mpr (le_of_not_lt h1)];rfl
 ·have h1:=hm.resolve_left h2;rw[getElem?_eq_getElem h1,getElem?_eq_none (le_of_not_lt h2)]at h;cases h
theorem Cc{m:Nat}(h:Om cs ps a b=false):∃hb:b<ps.length,qd (m+1) (cs.drop a) (ps.drop b)=ps[b]::qd m (cs.drop a) (ps.drop (b+1)):=by
 unfold Om at h;by_cases h1:b<ps.length
 ·refine⟨h1,?_⟩;rw[drop_eq_getElem_cons h1];by_cases h2:a<cs.length
  ·rw[getElem?_eq_getElem h1,getElem?_eq_getElem h2]at h;have h:decide (cs[a].1<=ps[b].1)=false:=h;rw[drop_eq_getElem_cons h2,qd,if_neg (of_decide_eq_false h)]
  ·rw[drop_eq_nil_iff.mpr (le_of_not_lt h2)];rfl
 ·replace h:=(getElem?_eq_none (le_of_not_lt h1))▸h;cases h
theorem EB(hc:σ[ci]?=some (.lst (cs.map cv)))(hp:σ[pi]?=some (.lst (ps.map cv)))(hN:cs.length+ps.length<64)(q:∀τ i,Up [] σ τ->σ.length<=i->τ[i]?=some (.lst ((qd (cs.length+ps.length) cs ps).map cv))->Q (.ref i) τ):W ((ag gg (n+11)).C (aa 42) [.ref ci,.ref pi]) Q σ:=by
 let aO:V->Pr:=λv1 H=>(gD (jb (ay gg (n+9)) (aa 42).sc (aF (aa 42).body [2])) (j2 (ay gg (n+9)) (aa 42).sc (aF (aa 42).body [2])) (bx (ay gg (n+10)) (aa 42).sc ((aa 42).body.drop 3) (cz Q)) 64 ⟨[("coins",.ref ci),("packs",.ref pi),("found",v1),("at",.int 0),("to",.int 0)],[]⟩) H;refine ce (p:=(W (dE []) aO) σ) ?_;have hl:cs.length<=900/\ps.length<=900:=⟨ao (ao (le_add_right _ _) (cF hN)) (by decide),ao (ao (le_add_left _ _) (cF hN)) (by decide)⟩;refine bZ rfl λf τ u l h0=>?_;refine iq (λm e τ=>∃(a b:Nat) (d:List (Nat×Nat)),e=⟨[("coins",.ref ci),("packs",.ref pi),("found",.ref f),("at",.int a),("to",.int b)],[]⟩/\a<=cs.length/\b<=ps.length/\a+b+m=cs.length+ps.length/\d++qd m (cs.drop a) (ps.drop b)=qd (cs.length+ps.length) cs ps/\d.length=a+b/\τ[f]?=some (.lst (d.map cv))/\Up [] σ τ) (λm e τ K ae t=>?_) (λm e τ K ae q'=>?_) (λe τ ae=>?_) (m:=cs.length+ps.length) (jm 0 0 ([]) rfl (zero_le _) (zero_le _) (by rw[Nat.zero_add]) rfl rfl h0 u) hN
 ·(refine jr ae λa b d Td ha hb hm hd Cv hf u=>?_;clear ae;subst Td);refine Jg (u.at hc) (u.at hp) hl ?_;have e:(decide (a<cs.length)||decide (b<ps.length))=(m !=0):=by
   by_cases h1:a<cs.length<;>by_cases h2:b<ps.length<;>simp only[h1,h2,decide_true,decide_false,Bool.or_false,Bool.or_true]<;>symm<;>simp<;>lia
  rw[e];exact t
 ·(refine jr ae λa b d Pp ha hb hm hd Cv hf u=>?_;clear ae;subst Pp);have Gq:cM (d.map cv).length=true:=aG (by rw[length_map,Cv];exact ao (ao (le_add_right _ _) (Nat.le_of_eq hm)) (ao (cF hN) (by decide)));let aO:(List V->Pr)->V->Pr:=λK3 v4 H=>(K3 [v4]) H;let aZ:V->Pr:=λv5 H=>(K .next ⟨[("coins",.ref ci),("packs",.ref pi),("found",.ref f),("at",v5),("to",.int b)],[]⟩) H;let bW:V->Pr:=λv2 H=>(W (ai .Add (.int a) (.int 1)) aZ) H;let c8:(List V->Pr)->V->Pr:=λK7 v8 H=>(K7 [v8]) H;let dG:V->Pr:=λv9 H=>(K .next ⟨[("coins",.ref ci),("packs",.ref pi),("found",.ref f),("at",.int a),("to",v9)],[]⟩) H;let dR:V->Pr:=λv6 H=>(W (ai .Add (.int b) (.int 1)) dG) H;refine bk (p:=((ay gg (n+8)).T (aa 42).sc ⟨[("coins",.ref ci),("packs",.ref pi),("found",.ref f),("at",.int a),("to",.int b)],[]⟩ (m9 (aF (aa 42).body [2,0])) λb1=>cR b1 (W (az gg (.ref f) "append") (bA (ag gg (n+6)) (λK3 H=>(W (aR (.ref ci) (.int a)) (aO K3)) H) (.ref f) bW)) (W (az gg (.ref f) "append") (bA (ag gg (n+6)) (λK7 H=>(W (aR (.ref pi) (.int b)) (c8 K7)) H) (.ref f) dR))) τ) ?_;refine Qs (u.at hc) (u.at hp) hl hb (If (λhB=>?_) λhB=>?_)
  ·refine eL (Fw (m:=m) hB (by omega)) λh1 e1=>?_;rw[e1]at hd;refine fg hf ig (lQ (u.at hc) h1 (ao hl.1 (by decide)) (nZ hf Gq λeM u' h'=>cq ?_));rw[<-natCast_succ];exact q' _ eM (jm (a+1) b (d++[cs[a]]) rfl h1 hb (by omega) (by rw[append_assoc];exact hd) (by rw[length_append,Cv];exact Nat.add_right_comm a b 1) (by rw[map_append];exact h') (u.fresh l u'))
  ·refine eL (Cc (m:=m) hB) λh1 e1=>?_;rw[e1]at hd;refine fg hf ig (lQ (u.at hp) h1 (ao hl.2 (by decide)) (nZ hf Gq λeM u' h'=>cq ?_));rw[<-natCast_succ];exact q' _ eM (jm a (b+1) (d++[ps[b]]) rfl ha h1 (by omega) (by rw[append_assoc];exact hd) (by rw[length_append,Cv];rfl) (by rw[map_append];exact h') (u.fresh l u'))
 ·(refine cC λWO QF=>?_;(refine jr ae λa b d Aw ha hb hm hd Cv hf u=>?_;clear ae;subst Aw);refine QF ?_);rw[qd,append_nil]at hd;subst hd;exact bk (p:=Q (.ref f) τ) (q τ f u l hf)
end
theorem xd{mn:Nat}{cs ss:List Nat}{rs:List (Nat×Nat×Nat)}{L:Nat->Option Nat}(hl:cs.length=16)(Ng:oG (cs.map λ(c:Nat)=>(c:Int))=some (mn:Int))(zE:(cs.map λ(c:Nat)=>(c:Int)).sum=ss.length)(hs:ss.length<=20)(rE:ss.Nodup)(hr:jH cs 1 0 0=some rs)(hE:(eI rs 1).length=ss.length)(hL:∀s l,L s=some l->l<=16/\∃x:Nat,x<2^l/\aV (s:Int) (iO ss (eI rs 1))=some (.tup [.int x,.int l]))(q:∀τ i,Up [] σ τ->iS τ i L->Q (.ref i) τ):W (cx gg (ag gg (n+31)) (.cls "HuffTable") [.tup (cs.map λ(c:Nat)=>.int c),.tup (ss.map λ(c:Nat)=>.int c)]) Q σ:=
 su (fi:=(ah 38 0)) (by kernel_rfl) λi τ u l hi=>xy hi hl Ng zE hs rE hr hE λZ ro co k u' ho hc=>q Z i (u.fresh l u') ⟨_,_,_,co,_,k,ho,hc,hL⟩
section
variable{ih:f5}{turn:V->ar->(Fl->ar->Pr)->Pr}{kf:Fl->ar->Pr}{β:Type}{e0:ar}{vs:List V}{st:gE}
def Oh(τ:af)(vs:List V)(st:gE):Prop:=st=.items vs\/(∃j,st=.list j 0/\τ[j]?=some (aL.lst vs))\/∃j c es,st=.dict j c vs.length 0/\τ[j]?=some (aL.cG es c)/\es.map (λe=>V.int e.1)=vs
theorem Oh.l(h:σ[j]?=some (aL.lst vs)):Oh σ vs (.list j 0):=.inr (.inl ⟨j,rfl,h⟩)
theorem Oh.d(h:σ[j]?=some (aL.cG es c)):Oh σ (es.map λe=>V.int e.1) (.dict j c es.length 0):=.inr (.inr (nF j c es (by rw[length_map]) h rfl))
theorem oA{N:Nat}{γ:Type}{c0:γ}(E:γ->ar->Prop)(hN:vs.length=N)(h0:0<N)(Inv:Nat->γ->Pr)(keep:∀k c τ,Inv k c τ->Oh τ vs st)(step:∀k c v e τ K,vs[k]?=some v->(e=e0/\c=c0\/E c e)->Inv k c τ->(∀c e Z,E c e->Inv (k+1) c Z->K .next e Z)->turn v e K τ)(done:∀c e τ,E c e->Inv N c τ->kf .next e τ)(i:Inv 0 c0 σ):aK (aJ ih) turn kf (N+1) st e0 σ:=by
 subst hN;let J:List V->ar->Pr:=λr e τ=>∃k c,vs.drop k=r/\k<=vs.length/\Inv k c τ/\(k=0/\e=e0/\c=c0\/E c e);have js:∀v r env τ K,J (v::r) env τ->(∀e Z,J r e Z->K .next e Z)->turn v env K τ:=λv r env τ K Md q=>bj Md λk c e hk h Cu=>by
  have hv:vs[k]?=some v:=by(refine(Nat.add_zero k)▸?_;refine(getElem?_drop)▸?_;refine Eq.symm e▸?_);rfl
  exact step k c v env τ K hv (Cu.imp And.right id) h λc e' Z hE i=>q _ Z (dt (k+1) c (by rw[<-drop_drop,e];rfl) ((d0 hv).1) i (.inr hE))
 have jd:∀e τ,J [] e τ->kf .next e τ:=λe τ Mc=>bj Mc λk c e1 hk h Cu=>by
  have kK:=Nat.le_antisymm hk (drop_eq_nil_iff.mp e1);subst kK
  rcases Cu with⟨z,_⟩|hE
  ·exact absurd h0 (z▸Nat.lt_irrefl 0)
  ·exact done c e τ hE h
 have j0:J vs e0 σ:=(dt 0 c0 rfl (zero_le _) i (.inl ⟨rfl,rfl,rfl⟩))
 rcases keep 0 c0 σ i with rfl|⟨j,rfl,_⟩|⟨j,c,es,rfl,hj,rfl⟩
 ·exact ee J js jd j0 (fx _)
 ·refine oz (vs:=vs) J (λr e τ L8=>bj L8 λk c _ _ h _=>?_) js jd rfl j0 (fx _)
  rcases keep k c τ h with h|⟨j',h,h'⟩|⟨j',c,es,h,_⟩
  ·exact gE.noConfusion h
  ·(injection h with MM;subst MM);exact h'
  ·exact gE.noConfusion h
 ·have hl:(es.map λe=>V.int e.1).length=es.length:=length_map _;have t:aK (aJ ih) turn kf (es.length+1) (.dict j c es.length 0) e0 σ:=BY (es:=es) J (λr e τ L6=>bj L6 λk c _ _ h _=>by
   rcases keep k c τ h with h|⟨j',h,h'⟩|⟨j',c',Nx,h,h1,h2⟩
   ·exact gE.noConfusion h
   ·exact gE.noConfusion h
   ·(injection h with qY E3;subst qY;subst E3);refine(aT Nx h1 ?_);have:=congrArg (List.map λv=>(vU v).getD 0) h2;rw[List.map_map,List.map_map]at this;exact this) js jd rfl j0 (hl▸fx _)
  refine Eq.symm hl▸?_;exact t
theorem uN{N:Nat}{γ:Type}{c0:γ}(g:γ->ar)(f:γ->β->ar)(hN:vs.length=N)(h0:0<N)(he:∀c b v K τ,v∈vs->turn v (g c) K τ->turn v (f c b) K τ)(Inv:Nat->γ->Pr)(keep:∀k c τ,Inv k c τ->Oh τ vs st)(step:∀k c v τ K,vs[k]?=some v->Inv k c τ->(∀c b Z,Inv (k+1) c Z->K .next (f c b) Z)->turn v (g c) K τ)(done:∀c b τ,Inv N c τ->kf .next (f c b) τ)(i:Inv 0 c0 σ):aK (aJ ih) turn kf (N+1) st (g c0) σ:=
 oA (c0:=c0) (λc e=>∃b,e=f c b) hN h0 Inv keep (λk c v e τ K hv hE h q=>by
  have t:=step k c v τ K hv h λc b Z i=>q c _ Z ⟨b,rfl⟩ i
  rcases hE with⟨rfl,rfl⟩|⟨b,rfl⟩
  ·exact t
  ·exact he c b v K τ (fP hv) t) (λc e τ LW h=>eL LW λb hb=>hb▸done c b τ h) i
theorem gU{N:Nat}(f:β->ar)(hN:vs.length=N)(h0:0<N)(he:∀b v K τ,v∈vs->turn v e0 K τ->turn v (f b) K τ)(Inv:Nat->Pr)(keep:∀k τ,Inv k τ->Oh τ vs st)(step:∀k v τ K,vs[k]?=some v->Inv k τ->(∀b Z,Inv (k+1) Z->K .next (f b) Z)->turn v e0 K τ)(done:∀b τ,Inv N τ->kf .next (f b) τ)(i:Inv 0 σ):aK (aJ ih) turn kf (N+1) st e0 σ:=
 uN (c0:=()) (λ_=>e0) (λ_=>f) hN h0 (λ_=>he) (λk _=>Inv k) (λk _=>keep k) (λk _ v τ K hv h q=>step k v τ K hv h λb=>q () b) (λ_=>done) i
end
theorem y6:∀m:Fin 21,mB 0 ((m.val+1:Nat)-1:Int) 2=some ((m.val+1)/2):=by decide +kernel
noncomputable def pM(m:Nat):List V:=(range m).map λ(k:Nat)=>.int (2*k:Nat)
theorem JN(h:(pM m)[k]?=some v):k<m/\v=.int (2*k:Nat):=by
 have hk:k<m:=by
  have:=(d0 h).1
  rwa[pM,ck]at this
 rw[pM,tH hk]at h;exact⟨hk,(bE h).symm⟩
theorem DC{N:gE×Nat->Pr}(hm:m<21)(q:N (.items (pM ((m+1)/2)),(pM ((m+1)/2)).length+1) σ):W (aQ (.hK 0 ((m+1:Nat)-1) 2)) N σ:=by
 have h:j5 0 ((m+1:Nat)-1) 2=some (pM ((m+1)/2)):=by
  unfold j5;simp only[y6 ⟨m,hm⟩];refine congrArg some (dW λk _=>?_);rw[Int.zero_add,natCast_mul];rfl
 exact Bl h q
noncomputable def uL{α:Type}(l:List (Nat×List α))(k:Nat):Nat×List α:=((l.getD (2*k) (0,[])).1+(l.getD (2*k+1) (0,[])).1,(l.getD (2*k) (0,[])).2++(l.getD (2*k+1) (0,[])).2)
noncomputable def I0{α:Type}(l:List (Nat×List α)):List (Nat×List α):=(range (l.length/2)).map (uL l)
noncomputable def AK(τ:af)(r:Nat):List Int:=match τ[r]? with
 |some (.lst vs)=>(bU vs).getD []
 |_=>[]
theorem mC(h:σ[r]?=some (.lst (l.map .int))):AK σ r=l:=by unfold AK;rw[h];show(bU (l.map .int)).getD []=l;rw[show bU (l.map λk=>.int k)=some (l.map id) from fQ,List.map_id];rfl
def n6(τ:af)(c:Nat×Nat):Prop:=∃l:List Int,τ[c.2]?=some (.lst (l.map .int))
theorem n6.cell(h:n6 σ c):σ[c.2]?=some (.lst ((AK σ c.2).map .int)):=by refine eL h λl h=>?_;rw[mC h];exact h
theorem n6.ne(u:Up [i] σ τ)(n:c.2≠i)(h:n6 σ c):n6 τ c/\AK τ c.2=AK σ c.2:=by
 refine eL h λl h=>?_;exact⟨⟨l,u.ne h n⟩,(mC (u.ne h n)).trans (mC h).symm⟩
theorem n6.up(u:Up [] σ τ)(h:n6 σ c):n6 τ c/\AK τ c.2=AK σ c.2:=by
 refine eL h λl h=>?_;exact⟨⟨l,u.at h⟩,(mC (u.at h)).trans (mC h).symm⟩
noncomputable def d9(τ:af)(cs:List (Nat×Nat)):List (Nat×List Int):=cs.map λc=>(c.1,AK τ c.2)
def dU(τ:af)(i:Nat)(rows:List (Nat×List Int)):Prop:=∃cs,τ[i]?=some (.lst (cs.map cv))/\(∀c∈cs,n6 τ c)/\d9 τ cs=rows
theorem lF(u:Up [] σ τ)(h:∀c∈cs,n6 σ c):(∀c∈cs,n6 τ c)/\d9 τ cs=d9 σ cs:=⟨λc hc=>((h c hc).up u).1,dW λc hc=>by rw[((h c hc).up u).2]⟩
theorem dU.up(u:Up [] σ τ)(h:dU σ i rows):dU τ i rows:=by
 (refine cA h λcs h1 h2 h3=>?_;clear h);have:=lF u h2;exact⟨cs,u.at h1,this.1,this.2.trans h3⟩
theorem wV(h:k<cs.length):(d9 σ cs).getD k (0,[])=(cs[k].1,AK σ cs[k].2):=by
 simp only[getD_eq_getElem?_getD,d9,getElem?_map,getElem?_eq_getElem h];rfl
def n8(τ:af)(f:Nat)(g:Nat->Nat×List Int)(k:Nat):Prop:=f<τ.length/\∃d:List (Nat×Nat),d.length=k/\τ[f]?=some (.lst (d.map cv))/\(∀c∈d,n6 τ c/\c.2≠f)/\d9 τ d=(range k).map g
theorem n8.zero{g:Nat->Nat×List Int}(h:σ[f]?=some (.lst [])):n8 σ f g 0:=⟨eG h,[],rfl,h,nofun,rfl⟩
theorem n8.done{g:Nat->Nat×List Int}(B:n8 σ f g k):dU σ f ((range k).map g):=by
 (refine nO B λ_ d _ hf hh hr=>?_;clear B);exact⟨d,hf,λc hc=>(hh c hc).1,hr⟩
theorem n8.push{g:Nat->Nat×List Int}(B:n8 σ f g k)(u1:Up [] σ eW)(lz:σ.length<=z)(hz:eW[z]?=some (.lst (l.map .int)))(e:g k=(w,l)):∃u,eW[f]?=some (.lst u)/\u.length=k/\∀dM,Up [f] eW dM->dM[f]?=some (.lst (u++[.tup [.int w,.ref z]]))->n8 dM f g (k+1):=by
 (refine cC λWR QH=>?_;(refine nO B λlf d hd hf Ro UW=>?_;clear B);refine QH ?_);have zf:z≠f:=λe=>dH lz (e▸lf);refine(gw _ (u1.at hf) ((length_map _).trans hd) (λdM u2 h2=>⟨d5 lf (ao u1.1 u2.1),d++[(w,z)],by rw[length_append,hd];rfl,by rw[map_append];exact h2,λc hc=>?_,?_⟩))
 ·rcases mem_append.mp hc with hc|hc
  ·exact⟨((((Ro c hc).1.up u1).1).ne u2 (Ro c hc).2).1,(Ro c hc).2⟩
  ·rw[mem_singleton.mp hc];exact⟨⟨_,u2.ne hz zf⟩,zf⟩
 ·simp only[range_succ,map_append,<-UW,d9,map_append];refine congr (congrArg (λx y=>x++y) (dW λc hc=>?_)) (congrArg (λx=>[x]) ?_)
  ·have h:=(Ro c hc).1.up u1;rw[(h.1.ne u2 (Ro c hc).2).2,h.2]
  ·show(_,AK dM z)=g k;rw[mC (u2.ne hz zf),e]
theorem EA(hc:dU σ ci rows)(hl:rows.length=m+1)(hz:∀r∈rows,r.2.length<=400)(h0:0<m)(hm:m<21)(q:∀τ i,Up [] σ τ->dU τ i (I0 rows)->Q (.ref i) τ):W ((ag gg (n+11)).C (aa 43) [.ref ci]) Q σ:=by
 let aO:V->V->Pr:=λv1 v4 H=>(W (aQ v4) λxp=>aK (aJ (ag gg (n+9))) (bp (ay gg (n+9)) (aa 43).sc (aF (aa 43).body [1])) (bx (ay gg (n+10)) (aa 43).sc ((aa 43).body.drop 2) (cz Q)) xp.2 xp.1 ⟨[("coins",.ref ci),("found",v1)],[]⟩) H;let aZ:V->V->Pr:=λv1 v3 H=>(W (aX "range" [.int 0,v3,.int 2]) (aO v1)) H;let bW:V->V->Pr:=λv1 v2 H=>(W (ai .Sub v2 (.int 1)) (aZ v1)) H;let c8:V->Pr:=λv1 H=>(W (aU "len" [.ref ci]) (bW v1)) H;refine ce (p:=(W (dE []) c8) σ) ?_;(refine cA hc λcs Ox hh hr=>?_;clear hc);have gH:cs.length=m+1:=by simp only[<-hl,<-hr,d9,length_map]
 refine bZ rfl λf Kz u0 l0 Yn=>dr (u0.at Ox) (aG (by rw[length_map,gH];exact ao hm (by decide))) (di (HO rfl ?_));rw[length_map,gH];refine DC hm (gU (λb:V×V×V=>⟨[("coins",.ref ci),("found",.ref f),("k",b.1),("one",b.2.1),("other",b.2.2)],[]⟩) rfl (by simp only[pM,ck];omega) (λ_ v K τ _ h=>bk h)
  (λk τ=>Up [] σ τ/\n8 τ f (uL rows) k) (λ_ _ _=>.inl rfl) (λk v τ K hv ae q'=>?_) (λb τ ae=>?_) ⟨u0,.zero Yn⟩)
 ·obtain⟨u,B⟩:=ae;(refine cH (JN hv) λhk DZ=>?_;subst DZ);have h2:2*k+1<cs.length:=by omega
  have h1:=lt_of_succ_lt h2;have Wg:cs.length<=1000:=gH▸ao hm (by decide);let aO:(List V->Pr)->V->V->Pr:=λK5 v8 v11 H=>(K5 [(.tup [v8,v11])]) H;let aZ:(List V->Pr)->V->V->V->Pr:=λK5 v8 v9 v10 H=>(W (ai .Add v9 v10) (aO K5 v8)) H;let bW:V->(List V->Pr)->V->V->Pr:=λv3 K5 v8 v9 H=>(W (aR v3 (.int 1)) (aZ K5 v8 v9)) H;let c8:V->V->(List V->Pr)->V->Pr:=λv1 v3 K5 v8 H=>(W (aR v1 (.int 1)) (bW v3 K5 v8)) H;let dG:V->V->(List V->Pr)->V->V->Pr:=λv1 v3 K5 v6 v7 H=>(W (ai .Add v6 v7) (c8 v1 v3 K5)) H;let dR:V->V->(List V->Pr)->V->Pr:=λv1 v3 K5 v6 H=>(W (aR v3 (.int 0)) (dG v1 v3 K5 v6)) H;let fC:V->V->V->Pr:=λv1 v3 v4 H=>(K .next ⟨[("coins",.ref ci),("found",.ref f),("k",.int (2*k:Nat)),("one",v1),("other",v3)],[]⟩) H;let gX:V->V->Pr:=λv1 v3 H=>(W (az gg (.ref f) "append") (bA (ag gg (n+7)) (λK5 H=>(W (aR v1 (.int 0)) (dR v1 v3 K5)) H) (.ref f) (fC v1 v3))) H;let iU:V->V->Pr:=λv1 v2 H=>(W (aR (.ref ci) v2) (gX v1)) H;let eE:V->Pr:=λv1 H=>(W (ai .Add (.int (2*k:Nat)) (.int 1)) (iU v1)) H;refine bk (p:=(W (aR (.ref ci) (.int (2*k:Nat))) eE) τ) ?_;have hf:∃u,τ[f]?=some (.lst u):=let ⟨_,d,_,hf,_⟩:=B;⟨_,hf⟩;refine eL hf λ_ hf=>?_;refine lQ (u.at Ox) h1 Wg (cq (lQ (u.at Ox) h2 Wg (fg hf ig (dY rfl rfl (dY rfl rfl (cq (dY rfl rfl (dY rfl rfl ?_))))))));have a1:=(hh _ (getElem_mem h1)).up u;have a2:=(hh _ (getElem_mem h2)).up u;have pz:∀{j}(h:j<cs.length),(AK σ cs[j].2).length<=400:=λ{j} h=>hz _ (by rw[<-hr];exact List.mem_map_of_mem (f:=λc:Nat×Nat=>(c.1,AK σ c.2)) (getElem_mem h));refine HS a1.1.cell a2.1.cell ?_;rw[<-map_append,a1.2,a2.2];refine bZ (aG (by rw[length_map,length_append];exact ao (Nat.add_le_add (pz h1) (pz h2)) (by decide))) λz eW u1 l1 Us=>?_;refine cA (B.push (w:=cs[2*k].1+cs[2*k+1].1) u1 l1 Us (by rw[uL,<-hr,wV h1,wV h2])) λv hv Zh hq=>?_;simp only[<-natCast_add];exact nZ hv (aG (by omega)) λdM u2 xB=>q' ⟨_,_,_⟩ dM ⟨(u.trans u1).fresh l0 u2,hq dM u2 xB⟩
 ·(refine cH ae λu B=>?_;clear ae);rw[pM,ck,<-hl]at B;exact bk (p:=Q (.ref f) τ) (q τ f u B.done)
end
end Mine.Internal
namespace Mine.Internal
open PySem PySem.W
section
noncomputable def SI(F:List (Nat×Nat))(x y:Nat):Bool:=F.any λf=>Nat.beq f.1 x&&Nat.beq f.2 y
noncomputable def E2(F:List (Nat×Nat))(n:Nat):Nat->Nat->Nat->Bool
 |0,x,y=>SI F x y
 |d+1,x,y=>SI F x y||(range n).any λz=>SI F x z&&E2 F n d z y
noncomputable def MU(F:List (Nat×Nat))(n:Nat):List Nat->Bool
 |x::r=>(match r with
  |y::_=>E2 F n 4 x y
  |[]=>true)&&MU F n r
 |[]=>true
noncomputable def ins(x:Nat):List Nat->List Nat
 |[]=>[x]
 |y::r=>if ble x y then x::y::r else y::ins x r
noncomputable def kY:List Nat->List Nat
 |[]=>[]
 |x::r=>ins x (kY r)
noncomputable def Jt(n:Nat):KasT (Array Nat)->List (Nat×Nat)->Bool
 |.ret a,F=>decide (kY a.toList=range n)&&MU F n a.toList
 |.ask i j k,F=>(Nat.blt i n&&Nat.blt j n)&&(Jt n (k true) ((i,j)::F)&&Jt n (k false) ((j,i)::F))
theorem QB:(range 7).all (λn=>Nat.blt n 2||Jt n (kas_sort n) [])=true:=by decide +kernel
theorem rp{x:Nat}:∀{l:List Nat},(ins x l).Perm (x::l)
 |[]=>.refl _
 |y::r=>by
  unfold ins
  split
  ·exact .refl _
  ·exact(rp.cons y).trans (.swap x y r)
theorem kh:∀{l:List Nat},(kY l).Perm l
 |[]=>.refl _
 |x::r=>rp.trans (kh.cons x)
noncomputable def yu{α:Type}(le:α->α->Prop):List α->Prop
 |x::r=>(∀y,r.head? =some y->le x y)/\yu le r
 |[]=>True
section
variable{n:Nat}{le:Nat->Nat->Prop}{lt:Nat->Nat->Bool}(Oo:∀x y z,le x y->le y z->le x z)
theorem zq{F:List (Nat×Nat)}(hF:∀f∈F,le f.1 f.2){x y:Nat}(h:SI F x y=true):le x y:=by
 refine ak (List.any_eq_true.mp h) λf hf h=>?_;obtain⟨h1,h2⟩:=aP h;exact Nat.eq_of_beq_eq_true h1▸Nat.eq_of_beq_eq_true h2▸hF f hf
include Oo
theorem E1{F:List (Nat×Nat)}(hF:∀f∈F,le f.1 f.2):∀{d x y:Nat},E2 F n d x y=true->le x y:=by
 intro l0
 induction l0 with
 |zero=>
  rintro _ _ h;exact zq hF h
 |succ d hi=>
  rintro x y h
  rcases or_eq_true_iff.mp h with h|h
  ·exact zq hF h
  ·refine ak (List.any_eq_true.mp h) λz _ h=>?_;obtain⟨h1,h2⟩:=aP h;exact Oo _ _ _ (zq hF h1) (hi h2)
theorem I8{F:List (Nat×Nat)}(hF:∀f∈F,le f.1 f.2):∀{l:List Nat},MU F n l=true->yu le l:=by
 intro l0
 induction l0 with
 |nil=>
  rintro _;exact trivial
 |cons x r hi=>
  rintro h;obtain⟨h1,h2⟩:=aP h;refine⟨λy hy=>?_,hi h2⟩;cases r with
  |nil=>cases hy
  |cons z r=>cases hy;exact E1 Oo hF h1
theorem uW(h1:∀i j,i<n->j<n->lt i j=true->le i j)(h0:∀i j,i<n->j<n->lt i j=false->le j i):∀{t:KasT (Array Nat)}{F:List (Nat×Nat)},Jt n t F=true->(∀f∈F,le f.1 f.2)->(qe lt t).toList.Perm (range n)/\yu le (qe lt t).toList
 |.ret a,F,h,hF=>by
  obtain⟨h1,h2⟩:=aP h;exact⟨fh h1▸kh.symm,I8 Oo hF h2⟩
 |.ask i j k,F,h,hF=>by
  obtain⟨hn,h⟩:=aP h;obtain⟨ha,hb⟩:=aP h;obtain⟨hi,hj⟩:=aP hn;have hi:=eK hi;have hj:=eK hj;refine(?_:(qe lt (k (lt i j))).toList.Perm _/\yu le (qe lt (k (lt i j))).toList);cases e:lt i j with
  |true=>exact uW h1 h0 ha λf hf=>(bt hf).elim (λq=>q▸h1 i j hi hj e) (hF f)
  |false=>exact uW h1 h0 hb λf hf=>(bt hf).elim (λq=>q▸h0 i j hi hj e) (hF f)
end
theorem yu.map{α β:Type}{f:α->β}{r:β->β->Prop}:∀{l:List α},yu (λx y=>r (f x) (f y)) l->yu r (l.map f)
 |[],_=>trivial
 |x::l,h=>⟨λy hy=>by
  replace hy:=(List.head?_map)▸hy;(refine dw hy λz hz qx=>?_;subst qx);exact h.1 z hz,h.2.map⟩
theorem qE{l:List V}(hl:l.length<=6){le:V->V->Prop}(Oo:∀x y z,le x y->le y z->le x z)(h1:∀x∈l,∀y∈l,Ip x y=true->le x y)(h0:∀x∈l,∀y∈l,Ip x y=false->le y x):(pb l).Perm l/\yu le (pb l):=by
 unfold pb;by_cases h2:l.length<2
 ·rw[if_pos h2];refine⟨.refl _,?_⟩
  match l,h2 with
  |[],_=>trivial
  |[x],_=>exact⟨nofun,trivial⟩
 ·rw[if_neg h2];have k6:=fO QB l.length (mem_range.mpr (Nat.lt_succ_of_le hl));have kc:=(or_eq_true_iff.mp k6).resolve_left λh=>h2 (eK h);have mem:∀{i},i<l.length->l.getD i .none∈l:=λ{i} hi=>by rw[getD_eq_getElem?_getD,getElem?_eq_getElem hi];exact getElem_mem hi
  obtain⟨hp,ha⟩:=uW (le:=λi j=>le (l.getD i .none) (l.getD j .none)) (lt:=λi j=>Ip (l.getD i .none) (l.getD j .none)) (λx y z=>Oo _ _ _) (λi j hi hj=>h1 _ (mem hi) _ (mem hj)) (λi j hi hj=>h0 _ (mem hi) _ (mem hj)) kc nofun;refine⟨(hp.map _).trans (Perm.of_eq ?_),ha.map⟩;apply ext_getElem
  ·rw[length_map,length_range]
  ·intro i hi Rl;rw[getElem_map,getElem_range,getD_eq_getElem?_getD,getElem?_eq_getElem Rl];rfl
end
end Mine.Internal
namespace Mine.Internal
open PySem
section
variable{n:Nat}{Q:V->Pr}{σ:af}
noncomputable def CH(b:Bool)(p:Nat×Nat):V:=.tup [.int p.2,.int (bif b then -(p.1:Int)else p.1)]
noncomputable def GV:V->Nat×Nat
 |.tup [.int f,.int t]=>(t.natAbs,f.toNat)
 |_=>(0,0)
theorem zW:GV (CH b p)=p:=by
 show((bif b then -(p.1:Int)else p.1).natAbs,(p.2:Int).toNat)=p
 induction b using Bool.casesOn
 ·rfl
 ·rw[cond_true,Int.natAbs_neg];rfl
noncomputable def lT(b:Bool)(es:List (Nat×Nat)):List (Nat×Nat):=(pb (es.map (CH b))).map GV
noncomputable abbrev ie(es:List (Nat×Nat)):List (Nat×Nat):=lT true es
theorem Mr:Ip (CH b p) (CH b q)=if(p.2:Int)=q.2 then FJ [bif b then -(p.1:Int)else p.1] [bif b then -(q.1:Int)else q.1]else decide ((p.2:Int)<q.2):=rfl
theorem kT{α:Type}{f:α->V}{g:V->α}(h:∀a,g (f a)=a){l:List V}{es:List α}(p:l.Perm (es.map f)):l=(l.map g).map f/\(l.map g).Perm es:=by
 refine⟨?_,?_⟩
 ·rw[List.map_map];refine(List.map_id l).symm.trans (dW λv hv=>?_);(refine dC (p.mem_iff.mp hv) λa _ L2=>?_;subst L2);exact(congrArg f (h a)).symm
 ·refine(p.map g).trans (Perm.of_eq ?_);rw[List.map_map];exact(dW λa _=>h a).trans (List.map_id es)
theorem gn{b:Bool}{es:List (Nat×Nat)}(hl:es.length<=6):pb (es.map (CH b))=(lT b es).map (CH b)/\(lT b es).Perm es/\yu (λp q=>p.2<=q.2) (lT b es):=by
 have h:=qE (l:=es.map (CH b)) (by rw[length_map];exact hl) (le:=λx y=>(GV x).2<=(GV y).2) (λx y z=>ao) (λx hx y hy h=>?_) λx hx y hy h=>?_
 ·have h':=kT (λa=>zW) h.1;exact⟨h'.1,h'.2,yu.map (f:=GV) h.2⟩
 all_goals
  (refine dC hx λp _ vW=>?_;subst vW);(refine dC hy λq _ Pq=>?_;subst Pq);rw[Mr]at h;simp only[zW,zW];by_cases e:(p.2:Int)=q.2
  ·exact Nat.le_of_eq (by first|exact ofNat.inj e|exact(ofNat.inj e).symm)
  ·rw[if_neg e]at h
   first|exact cF (ofNat_lt.mp (fh h))|exact ofNat_le.mp (Int.not_lt.mp (of_decide_eq_false h))
theorem gB{K:Type}[DecidableEq K]{k:K}{v:V}:∀{l:List (K×V)},(l.map (·.1)).Nodup->(k,v)∈l->aV k l=some v:=by
 intro l0
 induction l0 with
 |nil=>
  rintro _ _;rename_i h;cases h
 |cons hd r hi=>
  obtain⟨a,w⟩:=hd;rintro nd h;refine(?_:(if a=k then some w else aV k r)=some v);rw[map_cons,nodup_cons]at nd
  rcases bt h with h|h
  ·(injection h with qY E3;subst qY;subst E3);exact if_pos rfl
  ·rw[if_neg λe=>nd.1 (mem_map.mpr ⟨_,h,e.symm⟩),hi nd.2 h]
theorem ou(h:(es.map (·.1)).Nodup):((fL es).map (·.1)).Nodup:=by
 rw[Nodup,pairwise_map]at h;rw[Nodup,fL,List.map_map,pairwise_map];exact h.imp λne e=>ne (ofNat.inj e)
noncomputable def Bp(es:List (Nat×Nat)):List (Nat×List Int):=(ie es).map λp=>(p.2,[(p.1:Int)])
theorem Bj(h:σ[i]?=some (.lst (es.map (CH b))))(hl:es.length<=6)(q:∀τ j,Up [] σ τ->τ[j]?=some (.lst ((lT b es).map (CH b)))->Q (.ref j) τ):W (aU "sorted" [.ref i]) Q σ:=by
 have k:jG (es.map (CH b))&&ble (es.map (CH b)).length 6:=by
  rw[length_map];refine and_eq_true_iff.mpr ⟨or_eq_true_iff.mpr (.inr (List.all_eq_true.mpr λv hv=>?_)),ble_eq_true_of_le hl⟩;(refine dC hv λp _ Ec=>?_;subst Ec)
  rfl
 refine bO rfl (ba (bC h (bP (bN k (bG λj τ u l hj=>q τ j u ?_)))));rw[hj,(gn hl).1]
theorem yI{d k:Nat}{es:List (Nat×Nat)}(hd:σ[d]?=some (.cG (fL es) k))(h0:0<es.length)(hl:es.length<=6)(nd:(es.map (·.1)).Nodup)(hp:∀p∈es,0<p.2)(q:∀τ i,Up [] σ τ->dU τ i (Bp es)->Q (.ref i) τ):W ((ag gg (n+11)).C (aa 44) [.ref d]) Q σ:=by
 let aO:V->Pr:=λv5 H=>(W (aQ v5) λkU=>W (dq (.lst [])) λNU=>gj NU λa9=>aK (aJ (ag gg (n+8))) (eA (ay gg (n+8)) (ew (aF (aa 44).body [1])) a9) (λ_ _=>Q (.ref a9)) kU.2 kU.1 ⟨[],[]⟩) H;refine ce (p:=(W (aQ (.ref d)) λfz=>W (dq (.lst [])) λvK=>gj vK λa4=>aK (aJ (ag gg (n+7))) (eA (ay gg (n+7)) (jv 0 (ew (aF (aa 44).body [0]))) a4) (λ_ _=>W (aU "sorted" [.ref a4]) aO) fz.2 fz.1 ⟨[],[("frequencies",.ref d)]⟩) σ) ?_;refine nW hd (bG λa Kz u0 l0 ha=>rP ?_);have tl:(fL es).length=es.length:=length_map _;have vl:((fL es).map λe=>V.int e.1).length=es.length:=(length_map _).trans tl;refine gU (λb:V=>⟨[("symbol",b)],[("frequencies",.ref d)]⟩) (vl.trans tl.symm) (tl.symm▸h0) (λ_ v K τ _ h=>bk h)
  (λj τ=>Up [] σ τ/\τ[a]?=some (.lst ((es.take j).map (CH true)))) (λj τ h=>.d (h.1.at hd)) (λj v τ K hv ae q'=>?_) (λb τ ae=>?_) ⟨u0,ha⟩
 ·obtain⟨u,h⟩:=ae;rw[fL,List.map_map,getElem?_map]at hv;(refine dw hv λp hj vZ=>?_;subst vZ);have hm:=fP hj;have hk:aV (p.1:Int) (fL es)=some (.int p.2):=gB (ou nd) (List.mem_map_of_mem (f:=λp:Nat×Nat=>((p.1:Int),V.int (p.2:Nat))) hm);let aO:V->Pr:=λv3 H=>(W (d6 a (.tup [v3,(.int (-((p.1:Nat))))])) λ_=>K .next ⟨[("symbol",.int (p.1:Nat))],[("frequencies",.ref d)]⟩) H;let aZ:Bool->Pr:=λb2 H=>(cR b2 (W (aR (.ref d) (.int (p.1:Nat))) aO) (K .next ⟨[("symbol",.int (p.1:Nat))],[("frequencies",.ref d)]⟩)) H;let bW:V->Pr:=λv1 H=>(W (cX .Gt v1 (.int 0)) aZ) H;refine bk (p:=(W (aR (.ref d) (.int (p.1:Nat))) bW) τ) ?_;refine fV (u.at hd) hk (Aj (mv (dT (ofNat_lt.mpr (hp p hm))) (fV (u.at hd) hk (eZ h (aG ?_) λeW u1 h1=>q' (.int (p.1:Nat)) eW ⟨u.fresh l0 u1,?_⟩))))
  ·rw[length_map,length_take];lia
  ·rw[take_add_one,hj,map_append];exact h1
 ·(refine cH ae λuA h=>?_;clear ae);rw[tl,take_length]at h;refine Bj h hl λeW j u1 hj=>dj hj (bG λz dM u2 l2 hz=>rP ?_);have ol:(ie es).length=es.length:=(gn (b:=true) hl).2.1.length_eq;refine gU (λb:V×V=>⟨[("count",b.1),("turned",b.2)],[]⟩) (by rw[length_map,ol]) (by simp only[length_map,ol];exact h0) (λ_ v K τ hv h=>?_) (λk τ=>Up [] eW τ/\n8 τ z (λi=>(((ie es).getD i (0,0)).2,[(((ie es).getD i (0,0)).1:Int)])) k) (λk τ h=>.l (h.1.at hj)) (λk v τ K hv ae q'=>?_) (λb τ ae=>?_) ⟨u2,.zero hz⟩
  ·(refine dC hv λp _ OW=>?_;subst OW);exact bk h
  ·(refine cH ae λu B=>?_;clear ae);replace hv:=Eq.trans (Eq.symm (getElem?_map)) hv;(refine dw hv λp hk OO=>?_;subst OO);let aO:V->Pr:=λv1 H=>(W (d6 z (.tup [.int (p.2:Nat),v1])) λ_=>K .next ⟨[("count",.int (p.2:Nat)),("turned",(.int (-(p.1:Int))))],[]⟩) H;refine bk (p:=(W (dE [(.int (-((-(p.1:Int)))))]) aO) τ) ?_;refine bZ rfl λy gT u3 l3 hy=>?_;rw[Int.neg_neg]at hy;(refine cA (B.push (w:=p.2) (l:=[(p.1:Int)]) u3 l3 hy (by rw[getD_eq_getElem?_getD,hk];rfl)) λw hw Zg hq=>?_);have kK:k<(ie es).length:=(d0 hk).1;exact eZ hw (aG (by lia)) λjx u4 h4=>q' (_,_) jx ⟨(u.trans u3).fresh l2 u4,hq jx u4 h4⟩
  ·obtain⟨u,B⟩:=ae;have c:=B.done;rw[length_map]at c;refine q _ z ((uA.trans u1).trans u) ?_;have e:(range (ie es).length).map (λi=>(((ie es).getD i (0,0)).2,[(((ie es).getD i (0,0)).1:Int)]))=Bp es:=by
    apply ext_getElem
    ·rw[ck,Bp,length_map]
    ·intro i h1 h2;rw[ck]at h1;rw[getElem_map,getElem_range,getD_eq_getElem?_getD,getElem?_eq_getElem h1];exact(getElem_map (λp:Nat×Nat=>(p.2,[(p.1:Int)]))).symm
   exact e▸c
theorem lI{α β:Type}{f:Nat×α->Nat×β}(hf:∀c,(f c).1=c.1):∀{n:Nat}{A B:List (Nat×α)},qd n (A.map f) (B.map f)=(qd n A B).map f
 |0,_,_=>rfl
 |n+1,[],[]=>rfl
 |n+1,c::A,[]=>congrArg (f c:: ·) (lI (B:=[]) hf)
 |n+1,[],p::B=>congrArg (f p:: ·) (lI (A:=[]) hf)
 |n+1,c::A,p::B=>by
  refine(?_:(if(f c).1<=(f p).1 then f c::qd n (A.map f) ((p::B).map f)else f p::qd n ((c::A).map f) (B.map f))=(if c.1<=p.1 then c::qd n A (p::B)else p::qd n (c::A) B).map f);rw[hf,hf]
  split
  ·exact congrArg (f c:: ·) (lI hf)
  ·exact congrArg (f p:: ·) (lI hf)
theorem lH{α:Type}:∀{n:Nat}{A B:List (Nat×α)}{c:Nat×α},c∈qd n A B->c∈A\/c∈B
 |0,_,_,_,h=>nomatch h
 |n+1,[],[],_,h=>nomatch h
 |n+1,c::A,[],x,h=>by
  rcases bt h with rfl|h
  ·exact .inl eO
  ·exact(lH h).imp (fX _) id
 |n+1,[],p::B,x,h=>by
  rcases bt h with rfl|h
  ·exact .inr eO
  ·exact(lH h).imp id (fX _)
 |n+1,c::A,p::B,x,h=>by
  have h:x∈(if c.1<=p.1 then c::qd n A (p::B)else p::qd n (c::A) B):=h
  split at h
  ·rcases bt h with rfl|h
   ·exact .inl eO
   ·exact(lH h).imp (fX _) id
  ·rcases bt h with rfl|h
   ·exact .inr eO
   ·exact(lH h).imp id (fX _)
theorem Bu(hA:dU σ ci A)(hB:dU σ pi B)(hN:A.length+B.length<64)(q:∀τ i,Up [] σ τ->dU τ i (qd (A.length+B.length) A B)->Q (.ref i) τ):W ((ag gg (n+11)).C (aa 42) [.ref ci,.ref pi]) Q σ:=by
 (refine cA hA λcs hc h1 Th=>?_;clear hA;subst Th);(refine cA hB λps hp h2 Tf=>?_;clear hB;subst Tf);rw[d9,d9,length_map,length_map]at hN q;refine EB hc hp hN λτ i u _ h=>q τ i u ⟨_,h,?_,?_⟩
 ·exact λc hm=>((lH hm).elim (h1 c) (h2 c)).up u |>.1
 ·rw[lI (f:=λc:Nat×Nat=>(c.1,AK σ c.2)) λ_=>rfl];exact(lF u λc hm=>(lH hm).elim (h1 c) (h2 c)).2
noncomputable def EM{α:Type}(C r:List (Nat×List α)):List (Nat×List α):=qd (C.length+(I0 r).length) C (I0 r)
noncomputable def kD{α:Type}(C:List (Nat×List α)):Nat->List (Nat×List α)
 |0=>C
 |t+1=>EM C (kD C t)
noncomputable def pv{α:Type}(r:List (Nat×List α)):Bool:=ble 2 r.length&&(ble r.length 21&&r.all λc=>ble 1 c.2.length&&ble c.2.length 400)
section
variable{α β:Type}{g:α->β}
noncomputable def AJ(g:α->β)(c:Nat×List α):Nat×List β:=(c.1,c.2.map g)
theorem Fg:uL (l.map (AJ g)) k=AJ g (uL l k):=by
 have d:∀j,(l.map (AJ g)).getD j (0,[])=AJ g (l.getD j (0,[])):=λj=>by
  simp only[getD_eq_getElem?_getD,getD_eq_getElem?_getD,getElem?_map];cases l[j]? with
  |none=>rfl
  |some c=>rfl
 rw[uL,d,d];show(_,_)=((uL l k).1,(uL l k).2.map g);simp only[uL,map_append];rfl
theorem IZ:I0 (l.map (AJ g))=(I0 l).map (AJ g):=by
 simp only[I0,I0,List.map_map,length_map];exact dW λk _=>Fg
theorem wX:∀{t:Nat},kD (C.map (AJ g)) t=(kD C t).map (AJ g):=by
 intro l0
 induction l0 with
 |zero=>
  exact rfl
 |succ t hi=>
  simp only[kD,kD,EM,EM,hi,IZ,length_map,length_map];exact lI (f:=AJ g) λ_=>rfl
theorem te(h:pv r=true):pv (r.map (AJ g))=true:=by
 rw[pv,length_map,List.all_map];refine(congrArg (λx=>_&&(_&&x)) ?_).trans h;refine congrArg (r.all ·) (funext λc=>?_);refine(?_:(ble 1 (c.2.map g).length&&ble (c.2.map g).length 400)=_);rw[length_map]
end
noncomputable def pZ(fs:List Nat):List (Nat×List Nat):=(0,[0])::(range fs.length).map λi=>(fs.getD i 0,[i+1])
noncomputable def BZ(fs:List Nat):List Nat:=((kD (pZ fs) 15).take (2*fs.length)).flatMap (·.2)
@[irreducible] noncomputable def qL (fs:List Nat):List (Nat×Nat):=(eB (BZ fs)).filter λp=>decide (p.1≠0)
noncomputable def wK(cs:List Nat)(l:Nat):List Nat:=cs.set (l-1) (cs.getD (l-1) 0+1)
noncomputable def cU(ls:List Nat):List Nat:=ls.foldl wK (replicate 16 0)
noncomputable def jk:List Nat->Nat
 |[a]=>a
 |[a,b]=>b+2*a
 |[a,b,c]=>if c+2*b+3*a<=2*(a+b+c)then c+2*b+3*a else 2*(a+b+c)
 |_=>0
noncomputable def Hc(fs:List Nat):Bool:=
 let z:=qL fs;let ls:=z.map (·.2)
 decide (kY (z.map (·.1))=(range fs.length).map (· +1))&&ls.all (λl=>ble 1 l&&ble l 16)
 &&(match jH (cU ls) 1 0 0 with
  |some rs=>decide ((eI rs 1).map (·.2)=kY ls)&&(eI rs 1).all λx=>Nat.blt x.1 (2^x.2)
  |none=>false)
 &&(match oG ((cU ls).map λ(c:Nat)=>(c:Int))with
  |some m=>decide (0<=m)
  |none=>false)
 &&decide ((cU ls).sum=fs.length)
 &&(Nat.blt 3 fs.length||decide ((z.map λp=>fs.getD (p.1-1) 0*p.2).sum=jk fs))
noncomputable def NI(fs:List Nat):Bool:=(range 16).all (λt=>pv (kD (pZ fs) t))&&ble (2*fs.length) (kD (pZ fs) 15).length&&(eB (BZ fs)).any (λp=>decide (p.1=0))&&ble (BZ fs).length 900&&(BZ fs).all λa=>ble a fs.length
noncomputable def J7:Nat->Nat->Nat->List (List Nat)
 |0,_,_=>[[]]
 |f+1,lo,n=>[]::(range (n+1)).flatMap λa=>if ble lo a&&ble a n then(J7 f a (n-a)).map (a:: ·)else []
theorem R5:(J7 6 1 6).length=30:=by decide +kernel
theorem NJ:(J7 6 1 6).all (λfs=>fs.isEmpty||(NI fs&&Hc fs))=true:=by decide +kernel
noncomputable def gS(es:List (Nat×Nat)):List Nat:=(ie es).map (·.2)
noncomputable def mX(es:List (Nat×Nat)):Nat->Int
 |0=> -1
 |i+1=>((ie es).getD i (0,0)).1
theorem GY:(0,[-1])::Bp es=(pZ (gS es)).map (AJ (mX es)):=by
 simp only[pZ,map_cons];refine congrArg ((0,[-1]):: ·) ?_;simp only[List.map_map,Bp,gS,length_map];apply ext_getElem
 ·rw[length_map,ck]
 ·intro i h1 h2;rw[length_map]at h1;simp only[getElem_map,getElem_map,getElem_range];show(_,_)=((((ie es).map (·.2)).getD i 0),[((((ie es).getD i (0,0)).1:Nat):Int)]);simp only[getD_eq_getElem?_getD,getD_eq_getElem?_getD,getElem?_map,getElem?_eq_getElem h1];rfl
theorem Sf{B:Bool->Pr}(hi:σ[i]?=some (.lst u))(hj:σ[j]?=some (.lst []))(q:B u.isEmpty σ):W (cX .Eq (.ref i) (.ref j)) B σ:=bR (bC hi (bL hj (bN rfl (bP q))))
theorem dU.cell(C:dU σ i rows):∃cs,σ[i]?=some (.lst (cs.map cv))/\cs.length=rows.length/\(∀c∈cs,n6 σ c)/\d9 σ cs=rows:=by
 (refine cA C λcs h hh hr=>?_;clear C);exact(vg cs h (by simp only[<-hr,d9,length_map]) hh hr)
theorem Uc{l:List (Nat×Nat)}{α:Type}{r:List (Nat×List α)}(e:l.length=r.length)(h:pv r=true):cM (l.map cv).length=true:=aG (by
 rw[length_map,e];have:=(aP (aP h).2).1;exact ao (eK this) (by decide))
section
variable{d k:Nat}{es:List (Nat×Nat)}
noncomputable def Zo(d ci:Nat)(ro:Nat):List (Str×V):=[("frequencies",.ref d),("most",.int 16),("coins",.ref ci),("row",.ref ro)]
noncomputable def CT(es:List (Nat×Nat)):List (Nat×List Int):=(pZ (gS es)).map (AJ (mX es))
theorem wF(hC:dU σ ci (CT es))(hk:∀t,t<16->pv (kD (pZ (gS es)) t)=true){kf:Fl->ar->Pr}(q:∀ro t τ,Up [] σ τ->dU τ ro (kD (CT es) 15)->kf .next ⟨[("frequencies",.ref d),("most",.int 16),("coins",.ref ci),("row",.ref ro),("turn",t)],[]⟩ τ):aK (aJ (ag gg (n+19))) (bp (ay gg (n+19)) (aa 45).sc (aF (aa 45).body [5])) kf (15+1) (.items (dB 15)) ⟨[("frequencies",.ref d),("most",.int 16),("coins",.ref ci),("row",.ref ci)],[]⟩ σ:=by
 refine uN (c0:=ci) (λro:Nat=>⟨[("frequencies",.ref d),("most",.int 16),("coins",.ref ci),("row",.ref ro)],[]⟩) (λ(ro:Nat) (b:V)=>⟨[("frequencies",.ref d),("most",.int 16),("coins",.ref ci),("row",.ref ro),("turn",b)],[]⟩) ck (by decide) (λ_ _ v K τ _ h=>bk h) (λt ro τ=>Up [] σ τ/\dU τ ro (kD (CT es) t)) (λ_ _ _ _=>.inl rfl) (λt ro v τ K hv ae q'=>?_) (λro b τ ae=>q ro b τ ae.1 ae.2) ⟨.refl,hC⟩;obtain⟨u,R⟩:=ae;have ht:t<15:=by
  have:=(d0 hv).1
  rwa[ck]at this
 let aO:V->Pr:=λv2 H=>(K .next ⟨[("frequencies",.ref d),("most",.int 16),("coins",.ref ci),("row",v2),("turn",v)],[]⟩) H;let aZ:V->Pr:=λv1 H=>(W ((ag gg (n+17)).C (aa 42) [.ref ci,v1]) aO) H;refine bk (p:=(W ((ag gg (n+16)).C (aa 43) [.ref ro]) aZ) τ) ?_;have h1:=hk t (lt_succ_of_lt ht);have h2:pv (kD (CT es) t)=true:=by simp only[CT,wX];exact te h1
 obtain⟨a1,a2⟩:=aP h2;obtain⟨a2,a3⟩:=aP a2;have a1:=eK a1;have a2:=eK a2;have hc:=te (g:=mX es) (hk 0 (by decide));have c2:=eK (aP (aP hc).2).1;have c2:(CT es).length<=21:=c2;refine EA (m:=(kD (CT es) t).length-1) R (by omega) (λr hr=>?_) (by exact Nat.zero_lt_sub_of_lt a1) (by omega) λeW pi u1 P=>?_
 ·exact eK (aP (fO a3 r hr)).2
 ·have pl:(I0 (kD (CT es) t)).length<=21:=by simp only[I0,ck];lia
  exact Bu (hC.up (u.trans u1)) P (by lia) λdM i u2 M=>q' i v dM ⟨(u.trans u1).trans u2,M⟩
theorem C5(h:p∈eT es c):p.1=c\/∃p'∈es,p'.1=p.1:=by
 unfold eT at h
 split at h
 ·(refine dC h λx hx Ec=>?_;subst Ec)
  split
  ·exact .inl rfl
  ·exact .inr ⟨x,hx,rfl⟩
 ·exact(mem_append.mp h).elim (λh=>.inr ⟨p,h,rfl⟩) λh=>.inl (by rw[mem_singleton.mp h])
theorem xR:∀{l:List Nat}{p:Nat×Nat},p∈eB l->p.1∈l:=by
 have:∀(l:List Nat)(es:List (Nat×Nat))(S:List Nat),(∀p∈es,p.1∈S)->∀p∈l.foldl eT es,p.1∈S++l:=λl=>by
  induction l with
  |nil=>exact λes S h p hp=>mem_append_left _ (h p hp)
  |cons c l ih=>
   intro es S h p hp;have:=ih (eT es c) (S++[c]) (λp hp=>(C5 hp).elim (λe=>mem_append_right _ (e▸mem_singleton.mpr rfl)) λLQ=>ak LQ λp' h' e=>mem_append_left _ (e▸h p' h')) p hp
   rwa[append_assoc]at this
 exact λ{l p} h=>this l [] [] nofun p h
def HX(f:Nat->Int)(l:List Nat):Prop:=∀a∈l,∀b∈l,f a=f b->a=b
theorem HX.tells{f:Nat->Int}(I:HX f l)(h:∀a∈pre,a∈l)(hc:c∈l):sv f c (eB pre):=λp hp e=>I _ (h _ (xR hp)) _ hc e
theorem xV{kf:Fl->ar->Pr}(hz:σ[z]?=some (.cG (n9 (mX es) (eB pre)) kz))(hs:σ[si]?=some (.lst ((l.map (mX es)).map .int)))(hl:0<l.length)(I:HX (mX es) (pre++l))(hb:(pre++l).length<=900)(he:∀s K τ,(W (az gg (.ref z) "get") (bA (ag gg (n+15)) (λK2=>K2 [.int s,.int 0]) (.ref z) λv1=>W (ai .Add v1 (.int 1)) λv3=>W (iI (.ref z) (.int s) v3) λ_=>K .next ⟨[("frequencies",.ref d),("most",.int 16),("coins",.ref ci),("row",.ref ro),("turn",t),("sizes",.ref z),("worth",w),("symbols",.ref si),("symbol",.int s)],[]⟩)) τ->bp (ay gg (n+18)) (aa 45).sc (aF (aa 45).body [7,0]) (.int s) e0 K τ)(Cu:∀b s K τ,(W (az gg (.ref z) "get") (bA (ag gg (n+15)) (λK2=>K2 [.int s,.int 0]) (.ref z) λv1=>W (ai .Add v1 (.int 1)) λv3=>W (iI (.ref z) (.int s) v3) λ_=>K .next ⟨[("frequencies",.ref d),("most",.int 16),("coins",.ref ci),("row",.ref ro),("turn",t),("sizes",.ref z),("worth",w),("symbols",.ref si),("symbol",.int s)],[]⟩)) τ->bp (ay gg (n+18)) (aa 45).sc (aF (aa 45).body [7,0]) (.int s) ⟨[("frequencies",.ref d),("most",.int 16),("coins",.ref ci),("row",.ref ro),("turn",t),("sizes",.ref z),("worth",w),("symbols",.ref si),("symbol",b)],[]⟩ K τ)(q:∀b τ k',Up [z] σ τ->τ[z]?=some (.cG (n9 (mX es) (eB (pre++l))) k')->kf .next ⟨[("frequencies",.ref d),("most",.int 16),("coins",.ref ci),("row",.ref ro),("turn",t),("sizes",.ref z),("worth",w),("symbols",.ref si),("symbol",b)],[]⟩ τ):aK (aJ (ag gg (n+18))) (bp (ay gg (n+18)) (aa 45).sc (aF (aa 45).body [7,0])) kf (l.length+1) (.list si 0) e0 σ:=by
 refine oA (c0:=()) (λ_ e=>∃b,e=⟨[("frequencies",.ref d),("most",.int 16),("coins",.ref ci),("row",.ref ro),("turn",t),("sizes",.ref z),("worth",w),("symbols",.ref si),("symbol",b)],[]⟩) (vs:=(l.map (mX es)).map .int) (by rw[length_map,length_map]) hl (λj _ τ=>Up [z] σ τ/\∃k',τ[z]?=some (.cG (n9 (mX es) (eB (pre++l.take j))) k')) (λj _ τ ae=>.l (ae.1.ne hs (bV hs hz nofun))) (λj _ v e τ K hv hE ae q'=>?_) (λ_ e τ Ik ae=>eL Ik λb hb=>?_) ⟨.refl,kz,by simp only[List.take_zero,append_nil];exact hz⟩
 ·(refine pP ae λu k' H3=>?_;clear ae);replace hv:=((getElem?_map)▸((List.map_map)▸hv));(refine dw hv λc hc DU=>?_;subst DU);have Gs:=fP hc;have T:sv (mX es) c (eB (pre++l.take j)):=I.tells (λa ha=>(mem_append.mp ha).elim (mem_append_left _) λh=>mem_append_right _ (mem_of_mem_take h)) (mem_append_right _ Gs);have hle:(eB (pre++l.take j)).length<=1000:=ao nR (ao (by simp only[length_append,length_append,length_take];omega) (ao hb (by decide)));have t:=m4 (n:=n+15) (X:=λ_=>K .next ⟨[("frequencies",.ref d),("most",.int 16),("coins",.ref ci),("row",.ref ro),("turn",t),("sizes",.ref z),("worth",w),("symbols",.ref si),("symbol",.int (mX es c))],[]⟩) T H3 hle λeM k2 u' h'=>q' () _ eM ⟨_,rfl⟩ ⟨u.trans u',k2,by rw[take_add_one,hc,<-append_assoc];exact oX▸h'⟩
  rcases hE with⟨rfl,_⟩|⟨b,rfl⟩
  ·exact he _ _ _ t
  ·exact Cu _ _ _ _ t
 ·(refine pP ae λu k' H3=>?_;clear ae);rw[take_length]at H3;exact hb▸q b τ k' u H3
theorem m7{z si ci ro:Nat}{t:V}{cs:List (Nat×Nat)}{rows:List (Nat×List Nat)}{kf:Fl->ar->Pr}(hz:σ[z]?=some (.cG [] 0))(hs:σ[si]?=some (.lst (cs.map cv)))(hh:∀c∈cs,n6 σ c)(hr:d9 σ cs=rows.map (AJ (mX es)))(h0:0<rows.length)(h1:∀r∈rows,0<r.2.length)(I:HX (mX es) (rows.flatMap (·.2)))(hb:(rows.flatMap (·.2)).length<=900)(q:∀(b:V×V×V) τ k',Up [z] σ τ->τ[z]?=some (.cG (n9 (mX es) (eB (rows.flatMap (·.2)))) k')->kf .next ⟨[("frequencies",.ref d),("most",.int 16),("coins",.ref ci),("row",.ref ro),("turn",t),("sizes",.ref z),("worth",b.1),("symbols",b.2.1),("symbol",b.2.2)],[]⟩ τ):aK (aJ (ag gg (n+19))) (bp (ay gg (n+19)) (aa 45).sc (aF (aa 45).body [7])) kf (rows.length+1) (.list si 0) ⟨[("frequencies",.ref d),("most",.int 16),("coins",.ref ci),("row",.ref ro),("turn",t),("sizes",.ref z)],[]⟩ σ:=by
 have cl:cs.length=rows.length:=by
  have:=congrArg List.length hr
  rwa[d9,length_map,length_map]at this
 refine oA (c0:=()) (λ_ e=>∃b:V×V×V,e=⟨[("frequencies",.ref d),("most",.int 16),("coins",.ref ci),("row",.ref ro),("turn",t),("sizes",.ref z),("worth",b.1),("symbols",b.2.1),("symbol",b.2.2)],[]⟩) (vs:=cs.map cv) (by rw[length_map,cl]) h0 (λj _ τ=>Up [z] σ τ/\∃k',τ[z]?=some (.cG (n9 (mX es) (eB ((rows.take j).flatMap (·.2)))) k')) (λj _ τ ae=>.l (ae.1.ne hs (bV hs hz nofun))) (λj _ v e τ K hv hE ae q'=>?_) (λ_ e τ Ii ae=>eL Ii λb hb=>?_) ⟨.refl,0,hz⟩
 ·(refine pP ae λu k' H3=>?_;clear ae);rw[getElem?_map]at hv;(refine dw hv λc hc sX=>?_;subst sX);have Gs:=fP hc;have ne:=bV (hh c Gs).cell hz nofun;have e2:=congrArg (·[j]?) hr;have e2:=e2;rw[d9,getElem?_map,hc,getElem?_map]at e2;refine dw e2.symm λr V5 er=>?_;have Uz:=fP V5;have hp:τ[c.2]?=some (.lst ((r.2.map (mX es)).map .int)):=by
   have:=u.ne (hh c Gs).cell ne
   rwa[<-(Prod.mk.inj er).2]at this
  have pre:∀x∈(rows.take j).flatMap (·.2)++r.2,x∈rows.flatMap (·.2):=λx hx=>(mem_append.mp hx).elim (λh=>by
   refine ak (mem_flatMap.mp h) λy hy h=>?_;exact mem_flatMap.mpr ⟨y,mem_of_mem_take hy,h⟩) λh=>mem_flatMap.mpr ⟨r,Uz,h⟩
  have en:(rows.take (j+1)).flatMap (·.2)=(rows.take j).flatMap (·.2)++r.2:=by simp only[take_add_one,V5,List.flatMap_append];exact congrArg (_++ ·) (append_nil _)
  have len:((rows.take j).flatMap (·.2)++r.2).length<=900:=by
   refine en▸?_;refine ao ?_ hb;have:=congrArg (λl=>(l.flatMap λr:Nat×List Nat=>r.2).length) (List.take_append_drop (j+1) rows);rw[List.flatMap_append,length_append]at this;exact ao (le_add_right _ _) (Nat.le_of_eq this)
  have fin:∀b eM k2,Up [z] τ eM->eM[z]?=some (.cG (n9 (mX es) (eB ((rows.take j).flatMap (·.2)++r.2))) k2)->K .next ⟨[("frequencies",.ref d),("most",.int 16),("coins",.ref ci),("row",.ref ro),("turn",t),("sizes",.ref z),("worth",.int (c.1:Nat)),("symbols",.ref c.2),("symbol",b)],[]⟩ eM:=λb eM k2 u' h'=>q' () _ eM ⟨(_,_,_),rfl⟩ ⟨u.trans u',k2,by rw[en];exact h'⟩;have I':HX (mX es) ((rows.take j).flatMap (·.2)++r.2):=λa ha b hb=>I a (pre a ha) b (pre b hb)
  rcases hE with⟨rfl,_⟩|⟨b,rfl⟩
  ·refine bk (p:=(W (aQ (.ref c.2)) λrk=>aK (aJ (ag gg (n+18))) (bp (ay gg (n+18)) (aa 45).sc (aF (aa 45).body [7,0])) (bx (ay gg (n+19)) (aa 45).sc ((dQ (aF (aa 45).body [7])).drop 1) K) rk.2 rk.1 ⟨[("frequencies",.ref d),("most",.int 16),("coins",.ref ci),("row",.ref ro),("turn",t),("sizes",.ref z),("worth",.int (c.1:Nat)),("symbols",.ref c.2)],[]⟩) τ) (dj hp ?_);rw[length_map,length_map];exact xV (d:=d) (ci:=ci) (ro:=ro) (t:=t) (w:=.int (c.1:Nat)) H3 hp (h1 r Uz) I' len (λs K τ h=>bk h) (λb s K τ h=>bk h) λb eM k2 u' h'=>bk (fin b eM k2 u' h')
  ·refine bk (p:=(W (aQ (.ref c.2)) λrk=>aK (aJ (ag gg (n+18))) (bp (ay gg (n+18)) (aa 45).sc (aF (aa 45).body [7,0])) (bx (ay gg (n+19)) (aa 45).sc ((dQ (aF (aa 45).body [7])).drop 1) K) rk.2 rk.1 ⟨[("frequencies",.ref d),("most",.int 16),("coins",.ref ci),("row",.ref ro),("turn",t),("sizes",.ref z),("worth",.int (c.1:Nat)),("symbols",.ref c.2),("symbol",b.2.2)],[]⟩) τ) (dj hp ?_);rw[length_map,length_map];exact xV (d:=d) (ci:=ci) (ro:=ro) (t:=t) (w:=.int (c.1:Nat)) H3 hp (h1 r Uz) I' len (λs K τ h=>bk h) (λb s K τ h=>bk h) λb eM k2 u' h'=>bk (fin b eM k2 u' h')
 ·(refine pP ae λu k' H3=>?_;clear ae);rw[take_length]at H3;exact hb▸q b τ k' u H3
theorem ux:0<=mX es (i+1):=f7 _
theorem Iu(nd:(es.map (·.1)).Nodup)(hl:es.length<=6)(ha:a<=es.length)(hb:b<=es.length)(e:mX es a=mX es b):a=b:=by
 have ol:=(gn (b:=true) hl).2.1
 match a,b with
 |0,0=>rfl
 |0,b+1=>exact absurd (show(0:Int)<= -1 from(show(0:Int)<=mX es 0 from e▸ux)) (by decide)
 |a+1,0=>exact absurd (show(0:Int)<= -1 from(show(0:Int)<=mX es 0 from e▸ux)) (by decide)
 |a+1,b+1=>
  have ha:a<(ie es).length:=ol.length_eq▸ha;have hb:b<(ie es).length:=ol.length_eq▸hb;have Xy:=(ol.map (·.1)).nodup_iff.mpr nd;have e:=e;have e:=ofNat.inj e;rw[getD_eq_getElem?_getD,getD_eq_getElem?_getD,getElem?_eq_getElem ha,getElem?_eq_getElem hb]at e;have e:=e;have l1:a<((ie es).map (·.1)).length:=(length_map _).symm▸ha;exact congrArg (· +1) ((getElem?_inj l1 Xy).mp (by simp only[getElem?_map,getElem?_map,getElem?_eq_getElem ha,getElem?_eq_getElem hb];exact congrArg some e))
theorem HG{K:Type}[DecidableEq K]{k:K}:∀{l:List (K×V)},(∃v,(k,v)∈l)->∃v,aV k l=some v:=by
 intro l0
 induction l0 with
 |nil=>
  rintro⟨_,h⟩;exact nomatch h
 |cons hd r hi=>
  obtain⟨a,w⟩:=hd;rintro⟨v,h⟩;refine(?_:∃v,(if a=k then some w else aV k r)=some v);by_cases e:a=k
  ·exact⟨w,if_pos e⟩
  ·rw[if_neg e];exact hi ((bt h).elim (λh=>absurd (Prod.mk.inj h).1.symm e) λh=>⟨v,h⟩)
theorem HJ:Ah (-1) (n9 (mX es) l)=n9 (mX es) (l.filter λp=>decide (p.1≠0)):=by
 simp only[Ah,n9,n9,List.filter_map];refine congrArg (List.map _) (List.filter_congr λp _=>decide_eq_decide.mpr (not_congr ?_))
 match p with
 |(0,_)=>exact⟨λ_=>rfl,λ_=>rfl⟩
 |(i+1,x)=>exact⟨λe=>absurd (e▸ux:(0:Int)<= -1) (by decide),λe=>absurd e (succ_ne_zero i)⟩
theorem um(hd:σ[d]?=some (.cG (fL es) k))(h0:0<es.length)(hl:es.length<=6)(nd:(es.map (·.1)).Nodup)(hp:∀p∈es,0<p.2)(hR:NI (gS es)=true)(q:∀τ i k',Up [] σ τ->τ[i]?=some (.cG (n9 (mX es) (qL (gS es))) k')->Q (.ref i) τ):W ((ag gg (n+21)).C (aa 45) [.ref d,.int 16]) Q σ:=by
 let aO:V->Pr:=λv4 H=>(Q v4) H;let aZ:V->V->Pr:=λv7 kJ H=>(W (aQ kJ) λpF=>aK (aJ (ag gg (n+19))) (bp (ay gg (n+19)) (aa 45).sc (aF (aa 45).body [5])) (bx (ay gg (n+20)) (aa 45).sc ((aa 45).body.drop 6) (cz Q)) pF.2 pF.1 ⟨[("frequencies",.ref d),("most",.int 16),("coins",v7),("row",v7)],[]⟩) H;let bW:V->V->Pr:=λv7 v11 H=>(W (aX "range" [v11]) (aZ v7)) H;let c8:V->Bool->Pr:=λv7 R3 H=>(cR R3 no (W (ai .Sub (.int 16) (.int 1)) (bW v7))) H;let dG:V->V->V->Pr:=λv7 v8 v9 H=>(W (cX .Gt v8 v9) (c8 v7)) H;let dR:V->V->Pr:=λv7 v8 H=>(W (ai .Pow (.int 2) (.int 16)) (dG v7 v8)) H;let fC:V->Pr:=λv7 H=>(W (aU "len" [v7]) (dR v7)) H;let gX:V->V->Pr:=λv1 v6 H=>(W (ai .Add v6 v1) fC) H;let iU:V->V->Pr:=λv1 v5 H=>(W (dE [(.tup [.int 0,v5])]) (gX v1)) H;let eE:V->Bool->Pr:=λv1 b3 H=>(cR b3 (W (dq (.cG [] 0)) aO) (W (dE [.int (-1)]) (iU v1))) H;let fj:V->V->Pr:=λv1 v2 H=>(W (cX .Eq v1 v2) (eE v1)) H;let gY:V->Pr:=λv1 H=>(W (dE []) (fj v1)) H;refine ce (p:=(W ((ag gg (n+18)).C (aa 44) [.ref d]) gY) σ) ?_;have ol:(ie es).length=es.length:=(gn (b:=true) hl).2.1.length_eq;have fl:(gS es).length=es.length:=(length_map _).trans ol;have Zn:(CT es).length=es.length+1:=by rw[CT,length_map,pZ,length_cons,ck,fl]
 obtain⟨hR,r5⟩:=aP hR;obtain⟨hR,r4⟩:=aP hR;obtain⟨hR,r3⟩:=aP hR;obtain⟨r1,r2⟩:=aP hR;have r2:=eK r2;have r1:∀t,t<16->pv (kD (pZ (gS es)) t)=true:=λt ht=>fO r1 t (mem_range.mpr ht);refine yI hd h0 hl nd hp λeW ci u1 C1=>bZ rfl λx2 dM u2 l2 h2=>?_;refine nM (C1.cell) λcs Ox gH Rt Yq=>?_;have gH:cs.length=es.length:=by simp only[gH,Bp,length_map,ol]
 have ne:(cs.map cv).isEmpty=false:=by
  induction cs using List.casesOn with
  |nil=>exact absurd h0 (gH▸Nat.lt_irrefl 0)
  |cons=>rfl
 refine Sf (u2.at Ox) h2 (iy ne (bZ rfl λx3 gT u3 l3 h3=>bZ rfl λx4 jx u4 l4 h4=>HS h4 ((u2.trans (u3.trans u4)).at Ox) (bZ (aG ?_) λro sW u5 l5 h5=>?_)))
 ·simp only[length_append,length_map,gH];exact ao (Nat.add_le_add_left hl 1) (by decide)
 ·have Sz:=u2.trans (u3.trans (u4.trans u5));have hC:dU sW ro (CT es):=⟨(0,x3)::cs,h5,λc hc=>(bt hc).elim (λe=>e▸⟨[-1],(u4.trans u5).at h3⟩) λhc=>((Rt c hc).up Sz).1,by
   simp only[CT,<-GY,<-Yq,<-(lF Sz Rt).2];show(0,AK sW x3)::d9 sW cs=_;rw[mC (l:=[-1]) ((u4.trans u5).at h3)]⟩
  have L5:([V.tup [.int 0,.ref x3]]++cs.map cv).length=es.length+1:=by simp only[length_append,length_map,gH];exact Nat.add_comm _ _
  refine dr h5 (aG (L5▸ao (succ_le_succ hl) (by decide))) (sg rfl (Aj (iy ?_ (di (cy (c7 (m:=15) (by decide) ?_))))))
  ·have h: ¬(((2:Int)^(16:Int).toNat)<((es.length+1:Nat):Int)):=by
    lia
   refine Eq.symm L5▸?_;exact dF h
  ·refine wF (d:=d) (es:=es) hC r1 λrw t Ky u6 Rr=>?_;let aO:V->V->Pr:=λv1 v6 H=>(W (aQ v6) λkU=>aK (aJ (ag gg (n+19))) (bp (ay gg (n+19)) (aa 45).sc (aF (aa 45).body [7])) (bx (ay gg (n+20)) (aa 45).sc ((aa 45).body.drop 8) (cz Q)) kU.2 kU.1 ⟨[("frequencies",.ref d),("most",.int 16),("coins",.ref ro),("row",.ref rw),("turn",t),("sizes",v1)],[]⟩) H;let aZ:V->Int->Pr:=λv1 i5 H=>(W (rb (.ref rw) none (some i5)) (aO v1)) H;let bW:V->V->Pr:=λv1 v4 H=>(R (f6 v4) (aZ v1)) H;let c8:V->V->Pr:=λv1 v3 H=>(W (ai .Sub v3 (.int 2)) (bW v1)) H;let dG:V->V->Pr:=λv1 v2 H=>(W (ai .Mult (.int 2) v2) (c8 v1)) H;let dR:V->Pr:=λv1 H=>(W (aU "len" [.ref ro]) (dG v1)) H;refine bk (p:=(W (dq (.cG [] 0)) dR) Ky) ?_;refine bG λz VF u7 l7 h7=>dr ((u6.trans u7).at h5) (aG (L5▸ao (succ_le_succ hl) (by decide))) (dX (ic (L5▸ao (succ_le_succ hl) (by decide))) (di ?_));refine Eq.symm L5▸?_;refine nM ((Rr.up u7).cell) λc2 SV Gu Wl SM=>?_;rw[CT,wX]at SM Gu;rw[length_map]at Gu;have e2:(2:Int)*((es.length+1:Nat):Int)-2=((2*es.length:Nat):Int):=by exact Int.sub_eq_iff_eq_add.mpr rfl
   refine Eq.symm e2▸?_;refine N7 SV (Uc Gu (r1 15 (by decide))) (w:=(c2.take (2*es.length)).map cv) ?_ ?_
   ·have hle:2*es.length<=(c2.map cv).length:=by simp only[length_map,Gu,<-fl];exact r2
    show(if _ then _ else _)=_;rw[if_pos ⟨natCast_nonneg _,ofNat_le.mpr hle⟩,map_take];rfl
   ·have tl:(c2.take (2*es.length)).length=2*es.length:=by rw[length_take,Gu,<-fl];exact Nat.min_eq_left r2
    refine bZ (aG (by rw[length_map,tl];lia)) λsi Sv u8 l8 h8=>dj h8 ?_;have X4:d9 Sv (c2.take (2*es.length))=((kD (pZ (gS es)) 15).take (2*(gS es).length)).map (AJ (mX es)):=by
     rw[fl,map_take,<-SM,<-(lF u8 Wl).2,d9,d9,map_take]
    have Q7:((kD (pZ (gS es)) 15).take (2*(gS es).length)).length=((c2.take (2*es.length)).map cv).length:=by
     simp only[length_map,tl,length_take,fl];exact Nat.min_eq_left (fl▸r2)
    have Xx:=aP (aP (r1 15 (by decide))).2;refine Q7▸?_;have out:((kD (pZ (gS es)) 15).take (2*(gS es).length)).flatMap (·.2)=BZ (gS es):=rfl;refine m7 (d:=d) (ci:=ro) (ro:=rw) (t:=t) (u8.at h7) h8 (λc hc=>((Wl c (mem_of_mem_take hc)).up u8).1) X4 (by simp only[Q7,length_map,tl];exact Nat.succ_mul_pos 1 h0) (λr hr=>?_) (λa ha b hb=>?_) (eK r4) λb Tc k9 u9 h9=>?_
    ·exact eK (aP (fO Xx.2 r (mem_of_mem_take hr))).1
    ·exact Iu nd hl (fl▸eK (fO r5 a ha)) (fl▸eK (fO r5 b hb))
    ·let aO:V->Pr:=λv1 H=>(Q (.ref z)) H;refine bk (p:=(W (az gg (.ref z) "pop") (bA (ag gg (n+18)) (λK2=>K2 [.int (-1)]) (.ref z) aO)) Tc) ?_;rw[out]at h9;refine ak (List.any_eq_true.mp r3) λp Gk e0=>?_;have e0:=fh e0;obtain⟨v,hv⟩:=HG (k:=(-1:Int)) (l:=n9 (mX es) (eB (BZ (gS es)))) ⟨.int p.2,mem_map.mpr ⟨p,Gk,by rw[e0];rfl⟩⟩;refine fg h9 Je (Sa h9 hv (aG ?_) λLI uA hA=>q LI z _ ?_ (by unfold qL;exact HJ▸hA))
     ·simp only[n9,length_map];exact ao nR (ao (eK r4) (by decide))
     ·exact(((u1.trans Sz).trans u6).trans (u7.trans u8)).fresh (ao (((u1.trans Sz).trans u6)).1 l7) (u9.trans uA)
end
noncomputable def cp(l:List Nat):List V:=l.map λ(c:Nat)=>.int c
theorem BG{cs:List Nat}{l:Nat}:(wK cs l).length=cs.length:=length_set
theorem iW{ls:List Nat}:(cU ls).length=16:=by
 have:∀(ls cs:List Nat),(ls.foldl wK cs).length=cs.length:=λls=>by
  induction ls with
  |nil=>exact λcs=>rfl
  |cons l ls ih=>exact λcs=>(ih _).trans BG
 exact(this ls _).trans List.length_replicate
theorem uw{ls:List Nat}{l:Nat}:cU (ls++[l])=wK (cU ls) l:=by rw[cU,List.foldl_append];rfl
theorem B9{cs:List Nat}{i:Nat}(h:i<cs.length):(cp cs)[i]?=some (.int (cs.getD i 0:Nat)):=by
 simp only[cp,getElem?_map,getD_eq_getElem?_getD,getElem?_eq_getElem h];rfl
section
variable{z k:Nat}{zs:List (Nat×Nat)}
theorem yE(hz:σ[z]?=some (.cG (fL zs) k))(h0:0<zs.length)(hl:zs.length<=6)(nd:(zs.map (·.1)).Nodup)(hs:∀p∈zs,1<=p.2/\p.2<=16)(q:∀τ,Up [] σ τ->Q (.tup [.tup (cp (cU (zs.map (·.2)))),.tup (cp ((lT false zs).map (·.1)))]) τ):W ((ag gg (n+11)).C (aa 46) [.ref z]) Q σ:=by
 let aO:V->Pr:=λv2 H=>(W (aQ (.ref z)) λc9=>aK (aJ (ag gg (n+9))) (bp (ay gg (n+9)) (aa 46).sc (aF (aa 46).body [1])) (bx (ay gg (n+10)) (aa 46).sc ((aa 46).body.drop 2) (cz Q)) c9.2 c9.1 ⟨[("sizes",.ref z),("counts",v2)],[]⟩) H;let aZ:V->Pr:=λv1 H=>(W (ai .Mult v1 (.int 16)) aO) H;refine ce (p:=(W (dE [.int 0]) aZ) σ) ?_;have tl:(fL zs).length=zs.length:=length_map _;have vl:((fL zs).map λe=>V.int e.1).length=(fL zs).length:=length_map _;refine bZ rfl λx eW u1 l1 h1=>sj h1 (by rfl) (bZ (by kernel_rfl) λc dM u2 l2 h2=>?_);have h2:dM[c]?=some (.lst (cp (replicate 16 0))):=h2;have VT:=u1.trans u2;have lc:σ.length<=c:=ao u1.1 l2;refine nW (VT.at hz) (gU (λb:V=>⟨[("sizes",.ref z),("counts",.ref c),("symbol",b)],[]⟩) vl (tl▸h0) (λ_ v K τ _ h=>bk h) (λj τ=>Up [] σ τ/\τ[c]?=some (.lst (cp (cU ((zs.take j).map (·.2)))))) (λj τ ae=>.d (ae.1.at hz)) (λj v τ K hv ae q'=>?_) (λb LI ae=>?_) ⟨VT,h2⟩)
 ·obtain⟨u,h⟩:=ae;rw[fL,List.map_map,getElem?_map]at hv;(refine dw hv λp hj yB=>?_;subst yB);have hm:=fP hj;have hk:aV (p.1:Int) (fL zs)=some (.int p.2):=gB (ou nd) (List.mem_map_of_mem (f:=λp:Nat×Nat=>((p.1:Int),V.int (p.2:Nat))) hm);obtain⟨m,H6⟩:=Nat.exists_eq_add_of_le' (hs p hm).1;have JC:m<16:=by have:=(hs p hm).2;lia
  rw[H6]at hk;let aO:Unit->Pr:=λ_ H=>(K .next ⟨[("sizes",.ref z),("counts",.ref c),("symbol",.int (p.1:Nat))],[]⟩) H;let aZ:V->V->Pr:=λv4 v6 H=>(W (iI (.ref c) v6 v4) aO) H;let bW:V->V->Pr:=λv4 v5 H=>(W (ai .Sub v5 (.int 1)) (aZ v4)) H;let c8:V->Pr:=λv4 H=>(W (aR (.ref z) (.int (p.1:Nat))) (bW v4)) H;let dG:V->Pr:=λv3 H=>(W (ai .Add v3 (.int 1)) c8) H;let dR:V->Pr:=λv2 H=>(W (aR (.ref c) v2) dG) H;let fC:V->Pr:=λv1 H=>(W (ai .Sub v1 (.int 1)) dR) H;refine bk (p:=(W (aR (.ref z) (.int (p.1:Nat))) fC) τ) ?_;refine fV (u.at hz) hk (di ?_);rw[hU];refine cg h (rj JC (by decide)) (B9 (iW.symm▸JC)) (cq (fV (u.at hz) hk (di ?_)));rw[hU];refine nU h (rj JC (by decide)) (ble_eq_true_of_le (by simp only[cp,length_map,iW];exact JC)) λeW u1 h1=>q' _ eW ⟨u.fresh lc u1,?_⟩;simp only[h1,take_add_one,hj,map_append];show _=some (aL.lst (cp (cU ((zs.take j).map (·.2)++[p.2]))));simp only[uw,wK,H6,cp,cp,List.map_set];rfl
 ·(refine cH ae λuA hc=>?_;clear ae);rw[tl,take_length]at hc;let aO:V->V->Pr:=λv6 v11 H=>(Q (.tup [v6,v11])) H;let aZ:V->V->Pr:=λv5 v6 H=>(W (aQ v5) λF0=>W (dq (.lst [])) λVk=>gj Vk λWI=>aK (aJ (ag gg (n+6))) (eA (ay gg (n+6)) (jv 0 (jv 1 (ew (aF (aa 46).body [3])))) WI) (λ_ _=>W (aX "tuple" [.ref WI]) (aO v6)) F0.2 F0.1 ⟨[],[]⟩) H;let bW:V->Pr:=λv5 H=>(W (aX "tuple" [.ref c]) (aZ v5)) H;refine bk (p:=(W (aQ (.ref z)) λfz=>W (dq (.lst [])) λvK=>gj vK λa4=>aK (aJ (ag gg (n+7))) (eA (ay gg (n+7)) (jv 0 (ew (aF (aa 46).body [2]))) a4) (λ_ _=>W (aU "sorted" [.ref a4]) bW) fz.2 fz.1 ⟨[],[("sizes",.ref z)]⟩) LI) ?_;refine nW (uA.at hz) (bG λa gT u3 l3 h3=>rP ?_);refine gU (λb:V=>⟨[("symbol",b)],[("sizes",.ref z)]⟩) vl (tl▸h0) (λ_ v K τ _ h=>bk h) (λj τ=>Up [] LI τ/\τ[a]?=some (.lst ((zs.take j).map (CH false)))) (λj τ ae=>.d (ae.1.at (uA.at hz))) (λj v τ K hv ae q'=>?_) (λb Su ae=>?_) ⟨u3,h3⟩
  ·(refine cH ae λu h=>?_;clear ae);rw[fL,List.map_map,getElem?_map]at hv;(refine dw hv λp hj wk=>?_;subst wk);have hm:=fP hj;have hk:aV (p.1:Int) (fL zs)=some (.int p.2):=gB (ou nd) (List.mem_map_of_mem (f:=λp:Nat×Nat=>((p.1:Int),V.int (p.2:Nat))) hm);let aO:V->Pr:=λv1 H=>(W (d6 a (.tup [v1,.int (p.1:Nat)])) λ_=>K .next ⟨[("symbol",.int (p.1:Nat))],[("sizes",.ref z)]⟩) H;refine bk (p:=(W (aR (.ref z) (.int (p.1:Nat))) aO) τ) ?_;refine fV (u.at (uA.at hz)) hk (eZ h (aG ?_) λjx u4 h4=>q' (.int (p.1:Nat)) jx ⟨u.fresh l3 u4,?_⟩)
   ·rw[length_map,length_take];lia
   ·rw[take_add_one,hj,map_append];exact h4
  ·obtain⟨uB,h⟩:=ae;rw[tl,take_length]at h;refine Bj h hl λjx i u4 h4=>yj ((uB.trans u4).at hc) (aG (by simp only[cp,length_map,iW];decide)) (dj h4 (bG λa2 sW u5 l5 h5=>rP ?_));have ol:(lT false zs).length=zs.length:=(gn hl).2.1.length_eq;refine gU (λb:V×V=>⟨[("size",b.1),("symbol",b.2)],[]⟩) rfl (by simp only[length_map,ol];exact h0) (λ_ v K τ hv h=>?_) (λj τ=>Up [] jx τ/\τ[a2]?=some (.lst (cp (((lT false zs).take j).map (·.1))))) (λj τ ae=>.l (ae.1.at h4)) (λj v τ K hv ae q'=>?_) (λb τ ae=>?_) ⟨u5,h5⟩
   ·(refine dC hv λp _ qw=>?_;subst qw);exact bk h
   ·(refine cH ae λu h=>?_;clear ae);replace hv:=Eq.trans (Eq.symm (getElem?_map)) hv;(refine dw hv λp hj DS=>?_;subst DS);refine bk (p:=(W (d6 a2 (.int (p.1:Nat))) λ_=>K .next ⟨[("size",.int (p.2:Nat)),("symbol",.int (p.1:Nat))],[]⟩) τ) ?_;refine eZ h (aG ?_) λKy u6 h6=>q' (_,_) Ky ⟨u.fresh l5 u6,?_⟩
    ·simp only[cp,length_map,length_map,length_take];lia
    ·simp only[take_add_one,hj,map_append,cp,map_append];exact h6
   ·(refine cH ae λu h=>?_;clear ae);rw[length_map,take_length]at h;exact yj h (aG (by simp only[cp,length_map,length_map];lia)) (q _ (uA.trans (uB.trans (u4.trans u))))
end
theorem yu.all{α:Type}{le:α->α->Prop}(tr:∀x y z,le x y->le y z->le x z):∀{l:List α},yu le l->l.Pairwise le
 |[],_=>.nil
 |x::r,h=>by
  have ih:=h.2.all tr;refine .cons (λy hy=>?_) ih
  induction r using List.casesOn with
  |nil=>cases hy
  |cons z r=>
   have hz:=h.1 z rfl
   rcases bt hy with rfl|hy
   ·exact hz
   ·exact tr _ _ _ hz (List.rel_of_pairwise_cons ih hy)
theorem y7{α:Type}{f:α->Nat}{l:List α}(h:l.Pairwise λa b=>f a<=f b):(l.map f).Pairwise (· <= ·):=pairwise_map.mpr h
theorem x9:∀{f lo n:Nat}{fs:List Nat},fs.Pairwise (· <= ·)->(∀x∈fs,lo<=x)->fs.sum<=n->fs.length<=f->fs∈J7 f lo n
 |0,_,_,fs,_,_,_,h=>by simp only[List.length_eq_zero_iff.mp (Nat.le_zero.mp h)];exact mem_singleton.mpr rfl
 |f+1,lo,n,[],_,_,_,_=>eO
 |f+1,lo,n,x::r,ha,hl,hs,hf=>by
  rw[sum_cons]at hs;have hx:x<=n:=ao (le_add_right _ _) hs;refine fX _ (mem_flatMap.mpr ⟨x,mem_range.mpr (Nat.lt_succ_of_le hx),?_⟩);rw[if_pos (and_eq_true_iff.mpr ⟨ble_eq_true_of_le (hl x mem_cons_self),ble_eq_true_of_le hx⟩)];exact List.mem_map_of_mem (x9 ha.tail (λy hy=>List.rel_of_pairwise_cons ha hy) (Nat.le_sub_of_add_le (Nat.add_comm x _▸hs)) (Nat.le_of_succ_le_succ hf))
theorem Cp:∀{l:List Nat},(kY l).Pairwise (· <= ·):=by
 intro l0
 induction l0 with
 |nil=>
  exact .nil
 |cons x r hi=>
  have:∀{l:List Nat},l.Pairwise (· <= ·)->(ins x l).Pairwise (· <= ·):=λ{l}=>by
   induction l with
   |nil=>exact λ_=>.cons nofun .nil
   |cons y l ih=>
    intro h;unfold ins
    split
    ·rename_i hx;have hx:=eK hx;exact .cons (λz hz=>(bt hz).elim (λe=>e▸hx) λhz=>ao hx (List.rel_of_pairwise_cons h hz)) h
    ·rename_i hx;have hx:=Nat.le_of_not_le λh=>hx (ble_eq_true_of_le h);exact .cons (λz hz=>(bt (rp.mem_iff.mp hz)).elim (λe=>e▸hx) λhz=>List.rel_of_pairwise_cons h hz) (ih h.tail)
  exact this hi
theorem Ab{l r:List Nat}(p:l.Perm r)(h:l.Pairwise (· <= ·)):l=kY r:=
 Perm.eq_of_pairwise (λa b _ _ h1 h2=>Nat.le_antisymm h1 h2) h Cp (p.trans kh.symm)
theorem zp:∀{l:List Nat},(∀x∈l,0<x)->l.length<=l.sum:=by
 intro l0
 induction l0 with
 |nil=>
  rintro _;exact Nat.le_refl _
 |cons x r hi=>
  rintro h;rw[length_cons,sum_cons,Nat.add_comm];exact Nat.add_le_add (h x eO) (hi λy hy=>h y (fX _ hy))
structure dp(es:List (Nat×Nat)):Prop where
 nd:(es.map (·.1)).Nodup
 pos:∀p∈es,0<p.2
 sum:(es.map (·.2)).sum<=6
 ne:0<es.length
variable{es:List (Nat×Nat)}
theorem dp.len(h:dp es):es.length<=6:=by
 have:=zp (l:=es.map (·.2)) λx hx=>let ⟨p,hp,e⟩:=mem_map.mp hx;e▸h.pos p hp;rw[length_map]at this;exact ao this h.sum
theorem dp.Vf(h:dp es):NI (gS es)=true/\Hc (gS es)=true:=by
 refine bH (gn (b:=true) h.len) λ_ hp ha=>?_;have hf:(gS es).Perm (es.map (·.2)):=hp.map _;have hs:=Perm.sum_nat hf;have hl:(gS es).length=es.length:=hf.length_eq.trans (length_map _);have:=fO NJ (gS es) (x9 (y7 (yu.all (le:=λp q:Nat×Nat=>p.2<=q.2) (λx y z=>ao) ha)) (λx hx=>let ⟨p,hp,e⟩:=mem_map.mp (hf.mem_iff.mp hx);e▸h.pos p hp) (hs▸h.sum) (hl▸h.len));have ne:(gS es).isEmpty=false:=by
  cases e:gS es with
  |nil=>rw[e]at hl;exact absurd h.ne (hl▸Nat.lt_irrefl 0)
  |cons=>rfl
 rw[ne]at this;exact aP this
noncomputable def sx(es:List (Nat×Nat)):List (Nat×Nat):=(qL (gS es)).map λp=>(((ie es).getD (p.1-1) (0,0)).1,p.2)
noncomputable def CF(c:Nat):List (Nat×Nat)->Option Nat
 |[]=>none
 |(a,k)::r=>if a=c then some k else CF c r
theorem rG{c k:Nat}:∀{l:List (Nat×Nat)},CF c l=some k->(c,k)∈l:=by
 intro l0
 induction l0 with
 |nil=>
  rintro _;rename_i h;exact cT h
 |cons hd r hi=>
  obtain⟨a,b⟩:=hd;rintro h;have h:(if a=c then some b else CF c r)=some k:=h
  split at h
  ·rename_i e;obtain rfl:=bE h;exact e▸eO
  ·exact fX _ (hi h)
theorem AY{c k:Nat}:∀{l:List (Nat×Nat)},(l.map (·.1)).Nodup->(c,k)∈l->CF c l=some k:=by
 intro l0
 induction l0 with
 |nil=>
  rintro _ _;rename_i h;cases h
 |cons hd r hi=>
  obtain⟨a,b⟩:=hd;rintro nd h;refine(?_:(if a=c then some b else CF c r)=some k);rw[map_cons,nodup_cons]at nd
  rcases bt h with h|h
  ·(injection h with Fb PY;subst Fb;subst PY);exact if_pos rfl
  ·rw[if_neg λe=>nd.1 (mem_map.mpr ⟨_,h,e.symm⟩),hi nd.2 h]
noncomputable def lX(es:List (Nat×Nat))(c:Nat):Option Nat:=CF c (sx es)
theorem GC{l:List (Nat×Nat)}{i:Nat}:(l.map (·.2)).getD i 0=(l.getD i (0,0)).2:=by
 simp only[getD_eq_getElem?_getD,getD_eq_getElem?_getD,getElem?_map];cases l[i]?<;>rfl
theorem yZ{l:List (Nat×Nat)}:((range l.length).map (· +1)).map (λi=>l.getD (i-1) (0,0))=l:=by
 rw[List.map_map];apply ext_getElem
 ·exact ck
 ·intro i h1 h2;rw[getElem_map,getElem_range];show l.getD (i+1-1) (0,0)=_;rw[Nat.add_sub_cancel,getD_eq_getElem?_getD,getElem?_eq_getElem h2];rfl
theorem zY{fs:List Nat}(hc:Hc fs=true):∃rs mn,jH (cU ((qL fs).map (·.2))) 1 0 0=some rs/\oG ((cU ((qL fs).map (·.2))).map λ(c:Nat)=>(c:Int))=some mn/\0<=mn/\(eI rs 1).map (·.2)=kY ((qL fs).map (·.2))/\(∀x∈eI rs 1,x.1<2^x.2)/\(∀l∈(qL fs).map (·.2),1<=l/\l<=16)/\(cU ((qL fs).map (·.2))).sum=fs.length/\(fs.length<=3->((qL fs).map λp=>fs.getD (p.1-1) 0*p.2).sum=jk fs):=by
 unfold Hc at hc;generalize qL fs=z at hc ⊢;refine uc hc λhc c6=>?_;obtain⟨hc,c5⟩:=aP hc;obtain⟨hc,c4⟩:=aP hc;obtain⟨hc,c3⟩:=aP hc;obtain⟨c1,c2⟩:=aP hc;generalize cU (z.map (·.2))=cs at c3 c4 c5 ⊢;generalize jH cs 1 0 0=o at c3 ⊢;generalize oG (cs.map λ(c:Nat)=>(c:Int))=o2 at c4 ⊢
 induction o using Option.casesOn with
 |none=>exact mO c3
 |some rs=>
  induction o2 using Option.casesOn with
  |none=>exact mO c4
  |some mn=>
   obtain⟨a1,a2⟩:=aP c3;refine(vf rs mn rfl rfl (fh c4) (fh a1) (λx hx=>eK (fO a2 x hx)) (λl hl=>?_) (fh c5) (λh3=>?_))
   ·obtain⟨b1,b2⟩:=aP (fO c2 l hl);exact⟨eK b1,eK b2⟩
   ·exact fh ((or_eq_true_iff.mp c6).resolve_left λh4=>Nat.not_le.mpr (eK h4) h3)
noncomputable def Ol(es:List (Nat×Nat)):V:=.tup (cp (cU ((sx es).map (·.2))))
noncomputable def Oj(es:List (Nat×Nat)):V:=.tup (cp ((lT false (sx es)).map (·.1)))
section
variable(h:dp es)
include h
theorem dp.z1:(qL (gS es)).map (·.1) |>.Perm ((range (ie es).length).map (· +1)):=by
 have hc:=h.Vf.2;unfold Hc at hc;have hc:=(aP (aP (aP (aP (aP hc).1).1).1).1).1;have e:=fh hc;rw[show(gS es).length=(ie es).length from length_map _]at e
 exact e▸kh.symm
theorem dp.z2:((qL (gS es)).map λp=>(ie es).getD (p.1-1) (0,0)).Perm es:=by
 have:=(h.z1.map λi=>(ie es).getD (i-1) (0,0));rw[yZ,List.map_map]at this;exact this.trans (gn h.len).2.1
theorem dp.keys:((sx es).map (·.1)).Perm (es.map (·.1)):=by
 have:=h.z2.map (·.1);rw[List.map_map]at this;simp only[sx,List.map_map];exact this
theorem dp.Sw:((sx es).map (·.1)).Nodup:=h.keys.nodup_iff.mpr h.nd
theorem dp.some{c:Nat}(hc:c∈es.map (·.1)):(lX es c).isSome:=by
 refine dC (h.keys.mem_iff.mpr hc) λp hp e=>?_;rw[lX,AY h.Sw (k:=p.2) (by refine e▸?_;exact hp)];rfl
theorem dp.cost:(es.map λp=>p.2*(lX es p.1).getD 0).sum=((qL (gS es)).map λp=>(gS es).getD (p.1-1) 0*p.2).sum:=by
 simp only[<-Perm.sum_nat (h.z2.map λp=>p.2*(lX es p.1).getD 0),List.map_map];refine congrArg List.sum (dW λp hp=>?_);refine(?_:((ie es).getD (p.1-1) (0,0)).2*(lX es ((ie es).getD (p.1-1) (0,0)).1).getD 0=_);simp only[gS,GC,lX,AY h.Sw (k:=p.2) (mem_map.mpr ⟨p,hp,rfl⟩)];rfl
theorem dp.parts:∃rs mn,jH (cU ((qL (gS es)).map (·.2))) 1 0 0=Option.some rs/\oG ((cU ((qL (gS es)).map (·.2))).map λ(c:Nat)=>(c:Int))=Option.some mn/\0<=mn/\(eI rs 1).map (·.2)=kY ((qL (gS es)).map (·.2))/\(∀x∈eI rs 1,x.1<2^x.2)/\(∀l∈(qL (gS es)).map (·.2),1<=l/\l<=16)/\(cU ((qL (gS es)).map (·.2))).sum=es.length/\(es.length<=3->((qL (gS es)).map λp=>(gS es).getD (p.1-1) 0*p.2).sum=jk (gS es)):=by
 have fl:(gS es).length=es.length:=(length_map _).trans (gn (b:=true) h.len).2.1.length_eq;have:=zY h.Vf.2
 rwa[fl]at this
theorem dp.zl:(sx es).length=es.length:=by
 have:=h.keys.length_eq
 rwa[length_map,length_map]at this
omit h in
theorem MV{mn:Nat}{cs ss:List Nat}{rs:List (Nat×Nat×Nat)}{L:Nat->Option Nat}{Q:V->Pr}{σ:af}{n:Nat}(hl:cs.length=16)(Ng:oG (cs.map λ(c:Nat)=>(c:Int))=some (mn:Int))(zE:cs.sum=ss.length)(hs:ss.length<=20)(rE:ss.Nodup)(hr:jH cs 1 0 0=some rs)(hE:(eI rs 1).length=ss.length)(hL:∀s l,L s=some l->l<=16/\∃x:Nat,x<2^l/\aV (s:Int) (iO ss (eI rs 1))=some (.tup [.int x,.int l]))(q:∀τ i,Up [] σ τ->iS τ i L->Q (.ref i) τ):W (cx gg (ag gg (n+31)) (.cls "HuffTable") [.tup (cp cs),.tup (cp ss)]) Q σ:=by
 have:∀l:List Nat,(l.map λ(c:Nat)=>(c:Int)).sum=(l.sum:Nat):=λl=>by
  induction l with
  |nil=>rfl
  |cons x l ih=>simp only[map_cons,sum_cons,sum_cons,ih];rfl
 exact xd hl Ng (by rw[this,zE]) hs rE hr hE hL q
theorem dp.tab{Q:V->Pr}{σ:af}{n:Nat}(q:∀τ i,Up [] σ τ->iS τ i (lX es)->Q (.ref i) τ):W (cx gg (ag gg (n+31)) (.cls "HuffTable") [Ol es,Oj es]) Q σ:=by
 unfold Ol Oj;(refine cC λWQ QG=>?_;refine nL (h.parts) λrs mn p1 p2 p3 p4 p5 p6 p7 _=>?_;refine QG ?_);have e2:(sx es).map (·.2)=(qL (gS es)).map (·.2):=by simp only[sx,List.map_map];rfl
 have oo:=gn (b:=false) (ao (Nat.le_of_eq h.zl) h.len);have op:=oo.2.1;have oa:=oo.2.2;have ol:((lT false (sx es)).map (·.1)).length=es.length:=(length_map _).trans (op.length_eq.trans h.zl);have nd:((lT false (sx es)).map (·.1)).Nodup:=(op.map (·.1)).nodup_iff.mpr h.Sw;have sz:(lT false (sx es)).map (·.2)=(eI rs 1).map (·.2):=by
  simp only[p4,<-e2];exact Ab (op.map (·.2)) (y7 (yu.all (le:=λp q:Nat×Nat=>p.2<=q.2) (λx y z=>ao) oa))
 have el:(eI rs 1).length=es.length:=by
  have:=congrArg List.length sz;rw[length_map,length_map]at this;exact this.symm.trans (op.length_eq.trans h.zl)
 obtain⟨m,rfl⟩:=Int.eq_ofNat_of_zero_le p3;refine Eq.symm e2▸?_;refine MV (mn:=m) iW p2 (by simp only[p7,ol]) (by refine Eq.symm ol▸?_;exact ao h.len (by decide)) nd p1 (el.trans ol.symm) (λs l hs=>?_) q
 ·have hm:=op.mem_iff.mpr (rG hs);obtain⟨i,hi,e⟩:=List.getElem_of_mem hm;have SR:i<(eI rs 1).length:=el.symm▸(op.length_eq.trans h.zl▸hi);have eq2:((eI rs 1)[i]).2=l:=by
   have:=congrArg (λx:List Nat=>x[i]?) sz;have this:((lT false (sx es)).map (·.2))[i]?=((eI rs 1).map (·.2))[i]?:=this;rw[getElem?_map,getElem?_map,getElem?_eq_getElem hi,getElem?_eq_getElem SR,e]at this;exact(bE this).symm
  have lm:l∈(qL (gS es)).map (·.2):=e2▸mem_map.mpr ⟨(s,l),rG hs,rfl⟩;refine(jn ((p6 l lm).2) (((eI rs 1)[i]).1) (eq2▸p5 _ (getElem_mem SR)) ?_);refine gB ?_ (mem_map.mpr ⟨i,mem_range.mpr SR,?_⟩)
  ·have e:(iO ((lT false (sx es)).map (·.1)) (eI rs 1)).map (·.1)=((lT false (sx es)).map (·.1)).map λ(c:Nat)=>(c:Int):=by
    rw[iO,List.map_map,el,<-ol];apply ext_getElem
    ·simp only[length_range,length_map]
    ·intro j h1 h2;rw[length_map]at h2;rw[getElem_map,getElem_range,getElem_map];show((((lT false (sx es)).map (·.1)).getD j 0:Nat):Int)=_;simp only[getD_eq_getElem?_getD,getElem?_eq_getElem h2];rfl
   rw[e,Nodup,pairwise_map];exact nd.imp λne e=>ne (ofNat.inj e)
  ·simp only[getD_eq_getElem?_getD,getD_eq_getElem?_getD,getElem?_map,getElem?_eq_getElem hi,getElem?_eq_getElem SR,e,<-eq2];rfl
end
end
section
variable{n:Nat}{Q:V->Pr}{σ:af}{es:List (Nat×Nat)}
theorem Hg{c:Nat}(h: ¬es.any (λp=>decide (p.1=c))=true):c∉es.map (·.1):=λhc=>by
 refine dC hc λp hp e=>?_;exact h (List.any_eq_true.mpr ⟨p,hp,decide_eq_true e⟩)
theorem Bc{c:Nat}(nd:(es.map (·.1)).Nodup):((eT es c).map (·.1)).Nodup:=by
 unfold eT
 split
 ·rw[List.map_map];refine(dW λp _=>?_:es.map _=es.map (·.1))▸nd;refine(?_:(if p.1=c then(c,jq c es+1)else p).1=p.1)
  split
  ·rename_i h;exact h.symm
  ·rfl
 ·rename_i h;rw[map_append];exact nodup_append.mpr ⟨nd,nodup_cons.mpr ⟨not_mem_nil,nodup_nil⟩,λa ha b hb e=>Hg h ((e.trans (bz hb):a=c)▸ha)⟩
theorem Hf{c:Nat}{f:Nat->Nat}:∀{es:List (Nat×Nat)},(es.map (·.1)).Nodup->((eT es c).map λp=>p.2*f p.1).sum=(es.map λp=>p.2*f p.1).sum+f c:=by
 have same:∀{es:List (Nat×Nat)}{k:Nat},c∉es.map (·.1)->es.map (λp=>if p.1=c then(c,k)else p)=es:=λ{es k} h=>
  (dW λp hp=>if_neg λe=>h (mem_map.mpr ⟨p,hp,e⟩)).trans (List.map_id es)
 have key:∀{es:List (Nat×Nat)}{k:Nat},(es.map (·.1)).Nodup->c∈es.map (·.1)->k=jq c es+1->((es.map λp=>if p.1=c then(c,k)else p).map λp=>p.2*f p.1).sum=(es.map λp=>p.2*f p.1).sum+f c:=λ{es}=>by
  induction es with
  |nil=>exact λ_ h=>nomatch h
  |cons x r ih=>
   intro k nd hc hk;rw[map_cons,nodup_cons]at nd;by_cases e:x.1=c
   ·have hk:k=(if x.1=c then x.2 else jq c r)+1:=hk;rw[if_pos e]at hk;rw[map_cons,if_pos e,same (e▸nd.1),map_cons,map_cons,sum_cons,sum_cons,hk,e,Nat.add_mul,Nat.one_mul,Nat.add_right_comm]
   ·have hk:k=(if x.1=c then x.2 else jq c r)+1:=hk;rw[if_neg e]at hk;rw[map_cons,if_neg e,map_cons,map_cons,sum_cons,sum_cons,ih nd.2 ((mem_cons.mp hc).resolve_left λh=>e h.symm) hk,Nat.add_assoc]
 intro es nd;unfold eT
 split
 ·rename_i h;refine ak (List.any_eq_true.mp h) λp hp e=>?_;exact key nd (mem_map.mpr ⟨p,hp,fh e⟩) rfl
 ·rw[map_append,sum_append];show _+(1*f c+0)=_;rw[Nat.one_mul,Nat.add_zero]
theorem qp{P:List (Nat×Nat)->List Nat->Prop}(h0:P [] [])(h1:∀es l c,P es l->P (eT es c) (l++[c])):∀l,P (eB l) l:=by
 have:∀(r l:List Nat)(es:List (Nat×Nat)),P es l->P (r.foldl eT es) (l++r):=λr=>by
  induction r with
  |nil=>exact λl es h=>(append_nil l).symm▸h
  |cons c r ih=>
    intro l es h;have:=ih (l++[c]) (eT es c) (h1 es l c h)
    rwa[append_assoc]at this
 exact λl=>this l [] [] h0
theorem ND(l:List Nat):((eB l).map (·.1)).Nodup:=qp (P:=λes _=>(es.map (·.1)).Nodup) nodup_nil (λ_ _ _ h=>Bc h) l
theorem vC(f:Nat->Nat)(l:List Nat):((eB l).map λp=>p.2*f p.1).sum=(l.map f).sum:=
 (qp (P:=λes l=>(es.map (·.1)).Nodup/\(es.map λp=>p.2*f p.1).sum=(l.map f).sum) ⟨nodup_nil,rfl⟩ (λes l c h=>⟨Bc h.1,by rw[Hf h.1,h.2,map_append,sum_append];rfl⟩) l).2
theorem JT(l:List Nat):∀p∈eB l,0<p.2:=qp (P:=λes _=>∀p∈es,0<p.2) nofun (λes _ c h p hp=>by
 unfold eT at hp
 split at hp
 ·(refine dC hp λx hx Eg=>?_;subst Eg)
  split
  ·exact succ_pos _
  ·exact h x hx
 ·exact(mem_append.mp hp).elim (h p) λh=>by rw[mem_singleton.mp h];exact Nat.one_pos) l
theorem JU{l:List Nat}(h0:0<l.length)(h6:l.length<=6):dp (eB l) where
 nd:=ND l
 pos:=JT l
 sum:=by
  have:=vC (λ_=>1) l;rw[map_const',sum_replicate_nat,Nat.mul_one]at this;(refine Eq.symm (show(eB l).map (·.2)=(eB l).map λp=>p.2*1 from dW λp _=>(Nat.mul_one _).symm)▸?_;refine Eq.symm this▸?_)
  exact h6
 ne:=Nat.pos_of_ne_zero λe=>by
  have:=vC (λ_=>1) l;rw[List.length_eq_zero_iff.mp e,map_const',sum_replicate_nat,Nat.mul_one]at this;exact absurd h0 (this▸Nat.lt_irrefl 0)
theorem JV{l:List Nat}{c:Nat}:c∈(eB l).map (·.1)↔c∈l:=by
 refine qp (P:=λes l=>c∈es.map (·.1)↔c∈l) ⟨nofun,nofun⟩ (λes l d h=>?_) l;rw[mem_append,mem_singleton,<-h];unfold eT
 split
 ·rename_i ha;refine ak (List.any_eq_true.mp ha) λp hp e=>?_;have:(es.map λp=>if p.1=d then(d,jq d es+1)else p).map (·.1)=es.map (·.1):=by
   rw[List.map_map];refine dW λp _=>?_;refine(?_:(if p.1=d then(d,jq d es+1)else p).1=p.1)
   split
   ·rename_i h;exact h.symm
   ·rfl
  rw[this];exact⟨.inl,λh=>h.elim id λe2=>e2▸mem_map.mpr ⟨p,hp,fh e⟩⟩
 ·rw[map_append,mem_append];exact or_congr Iff.rfl mem_singleton
theorem dp.PG(h:dp es):n9 (mX es) (qL (gS es))=fL (sx es):=by
 simp only[n9,fL,sx,List.map_map];refine dW λp hp=>?_;have:=h.z1.mem_iff.mp (mem_map.mpr ⟨p,hp,rfl⟩);refine dC this λi _ e=>?_;refine(?_:(mX es p.1,_)=((((ie es).getD (p.1-1) (0,0)).1:Int),_));refine e▸?_;rfl
theorem m6{d k:Nat}(h:dp es)(hd:σ[d]?=some (.cG (fL es) k))(q:∀τ,Up [] σ τ->Q (.tup [Ol es,Oj es]) τ):W ((ag gg (n+25)).C (aa 47) [.ref d]) Q σ:=by
 let aO:V->Pr:=λv2 H=>(Q v2) H;let aZ:V->Pr:=λv1 H=>(W ((ag gg (n+22)).C (aa 46) [v1]) aO) H;refine ce (p:=(W ((ag gg (n+21)).C (aa 45) [.ref d,.int 16]) aZ) σ) ?_;refine um hd h.ne h.len h.nd h.pos h.Vf.1 λτ i k' u hi=>?_;rw[h.PG]at hi;unfold Ol Oj at q;have nd:=h.Sw;have l0:0<(sx es).length:=by rw[h.zl];exact h.ne
 have l6:(sx es).length<=6:=by rw[h.zl];exact h.len
 have hs:∀p∈sx es,1<=p.2/\p.2<=16:=λp hp=>by
  (refine cC λY3 Ui=>?_;refine pO (h.parts) λ_ _ _ _ _ _ _ p6 _=>?_;refine Ui ?_);refine dC hp λx hx e=>?_;exact p6 _ (mem_map.mpr ⟨x,hx,by rw[<-e]⟩)
 generalize sx es=zs at hi nd l0 l6 hs q;exact yE hi l0 l6 nd hs λdM u2=>q dM (u.trans u2)
theorem Cn{fo z:Nat}{tl:List Nat}{X:Unit->Pr}(h:σ[fo]?=some (mj (λp=>.ref (tl.getD p 0)) tl.length))(hl:tl.length<=900)(q:∀τ,Up [fo] σ τ->τ[fo]?=some (mj (λp=>.ref ((tl++[z]).getD p 0)) (tl++[z]).length)->X () τ):W (iI (.ref fo) (.tup [.int 0,.int tl.length]) (.ref z)) X σ:=by
 by_cases h0:0<tl.length
 ·rw[gv h0]at h;refine HM h (k:=pk tl.length) rfl (aG (ck.symm▸ao hl (by decide))) λτ u e=>q τ u ?_;rw[e,gv (by rw[length_append];exact succ_pos _),<-tJ,iR,if_neg];intro ha;refine ak (List.any_eq_true.mp ha) λx hx e=>?_;(refine dC hx λp hp El=>?_;subst El);have:=q5 _ _ (fh e);exact absurd (mem_range.mp hp) (this▸Nat.lt_irrefl _)
 ·have e0:=List.length_eq_zero_iff.mp (eq_zero_of_not_pos h0);subst e0;exact HN h (k:=pk 0) rfl λτ u e=>q τ u e
theorem iS.ne{τ:af}{i fo j:Nat}{f:Nat->V}{L:Nat->Option Nat}(hL:∃s,(L s).isSome)(hf:σ[fo]?=some (mj f j))(u:Up [fo] σ τ)(T:iS σ i L):iS τ i L:=by
 (refine gO T λa b c d es k h1 h2 h3=>?_;clear T);refine⟨a,b,c,d,es,k,u.ne h1 (bV h1 hf tI),u.ne h2 (bV h2 hf λe=>?_),h3⟩;obtain⟨s,hs⟩:=hL;obtain⟨l,hs⟩:=isSome_iff_exists.mp hs;refine cN (h3 s l hs) λ_ x _ hx=>?_
 induction j using Nat.casesOn with
 |zero=>(injection e with qY;subst qY);exact cT hx
 |succ j=>exact aL.noConfusion e
theorem iS.up{τ:af}(u:Up [] σ τ){i:Nat}{L:Nat->Option Nat}:iS σ i L->iS τ i L:=.g u.g
noncomputable def kd(p:Nat):V:=.tup [.int 0,.int p]
theorem Bk{i m:Nat}{f:Nat->V}(hm:m=1\/m=3)(h:σ[i]?=some (.jt ((range m).map λp=>(pk p,f p))))(q:∀τ j,Up [] σ τ->τ[j]?=some (.lst ((range m).map kd))->Q (.ref j) τ):W (aU "sorted" [.ref i]) Q σ:=by
 have e:(((range m).map λp=>(pk p,f p)).map λe=>V.tup (e.1.map .int))=(range m).map kd:=by rw[List.map_map];rfl
 refine bO rfl (ba (bC h (bP ?_)));refine Eq.symm e▸?_
 rcases hm with rfl|rfl
 ·exact bN (by kernel_rfl) (bG λj τ u l hj=>q τ j u (hj.trans (by kernel_rfl)))
 ·exact bN (by kernel_rfl) (bG λj τ u l hj=>q τ j u (hj.trans (by kernel_rfl)))
theorem oQ{m p:Nat}{f:Nat->V}(hp:p<m):aV (pk p) ((range m).map λp=>(pk p,f p))=some (f p):=by rw[lP q5,if_pos hp]
section
variable{cc m:Nat}{D:Nat->List (Nat×Nat)}{dd:Nat->Nat}
theorem du.up{τ:af}(u:Up [] σ τ)(C:du σ cc m D dd):du τ cc m D dd:=⟨u.at C.1,λp hp=>let ⟨k,h⟩:=C.2 p hp;⟨k,u.at h⟩⟩
theorem me(hm:m=1\/m=3)(C:du σ cc m D dd)(hD:∀p,p<m->dp (D p))(q:∀τ tt,Up [] σ τ->fm τ tt m (λp=>lX (D p))->Q (.ref tt) τ):W ((ag gg (n+36)).C (aa 72) [.ref cc]) Q σ:=by
 let aO:V->V->Pr:=λv1 v2 H=>(W (aQ v2) λc9=>aK (aJ (ag gg (n+34))) (bp (ay gg (n+34)) (aa 72).sc (aF (aa 72).body [1])) (bx (ay gg (n+35)) (aa 72).sc ((aa 72).body.drop 2) (cz Q)) c9.2 c9.1 ⟨[("counts",.ref cc),("found",v1)],[]⟩) H;let aZ:V->Pr:=λv1 H=>(W (aU "sorted" [.ref cc]) (aO v1)) H;refine ce (p:=(W (dq (.cG [] 0)) aZ) σ) ?_;have m0:0<m:=by rcases hm with rfl|rfl<;>decide
 refine bG λfo eW u1 l1 h1=>Bk hm (u1.at C.1) λdM ks u2 h2=>dj h2 ?_;refine oA (c0:=()) (λ_ e=>∃b:V×V×V,e=⟨[("counts",.ref cc),("found",.ref fo),("key",b.1),("sizes",b.2.1),("symbols",b.2.2)],[]⟩) rfl (by rw[ck];exact m0) (λk _ τ=>Up [fo] dM τ/\∃tl:List Nat,tl.length=k/\τ[fo]?=some (mj (λp=>.ref (tl.getD p 0)) tl.length)/\∀p,p<k->iS τ (tl.getD p 0) (lX (D p))) (λk _ τ ae=>.l (ae.1.ne h2 (bV h2 (u2.at h1) nofun))) (λk _ v e τ K hv hE ae q'=>?_) (λ_ e τ LP ae=>eL LP λb hb=>?_) (i3 .refl ([]) rfl (u2.at h1) nofun)
 ·(refine lL ae λu tl e1 hf ht=>?_;clear ae);have hk:k<m:=by
   have:=(d0 hv).1
   rwa[ck]at this
  replace hv:=(tH hk)▸hv;(injection hv with Qc;subst Qc);have C2:=(C.up (u1.trans u2));obtain⟨kk,hd⟩:=C2.2 k hk;have S0:∀{j:Nat}{c:aL},σ[j]?=some c->τ[j]?=some c:=λh=>(Up.fresh (S:=[]) (u1.trans u2) l1 u).at h;obtain⟨kk,hd⟩:=C.2 k hk;have fin:∀gT,Up [] τ gT->(W (cx gg (ag gg (n+32)) (.cls "HuffTable") [(Ol (D k)),(Oj (D k))]) λv1 H=>(W (iI (.ref fo) (kd k) v1) λ_ H=>(K .next ⟨[("counts",.ref cc),("found",.ref fo),("key",(kd k)),("sizes",(Ol (D k))),("symbols",(Oj (D k)))],[]⟩) H) H) gT:=λgT u3=>(hD k hk).tab λjx z u4 T=>by
   have US:=(u3.trans u4).at hf;subst e1;refine Cn US (by rcases hm with rfl|rfl<;>lia) λsW u5 h5=>q' () _ sW ⟨(_,_,_),rfl⟩ (i3 ((u.trans (u3.trans u4).any).trans u5) (tl++[z]) length_append h5 (λp hp=>?_))
   have ex:∀p,p<m->∃s,(lX (D p) s).isSome:=λp hp=>let ⟨x,hx⟩:=List.exists_mem_of_length_pos (hD p hp).ne;⟨x.1,(hD p hp).some (List.mem_map_of_mem hx)⟩
   rcases Nat.lt_or_eq_of_le (le_of_lt_succ hp)with hp|rfl
   ·rw[xD hp];exact((ht p hp).up (u3.trans u4)).ne (ex p (Nat.lt_trans hp hk)) US u5
   ·rw[xC];exact T.ne (ex _ hk) US u5
  rcases hE with⟨rfl,_⟩|⟨b,rfl⟩
  ·let aO:V->Pr:=λv2 H=>(sG v2 λMq=>R (eF (aa 72).sc ⟨[("counts",.ref cc),("found",.ref fo),("key",(kd k))],[]⟩ (qI (kA (aF (aa 72).body [1,0]))) Mq) λe4=>aS (ay gg (n+34)) (aa 72).sc ((dQ (aF (aa 72).body [1])).drop 1) e4 K) H;let aZ:V->Pr:=λv1 H=>(W ((ag gg (n+32)).C (aa 47) [v1]) aO) H;refine bk (p:=(W (aR (.ref cc) (kd k)) aZ) τ) ?_;exact jY (S0 C.1) (k:=pk k) rfl (oQ hk) (m6 (hD k hk) (S0 hd) λgT u3=>bk (fin gT u3))
  ·let aO:V->Pr:=λv2 H=>(sG v2 λMq=>R (eF (aa 72).sc ⟨[("counts",.ref cc),("found",.ref fo),("key",(kd k)),("sizes",b.2.1),("symbols",b.2.2)],[]⟩ (qI (kA (aF (aa 72).body [1,0]))) Mq) λe4=>aS (ay gg (n+34)) (aa 72).sc ((dQ (aF (aa 72).body [1])).drop 1) e4 K) H;let aZ:V->Pr:=λv1 H=>(W ((ag gg (n+32)).C (aa 47) [v1]) aO) H;refine bk (p:=(W (aR (.ref cc) (kd k)) aZ) τ) ?_;exact jY (S0 C.1) (k:=pk k) rfl (oQ hk) (m6 (hD k hk) (S0 hd) λgT u3=>bk (fin gT u3))
 ·(refine lL ae λu tl e1 hf ht=>?_;clear ae);rw[ck]at e1 ht;subst hb;refine bk (p:=Q (.ref fo) τ) (q τ fo (Up.fresh (u1.trans u2) l1 u) ⟨_,?_,ht⟩);rw[hf,gv (e1▸m0),e1]
end
theorem NT{c:Nat}:∀{es:List (Nat×Nat)},c∈es.map (·.1)->aV (c:Int) (fL es)=some (.int (jq c es:Nat)):=by
 intro l0
 induction l0 with
 |nil=>
  rintro _;rename_i h;cases h
 |cons hd r hi=>
  obtain⟨a,k⟩:=hd;rintro h;refine(?_:(if(a:Int)=(c:Int)then some (V.int k)else aV (c:Int) (fL r))=some (.int (if a=c then k else jq c r:Nat)));by_cases e:a=c
  ·rw[if_pos (congrArg _ e),if_pos e]
  ·have e': ¬((a:Int)=(c:Int)):=λq=>e (ofNat.inj q);rw[if_neg e',if_neg e];exact hi ((bt h).resolve_left λq=>e q.symm)
theorem JI:∀{es:List (Nat×Nat)},(es.map (·.1)).Nodup->x∈es->jq x.1 es=x.2:=by
 intro l0
 induction l0 with
 |nil=>
  rintro _ _;rename_i h;cases h
 |cons hd r hi=>
  obtain⟨a,k⟩:=hd;rintro nd h;refine(?_:(if a=x.1 then k else jq x.1 r)=x.2);rw[map_cons,nodup_cons]at nd
  rcases bt h with h|h
  ·rw[h,if_pos rfl]
  ·rw[if_neg λe=>nd.1 (mem_map.mpr ⟨_,h,e.symm⟩),hi nd.2 h]
theorem Kh(h:σ[i]?=some (.cG (fL es) k))(hl:es.length<=6)(q:∀τ j ks,Up [] σ τ->(ks:List Nat).Perm (es.map (·.1))->τ[j]?=some (.lst (cp ks))->Q (.ref j) τ):W (aU "sorted" [.ref i]) Q σ:=by
 have e:(fL es).map (λe=>V.int e.1)=cp (es.map (·.1)):=by simp only[fL,cp,List.map_map,List.map_map];rfl
 have ll:(cp (es.map (·.1))).length=es.length:=(length_map _).trans (length_map _);have k:jG (cp (es.map (·.1)))&&ble (cp (es.map (·.1))).length 6:=by
  rw[ll];refine and_eq_true_iff.mpr ⟨or_eq_true_iff.mpr (.inl (List.all_eq_true.mpr λv hv=>?_)),ble_eq_true_of_le hl⟩;(refine dC hv λp _ qz=>?_;subst qz)
  rfl
 refine bO rfl (ba (bC h (bP ?_)));refine Eq.symm e▸?_;refine bN k (bG λj τ u l hj=>?_);have vp:=(qE (l:=cp (es.map (·.1))) (ll▸hl) (le:=λ_ _=>True) (λ_ _ _ _ _=>trivial) (λ_ _ _ _ _=>trivial) λ_ _ _ _ _=>trivial).1;have mp:=kT (f:=λc:Nat=>V.int c) (g:=λv=>((vU v).getD 0).toNat) (λ_=>rfl) vp;exact q τ j _ u mp.2 (hj.trans (congrArg (λl=>some (aL.lst l)) mp.1))
section
variable{cc tt m p:Nat}{D:Nat->List (Nat×Nat)}{dd:Nat->Nat}{L:Nat->Nat->Option Nat}
noncomputable def OE(L:Nat->Nat->Option Nat)(D:Nat->List (Nat×Nat))(p c:Nat):Nat:=jq c (D p)*i8 L p c
noncomputable def WB(cc tt p:Nat)(c:Nat):ar:=⟨[("counts",.ref cc),("tables",.ref tt),("found",.int c),("key",kd p)],[]⟩
noncomputable def Di(cc tt p:Nat)(c:Nat)(b:V×V):ar:=⟨[("counts",.ref cc),("tables",.ref tt),("found",.int c),("key",kd p),("size",b.1),("told",b.2)],[]⟩
theorem J5{c0 c:Nat}{K:Fl->ar->Pr}(C:du σ cc m D dd)(T:fm σ tt m L)(hp:p<m)(hc:c∈(D p).map (·.1))(JF:c<=16)(hL:(L p c).isSome)(q:∀b,K .next (Di cc tt p (c0+OE L D p c) b) σ):(W (aR (.ref tt) (kd p)) λv1 H=>(W (az gg v1 "code") (bA (ag gg (n+24)) (λK3=>K3 [.int c]) v1 λv2 H=>(W (aR v2 (.int 1)) λv4 H=>(W (cX .Eq (.int c) (.int 16)) λb5 H=>(cR b5 (W (ai .Add v4 (.int 0)) λv6 H=>(aS (ay gg (n+28)) (aa 77).sc ((dQ (aF (aa 77).body [1,0])).drop 1) ⟨[("counts",.ref cc),("tables",.ref tt),("found",.int c0),("key",(kd p)),("size",.int c),("told",v6)],[]⟩ K) H) (W (ai .Add v4 (.int c)) λv7 H=>(aS (ay gg (n+28)) (aa 77).sc ((dQ (aF (aa 77).body [1,0])).drop 1) ⟨[("counts",.ref cc),("tables",.ref tt),("found",.int c0),("key",(kd p)),("size",.int c),("told",v7)],[]⟩ K) H)) H) H) H)) H) σ:=by
 (refine ak T λtb ht hT=>?_;clear T);obtain⟨l,hl⟩:=isSome_iff_exists.mp hL;obtain⟨kk,hd⟩:=C.2 p hp;refine jY ht (k:=pk p) rfl (oQ hp) ?_;have Tp:=hT p hp;refine mP (hT p hp) λ_ _ _ _ _ _ o _=>?_;refine dI o i1 (by kernel_rfl) (pa (n:=n+13) Tp hl λx hx Yx=>dY rfl rfl (kr ?_));have mul:∀e:Nat,l+e<=1000->(l+e=i8 L p c)->(W (aR (.ref cc) (kd p)) λv1 H=>(W (aR v1 (.int c)) λv2 H=>(W (ai .Mult v2 (.int (l+e:Nat))) λv3 H=>(R (f6 v3) λi4 H=>(K .next ⟨[("counts",.ref cc),("tables",.ref tt),("found",(.int ((c0:Nat)+i4))),("key",(kd p)),("size",.int c),("told",.int (l+e:Nat))],[]⟩) H) H) H) H) σ:=λe he e1=>by
  refine jY C.1 (k:=pk p) rfl (oQ hp) (fV hd (NT hc) (dX (ic (ao he (by decide))) ?_));have q:=q (.int c,.int (l+e:Nat));rw[OE,<-e1]at q;exact q
 by_cases e:c=16
 ·refine mv (dT (congrArg _ e)) (cq (bk (mul 0 (by omega) ?_)));rw[i8,ext,hl,if_neg (by omega)];rfl
 ·refine iy (dF λh=>e (ofNat.inj h)) (cq (bk (mul c (by omega) ?_)));rw[i8,ext,hl];by_cases h0:0<c
  ·rw[if_pos ⟨h0,by exact Nat.lt_of_le_of_ne JF e⟩];rfl
  ·rw[if_neg λh=>h0 h.1];exact congrArg _ (eq_zero_of_not_pos h0)
theorem fm.up(u:Up [] σ τ){L:Nat->Nat->Option Nat}:fm σ tt m L->fm τ tt m L:=.g u.g
theorem Hn{kf:Fl->ar->Pr}(C:du σ cc m D dd)(T:fm σ tt m L)(hp:p<m)(hk:ks.Perm ((D p).map (·.1)))(h0:0<(D p).length)(JF:∀x∈D p,x.1<=16)(hL:∀x∈D p,(L p x.1).isSome)(hj:σ[j]?=some (.lst (cp ks)))(he:∀v K τ,bp (ay gg (n+28)) (aa 77).sc (aF (aa 77).body [1,0]) v (WB cc tt p c0) K τ->bp (ay gg (n+28)) (aa 77).sc (aF (aa 77).body [1,0]) v e0 K τ)(q:∀b,kf .next (Di cc tt p (c0+(ks.map (OE L D p)).sum) b) σ):aK (aJ (ag gg (n+28))) (bp (ay gg (n+28)) (aa 77).sc (aF (aa 77).body [1,0])) kf ((cp ks).length+1) (.list j 0) e0 σ:=by
 have kl:ks.length=(D p).length:=hk.length_eq.trans (length_map _);refine oA (c0:=c0) (λc e=>∃b,e=Di cc tt p c b) rfl (by simp only[cp,length_map,kl];exact h0) (λk c τ=>τ=σ/\c=c0+((ks.take k).map (OE L D p)).sum) (λk c τ ae=>.l (ae.1▸hj)) (λk c v e τ K hv hE ae q'=>?_) (λc e τ LL ae=>eL LL λb hb=>?_) ⟨rfl,rfl⟩
 ·obtain⟨rfl,hc⟩:=ae;rw[cp,getElem?_map]at hv;(refine dw hv λs hs qy=>?_;subst qy);(refine dC (hk.mem_iff.mp (fP hs)) λx hx vX=>?_;subst vX);let aO:V->Pr:=λv6 H=>(aS (ay gg (n+28)) (aa 77).sc ((dQ (aF (aa 77).body [1,0])).drop 1) ⟨[("counts",.ref cc),("tables",.ref tt),("found",.int c),("key",(kd p)),("size",.int (x.1:Nat)),("told",v6)],[]⟩ K) H;let aZ:V->Pr:=λv7 H=>(aS (ay gg (n+28)) (aa 77).sc ((dQ (aF (aa 77).body [1,0])).drop 1) ⟨[("counts",.ref cc),("tables",.ref tt),("found",.int c),("key",(kd p)),("size",.int (x.1:Nat)),("told",v7)],[]⟩ K) H;let bW:V->Bool->Pr:=λv4 b5 H=>(cR b5 (W (ai .Add v4 (.int 0)) aO) (W (ai .Add v4 (.int (x.1:Nat))) aZ)) H;let c8:V->Pr:=λv4 H=>(W (cX .Eq (.int (x.1:Nat)) (.int 16)) (bW v4)) H;let dG:V->Pr:=λv2 H=>(W (aR v2 (.int 1)) c8) H;let dR:V->Pr:=λv1 H=>(W (az gg v1 "code") (bA (ag gg (n+24)) (λK3=>K3 [.int (x.1:Nat)]) v1 dG)) H;have t:(W (aR (.ref tt) (kd p)) dR) τ:=J5 C T hp (List.mem_map_of_mem hx) (JF x hx) (hL x hx) λb=>q' _ _ _ ⟨b,rfl⟩ ⟨rfl,by simp only[hc,take_add_one,hs,map_append,sum_append,Nat.add_assoc];rfl⟩
  rcases hE with⟨rfl,rfl⟩|⟨b,rfl⟩
  ·exact he _ _ _ (bk t)
  ·exact bk t
 ·obtain⟨rfl,rfl⟩:=ae;rw[cp,length_map,take_length]at hb;exact hb▸q b
theorem NP(nd:((D p).map (·.1)).Nodup){ks:List Nat}(hk:ks.Perm ((D p).map (·.1))):(ks.map (OE L D p)).sum=((D p).map λx=>x.2*i8 L p x.1).sum:=by
 rw[Perm.sum_nat (hk.map (OE L D p)),List.map_map];exact congrArg List.sum (dW λx hx=>by
  refine(?_:jq x.1 (D p)*i8 L p x.1=_);rw[JI nd hx])
noncomputable def Ho(L:Nat->Nat->Option Nat)(D:Nat->List (Nat×Nat))(m:Nat):Nat:=((range m).map λp=>((D p).map λx=>x.2*i8 L p x.1).sum).sum
theorem jB(hm:m=1\/m=3)(C:du σ cc m D dd)(T:fm σ tt m L)(hD:∀p,p<m->dp (D p))(JF:∀p,p<m->∀x∈D p,x.1<=16)(hL:∀p,p<m->∀x∈D p,(L p x.1).isSome)(q:∀τ,Up [] σ τ->Q (.int (Ho L D m:Nat)) τ):W ((ag gg (n+31)).C (aa 77) [.ref cc,.ref tt]) Q σ:=by
 let aO:V->Pr:=λv1 H=>(W (aQ v1) λfz=>aK (aJ (ag gg (n+29))) (bp (ay gg (n+29)) (aa 77).sc (aF (aa 77).body [1])) (bx (ay gg (n+30)) (aa 77).sc ((aa 77).body.drop 2) (cz Q)) fz.2 fz.1 ⟨[("counts",.ref cc),("tables",.ref tt),("found",.int 0)],[]⟩) H;refine ce (p:=(W (aU "sorted" [.ref cc]) aO) σ) ?_;have m0:0<m:=by rcases hm with rfl|rfl<;>decide
 refine Bk hm C.1 λdM ks u2 h2=>dj h2 ?_;refine oA (c0:=0) (λc e=>∃p b,e=Di cc tt p c b) rfl (by rw[ck];exact m0) (λk c τ=>Up [] dM τ/\c=Ho L D k) (λk c τ ae=>.l (ae.1.at h2)) (λk c v e τ K hv hE ae q'=>?_) (λc e τ Ij ae=>iN Ij λp b hb=>?_) ⟨.refl,rfl⟩
 ·obtain⟨u,rfl⟩:=ae;have hk:k<m:=by
   have:=(d0 hv).1
   rwa[ck]at this
  replace hv:=(tH hk)▸hv;obtain rfl:=bE hv;have Ck:=C.up (u2.trans u);obtain⟨kk,hd⟩:=Ck.2 k hk;have go:∀e,(∀τ v K,bp (ay gg (n+28)) (aa 77).sc (aF (aa 77).body [1,0]) v (WB cc tt k (Ho L D k)) K τ->bp (ay gg (n+28)) (aa 77).sc (aF (aa 77).body [1,0]) v e K τ)->(W (aR (.ref cc) (kd k)) λv1=>W (aU "sorted" [v1]) λv2=>W (aQ v2) λkW=>aK (aJ (ag gg (n+28))) (bp (ay gg (n+28)) (aa 77).sc (aF (aa 77).body [1,0])) (bx (ay gg (n+29)) (aa 77).sc ((dQ (aF (aa 77).body [1])).drop 1) K) kW.2 kW.1 e) τ:=λe he=>by
   refine jY Ck.1 (k:=pk k) rfl (oQ hk) (Kh hd (hD k hk).len λgT j Zf u3 V9 h3=>dj h3 ?_);refine Hn (Ck.up u3) (T.up ((u2.trans u).trans u3)) hk V9 (hD k hk).ne (JF k hk) (hL k hk) h3 (λv K τ h=>he τ v K h) λb=>?_;rw[NP (hD k hk).nd V9];refine bk (p:=K .next (Di cc tt k (Ho L D k+((D k).map λx=>x.2*i8 L k x.1).sum) b) gT) (q' _ _ gT (ml k b rfl) ⟨u.trans u3,?_⟩);simp only[Ho,Ho,range_succ,map_append,sum_append];rfl
  rcases hE with⟨rfl,ec⟩|⟨p,b,rfl⟩
  ·replace go:=ec▸go;exact bk (go _ λ_ _ _ h=>h)
  ·exact bk (go (Di cc tt k (Ho L D k) b) λ_ _ _ h=>bk h)
 ·obtain⟨u,rfl⟩:=ae;rw[ck]at hb;subst hb;exact bk (p:=Q (.int (Ho L D m:Nat)) τ) (q τ (u2.trans u))
end
theorem Kg(h:σ[i]?=some (.lst (cp l)))(hl:l.length<=6)(q:∀τ j,Up [] σ τ->τ[j]?=some (.lst (cp (kY l)))->Q (.ref j) τ):W (aU "sorted" [.ref i]) Q σ:=by
 have ll:(cp l).length=l.length:=length_map _;have k:jG (cp l)&&ble (cp l).length 6:=by
  rw[ll];refine and_eq_true_iff.mpr ⟨or_eq_true_iff.mpr (.inl (List.all_eq_true.mpr λv hv=>?_)),ble_eq_true_of_le hl⟩;(refine dC hv λp _ Ei=>?_;subst Ei)
  rfl
 refine bO rfl (ba (bC h (bP (bN k (bG λj τ u lj hj=>?_)))));have vp:=qE (l:=cp l) (ll▸hl) (le:=λx y=>((vU x).getD 0).toNat<=((vU y).getD 0).toNat) (λ_ _ _=>ao) (λx hx y hy h=>?_) λx hx y hy h=>?_
 ·have mp:=kT (f:=λc:Nat=>V.int c) (g:=λv=>((vU v).getD 0).toNat) (λ_=>rfl) vp.1;have ma:=yu.all (le:=λa b:Nat=>a<=b) (λ_ _ _=>ao) (yu.map (f:=λv=>((vU v).getD 0).toNat) vp.2);refine q τ j u (hj.trans (congrArg (λl=>some (aL.lst l)) (mp.1.trans ?_)));rw[Ab mp.2 ma];rfl
 all_goals
  (refine dC hx λa _ D0=>?_;subst D0);(refine dC hy λb _ DR=>?_;subst DR);have h:decide ((a:Int)<b)=_:=h
  first|exact cF (ofNat_lt.mp (fh h))|exact ofNat_le.mp (Int.not_lt.mp (of_decide_eq_false h))
theorem dp.YD(h:dp es):kY (es.map (·.2))=gS es:=
 (Ab ((gn (b:=true) h.len).2.1.map _) (y7 (yu.all (le:=λp q:Nat×Nat=>p.2<=q.2) (λx y z=>ao) (gn (b:=true) h.len).2.2))).symm
theorem wy(h:dp es)(h3:es.length<=3)(hd:σ[d]?=some (.cG (fL es) k))(q:∀τ,Up [] σ τ->Q (.int (jk (gS es):Nat)) τ):W ((ag gg (n+16)).C (aa 91) [.ref d]) Q σ:=by
 let aO:V->Pr:=λv8 H=>(Q v8) H;let aZ:V->Pr:=λpY H=>(Q pY) H;let bW:V->V->Pr:=λv11 pd H=>(W (ai .Add v11 pd) aZ) H;let c8:V->V->Pr:=λv11 kJ H=>(W (ai .Mult (.int 2) kJ) (bW v11)) H;let dG:V->V->Pr:=λv5 v11 H=>(W (aR v5 (.int 0)) (c8 v11)) H;let dR:V->Pr:=λBy H=>(Q By) H;let fC:V->V->Pr:=λAy Iq H=>(W (aU "min" [Ay,Iq]) dR) H;let gX:V->V->Pr:=λAy EF H=>(W (ai .Mult (.int 2) EF) (fC Ay)) H;let iU:V->V->Pr:=λv5 Ay H=>(W (aU "sum" [v5]) (gX Ay)) H;let eE:V->V->V->Pr:=λv5 pX v20 H=>(W (ai .Add pX v20) (iU v5)) H;let fj:V->V->V->Pr:=λv5 pX uo H=>(W (ai .Mult (.int 3) uo) (eE v5 pX)) H;let gY:V->V->Pr:=λv5 pX H=>(W (aR v5 (.int 0)) (fj v5 pX)) H;let jl:V->V->V->Pr:=λv5 kN sF H=>(W (ai .Add kN sF) (gY v5)) H;let jL:V->V->V->Pr:=λv5 kN mx H=>(W (ai .Mult (.int 2) mx) (jl v5 kN)) H;let ke:V->V->Pr:=λv5 kN H=>(W (aR v5 (.int 1)) (jL v5 kN)) H;let kG:V->Bool->Pr:=λv5 R3 H=>(cR R3 (W (aR v5 (.int 1)) (dG v5)) (W (aR v5 (.int 2)) (ke v5))) H;let kF:V->V->Pr:=λv5 v9 H=>(W (cX .Eq v9 (.int 2)) (kG v5)) H;let mK:V->Bool->Pr:=λv5 b7 H=>(cR b7 (W (aR v5 (.int 0)) aO) (W (aU "len" [v5]) (kF v5))) H;let mJ:V->V->Pr:=λv5 v6 H=>(W (cX .Eq v6 (.int 1)) (mK v5)) H;let mI:V->Pr:=λv5 H=>(W (aU "len" [v5]) (mJ v5)) H;refine ce (p:=(W (aQ (.ref d)) λfz=>W (dq (.lst [])) λvK=>gj vK λa4=>aK (aJ (ag gg (n+12))) (eA (ay gg (n+12)) (jv 0 (ew (aF (aa 91).body [0]))) a4) (λ_ _=>W (aU "sorted" [.ref a4]) mI) fz.2 fz.1 ⟨[],[("counts",.ref d)]⟩) σ) ?_;refine nW hd (bG λa Kz u0 l0 ha=>rP ?_);have tl:(fL es).length=es.length:=length_map _;have vl:((fL es).map λe=>V.int e.1).length=(fL es).length:=length_map _;refine gU (λb:V=>⟨[("size",b)],[("counts",.ref d)]⟩) vl (tl▸h.ne) (λ_ v K τ _ h=>bk h) (λj τ=>Up [] σ τ/\τ[a]?=some (.lst (cp ((es.take j).map (·.2))))) (λj τ h=>.d (h.1.at hd)) (λj v τ K hv ae q'=>?_) (λb τ ae=>?_) ⟨u0,ha⟩
 ·obtain⟨u,h'⟩:=ae;rw[fL,List.map_map,getElem?_map]at hv;(refine dw hv λp hj vW=>?_;subst vW);have hm:=fP hj;have hk:aV (p.1:Int) (fL es)=some (.int p.2):=gB (ou h.nd) (List.mem_map_of_mem (f:=λp:Nat×Nat=>((p.1:Int),V.int (p.2:Nat))) hm);let aO:V->Pr:=λv2 H=>(W (d6 a v2) λ_=>K .next ⟨[("size",.int (p.1:Nat))],[("counts",.ref d)]⟩) H;let aZ:V->Pr:=λv1 H=>(W (aX "int" [v1]) aO) H;refine bk (p:=(W (aR (.ref d) (.int (p.1:Nat))) aZ) τ) ?_;refine fV (u.at hd) hk (nX (eZ h' (aG ?_) λeW u1 h1=>q' (.int (p.1:Nat)) eW ⟨u.fresh l0 u1,?_⟩))
  ·rw[cp,length_map,length_map,length_take];omega
  ·rw[take_add_one,hj,map_append,cp,map_append];exact h1
 ·obtain⟨u,h'⟩:=ae;rw[tl,take_length]at h';refine Kg h' (by rw[length_map];exact ao h3 (by decide)) λeW j u1 h1=>?_;have q:=q eW (u.trans u1);rw[h.YD]at h1;have fl:(gS es).length=es.length:=(length_map _).trans (gn (b:=true) h.len).2.1.length_eq;have h3:=fl▸h3;have h0:=fl▸h.ne;have hs:(gS es).sum<=6:=Perm.sum_nat ((gn (b:=true) h.len).2.1.map (·.2))▸h.sum;generalize gS es=fs at h1 q h3 h0 hs
  match fs,h0,h3 with
  |[a],_,_=>exact dr h1 rfl (kr (mv rfl (cg h1 rfl rfl q)))
  |[a,b],_,_=>
   rw[sum_cons,sum_cons]at hs;exact dr h1 rfl (kr (iy rfl (dr h1 rfl (kr (mv rfl (cg h1 rfl rfl (cg h1 rfl rfl (dX (ic (by omega)) (cq q)))))))))
  |[a,b,c],_,_=>
   rw[sum_cons,sum_cons,sum_cons]at hs;refine dr h1 rfl (kr (iy rfl (dr h1 rfl (kr (iy rfl ?_)))));refine cg h1 rfl rfl (cg h1 rfl rfl (dX (ic (by omega)) (cq ?_)));refine cg h1 rfl rfl (dX (ic (by omega)) (cq (Ai h1 (ns:=[(a:Int),(b:Int),(c:Int)]) rfl ?_)));have e: [(a:Int),(b:Int),(c:Int)].sum=((a+b+c:Nat):Int):=by
    show(a:Int)+((b:Int)+((c:Int)+0))=_
    omega
   refine Eq.symm e▸?_;refine dX (ic (by omega)) (N0 ?_);have e2:(if(2:Int)*((a+b+c:Nat):Int)<(c:Int)+2*b+3*a then(2:Int)*((a+b+c:Nat):Int)else(c:Int)+2*b+3*a)=(jk [a,b,c]:Nat):=by
    show _=((if c+2*b+3*a<=2*(a+b+c)then c+2*b+3*a else 2*(a+b+c):Nat):Int)
    split<;>split<;>omega
   rw[e2];exact q
end
section
variable{n:Nat}{Q:V->Pr}{σ:af}
section
variable{f cs m w h prec:Nat}{co:Nat->Nat}
theorem PF{p:Nat}{KB:Bool->Pr}(hm:m=1\/m=3)(hp:σ[p]?=some (eX (λ(j:Nat)=>.int j) m))(q:KB true σ):(ay gg (n+19)).T (aa 32).sc ⟨[("frame",.ref f),("places",.ref p),("many",.int m)],[]⟩ (m9 (aF (aa 32).body [2])) KB σ:=by
 let aO:Bool->Pr:=λb3 H=>(cR b3 (KB true) (KB false)) H;let aZ:Bool->Pr:=λb2 H=>(cR b2 (W (cX .LtE (.int m) (.int 10)) aO) (KB false)) H;let bW:V->Pr:=λv1 H=>(W (cX .LtE v1 (.int 4)) aZ) H;refine bk (p:=(W (aU "len" [.ref p]) bW) σ) ?_;have h4:m<=4:=by rcases hm with rfl|rfl<;>decide
 refine dr hp (aG (eQ (Nat.lt_of_le_of_lt h4 (by decide)))) (ym ?_);rw[ck];exact mv (dT (ofNat_le.mpr h4)) (ym (mv (dT (ofNat_le.mpr (ao h4 (by decide:4<=10)))) q))
theorem sD(hm:m=1\/m=3)(F:bT σ f cs m w h prec co)(q:∀τ i p,Up [] σ τ->τ[i]?=some (.lst [.ref p])->τ[p]?=some (eX (λ(j:Nat)=>.int j) m)->Q (.ref i) τ):W ((ag gg (n+21)).C (aa 32) [.ref f]) Q σ:=by
 let aO:V->Pr:=λkJ H=>(Q kJ) H;let aZ:V->V->Pr:=λv4 v10 H=>((ay gg (n+19)).T (aa 32).sc ⟨[("frame",.ref f),("places",v4),("many",v10)],[]⟩ (m9 (aF (aa 32).body [2])) λR2=>cR R2 (W (dE [v4]) aO) (W (aQ v4) λLo=>W (dq (.lst [])) λR8=>gj R8 λWG=>aK (aJ (ag gg (n+18))) (eA (ay gg (n+18)) (ew (aF (aa 32).body [3])) WG) (λ_ _=>Q (.ref WG)) Lo.2 Lo.1 ⟨[],[]⟩)) H;let bW:V->V->Pr:=λv4 v6 H=>(W (aQ v6) λkU=>W (dq (.lst [])) λNU=>gj NU λa9=>aK (aJ (ag gg (n+17))) (eA (ay gg (n+17)) (jv 0 (ew (aF (aa 32).body [1]))) a9) (λ_ _=>W (aU "sum" [.ref a9]) (aZ v4)) kU.2 kU.1 ⟨[],[]⟩) H;let c8:V->Pr:=λv4 H=>(W (aB gg (.ref f) "components") (bW v4)) H;let dG:V->Pr:=λv3 H=>(W (aX "list" [v3]) c8) H;let dR:V->Pr:=λv2 H=>(W (aX "range" [v2]) dG) H;let fC:V->Pr:=λv1 H=>(W (aU "len" [v1]) dR) H;refine ce (p:=(W (aB gg (.ref f) "components") fC) σ) ?_;have o:=F.obj;have gZ:=F.hm.2;refine DD ?_;refine dr F.cs (aG (eQ gZ)) (cy ?_);rw[ck];refine vN (j4 gZ) (aG (eQ gZ)) λp eW u1 l1 h1=>?_;have o:=u1.at o;refine DD ?_;refine dj (u1.at F.cs) (bG λa dM u2 l2 h2=>rP ?_);refine iP (σ:=eW) (f:=λv=>⟨[("component",v)],[]⟩) (.inr (aT cs rfl (u1.at F.cs))) (λ_=>.int 1) (λb v K τ _ h=>bk h) (eQ gZ) u2 l2 h2 (λv τ K hv u q=>?_) λe τ u h=>?_
 ·(refine dC hv λk hk yB=>?_;subst yB);have o:τ[co k]?=_:=(u1.trans u).at (F.co k (mem_range.mp hk));let aO:V->Pr:=λv3 H=>(W (d6 a v3) λ_=>K .next ⟨[("component",.ref (co k))],[]⟩) H;let aZ:V->V->Pr:=λv1 v2 H=>(W (ai .Mult v1 v2) aO) H;let bW:V->Pr:=λv1 H=>(W (aB gg (.ref (co k)) "down") (aZ v1)) H;refine bk (p:=(W (aB gg (.ref (co k)) "across") bW) τ) ?_;refine qi ?_;refine ku ?_;exact dX rfl (q _)
 ·replace h:=(List.map_map)▸h;refine Ai h fQ ?_;have e:((range m).map λ_=>(1:Int)).sum=(m:Nat):=by rcases hm with rfl|rfl<;>rfl
  have e:((range m).map ((λ_=>(1:Int)))).sum=(m:Nat):=e;refine Eq.symm e▸?_;have hp:=(u2 |> λ_=>u).at h1
  refine PF hm hp (bZ rfl λi gT u3 l3 h3=>q gT i p ?_ h3 (u3.at hp));exact u1.trans (u.trans u3)
end
theorem NK{s t:Int}:f3 (CO s t)<=16:=by
 simp only[z0,g8];by_cases h0:(CO s t).natAbs=0
 ·rw[if_pos h0];exact zero_le _
 ·rw[if_neg h0];refine(log2_lt h0).mpr ?_;have h1:=Int.fmod_nonneg_of_pos (s-t) (show(0:Int)<65536 by decide);have h2:=Int.fmod_lt_of_pos (s-t) (show(0:Int)<65536 by decide);unfold CO
  split
  ·rename_i h;have h:=fh h;omega
  ·omega
section
variable{i pl m w h prec k pt e:Nat}{md:Str}{G:Nat->Nat->Nat->Int}{po rr:Nat->Nat}{qq:Nat->Nat->Nat}
noncomputable abbrev SG(G:Nat->Nat->Nat->Int)(pt:Nat):Nat->Nat->Nat->Int:=λp y x=>(G p y x).fdiv (2^pt)
noncomputable def fA(G:Nat->Nat->Nat->Int)(w h k e pt p:Nat):List (Nat×Nat):=eB (iQ (vA w k (1*2^e) (SG G pt)) p (w*h))
theorem lM(h0:0<w*h)(h6:w*h<=6){p:Nat}:dp (fA G w h k e pt p):=by
 have l:(iQ (vA w k (1*2^e) (SG G pt)) p (w*h)).length=w*h:=ck;exact JU (by rw[l];exact h0) (by rw[l];exact h6)
theorem vF{p:Nat}:∀x∈fA G w h k e pt p,x.1<=16:=λx hx=>by
 refine dC (xR hx) λj _ e=>?_;exact e▸NK
theorem Jl{es:List (Nat×Nat)}(h:dp es){s l:Nat}(e:lX es s=some l):l<=16:=by
 refine pO (h.parts) λ_ _ _ _ _ _ _ p6 _=>?_;refine dC (rG e) λx hx e=>?_;exact(p6 l (mem_map.mpr ⟨x,hx,(Prod.mk.inj e).2⟩)).2
noncomputable def mq(G:Nat->Nat->Nat->Int)(w h k e pt m:Nat):Nat:=Ho (λp=>lX (fA G w h k e pt p)) (fA G w h k e pt) m
theorem Bv(P:jZ σ i pl m w h prec md G po rr qq)(hm:m=1\/m=3)(hk:k<7)(hw:0<w/\w<21)(hh:h<21)(hN:∃M,w*h=M+1/\M+1<21)(h6:w*h<=6)(hp:(prec:Int)-pt-1=(e:Nat))(pI:pt<=1000)(he:e<=1000)(q:∀τ,i9 σ τ->Q (.int (mq G w h k e pt m:Nat)) τ):W ((ag gg (n+61)).C (aa 78) [.ref i,.int (k+1:Nat),.int pt]) Q σ:=by
 let aO:V->V->V->Pr:=λv6 v8 v9 H=>(W (aQ v9) λxr=>aK (aJ (ag gg (n+59))) (bp (ay gg (n+59)) (aa 78).sc (aF (aa 78).body [3])) (bx (ay gg (n+60)) (aa 78).sc ((aa 78).body.drop 4) (cz Q)) xr.2 xr.1 ⟨[("picture",.ref i),("predictor",.int (k+1:Nat)),("point",.int pt),("frame",v6),("samples",v8),("found",.int 0)],[]⟩) H;let aZ:V->V->Pr:=λv6 v8 H=>(W ((ag gg (n+58)).C (aa 32) [v6]) (aO v6 v8)) H;let bW:V->V->Pr:=λv6 v7 H=>(W ((ag gg (n+58)).C (aa 20) [v6,v7,.int pt]) (aZ v6)) H;let c8:V->Pr:=λv6 H=>(W (aB gg (.ref i) "planes") (bW v6)) H;let dG:V->Pr:=λv2 H=>(W (aQ v2) λc9=>W (dq (.lst [])) λhH=>gj hH λa5=>aK (aJ (ag gg (n+57))) (eA (ay gg (n+57)) (jv 1 (ew (aF (aa 78).body [0]))) a5) (λ_ _=>W ((ag gg (n+58)).C (aa 31) [.ref i,.ref a5]) c8) c9.2 c9.1 ⟨[],[]⟩) H;refine ce (p:=(W (aB gg (.ref i) "planes") dG) σ) ?_;have gZ:=P.hm.2;have o:=P.obj;refine ku ?_;refine dj P.sA (bG λa τ u l h0=>rP ?_);refine iP (σ:=σ) (f:=λv=>⟨[("plane",v)],[]⟩) (.inr ⟨pl,rfl,P.sA⟩) (λ_=>.tup [.int 1,.int 1]) (λb v K τ _ h=>bk h) (eQ gZ) u l h0 (λv τ K hv u q=>?_) λe' eW u1 h1=>?_
 ·(refine dC hv λp hp wk=>?_;subst wk);exact bk (p:=(W (d6 a (.tup [.int 1,.int 1])) λ_=>K .next ⟨[("plane",.ref (po p))],[]⟩) τ) (q _)
 ·rw[List.map_map]at h1;refine jz (n:=n+17) (P.up u1) h1 λdM f cs co u2 F=>?_;have It:=u1.trans u2;have o:=It.at P.obj;refine ku ?_;have PL:iT dM pl m w h G po rr qq:=⟨(P.up It).sA,(P.up It).pn⟩;refine wA (n:=n+12) F PL hw hh pI λgT g r p3 q3 u3 Rg=>?_;refine sD (n:=n+37) hm (F.up u3) λjx pi ps u4 h4 UC=>dj h4 ?_;have F4:=F.up (u3.trans u4);have R4:=Rg.keep (τ:=jx) λj c hj _=>u4.at hj;refine uN (c0:=0) (λc:Nat=>⟨[("picture",.ref i),("predictor",.int (k+1:Nat)),("point",.int pt),("frame",.ref f),("samples",.ref g),("found",.int c)],[]⟩) (λ(c:Nat) (b:V×V×V×V)=>⟨[("picture",.ref i),("predictor",.int (k+1:Nat)),("point",.int pt),("frame",.ref f),("samples",.ref g),("found",.int c),("places",b.1),("slots",b.2.1),("scan",b.2.2.1),("counts",b.2.2.2)],[]⟩) rfl Nat.one_pos (λc b v K τ _ h=>bk h) (λj c τ=>i9 jx τ/\(j=0->τ=jx/\c=0)/\(j=1->c=mq G w h k e pt m)) (λj c τ ae=>.l (ae.1.2 _ _ h4 rfl)) (λj c v τ K hv ae q'=>?_) (λc b τ ae=>?_) ⟨⟨Nat.le_refl _,λ_ _ h _=>h⟩,λ_=>⟨rfl,rfl⟩,nofun⟩
  ·have j0:j=0:=by
    have:=(d0 hv).1;exact Nat.lt_one_iff.mp this
   subst j0;(have MK:=bE hv;subst MK);obtain⟨rfl,rfl⟩:=ae.2.1 rfl;let aO:V->V->V->Int->Pr:=λv3 v7 v8 XO H=>(K .next ⟨[("picture",.ref i),("predictor",.int (k+1:Nat)),("point",.int pt),("frame",.ref f),("samples",.ref g),("found",(.int ((0:Nat)+XO))),("places",.ref ps),("slots",v3),("scan",v7),("counts",v8)],[]⟩) H;let aZ:V->V->V->V->Pr:=λv3 v7 v8 v10 H=>(R (f6 v10) (aO v3 v7 v8)) H;let bW:V->V->V->V->Pr:=λv3 v7 v8 v9 H=>(W ((ag gg (n+57)).C (aa 77) [v8,v9]) (aZ v3 v7 v8)) H;let c8:V->V->V->Pr:=λv3 v7 v8 H=>(W ((ag gg (n+56)).C (aa 72) [v8]) (bW v3 v7 v8)) H;let dG:V->V->Pr:=λv3 v7 H=>(W ((ag gg (n+57)).C (aa 71) [.ref f,v7,.ref g,.int 0]) (c8 v3 v7)) H;let dR:V->V->Pr:=λv3 v6 H=>(W (cx gg (ag gg (n+57)) (.cls "Scan") [.ref ps,v3,v6,.int (k+1:Nat),.int 0,.int 0,.int pt]) (dG v3)) H;let fC:V->V->V->Pr:=λv3 v4 v5 H=>(W (ai .Mult v4 v5) (dR v3)) H;let gX:V->V->Pr:=λv3 v4 H=>(W (aU "len" [.ref ps]) (fC v3 v4)) H;let iU:V->Pr:=λv3 H=>(W (dE [.int 0]) (gX v3)) H;let eE:V->Pr:=λv2 H=>(W (aX "list" [v2]) iU) H;let fj:V->Pr:=λv1 H=>(W (aX "range" [v1]) eE) H;refine bk (p:=(W (aU "len" [.ref ps]) fj) τ) ?_;refine dr UC (aG (eQ gZ)) (cy ?_);refine Eq.symm ck▸?_;refine vN (j4 gZ) (aG (eQ gZ)) λs sW u5 l5 hs=>bZ rfl λz Ky u6 l6 hz=>dr ((u5.trans u6).at UC) (aG (eQ gZ)) ?_;rw[ck];refine sj hz (GR (ao (cF gZ) (by decide))) (bZ (aG ?_) λac VF u7 l7 h7=>?_)
   ·simp only[toNat_natCast,List.length_flatten,List.map_replicate,sum_replicate_nat];exact ao (Nat.mul_le_mul_right _ (cF gZ)) (by decide)
   ·refine Fq λsc Sv u8 l8 h8=>?_;have Sy:=u5.trans (u6.trans (u7.trans u8));have S:dJ Sv sc ps s m k pt:=⟨⟨_,h8⟩,Sy.at UC,(u6.trans (u7.trans u8)).at hs⟩;refine sZ (n:=n+6) (F4.up Sy) S (R4.keep λj c hj _=>Sy.at hj) hk hw hh hN hp pI he λTc cc dd u9 C=>?_;have hD:∀p,p<m->dp (fA G w h k e pt p):=λp _=>lM (hN |> λLK=>ak LK λM e _=>e▸succ_pos M) h6
    refine me (n:=n+20) hm C hD λLI tt uA T=>?_;refine jB (n:=n+26) hm (C.up uA) T hD (λp _=>vF) (λp hp x hx=>(hD p hp).some (List.mem_map_of_mem hx)) λSu uB=>?_;refine Sh (q' _ (_,_,_,_) Su ⟨Sy.g.trans (u9.trans (uA.trans uB).g),nofun,λ_=>?_⟩);exact Nat.zero_add _
  ·have q:=q τ ((It.trans (u3.trans u4)).g.trans ae.1);replace q:=(Eq.symm (ae.2.2 rfl))▸q;exact bk (p:=Q (.int c) τ) q
end
theorem lJ{f g:Nat->V}{k:Nat}(h:∀i,i<k->g i=f i):aL.lst ((range k).map f++[g k])=eX g (k+1):=by
 simp only[eX,range_succ,map_append,List.map_congr_left λi hi=>(h i (mem_range.mp hi)).symm];rfl
theorem eD.up{s:Nat}{τ:af}(u:Up [] σ τ)(S:eD σ s):eD τ s:=let ⟨a,b,h,e⟩:=S;⟨a,b,h,u.at e⟩
theorem eD.ne{s i:Nat}{τ:af}(u:Up [i] σ τ)(n:s≠i)(S:eD σ s):eD τ s:=let ⟨a,b,h,e⟩:=S;⟨a,b,h,u.ne e n⟩
theorem eD.lt{s:Nat}(S:eD σ s):s<σ.length:=let ⟨_,_,_,e⟩:=S;eG e
section
variable{s mo w h:Nat}
theorem Jm{kf:Nat->Fl->ar->Pr}(S:eD σ s)(Ls:mo+1<=1000000)(hw:0<w/\w<21)(q:∀τ a (g:Nat->Int) e,Up [s] σ τ->eD τ s->σ.length<=a->τ[a]?=some (eX (λx=>.int (g x)) w)->kf a .next e τ):W (aX "range" [.int w]) (λv2=>W (aQ v2) λc9=>W (dq (.lst [])) λhH=>gj hH λa5=>aK (aJ (ag gg (n+95))) (eA (ay gg (n+95)) (jv 0 (ew (aF (aa 92).body [4,0]))) a5) (kf a5) c9.2 c9.1 ⟨[],[("most",.int mo),("source",.ref s)]⟩) σ:=by
 refine cy (c7 hw.2 (bG λa Kz u0 l0 h0=>rP ?_));have sa:s≠a:=λe=>dH l0 (e▸S.lt);refine gU (λb:V=>⟨[("x",b)],[("most",.int mo),("source",.ref s)]⟩) rfl (by simp only[dB,ck];exact hw.1) (λ_ v K τ _ h=>bk h) (λj τ=>Up [s] σ τ/\eD τ s/\a<τ.length/\∃g:Nat->Int,τ[a]?=some (eX (λx=>.int (g x)) j)) (λ_ _ _=>.inl rfl) (λj v τ K hv ae q'=>?_) (λb τ ae=>?_) (AU u0.any (S.up u0) (eG h0) (λ_=>0) h0)
 ·(refine A8 ae λu S la g hg=>?_;clear ae);have hj:j<w:=by
   have:=(d0 hv).1
   rwa[dB,ck]at this
  let aO:=λ(v4:V)=>W (d6 a v4) λ_=>K .next ⟨[("x",v)],[("most",.int mo),("source",.ref s)]⟩;let aZ:=λ(v3:V)=>W ((ag gg (n+94)).C (aa 87) [.ref s,v3]) aO;let bW:=λ(v2:V)=>W (dE [.int 0,.int mo,v2]) aZ;let c8:=λ(v1:V)=>W ((ag gg (n+92)).C (aa 86) [.ref s,v1]) bW;refine bk (p:=(W (ai .Add (.int mo) (.int 1)) c8) τ) ?_;refine cq ?_;rw[<-natCast_succ];refine gf (n:=n+81) S ⟨succ_pos _,Ls⟩ λeW d u1 S1 hd=>bZ rfl λl dM u2 l2 h2=>?_;have S2:=S1.up u2;refine om (n:=n+78) S2 h2 (λe=>dH l2 (e▸S1.lt)) ⟨succ_pos _,eK rfl⟩ λgT x u3 S3 hx=>?_;obtain⟨x,rfl⟩:∃i:Int,x=.int i:=by
   rcases bt hx with rfl|hx
   ·exact⟨_,rfl⟩
   rcases bt hx with rfl|hx
   ·exact⟨_,rfl⟩
   ·exact⟨_,bz hx⟩
  have Ir:Up [s] τ gT:=(u1.trans u2.any).trans u3;have Yk:=Ir.ne hg sa.symm;refine eZ Yk (aG (ck.symm▸ao (cF (Nat.lt_trans hj hw.2)) (by decide))) λjx u4 h4=>q' _ jx (AU ((u.trans Ir).fresh l0 (u4.sub λi hi=>mem_cons.mpr (.inl (bz hi)))) (S3.ne u4 sa) (d5 la (ao Ir.1 u4.1)) (λi=>if i=j then x else g i) ?_);rw[h4,<-lJ (f:=λi=>.int (g i)) (g:=λi=>.int (if i=j then x else g i)) λi hi=>by simp only[if_neg (Nat.ne_of_lt hi)]];simp only[if_pos]
 ·(refine A8 ae λu S la g hg=>?_;clear ae);rw[dB,ck]at hg;exact q τ a g _ u S l0 hg
structure yq(τ:af)(lo r w h:Nat)(G:Nat->Nat->Int)(q:Nat->Nat):Prop where
 at':gC τ r w h G q
 lr:lo<=r
 lq:∀y,y<h->lo<=q y
theorem yq.up{S:List Nat}{τ:af}{lo r:Nat}{G:Nat->Nat->Int}{q:Nat->Nat}(u:Up S σ τ)(hS:∀i∈S,i<lo)(R:yq σ lo r w h G q):yq τ lo r w h G q:=
 ⟨⟨u.2 _ _ R.at'.top λm=>dH R.lr (hS _ m),λy hy=>u.2 _ _ (R.at'.row y hy) λm=>dH (R.lq y hy) (hS _ m),R.at'.hw,R.at'.hh⟩,R.lr,R.lq⟩
theorem FN{kf:Nat->Fl->ar->Pr}{lo:Nat}(S:eD σ s)(hs:s<lo)(Rf:lo<=σ.length)(Ls:mo+1<=1000000)(hw:0<w/\w<21)(hh:0<h/\h<21)(q:∀τ a G qr e,Up [s] σ τ->eD τ s->yq τ lo a w h G qr->kf a .next e τ):W (aX "range" [.int h]) (λv2=>W (aQ v2) λc9=>W (dq (.lst [])) λhH=>gj hH λa5=>aK (aJ (ag gg (n+96))) (eA (ay gg (n+96)) (ew (aF (aa 92).body [4,0])) a5) (kf a5) c9.2 c9.1 ⟨[],[("most",.int mo),("source",.ref s),("width",.int w)]⟩) σ:=by
 refine cy (c7 hh.2 (bG λa Kz u0 l0 h0=>rP ?_));have sa:s≠a:=λe=>dH l0 (e▸S.lt);have la:=ao Rf l0;refine gU (λb:V=>⟨[("y",b)],[("most",.int mo),("source",.ref s),("width",.int w)]⟩) rfl (by simp only[dB,ck];exact hh.1) (λ_ v K τ _ h=>bk h) (λj τ=>Up [s] σ τ/\eD τ s/\a<τ.length/\∃(G:Nat->Nat->Int) (qr:Nat->Nat),τ[a]?=some (eX (λy=>.ref (qr y)) j)/\∀y,y<j->lo<=qr y/\qr y≠a/\τ[qr y]?=some (eX (λx=>.int (G y x)) w)) (λ_ _ _=>.inl rfl) (λj v τ K hv ae q'=>?_) (λb τ ae=>?_) (tR u0.any (S.up u0) (eG h0) (λ_ _=>0) (λ_=>0) h0 nofun)
 ·(refine cC λWW QM=>?_;(refine tZ ae λu S lt G qr hg hr=>?_;clear ae);refine QM ?_);have hj:j<h:=by
   have:=(d0 hv).1
   rwa[dB,ck]at this
  let aO:V->Pr:=λv2 H=>(W (aQ v2) λc9=>W (dq (.lst [])) λhH=>gj hH λa5=>aK (aJ (ag gg (n+95))) (eA (ay gg (n+95)) (jv 0 (ew (aF (aa 92).body [4,0]))) a5) (λ_ _=>W (d6 a (.ref a5)) λ_=>K .next ⟨[("y",v)],[("most",.int mo),("source",.ref s),("width",.int w)]⟩) c9.2 c9.1 ⟨[],[("most",.int mo),("source",.ref s)]⟩) H;refine bk (p:=(W (aX "range" [.int w]) aO) τ) ?_;refine Jm S Ls hw λeW z g e1 u1 S1 lz hz=>?_;have Ow:=u1.ne hg sa.symm;refine eZ Ow (aG (ck.symm▸ao (cF (Nat.lt_trans hj hh.2)) (by decide))) λdM u2 h2=>q' _ dM (tR ((u.trans u1).fresh l0 (u2.sub λi hi=>mem_cons.mpr (.inl (bz hi)))) (S1.ne u2 sa) (d5 lt (ao u1.1 u2.1)) (λy x=>if y=j then g x else G y x) (λy=>if y=j then z else qr y) ?_ (λy hy=>?_))
  ·rw[h2,<-lJ (f:=λi=>.ref (qr i)) (g:=λi=>.ref (if i=j then z else qr i)) λi hi=>by simp only[if_neg (Nat.ne_of_lt hi)]];simp only[if_pos]
  ·have za:z≠a:=λe=>dH lz (e▸lt);by_cases e:y=j
   ·simp only[if_pos e];exact⟨ao Rf (ao u.1 lz),za,u2.ne hz za⟩
   ·refine bH (hr y (Nat.lt_of_le_of_ne (le_of_lt_succ hy) e)) λa1 a2 a3=>?_;simp only[if_neg e];exact⟨a1,a2,u2.ne (u1.ne a3 λe=>dH a1 (e▸hs)) a2⟩
 ·(refine cC λWT QJ=>?_;(refine tZ ae λu S lt G qr hg hr=>?_;clear ae);refine QJ ?_);rw[dB,ck]at hg hr;exact q τ a G qr _ u S ⟨⟨hg,λy hy=>(hr y hy).2.2,ao (cF hw.2) (by decide),ao (cF hh.2) (by decide)⟩,la,λy hy=>(hr y hy).1⟩
end
structure mW(τ:af)(lo i w h:Nat)(G:Nat->Nat->Int)(r:Nat)(q:Nat->Nat):Prop where
 obj:τ[i]?=some (.ins "Plane" [("width",.int w),("height",.int h),("rows",.ref r)])
 li:lo<=i
 rows:yq τ lo r w h G q
theorem mW.up{S:List Nat}{τ:af}{lo i r w h:Nat}{G:Nat->Nat->Int}{q:Nat->Nat}(u:Up S σ τ)(hS:∀i∈S,i<lo)(P:mW σ lo i w h G r q):mW τ lo i w h G r q:=
 ⟨u.2 _ _ P.obj λm=>dH P.li (hS _ m),P.li,P.rows.up u hS⟩
theorem mW.at'{τ:af}{lo i r w h:Nat}{G:Nat->Nat->Int}{q:Nat->Nat}(P:mW τ lo i w h G r q):ja τ i w h G r q:=⟨P.obj,P.rows.at'⟩
structure lR(τ:af)(lo pl m w h:Nat)(G:Nat->Nat->Nat->Int)(po rr:Nat->Nat)(qq:Nat->Nat->Nat):Prop where
 sA:τ[pl]?=some (eX (λp=>.ref (po p)) m)
 pn:∀p,p<m->mW τ lo (po p) w h (G p) (rr p) (qq p)
section
variable{s mo w h m pr pl lo:Nat}{sc:List V}
theorem zr{kf:Fl->ar->Pr}(S:eD σ s)(Ct:σ[pl]?=some (.lst []))(hs:s<lo)(hp:pl<lo)(sp:s≠pl)(Rf:lo<=σ.length)(Ls:mo+1<=1000000)(hm:0<m/\m<21)(hw:0<w/\w<21)(hh:0<h/\h<21)(q:∀(b:V×V) τ G po rr qq,Up [s,pl] σ τ->eD τ s->lR τ lo pl m w h G po rr qq->kf .next ⟨[("script",.gN sc),("source",.ref s),("precision",.int pr),("many",.int m),("width",.int w),("height",.int h),("most",.int mo),("planes",.ref pl),("place",b.1),("rows",b.2)],[]⟩ τ):aK (aJ (ag gg (n+98))) (bp (ay gg (n+98)) (aa 92).sc (aF (aa 92).body [4])) kf ((dB m).length+1) (.items (dB m)) ⟨[("script",.gN sc),("source",.ref s),("precision",.int pr),("many",.int m),("width",.int w),("height",.int h),("most",.int mo),("planes",.ref pl)],[]⟩ σ:=by
 refine gU (λb:V×V=>⟨[("script",.gN sc),("source",.ref s),("precision",.int pr),("many",.int m),("width",.int w),("height",.int h),("most",.int mo),("planes",.ref pl),("place",b.1),("rows",b.2)],[]⟩) rfl (by simp only[dB,ck];exact hm.1) (λ_ v K τ _ h=>bk h) (λj τ=>Up [s,pl] σ τ/\eD τ s/\∃G po rr qq,lR τ lo pl j w h G po rr qq) (λ_ _ _=>.inl rfl) (λj v τ K hv ae q'=>?_) (λb τ ae=>?_) ⟨.refl,S,λ_ _ _=>0,λ_=>0,λ_=>0,λ_ _=>0,Ct,nofun⟩
 ·(refine cC λVB M5=>?_;(refine tY ae λu S G po rr qq P=>?_;clear ae);refine M5 ?_);have hj:j<m:=by
   have:=(d0 hv).1
   rwa[dB,ck]at this
  let aO:(List V->Pr)->V->Pr:=λK7 v8 H=>(K7 [v8]) H;let aZ:Nat->V->Pr:=λa5 v6 H=>(K .next ⟨[("script",.gN sc),("source",.ref s),("precision",.int pr),("many",.int m),("width",.int w),("height",.int h),("most",.int mo),("planes",.ref pl),("place",v),("rows",.ref a5)],[]⟩) H;let bW:V->Pr:=λv2 H=>(W (aQ v2) λc9=>W (dq (.lst [])) λhH=>gj hH λa5=>aK (aJ (ag gg (n+96))) (eA (ay gg (n+96)) (ew (aF (aa 92).body [4,0])) a5) (λ_ _=>W (az gg (.ref pl) "append") (bA (ag gg (n+96)) (λK7 H=>(W (cx gg (ag gg (n+95)) (.cls "Plane") [.int w,.int h,.ref a5]) (aO K7)) H) (.ref pl) (aZ a5))) c9.2 c9.1 ⟨[],[("most",.int mo),("source",.ref s),("width",.int w)]⟩) H;refine bk (p:=(W (aX "range" [.int h]) bW) τ) ?_;refine FN (lo:=lo) S hs (ao Rf u.1) Ls hw hh λeW a g qr e u1 S1 R1=>?_;have P1:=u1.ne P.sA sp.symm;refine fg P1 ig (I9 (n:=n+84) λi dM u2 l2 h2=>nZ (u2.at P1) (aG (ck.symm▸ao (cF (Nat.lt_trans hj hm.2)) (by decide))) λgT u3 h3=>q' (_,_) gT ⟨(u.trans (u1.sub λi hi=>mem_cons.mpr (.inl (bz hi)))).trans (u2.any.trans (u3.sub λi hi=>fX _ hi)),(S1.up u2).ne u3 sp,λp=>if p=j then g else G p,λp=>if p=j then i else po p,λp=>if p=j then a else rr p,λp=>if p=j then qr else qq p,?_,λp H4=>?_⟩)
  ·rw[h3,<-lJ (f:=λp=>.ref (po p)) (g:=λp=>.ref (if p=j then i else po p)) λp hp=>by simp only[if_neg (Nat.ne_of_lt hp)]];simp only[if_pos]
  ·have b1:∀x∈ [s],x<lo:=λx hx=>bz hx▸hs;have b3:∀x∈ [pl],x<lo:=λx hx=>bz hx▸hp;by_cases e:p=j
   ·simp only[if_pos e];have li:=ao Rf (ao u.1 (ao u1.1 l2));exact(mW.mk h2 li (R1.up u2 nofun)).up u3 b3
   ·simp only[if_neg e];exact(((P.pn p (Nat.lt_of_le_of_ne (le_of_lt_succ H4) e)).up u1 b1).up u2 nofun).up u3 b3
 ·(refine cC λH2 ri=>?_;(refine tY ae λu S G po rr qq P=>?_;clear ae);refine ri ?_);rw[dB,ck]at P;exact q b τ G po rr qq u S P
end
section
variable{w h pt r:Nat}{G:Nat->Nat->Int}{qr:Nat->Nat}
theorem T5(h:pt<=1):(decide ((2:Int)^(pt:Int).toNat≠0)&&fe ((2:Int)^(pt:Int).toNat))=true:=by
 match pt,h with
 |0,_=>rfl
 |1,_=>rfl
theorem Jn{kf:Nat->Fl->ar->Pr}(R:gC σ r w h G qr)(pI:pt<=1)(hw:0<w/\w<21)(hh:0<h/\h<21)(q:∀τ a q2 e,Up [] σ τ->gC τ a w h (λy x=>(G y x).fdiv (2^pt)) q2->kf a .next e τ):W (aQ (.ref r)) (λc9=>W (dq (.lst [])) λhH=>gj hH λa5=>aK (aJ (ag gg (n+96))) (eA (ay gg (n+96)) (ew (aF (aa 92).body [13,0])) a5) (kf a5) c9.2 c9.1 ⟨[],[("point",.int pt)]⟩) σ:=by
 refine dj R.top (bG λa Kz u0 l0 h0=>rP ?_);refine gU (λb:V=>⟨[("row",b)],[("point",.int pt)]⟩) rfl (by rw[ck];exact hh.1) (λ_ v K τ _ h=>bk h) (λj τ=>Up [] σ τ/\a<τ.length/\∃q2:Nat->Nat,τ[a]?=some (eX (λy=>.ref (q2 y)) j)/\∀y,y<j->q2 y≠a/\τ[q2 y]?=some (eX (λx=>.int ((G y x).fdiv (2^pt))) w)) (λj τ ae=>.l (ae.1.at R.top)) (λj v τ K hv ae q'=>?_) (λb τ ae=>?_) (AS u0 (eG h0) (λ_=>0) h0 nofun)
 ·(refine A7 ae λu lt q2 hg hr=>?_;clear ae);have hj:j<h:=by
   have:=(d0 hv).1
   rwa[ck]at this
  replace hv:=(tH hj)▸hv;obtain rfl:=bE hv;have Q6:=u.at (R.row j hj);refine bk (p:=(W (aQ (.ref (qr j))) λfz=>W (dq (.lst [])) λvK=>gj vK λa4=>aK (aJ (ag gg (n+95))) (eA (ay gg (n+95)) (jv 0 (ew (aF (aa 92).body [13,0]))) a4) (λ_ _=>W (d6 a (.ref a4)) λ_=>K .next ⟨[("row",.ref (qr j))],[("point",.int pt)]⟩) fz.2 fz.1 ⟨[],[("point",.int pt)]⟩) τ) ?_;refine dj Q6 (bG λz eW u1 l1 h1=>rP ?_);refine iP (σ:=τ) (f:=λv=>⟨[("value",v)],[("point",.int pt)]⟩) (.inr (aT _ rfl Q6)) (λv=>.int (((vU v).getD 0).fdiv (2^pt))) (λb v K τ _ h=>bk h) (eQ hw.2) u1 l1 h1 (λv τ K hv u q=>?_) λe dM u2 h2=>?_
  ·(refine dC hv λx _ mZ=>?_;subst mZ);let aO:V->Pr:=λv2 H=>(W (d6 z v2) λ_=>K .next ⟨[("value",.int (G j x))],[("point",.int pt)]⟩) H;let aZ:V->Pr:=λv1 H=>(W (ai .FloorDiv (.int (G j x)) v1) aO) H;refine bk (p:=(W (ai .Pow (.int 2) (.int pt)) aZ) τ) ?_;exact sg (OA (ao pI (by decide))) (kq (T5 pI) (q _))
  ·rw[List.map_map]at h2;have za:z≠a:=λe=>dH l1 (e▸lt);have Yl:=u2.at hg;refine eZ Yl (aG (ck.symm▸ao (cF (Nat.lt_trans hj hh.2)) (by decide))) λgT u3 h3=>q' _ gT (AS ((u.trans u2).fresh l0 u3) (d5 lt (ao u2.1 u3.1)) (λy=>if y=j then z else q2 y) ?_ (λy hy=>?_))
   ·rw[h3,<-lJ (f:=λi=>.ref (q2 i)) (g:=λi=>.ref (if i=j then z else q2 i)) λi hi=>by simp only[if_neg (Nat.ne_of_lt hi)]];simp only[if_pos]
   ·by_cases e:y=j
    ·simp only[if_pos e];exact⟨za,e▸u3.ne h2 za⟩
    ·simp only[if_neg e];refine cH (hr y (Nat.lt_of_le_of_ne (le_of_lt_succ hy) e)) λa1 a2=>?_;exact⟨a1,u3.ne (u2.at a2) a1⟩
 ·(refine A7 ae λu lt q2 hg hr=>?_;clear ae);rw[ck]at hg hr;exact q τ a q2 _ u ⟨hg,λy hy=>(hr y hy).2,ao (cF hw.2) (by decide),ao (cF hh.2) (by decide)⟩
end
end
section
variable{n:Nat}{Q:V->Pr}{σ:af}{es:List (Nat×Nat)}
theorem MY:∀{l:List Nat}{x:Nat},x∈l->x<=l.sum:=by
 intro l0
 induction l0 with
 |nil=>
  rintro _ _;rename_i h;cases h
 |cons y r hi=>
  rintro x h;rw[sum_cons];exact(bt h).elim (λe=>e▸le_add_right _ _) λh=>ao (hi h) (le_add_left _ _)
theorem dp.XA(h:dp es){p:Nat×Nat}(hp:p∈es):p.2<=6:=ao (MY (List.mem_map_of_mem hp)) h.sum
noncomputable def A3(es:List (Nat×Nat)):List Nat:=(es.filter λx=>decide (x.1<16)).map λx=>x.1*x.2
noncomputable def JL(es:List (Nat×Nat)):Nat:=(es.map λx=>x.2*ext x.1).sum
theorem JM:∀{es:List (Nat×Nat)},(∀x∈es,x.1<=16)->(A3 es).sum=JL es:=by
 intro l0
 induction l0 with
 |nil=>
  rintro _;exact rfl
 |cons x r hi=>
  rintro h;have ih:=hi λy hy=>h y (fX _ hy);rw[JL,map_cons,sum_cons,<-JL,<-ih,A3,A3,filter_cons,ext];have hx:=h x eO;by_cases e:x.1<16
  ·rw[if_pos (decide_eq_true e),map_cons,sum_cons];by_cases h0:0<x.1
   ·rw[if_pos ⟨h0,e⟩,Nat.mul_comm]
   ·rw[if_neg λh=>h0 h.1,eq_zero_of_not_pos h0,Nat.zero_mul,Nat.mul_zero]
  ·rw[if_neg λh=>e (of_decide_eq_true h),if_neg λh=>e h.2,Nat.mul_zero,Nat.zero_add]
theorem B8:∀{l:List Nat},(l.map λ(c:Nat)=>(c:Int)).sum=(l.sum:Nat):=by
 intro l0
 induction l0 with
 |nil=>
  exact rfl
 |cons x l hi=>
  rw[map_cons,sum_cons,sum_cons,hi];rfl
theorem Cj{d k:Nat}{kf:Nat->Fl->ar->Pr}(h:dp es)(hd:σ[d]?=some (.cG (fL es) k))(q:∀τ a e,Up [] σ τ->τ[a]?=some (.lst (cp (A3 es)))->kf a .next e τ):W (aQ (.ref d)) (λc9=>W (dq (.lst [])) λhH=>gj hH λa5=>aK (aJ (ag gg (n+94))) (eA (ay gg (n+94)) (jv 0 (jv 1 (ew (aF (aa 92).body [13,3])))) a5) (kf a5) c9.2 c9.1 ⟨[],[("due",.ref d)]⟩) σ:=by
 refine nW hd (bG λa Kz u0 l0 ha=>rP ?_);have tl:(fL es).length=es.length:=length_map _;have vl:((fL es).map λe=>V.int e.1).length=(fL es).length:=length_map _;refine gU (λb:V=>⟨[("size",b)],[("due",.ref d)]⟩) vl (tl▸h.ne) (λ_ v K τ _ h=>bk h) (λj τ=>Up [] σ τ/\τ[a]?=some (.lst (cp (A3 (es.take j))))) (λj τ h=>.d (h.1.at hd)) (λj v τ K hv ae q'=>?_) (λb τ ae=>?_) ⟨u0,ha⟩
 ·obtain⟨u,h'⟩:=ae;rw[fL,List.map_map,getElem?_map]at hv;(refine dw hv λp hj Ic=>?_;subst Ic);have hm:=fP hj;have hk:aV (p.1:Int) (fL es)=some (.int p.2):=gB (ou h.nd) (List.mem_map_of_mem (f:=λp:Nat×Nat=>((p.1:Int),V.int (p.2:Nat))) hm);have en:A3 (es.take (j+1))=A3 (es.take j)++A3 [p]:=by rw[take_add_one,hj,A3,List.filter_append,map_append];rfl
  let aO:V->Pr:=λv3 H=>(W (d6 a v3) λ_=>K .next ⟨[("size",.int (p.1:Nat))],[("due",.ref d)]⟩) H;let aZ:V->Pr:=λv2 H=>(W (ai .Mult (.int (p.1:Nat)) v2) aO) H;let bW:Bool->Pr:=λb1 H=>(cR b1 (W (aR (.ref d) (.int (p.1:Nat))) aZ) (K .next ⟨[("size",.int (p.1:Nat))],[("due",.ref d)]⟩)) H;refine bk (p:=(W (cX .Lt (.int (p.1:Nat)) (.int 16)) bW) τ) (lZ ?_);by_cases e:p.1<16
  ·refine mv (dT (ofNat_lt.mpr e)) (fV (u.at hd) hk (dX (ic (ao (h.XA hm) (by decide))) (eZ h' (aG ?_) λeW u1 h1=>q' (.int (p.1:Nat)) eW ⟨u.fresh l0 u1,?_⟩)))
   ·rw[cp,length_map,A3,length_map];exact ao (List.length_filter_le _ _) (by rw[length_take];have:=h.len;omega)
   ·have e1:A3 [p]= [p.1*p.2]:=by rw[A3,filter_cons,if_pos (decide_eq_true e)];rfl
    rw[en,e1,cp,map_append];exact h1
  ·refine iy (dF λh=>e (ofNat_lt.mp h)) (q' (.int (p.1:Nat)) τ ⟨u,?_⟩);have e1:A3 [p]= []:=by rw[A3,filter_cons,if_neg λh=>e (of_decide_eq_true h)];rfl
   rw[en,e1,append_nil];exact h'
 ·obtain⟨u,h'⟩:=ae;rw[tl,take_length]at h';exact q τ a _ u h'
theorem zg{ih:f5}{turn:V->ar->(Fl->ar->Pr)->Pr}{k:Fl->ar->Pr}{j:Nat}{vs:List V}(Inv:List V->ar->Pr)(keep:∀r e τ,Inv r e τ->τ[j]?=some (.lst vs))(step:∀v r env σ K,Inv (v::r) env σ->(∀e τ,Inv r e τ->K .next e τ)->(∀e τ,k .next e τ->K .brk e τ)->turn v env K σ)(done:∀e τ,Inv [] e τ->k .next e τ):∀{m n:Nat}{r:List V}{env:ar}{σ:af},vs.drop m=r->Inv r env σ->r.length<n->aK (aJ ih) turn k n (.list j m) env σ:=by
 intro m l0
 induction l0 generalizing m with
 |zero=>
  rintro _ _ _ _ _ l;exact(not_lt_zero _ l).elim
 |succ n hi=>
  rintro r env σ e i l;refine bL (keep _ _ _ i) ?_
  induction r using List.casesOn with
  |nil=>
   rw[getElem?_eq_none (drop_eq_nil_iff.mp e)];exact bP (done env σ i)
  |cons v r=>
   have hv:vs[m]?=some v:=by rw[<-Nat.add_zero m,<-getElem?_drop,e];rfl
   refine Eq.symm hv▸?_;exact bP (step v r env σ _ i (λe' τ i=>hi (by rw[<-drop_drop,e];rfl) i (lt_of_succ_lt_succ l)) λ_ _ h=>h)
theorem xM:∀{es:List (Nat×Nat)},(es.map (·.1)).Nodup->lg (fL es) (fL es)=some true:=by
 have:∀{r es:List (Nat×Nat)},(es.map (·.1)).Nodup->(∀x∈r,x∈es)->lg (fL r) (fL es)=some true:=λ{r}=>by
  induction r with
  |nil=>exact λ_ _=>rfl
  |cons x r ih=>
   intro es nd h;have hx:=gB (ou nd) (List.mem_map_of_mem (f:=λp:Nat×Nat=>((p.1:Int),V.int (p.2:Nat))) (h x eO));show(match aV (x.1:Int) (fL es)with
    |some w=>(vU w).bind λy=>(lg (fL r) (fL es)).map λb=>((x.2:Int)==y)&&b
    |none=>some false)=some true
   rw[show aV (x.1:Int) (fL es)=_ from hx]
   show(lg (fL r) (fL es)).map (λb=>((x.2:Int)==(x.2:Int))&&b)=some true;rw[ih nd λy hy=>h y (List.mem_cons_of_mem _ hy)];show some (((x.2:Int)==(x.2:Int))&&true)=some true;rw[beq_self_eq_true];rfl
 exact λ{es} nd=>this nd λ_ h=>h
theorem Sd{i j a b:Nat}{B:Bool->Pr}(nd:(es.map (·.1)).Nodup)(hi:σ[i]?=some (.cG (fL es) a))(hj:σ[j]?=some (.cG (fL es) b))(q:B false σ):W (cX .NotEq (.ref i) (.ref j)) B σ:=by
 refine ba (bR (bC hi (bD hj ?_)));dsimp only;rw[if_pos rfl,xM nd];exact dS rfl (bP q)
noncomputable def Ub(sc:List V)(s pr m w h mo pl:Nat)(A B:V)(pi pt k f g ps sn cc tt:Nat)(mid:Int)(ex:Nat)(C:V):List (Str×V):=
 [("script",.gN sc),("source",.ref s),("precision",.int pr),("many",.int m),("width",.int w),("height",.int h),("most",.int mo),("planes",.ref pl),("place",A),("rows",B),("picture",.ref pi),("point",.int pt),("kind",.int (k+1:Nat)),("frame",.ref f),("samples",.ref g),("places",.ref ps),("scan",.ref sn),("counts",.ref cc),("tables",.ref tt),("middle",.int mid),("extra",.int ex),("codes",C)]
noncomputable def VW(sc:List V)(s pr m w h mo pl:Nat)(A B:V)(pi pt k f g ps sn cc tt:Nat)(mid:Int)(ex:Nat)(C:V):ar:=⟨Ub sc s pr m w h mo pl A B pi pt k f g ps sn cc tt mid ex C,[]⟩
noncomputable def Qv(sc:List V)(s pr m w h mo pl:Nat)(A B:V)(pi pt k f g ps sn cc tt:Nat)(mid:Int)(ex:Nat)(C d:V):ar:=⟨Ub sc s pr m w h mo pl A B pi pt k f g ps sn cc tt mid ex C++[(("due":Str),d)],[]⟩
section
variable{sc:List V}{s pr m w h mo pl pi pt k f g ps sn cc tt e p ex co:Nat}{mid:Int}{G:Nat->Nat->Nat->Int}{po rr:Nat->Nat}{qq:Nat->Nat->Nat}{dd:Nat->Nat}{B:V}
theorem FK{K:Fl->ar->Pr}(Ct:σ[pl]?=some (eX (λp=>.ref (po p)) m))(P:ja σ (po p) w h (G p) (rr p) (qq p))(C:du σ cc m (fA G w h k e pt) dd)(hm:m<21)(hp:p<m)(hk:k<7)(hw:0<w/\w<21)(hh:0<h/\h<21)(pI:pt<=1)(Gl:mid=2^e)(h0:0<w*h)(h6:w*h<=6)(qn:(fA G w h k e pt p).length<=3->∀τ b d,Up [] σ τ->K .next (Qv sc s pr m w h mo pl (.int p) b pi pt k f g ps sn cc tt mid (ex+JL (fA G w h k e pt p)) (.int (co+jk (gS (fA G w h k e pt p)):Nat)) d) τ)(qb:∀τ b d x,Up [] σ τ->K .brk (Qv sc s pr m w h mo pl (.int p) b pi pt k f g ps sn cc tt mid x .none d) τ):(W (aR (.ref pl) (.int p)) λv2 H=>(W (aB gg v2 "rows") λv3 H=>(W (aQ v3) λnC=>W (dq (.lst [])) λNV=>gj NV λa6=>aK (aJ (ag gg (n+96))) (eA (ay gg (n+96)) (ew (aF (aa 92).body [13,0])) a6) (λ_ _=>W (dq (.cG [] 0)) λv7 H=>(W ((ag gg (n+96)).C (aa 90) [.ref a6,.int (k+1:Nat),.int mid,v7]) λv8 H=>(W (az gg (.ref cc) "get") (bA (ag gg (n+95)) (λVz=>Vz [(.tup [.int 0,.int p])]) (.ref cc) λv9 H=>(W (cX .NotEq v9 v8) λR2 H=>(cR R2 (K (.ret (.bool false)) ⟨[("script",.gN sc),("source",.ref s),("precision",.int pr),("many",.int m),("width",.int w),("height",.int h),("most",.int mo),("planes",.ref pl),("place",.int p),("rows",.ref a6),("picture",.ref pi),("point",.int pt),("kind",.int (k+1:Nat)),("frame",.ref f),("samples",.ref g),("places",.ref ps),("scan",.ref sn),("counts",.ref cc),("tables",.ref tt),("middle",.int mid),("extra",.int ex),("codes",.int co),("due",v8)],[]⟩) (W (aQ v8) λpF=>W (dq (.lst [])) λR9=>gj R9 λWH=>aK (aJ (ag gg (n+94))) (eA (ay gg (n+94)) (jv 0 (jv 1 (ew (aF (aa 92).body [13,3])))) WH) (λ_ _=>W (aU "sum" [.ref WH]) λmx H=>(W (ai .Add (.int ex) mx) λsF H=>(W (aU "len" [v8]) λpX H=>(W (cX .Lt pX (.int 4)) λVi H=>(cR Vi (W ((ag gg (n+94)).C (aa 91) [v8]) λv20 H=>(W (ai .Add (.int co) v20) λAy H=>(aS (ay gg (n+98)) (aa 92).sc ((dQ (aF (aa 92).body [13])).drop 5) ⟨[("script",.gN sc),("source",.ref s),("precision",.int pr),("many",.int m),("width",.int w),("height",.int h),("most",.int mo),("planes",.ref pl),("place",.int p),("rows",.ref a6),("picture",.ref pi),("point",.int pt),("kind",.int (k+1:Nat)),("frame",.ref f),("samples",.ref g),("places",.ref ps),("scan",.ref sn),("counts",.ref cc),("tables",.ref tt),("middle",.int mid),("extra",sF),("codes",Ay),("due",v8)],[]⟩ K) H) H) (aS (ay gg (n+98)) (aa 92).sc ((dQ (aF (aa 92).body [13])).drop 5) ⟨[("script",.gN sc),("source",.ref s),("precision",.int pr),("many",.int m),("width",.int w),("height",.int h),("most",.int mo),("planes",.ref pl),("place",.int p),("rows",.ref a6),("picture",.ref pi),("point",.int pt),("kind",.int (k+1:Nat)),("frame",.ref f),("samples",.ref g),("places",.ref ps),("scan",.ref sn),("counts",.ref cc),("tables",.ref tt),("middle",.int mid),("extra",sF),("codes",.none),("due",v8)],[]⟩ K)) H) H) H) H) pF.2 pF.1 ⟨[],[("due",v8)]⟩)) H) H)) H) H) nC.2 nC.1 ⟨[],[("point",.int pt)]⟩) H) H) σ:=by
 have o:=P.obj;have hD:dp (fA G w h k e pt p):=lM h0 h6;refine bX Ct hp (ao (cF hm) (by decide)) ?_;refine ku ?_;refine Jn P.rows pI hw hh λeW a q2 e1 u1 R1=>bG λd dM u2 l2 h2=>?_;refine sE (n:=n+65) (R1.keep λ_ _ h=>u2.at h) hk hw.2 hh.2 (ao h6 (by decide)) h2 λgT k3 u3 h3=>?_;have Ir:Up [] σ gT:=(u1.trans u2).fresh (ao u1.1 l2) u3;have e3:eB (gG w k mid (λy x=>(G p y x).fdiv (2^pt)) (w*h))=fA G w h k e pt p:=by
  rw[fA,Gl,Int.one_mul];rfl
 replace h3:=e3▸h3;have C3:=C.up Ir;obtain⟨kk,hd⟩:=C3.2 p hp;refine fg C3.1 Fu (Kr C3.1 (k:=pk p) rfl ?_);refine Eq.symm (oQ hp)▸?_;refine Sd hD.nd hd h3 (iy rfl (Cj hD h3 λjx b e4 u4 h4=>Ai h4 fQ ?_));(refine Eq.symm B8▸?_;refine Eq.symm (JM vF)▸?_);have VS:=Ir.trans u4;have Wv:=u4.at h3;have tl:(fL (fA G w h k e pt p)).length=(fA G w h k e pt p).length:=length_map _;have l6:=hD.len;refine cq (N3 Wv (aG (tl▸ao l6 (by decide))) (lZ ?_));rw[tl,<-natCast_add];generalize hX:ex+JL (fA G w h k e pt p)=X at qn ⊢;refine DL (λRx=>?_) λ_=>?_
 ·have l3:(fA G w h k e pt p).length<=3:=le_of_lt_succ (ofNat_lt.mp Rx);refine wy (n:=n+78) hD l3 Wv λsW u5=>cq ?_;rw[<-natCast_add];generalize hY:co+jk (gS (fA G w h k e pt p))=Y at qn ⊢;let aO:Bool->Pr:=λb1 H=>(cR b1 (K .brk ⟨[("script",.gN sc),("source",.ref s),("precision",.int pr),("many",.int m),("width",.int w),("height",.int h),("most",.int mo),("planes",.ref pl),("place",.int p),("rows",.ref a),("picture",.ref pi),("point",.int pt),("kind",.int (k+1:Nat)),("frame",.ref f),("samples",.ref g),("places",.ref ps),("scan",.ref sn),("counts",.ref cc),("tables",.ref tt),("middle",.int mid),("extra",.int X),("codes",.int Y),("due",.ref d)],[]⟩) (K .next ⟨[("script",.gN sc),("source",.ref s),("precision",.int pr),("many",.int m),("width",.int w),("height",.int h),("most",.int mo),("planes",.ref pl),("place",.int p),("rows",.ref a),("picture",.ref pi),("point",.int pt),("kind",.int (k+1:Nat)),("frame",.ref f),("samples",.ref g),("places",.ref ps),("scan",.ref sn),("counts",.ref cc),("tables",.ref tt),("middle",.int mid),("extra",.int X),("codes",.int Y),("due",.ref d)],[]⟩)) H;refine bk (p:=(W (cX .Is (.int Y) .none) aO) sW) ?_;exact Kp (iy rfl (qn l3 sW (.ref a) (.ref d) (VS.trans u5)))
 ·let aO:Bool->Pr:=λb1 H=>(cR b1 (K .brk ⟨[("script",.gN sc),("source",.ref s),("precision",.int pr),("many",.int m),("width",.int w),("height",.int h),("most",.int mo),("planes",.ref pl),("place",.int p),("rows",.ref a),("picture",.ref pi),("point",.int pt),("kind",.int (k+1:Nat)),("frame",.ref f),("samples",.ref g),("places",.ref ps),("scan",.ref sn),("counts",.ref cc),("tables",.ref tt),("middle",.int mid),("extra",.int X),("codes",.none),("due",.ref d)],[]⟩) (K .next ⟨[("script",.gN sc),("source",.ref s),("precision",.int pr),("many",.int m),("width",.int w),("height",.int h),("most",.int mo),("planes",.ref pl),("place",.int p),("rows",.ref a),("picture",.ref pi),("point",.int pt),("kind",.int (k+1:Nat)),("frame",.ref f),("samples",.ref g),("places",.ref ps),("scan",.ref sn),("counts",.ref cc),("tables",.ref tt),("middle",.int mid),("extra",.int X),("codes",.none),("due",.ref d)],[]⟩)) H;refine bk (p:=(W (cX .Is .none .none) aO) jx) ?_;exact Kp (mv rfl (qb jx (.ref a) (.ref d) X VS))
end
theorem AD{f g:Nat->Nat}:∀{l:List Nat},(l.map λi=>f i+g i).sum=(l.map f).sum+(l.map g).sum:=by
 intro l0
 induction l0 with
 |nil=>
  exact rfl
 |cons x l hi=>
  rw[map_cons,map_cons,map_cons,sum_cons,sum_cons,sum_cons,hi];exact Nat.add_add_add_comm _ _ _ _
theorem EK{f:Nat->Nat->Nat}:∀{N:Nat},((range N).map λi=>((range m).map λj=>f i j).sum).sum=((range m).map λj=>((range N).map λi=>f i j).sum).sum:=by
 intro l0
 induction l0 with
 |zero=>
  show 0=((range m).map λ_=>0).sum;rw[map_const',sum_replicate_nat,Nat.mul_zero]
 |succ N hi=>
  rw[range_succ,map_append,sum_append,hi];show _+(_+0)=_;rw[Nat.add_zero,<-AD];refine congrArg List.sum (dW λj _=>?_);rw[map_append,sum_append];rfl
theorem Mt{L:Nat->Nat->Option Nat}{D:Nat->Nat->Int}:wI L D m N=Ho L (λp=>eB (iQ D p N)) m:=by
 have:Ho L (λp=>eB (iQ D p N)) m=((range m).map λp=>((range N).map λi=>i8 L p (f3 (D p i))).sum).sum:=by
  refine congrArg List.sum (dW λp _=>?_);rw[vC,iQ,List.map_map];rfl
 rw[this,<-EK];rfl
theorem dp.split{L:Nat->Nat->Option Nat}(h:dp es)(hL:L p=lX es)(h3:es.length<=3):(es.map λx=>x.2*i8 L p x.1).sum=JL es+jk (gS es):=by
 refine nL (h.parts) λ_ _ _ _ _ _ _ _ _ p8=>?_;rw[<-p8 h3,<-h.cost,JL,Nat.add_comm];have:∀{l:List (Nat×Nat)}{f g:Nat×Nat->Nat},(l.map λx=>f x+g x).sum=(l.map f).sum+(l.map g).sum:=λ{l f g}=>by
  induction l with
  |nil=>rfl
  |cons x l ih=>rw[map_cons,map_cons,map_cons,sum_cons,sum_cons,sum_cons,ih];exact Nat.add_add_add_comm _ _ _ _
 rw[<-this];refine congrArg List.sum (dW λx _=>?_);rw[i8,hL,Nat.mul_add]
section
variable{sc:List V}{s pr m w h mo pl pi pt k f g ps sn cc tt e p ex co cs r T:Nat}{mid:Int}{G:Nat->Nat->Nat->Int}{po rr cf:Nat->Nat}{qq:Nat->Nat->Nat}{dd p3:Nat->Nat}{q3:Nat->Nat->Nat}{A B cv d:V}{md:Str}
theorem FL{KB:Bool->Pr}(hm:m=1\/m=3)(C:du σ cc m (fA G w h k e pt) dd)(Tb:fm σ tt m (λp=>lX (fA G w h k e pt p)))(h0:0<w*h)(h6:w*h<=6)(hb:b.length=(mq G w h k e pt m+7)/8)(JE:b.length<=60)(q:∀τ,Up [] σ τ->KB false τ):(ay gg (n+98)).T (aa 92).sc ⟨Ub sc s pr m w h mo pl A B pi pt k f g ps sn cc tt mid ex cv++[(("due":Str),d),(("told":Str),.int (mq G w h k e pt m:Nat)),(("octets":Str),.bytes b)],[]⟩ (m9 (aF (aa 92).body [16])) KB σ:=by
 have hD:∀p,p<m->dp (fA G w h k e pt p):=λp _=>lM h0 h6;have bits:∀{Q:V->Pr},(∀τ,Up [] σ τ->Q (.int (mq G w h k e pt m:Nat)) τ)->W ((ag gg (n+95)).C (aa 77) [.ref cc,.ref tt]) Q σ:=jB (n:=n+64) hm C Tb hD (λp _=>vF) λp hp x hx=>(hD p hp).some (List.mem_map_of_mem hx);generalize mq G w h k e pt m=T at hb bits;let aO:Bool->Pr:=λb6 H=>(cR b6 (KB true) (KB false)) H;let aZ:V->V->Pr:=λv3 v5 H=>(W (cX .NotEq v3 v5) aO) H;let bW:V->V->Pr:=λv3 v4 H=>(W (ai .FloorDiv v4 (.int 8)) (aZ v3)) H;let c8:V->Pr:=λv3 H=>(W (ai .Add (.int T) (.int 7)) (bW v3)) H;let dG:Bool->Pr:=λb2 H=>(cR b2 (KB true) (W (aU "len" [.bytes b]) c8)) H;let dR:V->Pr:=λv1 H=>(W (cX .NotEq (.int T) v1) dG) H;refine bk (p:=(W ((ag gg (n+95)).C (aa 77) [.ref cc,.ref tt]) dR) σ) ?_;refine bits λτ u=>vL ?_;rw[dT rfl];refine iy rfl (so (aG (ao JE (by decide))) (cq (kq rfl (vL ?_))));have e:((T:Int)+7).fdiv 8=((T+7)/8:Nat):=by rw[Int.fdiv_eq_ediv_of_nonneg _ (by decide)];rfl
 rw[e,hb,dT rfl];exact iy rfl (q τ u)
theorem jZ.s6(u:i9 σ τ)(P:jZ σ pi pl m w h pr md G po rr qq):jZ τ pi pl m w h pr md G po rr qq:=
 ⟨u.2 _ _ P.obj rfl,u.2 _ _ P.sA rfl,λp hp=>⟨u.2 _ _ (P.pn p hp).obj rfl,(P.pn p hp).rows.keep λ_ _ h=>u.2 _ _ h rfl⟩,P.hm⟩
theorem du.s6{D:Nat->List (Nat×Nat)}(u:i9 σ τ)(C:du σ cc m D dd):du τ cc m D dd:=⟨u.2 _ _ C.1 rfl,λp hp=>let ⟨k,h⟩:=C.2 p hp;⟨k,u.2 _ _ h rfl⟩⟩
theorem et.s6(u:i9 σ τ)(R:et σ i r m w h G p3 q3):et τ i r m w h G p3 q3:=R.keep λj c hj hc=>u.2 _ _ hj (by
 rcases hc with⟨_,rfl⟩|rfl
 ·rfl
 ·rw[Option.some.inj (hj.symm.trans R.obj)];rfl)
theorem Jq(hm:m=1\/m=3)(P:jZ σ pi pl m w h pr md G po rr qq)(F:bT σ f cs m w h pr cf)(S:dJ σ sn ps ps m k pt)(R:et σ g r m w h (SG G pt) p3 q3)(C:du σ cc m (fA G w h k e pt) dd)(Tb:fm σ tt m (λp=>lX (fA G w h k e pt p)))(hk:k<7)(hw:0<w/\w<21)(hh:h<21)(hN:∃M,w*h=M+1/\M+1<21)(h6:w*h*m<=6)(Q8:pt<pr)(hp:(pr:Int)-pt-1=(e:Nat))(pI:pt<=1000)(he:e<=1000)(zI:cv=.none\/∃c:Nat,cv=.int c/\ex+c=mq G w h k e pt m)(q:∀τ,Q (.bool true) τ):aS (ay gg (n+99)) (aa 92).sc ((aa 92).body.drop 14) (Qv sc s pr m w h mo pl A B pi pt k f g ps sn cc tt mid ex cv d) (cz Q) σ:=by
 have h0:0<w*h:=let ⟨M,e,_⟩:=hN;e▸succ_pos M;have m0:0<m:=F.hm.1;have H8:w*h<=6:=ao (Nat.le_mul_of_pos_right _ m0) h6;let aO:Bool->Pr:=λb9 H=>(Q (.bool b9)) H;let aZ:V->V->Pr:=λv1 v8 H=>(W (cX .Eq v1 v8) aO) H;let bW:V->Bool->Pr:=λv1 b7 H=>(cR b7 (Q (.bool b7)) (W (ai .Add (.int ex) cv) (aZ v1))) H;let c8:V->V->Pr:=λv1 v5 H=>((ay gg (n+98)).T (aa 92).sc ⟨[("script",.gN sc),("source",.ref s),("precision",.int pr),("many",.int m),("width",.int w),("height",.int h),("most",.int mo),("planes",.ref pl),("place",A),("rows",B),("picture",.ref pi),("point",.int pt),("kind",.int (k+1:Nat)),("frame",.ref f),("samples",.ref g),("places",.ref ps),("scan",.ref sn),("counts",.ref cc),("tables",.ref tt),("middle",.int mid),("extra",.int ex),("codes",cv),("due",d),("told",v1),("octets",v5)],[]⟩ (m9 (aF (aa 92).body [16])) λb6=>cR b6 (Q (.bool false)) (W (cX .Is cv .none) (bW v1))) H;let dG:V->V->Pr:=λv1 v4 H=>(W (aR v4 (.int 0)) (c8 v1)) H;let dR:V->V->Pr:=λv1 v3 H=>(W (aR v3 (.int 0)) (dG v1)) H;let fC:V->V->Pr:=λv1 v2 H=>(W ((ag gg (n+95)).C (aa 65) [v2]) (dR v1)) H;let gX:V->Pr:=λv1 H=>(W ((ag gg (n+94)).C (aa 73) [.ref f,.ref sn,.ref g,.int 0,.ref tt]) (fC v1)) H;refine bk (p:=(W ((ag gg (n+97)).C (aa 78) [.ref pi,.int (k+1:Nat),.int pt]) gX) σ) ?_;refine Bv (n:=n+36) P hm hk hw hh hN H8 hp pI he λeW u1=>?_;have ok:∀p,dp (fA G w h k e pt p):=λp=>lM h0 H8;refine Br (n:=n+33) (F.s6 u1) (S.s6 u1) (R.s6 u1) (Tb.g u1) hk hw hh hN h6 Q8 hp pI he (λp i _ hi=>(ok p).some (JV.mpr (mem_map.mpr ⟨i,mem_range.mpr hi,rfl⟩))) (λp s l h=>Jl (ok p) h) λdM b u2 hb JE=>?_;rw[Mt]at hb;have It:=u1.trans u2;refine Im (n:=n+74) JE λgT iv nu u3 h3=>dY rfl rfl (cg h3 rfl rfl ?_);have Ir:=It.trans u3.g;refine FL (n:=n) (sc:=sc) (s:=s) (pr:=pr) (mo:=mo) (pl:=pl) (pi:=pi) (f:=f) (g:=g) (ps:=ps) (sn:=sn) (mid:=mid) (ex:=ex) (A:=A) (B:=B) (cv:=cv) (d:=d) hm (C.s6 Ir) (Tb.g Ir) h0 H8 hb JE λjx u4=>?_;generalize mq G w h k e pt m=T at zI ⊢;refine iy rfl (Kp ?_)
 rcases zI with rfl|⟨c,rfl,hc⟩
 ·exact mv rfl (q jx)
 ·refine iy rfl (cq (kr ?_));rw[<-natCast_add,hc,dT rfl];exact q jx
end
section
variable{sc:List V}{s pr m w h mo pl pi pt k f g ps sn cc tt e cs r:Nat}{mid:Int}{G:Nat->Nat->Nat->Int}{po rr cf:Nat->Nat}{qq:Nat->Nat->Nat}{dd p3:Nat->Nat}{q3:Nat->Nat->Nat}{A B:V}{md:Str}
noncomputable def Ly(G:Nat->Nat->Nat->Int)(w h k e pt p:Nat):Nat:=((range p).map λq=>JL (fA G w h k e pt q)).sum
noncomputable def LA(G:Nat->Nat->Nat->Int)(w h k e pt p:Nat):Nat:=((range p).map λq=>jk (gS (fA G w h k e pt q))).sum
theorem GP:Ly G w h k e pt (p+1)=Ly G w h k e pt p+JL (fA G w h k e pt p):=by simp only[Ly,Ly,range_succ,map_append,sum_append];rfl
theorem Ha:LA G w h k e pt (p+1)=LA G w h k e pt p+jk (gS (fA G w h k e pt p)):=by simp only[LA,LA,range_succ,map_append,sum_append];rfl
theorem JR(h0:0<w*h)(h6:w*h<=6)(h3:∀p,p<m->(fA G w h k e pt p).length<=3):Ly G w h k e pt m+LA G w h k e pt m=mq G w h k e pt m:=by
 simp only[Ly,LA,<-AD];exact congrArg List.sum (dW λp hp=>((lM h0 h6).split rfl (h3 p (mem_range.mp hp))).symm)
theorem zt(hm:m=1\/m=3)(P:jZ σ pi pl m w h pr md G po rr qq)(F:bT σ f cs m w h pr cf)(S:dJ σ sn ps ps m k pt)(R:et σ g r m w h (SG G pt) p3 q3)(C:du σ cc m (fA G w h k e pt) dd)(Tb:fm σ tt m (λp=>lX (fA G w h k e pt p)))(hk:k<7)(hw:0<w/\w<21)(hh:0<h/\h<21)(hN:∃M,w*h=M+1/\M+1<21)(h6:w*h*m<=6)(Q8:pt<pr)(hp:(pr:Int)-pt-1=(e:Nat))(pI:pt<=1)(he:e<=1000)(Gl:mid=2^e)(q:∀τ,Q (.bool true) τ):aK (aJ (ag gg (n+98))) (bp (ay gg (n+98)) (aa 92).sc (aF (aa 92).body [13])) (bx (ay gg (n+99)) (aa 92).sc ((aa 92).body.drop 14) (cz Q)) ((dB m).length+1) (.list ps 0) (VW sc s pr m w h mo pl A B pi pt k f g ps sn cc tt mid 0 (.int 0)) σ:=by
 have h0:0<w*h:=let ⟨M,e,_⟩:=hN;e▸succ_pos M;have m0:0<m:=F.hm.1;have H8:w*h<=6:=ao (Nat.le_mul_of_pos_right _ m0) h6;have fin:∀{τ:af}{ex:Nat}{a b cv d:V},Up [] σ τ->(cv=.none\/∃c:Nat,cv=.int c/\ex+c=mq G w h k e pt m)->bx (ay gg (n+99)) (aa 92).sc ((aa 92).body.drop 14) (cz Q) .next (Qv sc s pr m w h mo pl a b pi pt k f g ps sn cc tt mid ex cv d) τ:=λ{τ ex a b cv d} u zI=>
  Jq hm (P.up u) (F.up u) (S.up u) (R.s6 u.g) (C.up u) (Tb.up u) hk hw hh.2 hN h6 Q8 hp (ao pI (by decide)) he zI q
 refine zg (vs:=dB m) (λr env τ=>Up [] σ τ/\∃p,(dB m).drop p=r/\p<=m/\(∀i,i<p->(fA G w h k e pt i).length<=3)/\(p=0/\env=VW sc s pr m w h mo pl A B pi pt k f g ps sn cc tt mid 0 (.int 0)\/∃a b d,env=Qv sc s pr m w h mo pl a b pi pt k f g ps sn cc tt mid (Ly G w h k e pt p) (.int (LA G w h k e pt p:Nat)) d)) (λr env τ ae=>ae.1.at S.ps) (λv r' env τ K ae qn qb=>?_) (λenv τ ae=>?_) rfl (xw .refl 0 rfl (zero_le _) nofun (.inl ⟨rfl,rfl⟩)) (fx _)
 ·(refine nO ae λu p e1 V6 h3 hE=>?_;clear ae);(refine bH (cO e1) λH4 yC e2=>?_;subst yC);have t:=FK (n:=n) (K:=K) (sc:=sc) (s:=s) (pr:=pr) (mo:=mo) (pi:=pi) (f:=f) (g:=g) (ps:=ps) (sn:=sn) (tt:=tt) (ex:=Ly G w h k e pt p) (co:=LA G w h k e pt p) (mid:=mid) (u.at P.sA) ((P.up u).pn p H4) (C.up u) P.hm.2 H4 hk hw hh pI Gl h0 H8 (λOy eM b d u'=>qn _ eM (xw (u.trans u') (p+1) e2 H4 (λi hi=>(Nat.lt_or_eq_of_le (le_of_lt_succ hi)).elim (h3 i) λe=>e▸Oy) (.inr (ve _ b d (by rw[GP,Ha]))))) λeM b d x u'=>qb _ eM (fin (u.trans u') (.inl rfl))
  rcases hE with⟨rfl,rfl⟩|⟨a,b,d,rfl⟩
  ·exact bk t
  ·exact bk t
 ·(refine nO ae λu p e1 V6 h3 hE=>?_;clear ae);have H4:=dA V6 e1;subst H4
  rcases hE with⟨rfl,_⟩|⟨a,b,d,rfl⟩
  ·exact absurd m0 (Nat.lt_irrefl 0)
  ·exact fin u (.inr (aT _ rfl (JR h0 H8 h3)))
end
section
variable{sc:List V}{s pr m w h mo pl pi lo:Nat}{G:Nat->Nat->Nat->Int}{po rr:Nat->Nat}{qq:Nat->Nat->Nat}{A B:V}{md:Str}
theorem lR.up(u:Up S σ τ)(hS:∀i∈S,i<lo)(hp:pl∉S)(P:lR σ lo pl m w h G po rr qq):lR τ lo pl m w h G po rr qq:=⟨u.2 _ _ P.sA hp,λp hp=>(P.pn p hp).up u hS⟩
theorem Lx:∀{m:Nat},(replicate m [x]).flatten=(range m).map λ_=>x:=by
 intro l0
 induction l0 with
 |zero=>
  exact rfl
 |succ m hi=>
  simp only[List.replicate_succ',List.flatten_append,hi,range_succ,map_append];rfl
theorem Jp(S:eD σ s)(P:lR σ lo pl m w h G po rr qq)(hs:s<lo)(sp:s≠pl)(V7:σ[pi]?=some (.ins "Picture" [("model",.str md),("precision",.int pr),("planes",.ref pl)]))(hm:m=1\/m=3)(hw:0<w/\w<21)(hh:0<h/\h<21)(hN:∃M,w*h=M+1/\M+1<21)(h6:w*h*m<=6)(vT:2<=pr/\pr<=16)(q:∀τ,Q (.bool true) τ):(W ((ag gg (n+96)).C (aa 86) [.ref s,.int 2]) λv1 H=>(W ((ag gg (n+95)).C (aa 86) [.ref s,.int 7]) λv2 H=>(W (ai .Add (.int 1) v2) λv3 H=>(W (dE [(.tup [.int 1,.int 1])]) λv4 H=>(W (ai .Mult v4 (.int m)) λv5 H=>(W ((ag gg (n+97)).C (aa 31) [.ref pi,v5]) λv6 H=>(W ((ag gg (n+96)).C (aa 20) [v6,.ref pl,v1]) λv7 H=>(W (aX "range" [.int m]) λv8 H=>(W (aX "list" [v8]) λv9 H=>(W (dE [.int 0]) λv10 H=>(W (ai .Mult v10 (.int m)) λv11 H=>(W (cx gg (ag gg (n+97)) (.cls "Scan") [v9,v9,v11,v3,.int 0,.int 0,v1]) λkJ H=>(W ((ag gg (n+97)).C (aa 71) [v6,kJ,v7,.int 0]) λpd H=>(W ((ag gg (n+97)).C (aa 72) [pd]) λpY H=>(W (ai .Sub (.int pr) v1) λkN H=>(W (ai .Sub kN (.int 1)) λmx H=>(W (ai .Pow (.int 2) mx) λsF H=>(aS (ay gg (n+99)) (aa 92).sc ((aa 92).body.drop 13) ⟨[("script",.gN sc),("source",.ref s),("precision",.int pr),("many",.int m),("width",.int w),("height",.int h),("most",.int mo),("planes",.ref pl),("place",A),("rows",B),("picture",.ref pi),("point",v1),("kind",v3),("frame",v6),("samples",v7),("places",v9),("scan",kJ),("counts",pd),("tables",pY),("middle",sF),("extra",.int 0),("codes",.int 0)],[]⟩ (cz Q)) H) H) H) H) H) H) H) H) H) H) H) H) H) H) H) H) H) σ:=by
 have gZ:0<m/\m<21:=by rcases hm with rfl|rfl<;>decide
 have m1:m<=1000000:=ao (cF gZ.2) (by decide);refine gf (n:=n+85) S ⟨by decide,by decide⟩ λeW pt u1 S1 pI=>gf (n:=n+84) S1 ⟨by decide,by decide⟩ λdM k u2 S2 hk=>cq ?_;have e1:(1:Int)+(k:Nat)=((k+1:Nat):Int):=by lia
 refine Eq.symm e1▸?_;have It:=u1.trans u2;have P2:=P.up It (λi hi=>bz hi▸hs) λh=>sp (bz h).symm;have UE:dM[pi]?=_:=It.ne V7 (let ⟨_,_,_,e⟩:=S;bV V7 e nofun);have Pi:jZ dM pi pl m w h pr md G po rr qq:=⟨UE,P2.sA,λp hp=>(P2.pn p hp).at',gZ⟩;refine bZ rfl λz gT u3 l3 h3=>sj h3 (dT ⟨f7 _,ofNat_le.mpr (ao m1 (by decide))⟩) ?_;simp only[toNat_natCast,Lx];refine bZ (aG (eQ gZ.2)) λy jx u4 l4 h4=>?_;have VR:=u3.trans u4;refine jz (n:=n+56) (Pi.up VR) h4 λsW f cs co u5 F=>?_;have Xs:=VR.trans u5;have P5:=Pi.up Xs;have Nd:pt<=1:=le_of_lt_succ pI;refine wA (n:=n+50) F ⟨P5.sA,P5.pn⟩ hw hh.2 (ao Nd (by decide)) λKy g r p3 q3 u6 R6=>cy (vN (j4 gZ.2) (aG (eQ gZ.2)) λps VF u7 l7 h7=>bZ rfl λx Sv u8 l8 h8=>sj h8 (dT ⟨f7 _,ofNat_le.mpr (ao m1 (by decide))⟩) ?_);simp only[toNat_natCast,Lx];refine bZ (aG (eQ gZ.2)) λac Tc u9 l9 h9=>Fq λsn LI uA lA hA=>?_;have TK:=u8.trans (u9.trans uA);have SA:dJ LI sn ps ps m k pt:=⟨⟨_,hA⟩,TK.at h7,TK.at h7⟩;have TL:=u7.trans TK;have FA:=F.up (u6.trans TL);have RA:=R6.s6 TL.g;obtain⟨e,he⟩:∃e:Nat,pr=e+pt+1:=⟨pr-pt-1,by omega⟩;have hp:(pr:Int)-pt-1=(e:Nat):=by lia
 have Cu:e<=1000:=by lia
 have h0:0<w*h:=let ⟨M,e,_⟩:=hN;e▸succ_pos M;have H8:w*h<=6:=ao (Nat.le_mul_of_pos_right _ gZ.1) h6;refine sZ (n:=n+46) FA SA RA hk hw hh.2 hN hp (ao Nd (by decide)) Cu λSu cc dd uB C=>?_;have C:du Su cc m (fA G w h k e pt) dd:=C;refine me (n:=n+61) hm C (λp _=>lM h0 H8) λXa tt uC T=>di (di ?_);refine Eq.symm hp▸?_;refine sg (OA Cu) ?_;simp only[toNat_natCast];generalize Gl:(2:Int)^e=mid;have Pz:=uB.trans uC.g;refine bk (p:=(W (aQ (.ref ps)) λrk=>aK (aJ (ag gg (n+98))) (bp (ay gg (n+98)) (aa 92).sc (aF (aa 92).body [13])) (bx (ay gg (n+99)) (aa 92).sc ((aa 92).body.drop 14) (cz Q)) rk.2 rk.1 ⟨[("script",.gN sc),("source",.ref s),("precision",.int pr),("many",.int m),("width",.int w),("height",.int h),("most",.int mo),("planes",.ref pl),("place",A),("rows",B),("picture",.ref pi),("point",.int pt),("kind",.int (k+1:Nat)),("frame",.ref f),("samples",.ref g),("places",.ref ps),("scan",.ref sn),("counts",.ref cc),("tables",.ref tt),("middle",.int mid),("extra",.int 0),("codes",.int 0)],[]⟩) Xa) ?_;refine dj (Pz.2 _ _ SA.ps rfl) ?_;exact zt (sc:=sc) (s:=s) (mo:=mo) (A:=A) (B:=B) hm ((P5.up (u6.trans TL)).s6 Pz) (FA.s6 Pz) (SA.s6 Pz) (RA.s6 Pz) (C.up uC) T hk hw hh hN h6 (by lia) hp Nd Cu Gl.symm q
end
end
section
variable{n:Nat}{Q:V->Pr}{σ:af}
section
variable{sc:List V}{s pr m w h:Nat}
theorem rg(S:eD σ s)(hm:m=1\/m=3)(hw:0<w/\w<21)(hh:0<h/\h<21)(hN:∃M,w*h=M+1/\M+1<21)(h6:w*h*m<=6)(vT:2<=pr/\pr<=16)(q:∀τ,Q (.bool true) τ):aS (ay gg (n+99)) (aa 92).sc ((aa 92).body.drop 3) ⟨[("script",.gN sc),("source",.ref s),("precision",.int pr),("many",.int m),("width",.int w),("height",.int h)],[]⟩ (cz Q) σ:=by
 let aO:=λ(v2:V) (v3:V)=>aS (ay gg (n+99)) (aa 92).sc ((aa 92).body.drop 4) ⟨[("script",.gN sc),("source",.ref s),("precision",.int pr),("many",.int m),("width",.int w),("height",.int h),("most",v2),("planes",v3)],[]⟩ (cz Q);let aZ:=λ(v2:V)=>W (dE []) (aO v2);let bW:=λ(v1:V)=>W (ai .Sub v1 (.int 1)) aZ;refine bk (p:=(W (ai .Pow (.int 2) (.int pr)) bW) σ) ?_;have gZ:0<m/\m<21:=by rcases hm with rfl|rfl<;>decide
 refine sg (OA (ao vT.2 (by decide))) (di ?_);have p0:0<2^pr:=Nat.pow_pos (by decide);have e1:(2:Int)^(pr:Int).toNat-1=((2^pr-1:Nat):Int):=by
  rw[i0]
  omega
 have Ls:2^pr-1+1<=1000000:=by
  rw[Nat.sub_add_cancel p0];exact ao (Nat.pow_le_pow_right (by decide) vT.2) (by decide)
 rw[e1];generalize 2^pr-1=mo at Ls ⊢;refine bZ rfl λpl eW u1 l1 h1=>?_;let aO:V->Pr:=λv1 H=>(W (aQ v1) λfz=>aK (aJ (ag gg (n+98))) (bp (ay gg (n+98)) (aa 92).sc (aF (aa 92).body [4])) (bx (ay gg (n+99)) (aa 92).sc ((aa 92).body.drop 5) (cz Q)) fz.2 fz.1 ⟨[("script",.gN sc),("source",.ref s),("precision",.int pr),("many",.int m),("width",.int w),("height",.int h),("most",.int mo),("planes",.ref pl)],[]⟩) H;refine bk (p:=(W (aX "range" [.int m]) aO) eW) (cy (c7 gZ.2 ?_));have sp:s≠pl:=λe=>dH l1 (e▸S.lt);refine zr (lo:=eW.length) (S.up u1) h1 (d5 S.lt u1.1) (eG h1) sp (Nat.le_refl _) Ls gZ hw hh λb dM G po rr qq u2 S2 P=>?_;let aO:V->Pr:=λv2 H=>(aS (ay gg (n+99)) (aa 92).sc ((aa 92).body.drop 6) ⟨[("script",.gN sc),("source",.ref s),("precision",.int pr),("many",.int m),("width",.int w),("height",.int h),("most",.int mo),("planes",.ref pl),("place",b.1),("rows",b.2),("picture",v2)],[]⟩ (cz Q)) H;let aZ:V->Pr:=λv3 H=>(aS (ay gg (n+99)) (aa 92).sc ((aa 92).body.drop 6) ⟨[("script",.gN sc),("source",.ref s),("precision",.int pr),("many",.int m),("width",.int w),("height",.int h),("most",.int mo),("planes",.ref pl),("place",b.1),("rows",b.2),("picture",v3)],[]⟩ (cz Q)) H;let bW:Bool->Pr:=λb1 H=>(cR b1 (W (cx gg (ag gg (n+97)) (.cls "Picture") [.str "grey",.int pr,.ref pl]) aO) (W (cx gg (ag gg (n+97)) (.cls "Picture") [.str "rgb",.int pr,.ref pl]) aZ)) H;refine bk (p:=(W (cX .Eq (.int m) (.int 1)) bW) dM) (kr ?_);have go:∀md,W (cx gg (ag gg (n+97)) (.cls "Picture") [.str md,.int pr,.ref pl]) (λv2 H=>(aS (ay gg (n+99)) (aa 92).sc ((aa 92).body.drop 6) ⟨[("script",.gN sc),("source",.ref s),("precision",.int pr),("many",.int m),("width",.int w),("height",.int h),("most",.int mo),("planes",.ref pl),("place",b.1),("rows",b.2),("picture",v2)],[]⟩ (cz Q)) H) dM:=λmd=>Ca (n:=n+86) λpi gT u3 l3 h3=>
  bk (Jp (n:=n) (sc:=sc) (mo:=mo) (A:=b.1) (B:=b.2) (md:=md) (pr:=pr) (w:=w) (h:=h) (m:=m) (S2.up u3) (P.up u3 nofun nofun) (d5 S.lt u1.1) sp h3 hm hw hh hN h6 vT q)
 exact DL (λ_=>go _) λ_=>go _
theorem Cg(S:eD σ s)(hm:m=1\/m=3)(vT:2<=pr/\pr<=16)(q:∀τ,Q (.bool true) τ):(W (cX .Eq (.int m) (.int 1)) λb1 H=>(cR b1 (W ((ag gg (n+94)).C (aa 86) [.ref s,.int 3]) λv2 H=>(W (ai .Add (.int 1) v2) λv3 H=>(W ((ag gg (n+94)).C (aa 86) [.ref s,.int 2]) λv4 H=>(W (ai .Add (.int 1) v4) λv5 H=>(aS (ay gg (n+99)) (aa 92).sc ((aa 92).body.drop 3) ⟨[("script",.gN sc),("source",.ref s),("precision",.int pr),("many",.int m),("width",v3),("height",v5)],[]⟩ (cz Q)) H) H) H) H) (aS (ay gg (n+99)) (aa 92).sc ((aa 92).body.drop 3) ⟨[("script",.gN sc),("source",.ref s),("precision",.int pr),("many",.int m),("width",.int 2),("height",.int 1)],[]⟩ (cz Q))) H) σ:=by
 refine kr ?_
 rcases hm with rfl|rfl
 ·refine mv rfl (gf (n:=n+83) S ⟨by decide,by decide⟩ λeW a u1 S1 ha=>cq (gf (n:=n+83) S1 ⟨by decide,by decide⟩ λdM b u2 S2 hb=>cq ?_));have e1:(1:Int)+(a:Nat)=((a+1:Nat):Int):=by omega
  have e2:(1:Int)+(b:Nat)=((b+1:Nat):Int):=by omega
  (refine Eq.symm e1▸?_;refine Eq.symm e2▸?_);have ha:a<3:=ha;have hb:b<2:=hb;have l6:(a+1)*(b+1)<=6:=ao (Nat.mul_le_mul (Nat.succ_le_of_lt ha) (Nat.succ_le_of_lt hb)) (by decide);have p0:0<(a+1)*(b+1):=Nat.mul_pos (succ_pos _) (succ_pos _);exact rg S2 (.inl rfl) ⟨succ_pos _,by omega⟩ ⟨succ_pos _,by omega⟩ ⟨(a+1)*(b+1)-1,by omega,by omega⟩ (by omega) vT q
 ·exact iy rfl (rg (w:=2) (h:=1) S (.inr rfl) ⟨by decide,by decide⟩ ⟨by decide,by decide⟩ ⟨1,rfl,by decide⟩ (by decide) vT q)
theorem Px{l:List Int}(hl:l.length<=1000)(q:∀τ,Q (.bool true) τ):W ((ag gg (n+100)).C (aa 92) [.gN (l.map .int)]) Q σ:=by
 let aO:V->V->V->V->V->Pr:=λv1 v3 v5 v8 v10 H=>(aS (ay gg (n+99)) (aa 92).sc ((aa 92).body.drop 3) ⟨[("script",.gN (l.map .int)),("source",v1),("precision",v3),("many",v5),("width",v8),("height",v10)],[]⟩ (cz Q)) H;let aZ:V->V->V->V->V->Pr:=λv1 v3 v5 v8 v9 H=>(W (ai .Add (.int 1) v9) (aO v1 v3 v5 v8)) H;let bW:V->V->V->V->Pr:=λv1 v3 v5 v8 H=>(W ((ag gg (n+94)).C (aa 86) [v1,.int 2]) (aZ v1 v3 v5 v8)) H;let c8:V->V->V->V->Pr:=λv1 v3 v5 v7 H=>(W (ai .Add (.int 1) v7) (bW v1 v3 v5)) H;let dG:V->V->V->Bool->Pr:=λv1 v3 v5 b6 H=>(cR b6 (W ((ag gg (n+94)).C (aa 86) [v1,.int 3]) (c8 v1 v3 v5)) (aS (ay gg (n+99)) (aa 92).sc ((aa 92).body.drop 3) ⟨[("script",.gN (l.map .int)),("source",v1),("precision",v3),("many",v5),("width",.int 2),("height",.int 1)],[]⟩ (cz Q))) H;let dR:V->V->V->Pr:=λv1 v3 v5 H=>(W (cX .Eq v5 (.int 1)) (dG v1 v3 v5)) H;let fC:V->V->V->Pr:=λv1 v3 v4 H=>(W ((ag gg (n+96)).C (aa 87) [v1,v4]) (dR v1 v3)) H;let gX:V->V->Pr:=λv1 v3 H=>(W (dE [.int 1,.int 1,.int 3]) (fC v1 v3)) H;let iU:V->V->Pr:=λv1 v2 H=>(W ((ag gg (n+96)).C (aa 87) [v1,v2]) (gX v1)) H;let eE:V->Pr:=λv1 H=>(W (dE [.int 2,.int 3,.int 8,.int 16]) (iU v1)) H;refine ce (p:=(W ((ag gg (n+97)).C (aa 85) [.gN (l.map .int),.int 0]) eE) σ) ?_;refine yG (n:=n+86) (λτ s u ls S=>bZ rfl λx eW u1 l1 h1=>?_) hl;refine om (n:=n+80) (S.up u1) h1 (λe=>dH l1 (e▸S.lt)) ⟨succ_pos _,eK rfl⟩ λdM v u2 S2 hv=>bZ rfl λy gT u3 l3 h3=>?_;obtain⟨pr,rfl,vT⟩:∃pr:Nat,v=.int pr/\2<=pr/\pr<=16:=by
  simp only[mem_cons,not_mem_nil,or_false]at hv
  rcases hv with rfl|rfl|rfl|rfl
  ·exact⟨2,rfl,by decide⟩
  ·exact⟨3,rfl,by decide⟩
  ·exact⟨8,rfl,by decide⟩
  ·exact⟨16,rfl,by decide⟩
 refine om (n:=n+80) (S2.up u3) h3 (λe=>dH l3 (e▸S2.lt)) ⟨succ_pos _,eK rfl⟩ λjx v u4 S4 hv=>?_;obtain⟨m,rfl,hm⟩:∃m:Nat,v=.int m/\(m=1\/m=3):=by
  simp only[mem_cons,not_mem_nil,or_false]at hv
  rcases hv with rfl|rfl|rfl
  ·exact⟨1,rfl,.inl rfl⟩
  ·exact⟨1,rfl,.inl rfl⟩
  ·exact⟨3,rfl,.inr rfl⟩
 exact Cg S4 hm vT q
end
theorem Cm{l:List Int}(hl:l.length<=1000):Si l:=by
 have h:=Px (n:=0) (Q:=λv _=>v=.bool true) (σ:=[]) hl λ_=>rfl;unfold W at h
 revert h
 cases e:(ag gg 100).C (aa 92) [.gN (l.map .int)] []with
 |none=>exact λh=>h.elim
 |some p=>exact λh=>⟨_,p.2,by kernel_rfl,e.trans (congrArg some (Prod.ext h rfl))⟩
end
end Mine.Internal
open Mine.Internal in
theorem PySem.Challenge.cw_nt0575_01_holds : PySem.Challenge.rw_nt0575_01.Holds :=
 uT (d:=((PySem.W.defOf qM lw.name).get (by kernel_rfl)).1) (kwd:=((PySem.W.defOf qM lw.name).get (by kernel_rfl)).2) (by kernel_rfl) (by kernel_rfl) (by kernel_rfl) λ_ h=>Cm (ao h (by decide))
