import PyProof.Rows.All
import Wide.All
import OpenK.AllK
import Wide.FinOn
import Lean
import PySem.Challenge.RW_np0320_01
open PySem PySem.W PyProof.Rows
set_option Elab.async false
set_option linter.all false
set_option maxRecDepth 100000
set_option backward.match.sparseCases false
set_option genInjectivity false
set_option genSizeOf false
set_option bootstrap.genMatcherCode false
set_option tactic.hygienic false
namespace Mine
def dL:=@PySem.wpAny_bind
def f0:=@List.getElem?_eq_getElem
def o0:=@Nat.le_trans
def s5:=@of_decide_eq_true
def s4:=@PySem.wpAny_pure
def sK:=@List.length_append
def u8:=@List.mem_singleton
def v6:=@congrArg
def v4:=@List.length_map
def v0:=@Nat.le_refl
def wT:=@PySem.Heap.get?_push_of_some
def wS:=@Classical.byCases
def wP:=@List.getElem?_eq_some_iff
def wE:=@List.mem_of_getElem?
def x0:=@List.length_range
def AT:=@List.mem_range
def AC:=@List.mem_append
def BT:=@Option.some.inj
def EQ:=@List.mem_cons
def FS:=@List.getElem?_map
def FM:=@decide_eq_true
def FB:=@List.mem_map
def GT:=@of_decide_eq_false
def GM:=@PySem.Heap.get?_push_size
def GE:=@List.getElem?_append_right
def H1:=@List.length_singleton
def IR:=@Int.natCast_nonneg
def IO:=@List.mem_filter
def IN:=@Nat.lt_of_le_of_lt
def KT:=@List.length_filter_le
def KM:=@PySem.Heap.lt_size
def KK:=@Nat.le_of_lt
def KF:=@List.exists_cons_of_length_eq_add_one
def KE:=@Array.getElem?_toList
def KB:=@PySem.wpAny_holding
def LE:=@Nat.ne_of_lt
def P3:=@Nat.lt_or_ge
def PP:=@Bool.and_eq_true_iff
def SZ:=@decide_eq_false
def ST:=@List.size_toArray
def SL:=@List.take_of_length_le
def SC:=@Nat.zero_le
def SB:=@PySem.Heap.get?_update_other
def T0:=@Nat.le_add_right
def TW:=@Option.map_eq_some_iff
def TT:=@List.nodup_cons
def TE:=@List.map_congr_left
def TD:=@Option.bind_eq_some_iff
def UV:=@PySem.Heap.get?_update_self
def UF:=@Nat.lt_of_lt_of_le
def W1:=@Nat.lt_succ_self
def WP:=@List.all_eq_true
def WF:=@List.length_cons
def XV:=@List.getElem_of_mem
def XL:=@List.getElem?_range
def ZB:=@Nat.exists_eq_add_of_le'
def aac:=@List.map_map
def aae:=@beq_iff_eq
def aaf:=@PySem.wpAny_standAt
def aak:=@List.any_eq_true
def aal:=@Nat.eq_of_beq_eq_true
def aar:=@List.getElem?_append_left
def aaC:=@Array.getElem?_eq_getElem
def aaE:=@List.take_add_one
def aaG:=@Nat.not_lt
def aaH:=@List.mem_iff_getElem?
def aaI:=@List.getElem?_eq_none
def aaJ:=@List.eq_nil_of_length_eq_zero
def aaK:=@List.range_succ
def aaL:=@List.map_append
def aaM:=@Nat.le_of_eq
def aaN:=@Array.length_toList
def aaO:=@Bool.or_eq_true
def aaP:=@Array.getElem?_eq_some_iff
def aaQ:=@Nat.lt_succ_of_lt
def aaR:=@Nat.sub_self
def aaS:=@PySem.codeAny_mono
def aaT:=@List.map_cons
def aaU:=@Nat.le_succ
def aaV:=@Bool.or_eq_true_iff
def aaW:=@List.set_append_right
def aaX:=@List.append_assoc
def aaY:=@Int.ofNat_lt
def aaZ:=@List.length_eq_zero_iff
def aa0:=@PySem.builtinLookup_eq_fast
def aa1:=@List.append_nil
def aa3:=@Nat.succ.inj
def abM:=@List.flatMap_append
def abN:=@List.flatMap_cons
def abQ:=@PySem.SeqAt.canLay_of_shaped
def abV:=@Nat.lt_trans
def abW:=@Nat.le_add_left
def abX:=@List.length_set
def abZ:=@decide_eq_true_iff
def ab0:=@List.getElem_range
def ab2:=@Bool.or_eq_false_iff
def ab6:=@PySem.wpAny_mono
def ab7:=@PySem.wpAny_askSetting
def ab8:=@Nat.ne_of_gt
def aca:=@Nat.le_of_lt_succ
def acb:=@List.nodup_append
def acd:=@Int.ofNat_le
def ace:=@Option.some_ne_none
def acf:=@List.getElem?_eq_none_iff
def acg:=@List.take_append_drop
def ach:=@List.getElem?_toArray
def aci:=@decide_eq_decide
def acj:=@PySem.F.called_set
def ack:=@Nat.zero_lt_succ
def acq:=@Nat.le_of_succ_le
def acw:=@Nat.add_le_add_left
def acz:=@PySem.Heap.size_push
def acA:=@PySem.intKind_is
def acB:=@List.filter_append
def acC:=@PySem.Heap.SameBut.update
def acD:=@Classical.byContradiction
def acE:=@Nat.le_antisymm
def acF:=@Int.le_trans
def acG:=@Nat.succ_add_eq_add_succ
def acH:=@List.length_reverse
def acI:=@PySem.wpAny_truthy_bool
def acJ:=@Nat.succ_lt_succ
def acK:=@List.length_take
def acL:=@List.pairwise_lt_range
def acM:=@Nat.not_lt_zero
def acN:=@Nat.lt_trichotomy
def acO:=@Nat.lt_of_succ_le
def acP:=@List.Pairwise.filter
def acQ:=@Ne.symm
def acR:=@Nat.succ_le_succ
def acS:=@List.not_mem_nil
def acT:=@PySem.F.excBase_Exception
def acU:=@PyProof.Rows.F.plain_set_update_loop
def acV:=@List.mergeSort_perm
def acW:=@PySem.F.slot_list_append
def acX:=@Bool.false_ne_true
def acY:=@PySem.F.plainAttrs_list
def ac1:=@Nat.succ_le_of_lt
def ac4:=@Nat.lt_succ_of_le
def ac5:=@Int.toNat_natCast
def ac6:=@Nat.lt_irrefl
def ac7:=@List.Perm.refl
def ac8:=@Bool.false_eq_true
def ac9:=@Bool.and_false
noncomputable abbrev aH:=List Nat
noncomputable abbrev aS:=List Int
noncomputable abbrev aZ:=List Addr
noncomputable abbrev aQ:=List Value
noncomputable abbrev dy:=Value->Shared->Prop
noncomputable abbrev aD:=PySem.Expr
noncomputable abbrev dT:=List Str
/-! -/
section
variable{G:Prop}{P Q R S T U V W X Y:Prop}
def bH(a:P)(b:Q)(c:R):P/\Q/\R:=⟨a,b,c⟩
def fL(a:P)(b:Q)(c:R)(d:S):P/\Q/\R/\S:=⟨a,b,c,d⟩
def DU(a:P)(b:Q)(c:R)(d:S)(e:T):P/\Q/\R/\S/\T:=⟨a,b,c,d,e⟩
def aa4(a:P)(b:Q)(c:R)(d:S)(e:T)(f:U)(g:V):P/\Q/\R/\S/\T/\U/\V:=⟨a,b,c,d,e,f,g⟩
def aa5(a:P)(b:Q)(c:R)(d:S)(e:T)(f:U)(g:V)(h:W):P/\Q/\R/\S/\T/\U/\V/\W:=⟨a,b,c,d,e,f,g,h⟩
def Yi(a:P)(b:Q)(c:R)(d:S)(e:T)(f:U)(g:V)(h:W)(i:X):P/\Q/\R/\S/\T/\U/\V/\W/\X:=⟨a,b,c,d,e,f,g,h,i⟩
def aX(h:P/\Q)(k:P->Q->G):G:=k h.1 h.2
def cY(h:P/\Q/\R)(k:P->Q->R->G):G:=k h.1 h.2.1 h.2.2
def mr(h:P/\Q/\R/\S)(k:P->Q->R->S->G):G:=k h.1 h.2.1 h.2.2.1 h.2.2.2
def Vw(h:P/\Q/\R/\S/\T)(k:P->Q->R->S->T->G):G:=k h.1 h.2.1 h.2.2.1 h.2.2.2.1 h.2.2.2.2
def aa6(h:P/\Q/\R/\S/\T/\U)(k:P->Q->R->S->T->U->G):G:=k h.1 h.2.1 h.2.2.1 h.2.2.2.1 h.2.2.2.2.1 h.2.2.2.2.2
def aa7(h:P/\Q/\R/\S/\T/\U/\V)(k:P->Q->R->S->T->U->V->G):G:=k h.1 h.2.1 h.2.2.1 h.2.2.2.1 h.2.2.2.2.1 h.2.2.2.2.2.1 h.2.2.2.2.2.2
def Vy(h:P/\Q/\R/\S/\T/\U/\V/\W)(k:P->Q->R->S->T->U->V->W->G):G:=k h.1 h.2.1 h.2.2.1 h.2.2.2.1 h.2.2.2.2.1 h.2.2.2.2.2.1 h.2.2.2.2.2.2.1 h.2.2.2.2.2.2.2
def Yj(h:P/\Q/\R/\S/\T/\U/\V/\W/\X/\Y)(k:P->Q->R->S->T->U->V->W->X->Y->G):G:=k h.1 h.2.1 h.2.2.1 h.2.2.2.1 h.2.2.2.2.1 h.2.2.2.2.2.1 h.2.2.2.2.2.2.1 h.2.2.2.2.2.2.2.1 h.2.2.2.2.2.2.2.2.1 h.2.2.2.2.2.2.2.2.2
end
section
variable{A:Sort _}{G:Prop}{P Q R S T U V W X Y:A->Prop}
def wz(a:A)(b:P a):∃a,P a:=⟨a,b⟩
def ay(a:A)(b:P a)(c:Q a):∃a,P a/\Q a:=⟨a,b,c⟩
def dC(a:A)(b:P a)(c:Q a)(d:R a):∃a,P a/\Q a/\R a:=⟨a,b,c,d⟩
def BX(a:A)(b:P a)(c:Q a)(d:R a)(e:S a):∃a,P a/\Q a/\R a/\S a:=⟨a,b,c,d,e⟩
def aa8(a:A)(b:P a)(c:Q a)(d:R a)(e:S a)(f:T a):∃a,P a/\Q a/\R a/\S a/\T a:=⟨a,b,c,d,e,f⟩
def ar(h:∃a,P a)(k:∀a,P a->G):G:=h.elim k
def aj(h:∃a,P a/\Q a)(k:∀a,P a->Q a->G):G:=h.elim λa h=>aX h (k a)
def cU(h:∃a,P a/\Q a/\R a)(k:∀a,P a->Q a->R a->G):G:=h.elim λa h=>cY h (k a)
def zJ(h:∃a,P a/\Q a/\R a/\S a)(k:∀a,P a->Q a->R a->S a->G):G:=h.elim λa h=>mr h (k a)
def Vz(h:∃a,P a/\Q a/\R a/\S a/\T a)(k:∀a,P a->Q a->R a->S a->T a->G):G:=h.elim λa h=>Vw h (k a)
def aa9(h:∃a,P a/\Q a/\R a/\S a/\T a/\U a)(k:∀a,P a->Q a->R a->S a->T a->U a->G):G:=h.elim λa h=>aa6 h (k a)
def aba(h:∃a,P a/\Q a/\R a/\S a/\T a/\U a/\V a)(k:∀a,P a->Q a->R a->S a->T a->U a->V a->G):G:=h.elim λa h=>aa7 h (k a)
def abb(h:∃a,P a/\Q a/\R a/\S a/\T a/\U a/\V a/\W a)(k:∀a,P a->Q a->R a->S a->T a->U a->V a->W a->G):G:=h.elim λa h=>Vy h (k a)
def Yk(h:∃a,P a/\Q a/\R a/\S a/\T a/\U a/\V a/\W a/\X a/\Y a)(k:∀a,P a->Q a->R a->S a->T a->U a->V a->W a->X a->Y a->G):G:=h.elim λa h=>Yj h (k a)
end
section
variable{A B:Sort _}{G:Prop}{P Q R S T U V W X Y:A->B->Prop}
def DV(a:A)(b:B)(c:P a b):∃a b,P a b:=⟨a,b,c⟩
def j6(a:A)(b:B)(c:P a b)(d:Q a b):∃a b,P a b/\Q a b:=⟨a,b,c,d⟩
def uH(a:A)(b:B)(c:P a b)(d:Q a b)(e:R a b):∃a b,P a b/\Q a b/\R a b:=⟨a,b,c,d,e⟩
def lF(a:A)(b:B)(c:P a b)(d:Q a b)(e:R a b)(f:S a b):∃a b,P a b/\Q a b/\R a b/\S a b:=⟨a,b,c,d,e,f⟩
def DW(a:A)(b:B)(c:P a b)(d:Q a b)(e:R a b)(f:S a b)(g:T a b):∃a b,P a b/\Q a b/\R a b/\S a b/\T a b:=⟨a,b,c,d,e,f,g⟩
def Ki(a:A)(b:B)(c:P a b)(d:Q a b)(e:R a b)(f:S a b)(g:T a b)(h:U a b):∃a b,P a b/\Q a b/\R a b/\S a b/\T a b/\U a b:=⟨a,b,c,d,e,f,g,h⟩
def abc(a:A)(b:B)(c:P a b)(d:Q a b)(e:R a b)(f:S a b)(g:T a b)(h:U a b)(i:V a b):∃a b,P a b/\Q a b/\R a b/\S a b/\T a b/\U a b/\V a b:=⟨a,b,c,d,e,f,g,h,i⟩
def pU(h:∃a b,P a b)(k:∀a b,P a b->G):G:=h.elim λa h=>ar h (k a)
def dm(h:∃a b,P a b/\Q a b)(k:∀a b,P a b->Q a b->G):G:=h.elim λa h=>aj h (k a)
def gm(h:∃a b,P a b/\Q a b/\R a b)(k:∀a b,P a b->Q a b->R a b->G):G:=h.elim λa h=>cU h (k a)
def gH(h:∃a b,P a b/\Q a b/\R a b/\S a b)(k:∀a b,P a b->Q a b->R a b->S a b->G):G:=h.elim λa h=>zJ h (k a)
def rR(h:∃a b,P a b/\Q a b/\R a b/\S a b/\T a b)(k:∀a b,P a b->Q a b->R a b->S a b->T a b->G):G:=h.elim λa h=>Vz h (k a)
def BY(h:∃a b,P a b/\Q a b/\R a b/\S a b/\T a b/\U a b)(k:∀a b,P a b->Q a b->R a b->S a b->T a b->U a b->G):G:=h.elim λa h=>aa9 h (k a)
def Yl(h:∃a b,P a b/\Q a b/\R a b/\S a b/\T a b/\U a b/\V a b)(k:∀a b,P a b->Q a b->R a b->S a b->T a b->U a b->V a b->G):G:=h.elim λa h=>aba h (k a)
def abd(h:∃a b,P a b/\Q a b/\R a b/\S a b/\T a b/\U a b/\V a b/\W a b)(k:∀a b,P a b->Q a b->R a b->S a b->T a b->U a b->V a b->W a b->G):G:=h.elim λa h=>abb h (k a)
def Ym(h:∃a b,P a b/\Q a b/\R a b/\S a b/\T a b/\U a b/\V a b/\W a b/\X a b/\Y a b)(k:∀a b,P a b->Q a b->R a b->S a b->T a b->U a b->V a b->W a b->X a b->Y a b->G):G:=h.elim λa h=>Yk h (k a)
end
section
variable{A B C:Sort _}{G:Prop}{P Q R S T U V W X Y:A->B->C->Prop}
def VA(a:A)(b:B)(c:C)(d:P a b c):∃a b c,P a b c:=⟨a,b,c,d⟩
def Kj(a:A)(b:B)(c:C)(d:P a b c)(e:Q a b c):∃a b c,P a b c/\Q a b c:=⟨a,b,c,d,e⟩
def uI(a:A)(b:B)(c:C)(d:P a b c)(e:Q a b c)(f:R a b c):∃a b c,P a b c/\Q a b c/\R a b c:=⟨a,b,c,d,e,f⟩
def DX(a:A)(b:B)(c:C)(d:P a b c)(e:Q a b c)(f:R a b c)(g:S a b c):∃a b c,P a b c/\Q a b c/\R a b c/\S a b c:=⟨a,b,c,d,e,f,g⟩
def BZ(a:A)(b:B)(c:C)(d:P a b c)(e:Q a b c)(f:R a b c)(g:S a b c)(h:T a b c):∃a b c,P a b c/\Q a b c/\R a b c/\S a b c/\T a b c:=⟨a,b,c,d,e,f,g,h⟩
def Yn(a:A)(b:B)(c:C)(d:P a b c)(e:Q a b c)(f:R a b c)(g:S a b c)(h:T a b c)(i:U a b c):∃a b c,P a b c/\Q a b c/\R a b c/\S a b c/\T a b c/\U a b c:=⟨a,b,c,d,e,f,g,h,i⟩
def MJ(h:∃a b c,P a b c)(k:∀a b c,P a b c->G):G:=h.elim λa h=>pU h (k a)
def B0(h:∃a b c,P a b c/\Q a b c)(k:∀a b c,P a b c->Q a b c->G):G:=h.elim λa h=>dm h (k a)
def eV(h:∃a b c,P a b c/\Q a b c/\R a b c)(k:∀a b c,P a b c->Q a b c->R a b c->G):G:=h.elim λa h=>gm h (k a)
def zK(h:∃a b c,P a b c/\Q a b c/\R a b c/\S a b c)(k:∀a b c,P a b c->Q a b c->R a b c->S a b c->G):G:=h.elim λa h=>gH h (k a)
def uJ(h:∃a b c,P a b c/\Q a b c/\R a b c/\S a b c/\T a b c)(k:∀a b c,P a b c->Q a b c->R a b c->S a b c->T a b c->G):G:=h.elim λa h=>rR h (k a)
def Yo(h:∃a b c,P a b c/\Q a b c/\R a b c/\S a b c/\T a b c/\U a b c)(k:∀a b c,P a b c->Q a b c->R a b c->S a b c->T a b c->U a b c->G):G:=h.elim λa h=>BY h (k a)
def abe(h:∃a b c,P a b c/\Q a b c/\R a b c/\S a b c/\T a b c/\U a b c/\V a b c)(k:∀a b c,P a b c->Q a b c->R a b c->S a b c->T a b c->U a b c->V a b c->G):G:=h.elim λa h=>Yl h (k a)
def abf(h:∃a b c,P a b c/\Q a b c/\R a b c/\S a b c/\T a b c/\U a b c/\V a b c/\W a b c)(k:∀a b c,P a b c->Q a b c->R a b c->S a b c->T a b c->U a b c->V a b c->W a b c->G):G:=h.elim λa h=>abd h (k a)
def Yp(h:∃a b c,P a b c/\Q a b c/\R a b c/\S a b c/\T a b c/\U a b c/\V a b c/\W a b c/\X a b c/\Y a b c)(k:∀a b c,P a b c->Q a b c->R a b c->S a b c->T a b c->U a b c->V a b c->W a b c->X a b c->Y a b c->G):G:=h.elim λa h=>Ym h (k a)
end
section
variable{A B C D:Sort _}{G:Prop}{P Q R S T U V W X Y:A->B->C->D->Prop}
def abg(a:A)(b:B)(c:C)(d:D)(e:P a b c d):∃a b c d,P a b c d:=⟨a,b,c,d,e⟩
def VB(a:A)(b:B)(c:C)(d:D)(e:P a b c d)(f:Q a b c d):∃a b c d,P a b c d/\Q a b c d:=⟨a,b,c,d,e,f⟩
def Kk(a:A)(b:B)(c:C)(d:D)(e:P a b c d)(f:Q a b c d)(g:R a b c d)(h:S a b c d)(i:T a b c d):∃a b c d,P a b c d/\Q a b c d/\R a b c d/\S a b c d/\T a b c d:=⟨a,b,c,d,e,f,g,h,i⟩
def MK(a:A)(b:B)(c:C)(d:D)(e:P a b c d)(f:Q a b c d)(g:R a b c d)(h:S a b c d)(i:T a b c d)(j:U a b c d):∃a b c d,P a b c d/\Q a b c d/\R a b c d/\S a b c d/\T a b c d/\U a b c d:=⟨a,b,c,d,e,f,g,h,i,j⟩
def abh(a:A)(b:B)(c:C)(d:D)(e:P a b c d)(f:Q a b c d)(g:R a b c d)(h:S a b c d)(i:T a b c d)(j:U a b c d)(k:V a b c d)(l:W a b c d):∃a b c d,P a b c d/\Q a b c d/\R a b c d/\S a b c d/\T a b c d/\U a b c d/\V a b c d/\W a b c d:=⟨a,b,c,d,e,f,g,h,i,j,k,l⟩
def ML(h:∃a b c d,P a b c d)(k:∀a b c d,P a b c d->G):G:=h.elim λa h=>MJ h (k a)
def xB(h:∃a b c d,P a b c d/\Q a b c d)(k:∀a b c d,P a b c d->Q a b c d->G):G:=h.elim λa h=>B0 h (k a)
def VC(h:∃a b c d,P a b c d/\Q a b c d/\R a b c d)(k:∀a b c d,P a b c d->Q a b c d->R a b c d->G):G:=h.elim λa h=>eV h (k a)
def VD(h:∃a b c d,P a b c d/\Q a b c d/\R a b c d/\S a b c d)(k:∀a b c d,P a b c d->Q a b c d->R a b c d->S a b c d->G):G:=h.elim λa h=>zK h (k a)
def tc(h:∃a b c d,P a b c d/\Q a b c d/\R a b c d/\S a b c d/\T a b c d)(k:∀a b c d,P a b c d->Q a b c d->R a b c d->S a b c d->T a b c d->G):G:=h.elim λa h=>uJ h (k a)
def Kl(h:∃a b c d,P a b c d/\Q a b c d/\R a b c d/\S a b c d/\T a b c d/\U a b c d)(k:∀a b c d,P a b c d->Q a b c d->R a b c d->S a b c d->T a b c d->U a b c d->G):G:=h.elim λa h=>Yo h (k a)
def VE(h:∃a b c d,P a b c d/\Q a b c d/\R a b c d/\S a b c d/\T a b c d/\U a b c d/\V a b c d)(k:∀a b c d,P a b c d->Q a b c d->R a b c d->S a b c d->T a b c d->U a b c d->V a b c d->G):G:=h.elim λa h=>abe h (k a)
def abi(h:∃a b c d,P a b c d/\Q a b c d/\R a b c d/\S a b c d/\T a b c d/\U a b c d/\V a b c d/\W a b c d)(k:∀a b c d,P a b c d->Q a b c d->R a b c d->S a b c d->T a b c d->U a b c d->V a b c d->W a b c d->G):G:=h.elim λa h=>abf h (k a)
def Yq(h:∃a b c d,P a b c d/\Q a b c d/\R a b c d/\S a b c d/\T a b c d/\U a b c d/\V a b c d/\W a b c d/\X a b c d/\Y a b c d)(k:∀a b c d,P a b c d->Q a b c d->R a b c d->S a b c d->T a b c d->U a b c d->V a b c d->W a b c d->X a b c d->Y a b c d->G):G:=h.elim λa h=>Yp h (k a)
end
section
variable{A B C D E:Sort _}{G:Prop}{P Q R S T U V W X Y:A->B->C->D->E->Prop}
def Yr(a:A)(b:B)(c:C)(d:D)(e:E)(f:P a b c d e)(g:Q a b c d e)(h:R a b c d e)(i:S a b c d e):∃a b c d e,P a b c d e/\Q a b c d e/\R a b c d e/\S a b c d e:=⟨a,b,c,d,e,f,g,h,i⟩
def abj(a:A)(b:B)(c:C)(d:D)(e:E)(f:P a b c d e)(g:Q a b c d e)(h:R a b c d e)(i:S a b c d e)(j:T a b c d e):∃a b c d e,P a b c d e/\Q a b c d e/\R a b c d e/\S a b c d e/\T a b c d e:=⟨a,b,c,d,e,f,g,h,i,j⟩
def abk(a:A)(b:B)(c:C)(d:D)(e:E)(f:P a b c d e)(g:Q a b c d e)(h:R a b c d e)(i:S a b c d e)(j:T a b c d e)(k:U a b c d e):∃a b c d e,P a b c d e/\Q a b c d e/\R a b c d e/\S a b c d e/\T a b c d e/\U a b c d e:=⟨a,b,c,d,e,f,g,h,i,j,k⟩
def abl(a:A)(b:B)(c:C)(d:D)(e:E)(f:P a b c d e)(g:Q a b c d e)(h:R a b c d e)(i:S a b c d e)(j:T a b c d e)(k:U a b c d e)(l:V a b c d e):∃a b c d e,P a b c d e/\Q a b c d e/\R a b c d e/\S a b c d e/\T a b c d e/\U a b c d e/\V a b c d e:=⟨a,b,c,d,e,f,g,h,i,j,k,l⟩
def Uo(a:A)(b:B)(c:C)(d:D)(e:E)(f:P a b c d e)(g:Q a b c d e)(h:R a b c d e)(i:S a b c d e)(j:T a b c d e)(k:U a b c d e)(l:V a b c d e)(m:W a b c d e)(n:X a b c d e)(o:Y a b c d e):∃a b c d e,P a b c d e/\Q a b c d e/\R a b c d e/\S a b c d e/\T a b c d e/\U a b c d e/\V a b c d e/\W a b c d e/\X a b c d e/\Y a b c d e:=⟨a,b,c,d,e,f,g,h,i,j,k,l,m,n,o⟩
def Ys(h:∃a b c d e,P a b c d e/\Q a b c d e)(k:∀a b c d e,P a b c d e->Q a b c d e->G):G:=h.elim λa h=>xB h (k a)
def MM(h:∃a b c d e,P a b c d e/\Q a b c d e/\R a b c d e/\S a b c d e)(k:∀a b c d e,P a b c d e->Q a b c d e->R a b c d e->S a b c d e->G):G:=h.elim λa h=>VD h (k a)
def abm(h:∃a b c d e,P a b c d e/\Q a b c d e/\R a b c d e/\S a b c d e/\T a b c d e)(k:∀a b c d e,P a b c d e->Q a b c d e->R a b c d e->S a b c d e->T a b c d e->G):G:=h.elim λa h=>tc h (k a)
def abn(h:∃a b c d e,P a b c d e/\Q a b c d e/\R a b c d e/\S a b c d e/\T a b c d e/\U a b c d e)(k:∀a b c d e,P a b c d e->Q a b c d e->R a b c d e->S a b c d e->T a b c d e->U a b c d e->G):G:=h.elim λa h=>Kl h (k a)
def abo(h:∃a b c d e,P a b c d e/\Q a b c d e/\R a b c d e/\S a b c d e/\T a b c d e/\U a b c d e/\V a b c d e)(k:∀a b c d e,P a b c d e->Q a b c d e->R a b c d e->S a b c d e->T a b c d e->U a b c d e->V a b c d e->G):G:=h.elim λa h=>VE h (k a)
def Up(h:∃a b c d e,P a b c d e/\Q a b c d e/\R a b c d e/\S a b c d e/\T a b c d e/\U a b c d e/\V a b c d e/\W a b c d e/\X a b c d e/\Y a b c d e)(k:∀a b c d e,P a b c d e->Q a b c d e->R a b c d e->S a b c d e->T a b c d e->U a b c d e->V a b c d e->W a b c d e->X a b c d e->Y a b c d e->G):G:=h.elim λa h=>Yq h (k a)
end
def bJ{a b:Bool}{G:Prop}(h:(a&&b))(k:a->b->G):G:=k (PP.mp h).1 (PP.mp h).2
section
def gg{P:Prop}(h:∀G:Prop,(P->G)->G):P:=h P id
def se{c:Type _}{x:Option c}{a b:c}(h:x=some a)(k:x=some b):a=b:=BT (h.symm.trans k)
def sn{b:Type _}{x:Option b}{a:b}{P:Prop}(h:x=some a)(k:x=none):P:=absurd (h.symm.trans k) (ace _)
def nx{b:Type _}{a:b}{P:Prop}(h:none=some a):P:=absurd h.symm (ace _)
def sx{b:Type _}{a:b}{P:Prop}(h:some a=none):P:=absurd h (ace _)
def nf{b:Type _}{x:Option b}(h:∀a,x=some a->False):x=none:=Option.eq_none_iff_forall_ne_some.mpr h
def bx{P:Prop}{b:Bool}(h:b)(k:b=false):P:=absurd (k.symm.trans h) acX
def lx{b:Type _}{a:b}{l:List b}{P:Prop}(h:a::l=[]):P:=absurd h (List.cons_ne_nil _ _)
def nl{b:Type _}{a:b}{P:Prop}(h:a∈([]:List b)):P:=absurd h (acS)
noncomputable abbrev bj:=Addr->Option Obj
def Le(F a:bj):Prop:=∀b o,F b=some o->a b=some o
def On(F:bj)(h:Heap):Prop:=∀b o,F b=some o->h.get? b=some o
def Le.refl F:Le F F:=λ_ _ e=>e
def Le.trans(a:Le F G)(b:Le G H):Le F H:=λx o e=>b x o (a x o e)
inductive af where
 |ae|none|bool (b:Bool)|int (i:Int)|str (s:Str)|cell (n:Nat)
 |list (xs:List af)|tuple (xs:List af)|range (lo hi:Int)
 |dict (ks:List Int) (vs:List af)|set (xs:List Int)
 |ji (C:Addr) (k:Nat)|attrs (ns:List Str) (vs:List af)
 |dJ (C:Addr) (ns:List Str) (vs:List af)
 deriving Inhabited
structure eY(w:World)(es:Array (Int×Value))(t:SetTable)(xs:List Int):Prop where
 MN:∀i:Nat,∀e,es[i]?=some e->∃x tk,xs[i]?=some x/\e=(hashInt x,.int x tk)
 size:es.size=xs.length
 fD:xs.Nodup
 small:es.size<scanBound
 fits:t.fits es.size=true
 led:w.params.followText "set-order"\/t.led=true
 Km:∀(i j a b:Nat),i<j->t.place[i]?=some a->t.place[j]?=some b->a<b
 DY:t.dummies= #[]
inductive iU:List DictEntry->List Str->List Value->Prop
 |nil:iU [] [] []
 |cons {h:Int} {n:Str} {tk:Tok} {v:Value} {es ns ws}:iU es ns ws->iU (⟨h,.str n tk,v⟩::es) (n::ns) (v::ws)
noncomputable abbrev ah:=List af
def Rg(c:af)(a:Addr):Prop:=match c with| .dict _ _=>(a==sysModules)=false|_=>True
def Gk(h:(a==sysModules)=false):Rg c a:=by cases c<;>first|trivial|exact h
section
variable(f:Program)(w:World)(F:bj)(g:aZ)
mutual
inductive aG:af->Value->Prop
 |none:aG .none .none
 |bool (b:Bool):aG (.bool b) (.bool b)
 |int (i:Int) (t:Tok):aG (.int i) (.int i t)
 |str (s:Str) (t:Tok):aG (.str s) (.str s t)
 |cell {n:Nat} {a:Addr}:g[n]?=some a->aG (.cell n) (.ref a)
 |xC {c:af} {a:Addr} {o:Obj}:Rg c a->F a=some o->cM c o->aG c (.ref a)
 |dJ {C a d:Addr} {ns:List Str} {vs:List af} {ox od:Obj}:F a=some ox->ox.cls=.ref C->ox.dict=some d->notCls ox->F d=some od->cM (.attrs ns vs) od->aG (.dJ C ns vs) (.ref a)
inductive ax:List af->List Value->Prop
 |nil:ax [] []
 |cons {x:af} {v:Value} {xs:List af} {vs:List Value}:aG x v->ax xs vs->ax (x::xs) (v::vs)
inductive cM:af->Obj->Prop
 |list {xs:List af} {ws:List Value} {ep:Nat}:ax xs ws->cM (.list xs) (listOf ws.toArray ep)
 |tuple {xs:List af} {ws:List Value} {ep:Nat} {o:Obj}:o.cls=.type "tuple"->o.data=.seq ws.toArray ep->ax xs ws->cM (.tuple xs) o
 |range {a b:Int} {t u v:Tok}:cM (.range a b) {cls:=.type "range",data:=.fields #[.int a t,.int b u,.int 1 v]}
 |dict {ks:List Int} {vs:List af} {ws:List Value} {o:Obj}:o.IsDictOf (intKind f w) (ks.zip ws)->ks.length=ws.length->ax vs ws->cM (.dict ks vs) o
 |set {xs:List Int} {es:Array (Int×Value)} {ep:Nat} {t:SetTable}:eY w es t xs->cM (.set xs) {cls:=.type "set",data:=.set es ep t}
 |ji {C:Addr} {k:Nat} {d:Addr}:g[k]?=some d->cM (.ji C k) (instObj C d)
 |attrs {ns:List Str} {vs:List af} {es:List DictEntry} {ws:List Value} {n:Nat}:iU es ns ws->ax vs ws->cM (.attrs ns vs) (dictOf es n)
end
end
section
variable{prog:Program}{w:World}{F g:bj}{ι f:aZ}
abbrev hU(ι f:aZ):Prop:=∀(n:Nat) (a:Addr),ι[n]?=some a->f[n]?=some a
@[elab_as_elim] def ax.zF{P:ah->aQ->Prop}{c d}(h:ax prog w F ι c d)(e:P [] [])(i:∀{x v c d},aG prog w F ι x v->ax prog w F ι c d->P c d->P (x::c) (v::d)):P c d:=
 ax.rec (motive_1:=λ_ _ _=>True) (motive_2:=λc d _=>P c d) (motive_3:=λ_ _ _=>True) trivial (λ_=>trivial) (λ_ _=>trivial) (λ_ _=>trivial) (λ_=>trivial) (λ_ _ _ _=>trivial) (λ_ _ _ _ _ _ _=>trivial)
  e (λa b _ j=>i a b j) (λ_ _=>trivial) (λ_ _ _ _=>trivial) trivial (λ_ _ _ _=>trivial) (λ_=>trivial) (λ_=>trivial) (λ_ _ _=>trivial) h
def aG.aT{x v}(h:aG prog w F ι x v)(j:Le F g)(k:hU ι f):aG prog w g f x v:=
 aG.rec (motive_1:=λx v _=>aG prog w g f x v) (motive_2:=λl m _=>ax prog w g f l m) (motive_3:=λc o _=>cM prog w g f c o)
  .none .bool .int .str (λh=>.cell (k _ _ h)) (λn h _ d=>.xC n (j _ _ h) d) (λe k1 k2 p i _ d=>.dJ (j _ _ e) k1 k2 p (j _ _ i) d)
  .nil (λ_ _ a b=>.cons a b) (λ_ d=>.list d) (λe i _ d=>.tuple e i d) .range (λe i _ d=>.dict e i d) .set (λh=>.ji (k _ _ h)) (λh _ d=>.attrs h d) h
def ax.aT{x v}(h:ax prog w F ι x v)(b:Le F g)(c:hU ι f):ax prog w g f x v:=h.zF .nil λa _ d=>.cons (a.aT b c) d
def cM.aT{x v}(h:cM prog w F ι x v)(c:Le F g)(b:hU ι f):cM prog w g f x v:=
 cM.casesOn (motive_3:=λx v _=>cM prog w g f x v) h (λa=>.list (a.aT c b)) (λp q a=>.tuple p q (a.aT c b)) .range (λp q a=>.dict p q (a.aT c b)) .set (λh=>.ji (b _ _ h)) λp a=>.attrs p (a.aT c b)
def hU.refl ι:hU ι ι:=λ_ _ e=>e
def hU.MO ι a:hU ι (ι++[a]):=λn b e=>by
 refine(aar (wP.mp e).1)▸?_;exact e
def ax.length{a:ah}{b:aQ}(h:ax prog w F ι a b):a.length=b.length:=h.zF rfl λ_ _ e=>v6 (·+1) e
def ax.get{b:ah}{c:aQ}(h:ax prog w F ι b c):∀(i:Nat) x,b[i]?=some x->∃v,c[i]?=some v/\aG prog w F ι x v:=
 h.zF (λ_ _ e=>nx e) λa _ d i x e=>match i with
  |0=>⟨_,rfl,BT e▸a⟩
  |i+1=>d i x e
def ax.append(h:ax prog w F ι xs b)(k:ax prog w F ι c ws):ax prog w F ι (xs++c) (b++ws):=h.zF k λa _ d=>.cons a d
def ax.set{c:ah}{d:aQ}{x v}(h:ax prog w F ι c d)(k:aG prog w F ι x v):∀i,ax prog w F ι (c.set i x) (d.set i v):=h.zF (λ_=>.nil) λa b e i=>i.casesOn (.cons k b) λi=>.cons a (e i)
def ax.take{b:ah}{c:aQ}(h:ax prog w F ι b c):∀n,ax prog w F ι (b.take n) (c.take n):=h.zF (λn=>n.casesOn .nil λ_=>.nil) λa _ d n=>n.casesOn .nil λn=>.cons a (d n)
def ax.drop{c:ah}{d:aQ}(h:ax prog w F ι c d):∀n,ax prog w F ι (c.drop n) (d.drop n):=h.zF (λn=>n.casesOn .nil λ_=>.nil) λa b e n=>n.casesOn (.cons a b) e
noncomputable def mS(c:af):Bool:=Nat.ble 6 c.ctorIdx&&Nat.ble c.ctorIdx 12
section
variable(prog w F ι)
def Yt(c:af)(o:Obj):Prop:=match c with
 | .list b=>∃a e,o=listOf (List.toArray a) e/\ax prog w F ι b a
 | .tuple b=>∃a e,o.cls=.type "tuple"/\o.data=.seq (List.toArray a) e/\ax prog w F ι b a
 | .dict j i=>∃a,o.IsDictOf (intKind prog w) (j.zip a)/\j.length=a.length/\ax prog w F ι i a
 | .set b=>∃h e t,o={cls:=.type "set",data:=.set h e t}/\eY w h t b
 | .ji C k=>∃d,o=instObj C d/\ι[k]?=some d
 | .attrs l i=>∃h a n,o=dictOf h n/\iU h l a/\ax prog w F ι i a
 |_=>True
def MP(c:af)(v:Value):Prop:=match c with
 | .none=>v=.none
 | .bool b=>v=.bool b
 | .int i=>∃t,v=.int i t
 | .str s=>∃t,v=.str s t
 | .cell n=>∃a,v=.ref a/\ι[n]?=some a
 | .dJ C j k=>∃a d e h,v=.ref a/\F a=some e/\e.cls=.ref C/\e.dict=some d/\notCls e/\F d=some h/\cM prog w F ι (.attrs j k) h
 |c=>∃a o,v=.ref a/\F a=some o/\cM prog w F ι c o/\Rg c a
end
def cM.AG{c o}(h:cM prog w F ι c o):mS c/\Yt prog w F ι c o:=
 cM.casesOn (motive_3:=λc o _=>mS c/\Yt prog w F ι c o) h (λq=>⟨rfl,_,_,rfl,q⟩) (λa b q=>⟨rfl,_,_,a,b,q⟩) ⟨rfl,trivial⟩ (λa b q=>⟨rfl,_,a,b,q⟩) (λq=>⟨rfl,_,_,_,rfl,q⟩) (λq=>⟨rfl,_,rfl,q⟩) λa b=>⟨rfl,_,_,_,rfl,a,b⟩
def cM.obj{c o}(h:cM prog w F ι c o):mS c:=h.AG.1
def cM.jk{xs o}(h:cM prog w F ι (.list xs) o):∃a b,o=listOf (List.toArray a) b/\ax prog w F ι xs a:=h.AG.2
def cM.ko{xs o}(h:cM prog w F ι (.tuple xs) o):∃a b,o.cls=.type "tuple"/\o.data=.seq (List.toArray a) b/\ax prog w F ι xs a:=h.AG.2
def cM.DZ{a c o}(h:cM prog w F ι (.dict a c) o):∃b,o.IsDictOf (intKind prog w) (a.zip b)/\a.length=b.length/\ax prog w F ι c b:=h.AG.2
def cM.Ro{xs o}(h:cM prog w F ι (.set xs) o):∃a b t,o={cls:=.type "set",data:=.set a b t}/\eY w a t xs:=h.AG.2
def cM.D0{C k o}(h:cM prog w F ι (.ji C k) o):∃d,o=instObj C d/\ι[k]?=some d:=h.AG.2
def cM.rl{ns a o}(h:cM prog w F ι (.attrs ns a) o):∃b c n,o=dictOf b n/\iU b ns c/\ax prog w F ι a c:=h.AG.2
def MP.obj(b:mS c)(h:∃a o,v=.ref a/\F a=some o/\cM prog w F ι c o/\Rg c a):MP prog w F ι c v:=by
 cases c<;>first|exact h|exact Bool.noConfusion b
def aG.AG{c v}(h:aG prog w F ι c v):MP prog w F ι c v:=
 aG.casesOn (motive_1:=λc v _=>MP prog w F ι c v) h rfl (λ_=>rfl) (λ_ t=>⟨t,rfl⟩) (λ_ t=>⟨t,rfl⟩) (λe=>⟨_,rfl,e⟩) (λd e q=>MP.obj q.obj ⟨_,_,rfl,e,q,d⟩) λa k1 k2 b i j=>⟨_,_,_,_,rfl,a,k1,k2,b,i,j⟩
def aG.D1{c v}(h:aG prog w F ι c v)(b:mS c):∃a o,v=.ref a/\F a=some o/\cM prog w F ι c o/\Rg c a:=
 aG.casesOn (motive_1:=λc v _=>mS c->∃a o,v=.ref a/\F a=some o/\cM prog w F ι c o/\Rg c a) h Bool.noConfusion (λ_=>Bool.noConfusion) (λ_ _=>Bool.noConfusion) (λ_ _=>Bool.noConfusion) (λ_=>Bool.noConfusion) (λd e q _=>⟨_,_,rfl,e,q,d⟩) (λ_ _ _ _ _ _=>Bool.noConfusion) b
def Yu(a:ah)(b:aQ):Prop:=match a with
 |[]=>b=[]
 |x::a=>∃v c,b=v::c/\aG prog w F ι x v/\ax prog w F ι a c
def ax.AG{xs us}(h:ax prog w F ι xs us):Yu (prog:=prog) (w:=w) (F:=F) (ι:=ι) xs us:=h.zF rfl λa b _=>⟨_,_,rfl,a,b⟩
def ax.qh{x xs us}(h:ax prog w F ι (x::xs) us):∃v a,us=v::a/\aG prog w F ι x v/\ax prog w F ι xs a:=h.AG
def ax.MQ{e u c}(h:ax prog w F ι e (u::c)):∃y d,e=y::d/\aG prog w F ι y u/\ax prog w F ι d c:=h.zF (P:=λe c=>match c with|[]=>True|u::c=>∃y d,e=y::d/\aG prog w F ι y u/\ax prog w F ι d c) trivial λa b _=>⟨_,_,rfl,a,b⟩
def ax.wV{us}(h:ax prog w F ι [] us):us=[]:=h.AG
end
end
structure Cx where
 prog:Program
 w:World
 K:Frag
 G:bj
 os:OsState
 mg:Str->Option Value
 mb:Str->Option Value
structure Yv(X:Cx):Prop where
 k:∀a o,X.K.lookup a=some o->X.G a=some o
 MR:∀h:Heap,On X.G h->h.Ns mainGlobals X.mg/\h.Ns builtinsNs X.mb/\h.NoLimit
 blt:∀x:Str,x≠ "__name__"->X.mb x=bootBuiltins x
structure St where
 aC:List af
 cells:List af
structure a0 where
 N:Nat
 names:List (Str×NameKind)
 a8:List (Str×Nat×Bool)
 wr:List (Str×Nat×Bool)
structure R0(X:Cx)(F H:bj)(ι:List Addr)(cells:List af)(σ:Shared):Prop where
 r6:Yv X
 de:Le X.G F
 fz:On F σ.heap
 lE:On H σ.heap
 gn:∀b o,F b=some o->H b=none
 xD:∀(n:Nat) c,cells[n]?=some c->c≠ .ae->∃a o,ι[n]?=some a/\σ.heap.get? a=some o/\cM X.prog X.w F ι c o/\F a=none
 cS:ι.length=cells.length
 fD:ι.Nodup
 nV:∀a∈ι,H a=none/\(∃o,σ.heap.get? a=some o)/\(a==sysModules)=false
 gens:σ.gens= #[]
 os:σ.os=X.os
def gv(X:Cx)(F:bj)(a:aZ)(aC:ah)(i:Nat)(u:Option Value):Prop:=∀v,aC[i]?=some v->v≠ .ae->∃w,u=some w/\aG X.prog X.w F a v w
structure MS(S:a0)(env:Env):Prop where
 kind:env.scope.kind=.function
 Rq:∀x,S.names.lookup x=some .globalImplicit->env.kindOf x=some .globalImplicit
 globals:env.globals=mainGlobals
 builtins:env.builtins=builtinsNs
 kl:∀x i,(x,i,false)∈S.a8->env.kindOf x=some .local
 kc:∀x i,(x,i,true)∈S.a8->(env.kindOf x=some .cell\/env.kindOf x=some .free)/\(x==("__classdict__":Str))=false/\∃c,env.cells.lookup x=some c/\c≠env.locals
 wA:∀x i b,(x,i,b)∈S.wr->(x,i,b)∈S.a8/\i<S.N/\(b->env.kindOf x=some .cell)
 inj:∀x y c,env.cells.lookup x=some c->env.cells.lookup y=some c->x=y
 slots:∀x y i b b',(x,i,b)∈S.a8->(y,i,b')∈S.a8->x=y
 VF:∀x i j b b',(x,i,b)∈S.a8->(x,j,b')∈S.a8->i=j/\b=b'
inductive AH(S:a0)(env:Env):Addr->Prop
 |aC:AH S env env.locals
 |cell {x:Str} {i:Nat} {c:Addr} (h:(x,i,true)∈S.a8) (e:env.cells.lookup x=some c):AH S env c
structure bR(X:Cx)(S:a0)(env:Env)(F H:bj)(ι:List Addr)(aC:List af)(h:Heap):Prop where
 es:MS S env
 cS:aC.length=S.N
 ns:∃m,h.Ns env.locals m/\∀x i,(x,i,false)∈S.a8->gv X F ι aC i (m x)
 cl:∀x i c,(x,i,true)∈S.a8->env.cells.lookup x=some c->∃u,h.IsCell c u/\gv X F ι aC i u
 free:∀a,AH S env a->F a=none/\a∉ι
 Yw:H env.locals=none
 noC:∀x i c,(x,i,true)∈S.wr->env.cells.lookup x=some c->H c=none
section
variable{X:Cx}{F t H C:bj}{f A:aZ}{d D:ah}{g B:Shared}{S:a0}{r:Env}{aC:ah}
def R0.k(R:R0 X F H f d g):X.K.In g.heap:=λa o e=>R.fz _ _ (R.de _ _ (R.r6.k a o e))
def R0.Yx(R:R0 X F H f d g):On X.G g.heap:=λa o e=>R.fz _ _ (R.de _ _ e)
def R0.hW(R:R0 X F H f d g)(h:g.heap.objs.size<=a):F a=none:=by
 exact nf λo e=>absurd (KM (R.fz _ _ e)) (aaG.mpr h)
def R0.mu(R:R0 X F H f d g)(h:g.heap.objs.size<=a):H a=none:=by
 exact nf λo e=>absurd (KM (R.lE _ _ e)) (aaG.mpr h)
def R0.su(R:R0 X F H f d g)(h:g.heap.objs.size<=a):a∉f:=λm=>ar ((R.nV a m).2.1) λ_ e=>absurd (KM e) (aaG.mpr h)
def R0.to(R:R0 X F H f d g)(h:∀b o,(F b≠none\/H b≠none\/b∈f)->g.heap.get? b=some o->B.heap.get? b=some o)(j:B.gens=g.gens)(l:B.os=g.os):R0 X F H f d B where
 r6:=R.r6
 de:=R.de
 fz:=λb o e=>h b o (.inl (by rw[e];exact ace o)) (R.fz b o e)
 lE:=λb o e=>h b o (.inr (.inl (by rw[e];exact ace o))) (R.lE b o e)
 gn:=R.gn
 xD:=λn c e p=>gm (R.xD n c e p) λa o i q s=>(uH a o i (h a o (.inr (.inr (wE i))) q) s)
 cS:=R.cS
 fD:=R.fD
 nV:=λa m=>(bH ((R.nV a m).1) (ar ((R.nV a m).2.1) λo e=>⟨o,h a o (.inr (.inr m)) e⟩) ((R.nV a m).2.2))
 gens:=j.trans R.gens
 os:=l.trans R.os
def R0.ext(R:R0 X F H f d g){a:Heap}(c:∀b o,g.heap.get? b=some o->a.get? b=some o):R0 X F H f d {g with heap:=a,toks:=tk}:=
 R.to (λb o _ e=>c b o e) rfl rfl
def R0.td(R:R0 X F H f d g) tk:R0 X F H f d {g with toks:=tk}:=R.to (λ_ _ _ e=>e) rfl rfl
def R0.push(R:R0 X F H f d g) o:R0 X F H f d {g with heap:=g.heap.push o}:=R.to (λ_ _ _ e=>wT o e) rfl rfl
noncomputable def fX(F:bj)(a:Addr)(o:Obj):bj:=λb=>if b=a then some o else F b
def ez(h:F a=none):Le F (fX F a o):=λb x e=>by
 rcases Classical.em (b=a)with q|q
 ·rw[q,h]at e;exact nx e
 ·exact((if_neg q)).trans e
def hX:fX F a o a=some o:=if_pos rfl
def fM(h:b≠a):fX F a o b=F b:=if_neg h
def R0.Gl(R:R0 X F H f d g)(j:g.heap.get? a=some o)(h:F a=none)(l:H a=none)(m:a∉f):R0 X (fX F a o) H f d g where
 r6:=R.r6
 de:=R.de.trans (ez h)
 fz:=λb x e=>by
  unfold fX at e;by_cases q:b=a
  ·rw[if_pos q]at e;obtain rfl:=BT e;refine q▸?_;exact j
  ·rw[if_neg q]at e;exact R.fz b x e
 lE:=R.lE
 gn:=λb x e=>by
  unfold fX at e;by_cases q:b=a
  ·refine q▸?_;exact l
  ·rw[if_neg q]at e;exact R.gn b x e
 xD:=λn c e p=>let⟨b,x,i,s,u,v⟩:=R.xD n c e p
  (lF b x i s (u.aT (ez h) (hU.refl _)) ((fM (λq=>m (by refine q▸?_;exact wE i))).trans v))
 cS:=R.cS
 fD:=R.fD
 nV:=R.nV
 gens:=R.gens
 os:=R.os
def R0.Gm(R:R0 X F H f d g)(i:g.heap.get? a=some o)(l:F a=none)(p:H a=none)(s:a∉f)(u:(a==sysModules)=false)(v:cM X.prog X.w F f c o):R0 X F H (f++[a]) (d++[c]) g where
 r6:=R.r6
 de:=R.de
 fz:=R.fz
 lE:=R.lE
 gn:=R.gn
 xD:=λn x e h=>by
  rcases P3 n d.length with q|q
  ·rw[aar q]at e
   refine gH (R.xD n x e h) λb y w z E G=>?_;exact(lF b y (hU.MO f a n b w) z (E.aT (Le.refl _) (hU.MO f a)) G)
  ·have:n=d.length:=by
    haveI:=(wP.mp e).1;rw[sK,H1]at this;lia
   subst this;rw[GE (v0 _),aaR]at e;obtain rfl:=BT e;exact⟨a,o,by rw[<-R.cS,GE (v0 _),aaR];rfl,i,v.aT (Le.refl _) (hU.MO f a),l⟩
 cS:=by simp[R.cS]
 fD:=by
  rw[acb];exact(bH R.fD (by simp) (λx h y j e=>s (by simp at j;refine j▸?_;refine e▸?_;exact h)))
 nV:=λb m=>by
  rcases AC.mp m with m|m
  ·exact R.nV b m
  ·obtain rfl:=u8.mp m;exact(bH p ⟨_,i⟩ u)
 gens:=R.gens
 os:=R.os
def AJ{b:Type}{l:List b}(h:l.Nodup){i j:Nat}{a:b}(c:l[i]?=some a)(e:l[j]?=some a):i=j:=by
 exact(List.getElem?_inj (wP.mp c).1 h).mp (c.trans e.symm)
def R0.sv(R:R0 X F H f d g){u:Heap}(j:f[n]?=some a)(h:d[n]?=some c)(I:c≠ .ae)(E:u.get? a=some G)(l:Heap.SameBut a g.heap u)
  (J:cM X.prog X.w F f L G):R0 X F H f (d.set n L) {g with heap:=u,toks:=tk}:=by
 have i:F a=none:=by
  refine gH (R.xD n c h I) λP o s _ _ v=>?_;obtain rfl:=se (j) s;exact v
 haveI w:H a=none:=(R.nV a (wE j)).1
 refine⟨R.r6,R.de,λb x e=>?_,λb x e=>?_,R.gn,λm x e M=>?_,by simp[R.cS],R.fD,λb m=>(bH ((R.nV b m).1) ((by
  refine wS (p:=b=a) (λq=>?_) (λq=>?_)
  ·exact⟨_,q▸E⟩
  ·refine ar ((R.nV b m).2.1) λo e=>?_;exact⟨o,(l.2 b q).trans e⟩)) ((R.nV b m).2.2)),R.gens,R.os⟩
 ·have:b≠a:=λq=>by rw[q,i]at e;exact nx e
  exact(l.2 b this).trans (R.fz b x e)
 ·have:b≠a:=λq=>by rw[q,w]at e;exact nx e
  exact(l.2 b this).trans (R.lE b x e)
 ·rw[List.getElem?_set]at e
  rcases Classical.em (n=m)with q|q
  ·subst q
   simp only[if_true]at e;split at e
   ·simp at e;subst e;exact(lF a G j E J i)
   ·exact nx e
  ·rw[if_neg q]at e
   refine gH (R.xD m x e M) λb y s N O v=>?_;have:b≠a:=λz=>q (AJ R.fD j (z▸s));exact(lF b y s ((l.2 b this).trans N) O v)
noncomputable def rest(F:bj)(f:aZ)(h:Heap):bj:=λb=>match F b with|some _=>none|none=>if b∈f then none else h.get? b
def bY{h:Heap}:rest F f h b=some o↔F b=none/\b∉f/\h.get? b=some o:=by
 unfold rest;cases e:F b with
 |some x=>simp
 |none=>by_cases q:b∈f<;>simp[q]
def R0.Yy(R:R0 X F H f d g)(e:H b=some o):F b=none:=by
 exact nf λx q=>sn e (R.gn b x q)
def R0.MT(R:R0 X F H f d g):Le H (rest F f g.heap):=λb o e=>bY.mpr (bH (R.Yy e) (λm=>(by rw[(R.nV b m).1]at e;exact nx e)) (R.lE b o e))
def qi(e:F b=some o):rest F f h b=none:=by unfold rest;rw[e]
def fY(m:b∈f):rest F f h b=none:=by
 exact nf λo q=>absurd m (bY.mp q).2.1
def R0.out(R:R0 X F H f d g):R0 X F (rest F f g.heap) f d g:=
 ⟨R.r6,R.de,R.fz,λb o e=>(bY.mp e).2.2,λb o e=>qi e,R.xD,R.cS,R.fD,λa m=>⟨fY m,(R.nV a m).2⟩,R.gens,R.os⟩
def R0.D2(R:R0 X F H f d g):R0 X F (rest F [] g.heap) [] [] g:=
 ⟨R.r6,R.de,R.fz,λb o e=>(bY.mp e).2.2,λb o e=>qi e,λn c e=>by exact nx e,rfl,.nil,λa m=>by exact nl m,R.gens,R.os⟩
def R0.zL(R:R0 X F H f d g)(c:R0 X t (rest F f g.heap) A D B):R0 X t H A D B:=
 have h:∀b,rest F f g.heap b=none->H b=none:=λb z=>by
  exact nf λx q=>sn (R.MT b x q) z
 ⟨c.r6,c.de,c.fz,λb o e=>c.lE b o (R.MT b o e),λb o e=>h b (c.gn b o e),c.xD,c.cS,c.fD,λa m=>⟨h a (c.nV a m).1,(c.nV a m).2⟩,c.gens,c.os⟩
def R0.MU(R:R0 X F H f d g)(j:Le F t)(h:R0 X t (rest F [] g.heap) A D B):R0 X t H f d B:=by
 have i:Le H (rest F [] g.heap):=λb o e=>bY.mpr (bH (R.Yy e) acS (R.lE b o e))
 refine⟨R.r6,h.de,h.fz,λb o e=>h.lE b o (i b o e),λb o e=>?_,λn c e p=>?_,R.cS,R.fD,λa m=>(bH ((R.nV a m).1) ((by
  refine ar ((R.nV a m).2.1) λo e=>?_;cases q:F a with
  |none=>exact⟨o,h.lE a o (bY.mpr (bH q (by simp) e))⟩
  |some x=>exact⟨x,h.fz a x (j a x q)⟩)) ((R.nV a m).2.2)),h.gens,h.os⟩
 ·cases q:H b with
  |none=>rfl
  |some x=>haveI:=h.gn b o e;exact sn (i b x q) this
 ·refine gH (R.xD n c e p) λa o s u v w=>?_
  have l:rest F [] g.heap a=some o:=bY.mpr (bH w (by simp) u);refine(lF a o s (h.lE a o l) (v.aT j (hU.refl _)) ?_);exact nf λx q=>sn l (h.gn a x q)
def gv.aT(h:gv X F f aC i u)(c:Le F t)(j:hU f A):gv X t A aC i u:=λv e n=>aj (h v e n) λw a b=>(ay w a (b.aT c j))
def bR.kind(V:bR X S r F H f aC h):r.scope.kind=.function:=V.es.kind
def bR.Rq(V:bR X S r F H f aC h):∀x,S.names.lookup x=some .globalImplicit->r.kindOf x=some .globalImplicit:=V.es.Rq
def bR.globals(V:bR X S r F H f aC h):r.globals=mainGlobals:=V.es.globals
def bR.builtins(V:bR X S r F H f aC h):r.builtins=builtinsNs:=V.es.builtins
def bR.xE(V:bR X S r F H f aC h):F r.locals=none/\H r.locals=none/\r.locals∉f:=(bH ((V.free _ .aC).1) V.Yw ((V.free _ .aC).2))
def bR.toS{h n:Heap}{k:ah}(V:bR X S r F H f aC h)(p:∀a o,AH S r a->h.get? a=some o->∃sl,n.get? a=some {o with slots:=sl})(w:k.length=aC.length)(q:∀i u,gv X F f aC i u->gv X t A k i u)
  (y:∀a,AH S r a->t a=none/\a∉A) (v:∀a,AH S r a->H a=none->C a=none):bR X S r t C A k n:=
 ⟨V.es,w.trans V.cS,aj V.ns λm z l=>⟨m,B0 z λoL s E G I=>ar (p _ _ .aC G) λsl e=>(Kj _ s E e I),λx i b=>q _ _ (l x i b)⟩,
  λx i c b j=>aj (V.cl x i c b j) λu J l=>(ay u (aj J λo L M=>ar (p _ _ (.cell b j) L) λsl e=>⟨_,e,M⟩) (q _ _ l)),y,v _ .aC V.Yw,λx i c b j=>v _ (.cell (V.es.wA _ _ _ b).1 j) (V.noC x i c b j)⟩
def bR.to{h c:Heap}{b:ah}(V:bR X S r F H f aC h)(j:∀a o,AH S r a->h.get? a=some o->c.get? a=some o)(k:b.length=aC.length)(l:∀i u,gv X F f aC i u->gv X t A b i u)
  (m:∀a,AH S r a->t a=none/\a∉A) (n:∀a,AH S r a->H a=none->C a=none):bR X S r t C A b c:=V.toS (λa o q e=>⟨o.slots,j a o q e⟩) k l m n
def bR.zL(V:bR X S r F H f aC g.heap)(k:On (rest F f g.heap) B.heap)(l:Le F t)(n:hU f A)(p:∀b o,t b=some o->rest F f g.heap b=none)(s:∀a∈A,rest F f g.heap a=none):
  bR X S r t H A aC B.heap:=
 have v:∀a,AH S r a->∃o,rest F f g.heap a=some o:=λa q=>
  have j:=V.free a q;haveI c:∀o,g.heap.get? a=some o->∃o,rest F f g.heap a=some o:=λo e=>⟨o,bY.mpr (bH j.1 j.2 e)⟩
  match q with
  | .aC=>ar V.ns λm h=>ar h.1 λoL h=>ar h λ_ h=>ar h λ_ h=>c _ h.1
  | .cell w y=>ar (V.cl _ _ _ w y) λu h=>ar h.1 λo h=>c o h.1
 V.to (λa o q e=>k a o (bY.mpr (bH ((V.free a q).1) ((V.free a q).2) e))) rfl (λi u h=>h.aT l n) (λa q=>ar (v a q) λo e=>⟨nf λx h=>sn e (p a x h),λm=>sn e (s a m)⟩) λ_ _ e=>e
end
inductive D3 where
 |dA (i:Nat)
 |dU (is:List Nat)
 deriving DecidableEq
inductive aR where
 |next|brk|cont|ret (v:af)
noncomputable def MC{a:Type}(n:Nat)(v:af)(f:v.ctorIdx=n->Option a):Option a:=if h:v.ctorIdx=n then f h else none
def qk{b:Type}{n:Nat}{v:af}{f:v.ctorIdx=n->Option b}{a:b}(h:MC n v f=some a):∃q,f q=some a:=
 wS (λq=>⟨q,(dif_pos q).symm.trans h⟩) λq=>nx ((dif_neg q).symm.trans h)
def oP{b:Type}{o:Option b}{Q:b->Prop}(h:o.elim False Q):∃a,o=some a/\Q a:=by
 cases o with
 |none=>exact h.elim
 |some a=>exact⟨a,rfl,h⟩
def gw{b:Type}{o:Option b}{p:Prop}{q:b->Prop}{G:Prop}(h:o.elim p q)(k:p->G)(l:∀a,o=some a->q a->G):G:=by
 cases o with
 |none=>exact k h
 |some a=>exact l a rfl h
def ID{b:Type}{o:Option b}{p:Prop}{q:b->Prop}{a:b}(e:o=some a)(h:o.elim p q):q a:=by subst e;exact h
def IE{a:Type}{o:Option a}{p:Prop}{q:a->Prop}(e:o=none)(h:o.elim p q):p:=by subst e;exact h
noncomputable def IF(v:af):Option Bool:=MC 2 v λh=>af.bool.elim (motive_1:=λ_=>Option Bool) v h some
def B1{v i}(h:IF v=some i):v=.bool i:=ar (qk h) λq h=>af.bool.elim (motive_1:=λv=>∀q,af.bool.elim (motive_1:=λ_=>Option Bool) v q some=some i->v=.bool i) v q (λ_ _ h=>v6 _ (BT h)) q h
noncomputable def xF(v:af):Option Int:=MC 3 v λh=>af.int.elim (motive_1:=λ_=>Option Int) v h some
def sy{v i}(h:xF v=some i):v=.int i:=ar (qk h) λq h=>af.int.elim (motive_1:=λv=>∀q,af.int.elim (motive_1:=λ_=>Option Int) v q some=some i->v=.int i) v q (λ_ _ h=>v6 _ (BT h)) q h
noncomputable def Gn(v:af):Option Str:=MC 4 v λh=>af.str.elim (motive_1:=λ_=>Option Str) v h some
def uK{v i}(h:Gn v=some i):v=.str i:=ar (qk h) λq h=>af.str.elim (motive_1:=λv=>∀q,af.str.elim (motive_1:=λ_=>Option Str) v q some=some i->v=.str i) v q (λ_ _ h=>v6 _ (BT h)) q h
noncomputable def xG(v:af):Option Nat:=MC 5 v λh=>af.cell.elim (motive_1:=λ_=>Option Nat) v h some
def wW{v i}(h:xG v=some i):v=.cell i:=ar (qk h) λq h=>af.cell.elim (motive_1:=λv=>∀q,af.cell.elim (motive_1:=λ_=>Option Nat) v q some=some i->v=.cell i) v q (λ_ _ h=>v6 _ (BT h)) q h
noncomputable def ql(v:af):Option ah:=MC 6 v λh=>af.list.elim (motive_1:=λ_=>Option ah) v h some
def hZ{v i}(h:ql v=some i):v=.list i:=ar (qk h) λq h=>af.list.elim (motive_1:=λv=>∀q,af.list.elim (motive_1:=λ_=>Option ah) v q some=some i->v=.list i) v q (λ_ _ h=>v6 _ (BT h)) q h
noncomputable def D4(v:af):Option ah:=MC 7 v λh=>af.tuple.elim (motive_1:=λ_=>Option ah) v h some
def sA{v i}(h:D4 v=some i):v=.tuple i:=ar (qk h) λq h=>af.tuple.elim (motive_1:=λv=>∀q,af.tuple.elim (motive_1:=λ_=>Option ah) v q some=some i->v=.tuple i) v q (λ_ _ h=>v6 _ (BT h)) q h
noncomputable def vM(v:af):Option (aS×ah):=MC 9 v λh=>af.dict.elim (motive_1:=λ_=>Option (aS×ah)) v h λa b=>some (a,b)
def te{v p}(h:vM v=some p):v=.dict p.1 p.2:=ar (qk h) λq h=>af.dict.elim (motive_1:=λv=>∀q,af.dict.elim (motive_1:=λ_=>Option (aS×ah)) v q (λa b=>some (a,b))=some p->v=.dict p.1 p.2) v q (λ_ _ _ h=>BT h▸rfl) q h
noncomputable def stO(v:af):Option aS:=MC 10 v λh=>af.set.elim (motive_1:=λ_=>Option aS) v h some
def MV{v i}(h:stO v=some i):v=.set i:=ar (qk h) λq h=>af.set.elim (motive_1:=λv=>∀q,af.set.elim (motive_1:=λ_=>Option aS) v q some=some i->v=.set i) v q (λ_ _ h=>v6 _ (BT h)) q h
noncomputable def MW(v:af):Option (Addr×Nat):=MC 11 v λh=>af.ji.elim (motive_1:=λ_=>Option (Addr×Nat)) v h λa b=>some (a,b)
def IG{v p}(h:MW v=some p):v=.ji p.1 p.2:=ar (qk h) λq h=>af.ji.elim (motive_1:=λv=>∀q,af.ji.elim (motive_1:=λ_=>Option (Addr×Nat)) v q (λa b=>some (a,b))=some p->v=.ji p.1 p.2) v q (λ_ _ _ h=>BT h▸rfl) q h
noncomputable def Gp(v:af):Option (dT×ah):=MC 12 v λh=>af.attrs.elim (motive_1:=λ_=>Option (dT×ah)) v h λa b=>some (a,b)
def D5{v p}(h:Gp v=some p):v=.attrs p.1 p.2:=ar (qk h) λq h=>af.attrs.elim (motive_1:=λv=>∀q,af.attrs.elim (motive_1:=λ_=>Option (dT×ah)) v q (λa b=>some (a,b))=some p->v=.attrs p.1 p.2) v q (λ_ _ _ h=>BT h▸rfl) q h
noncomputable def VG(v:af):Option (Addr×dT×ah):=MC 13 v λh=>af.dJ.elim (motive_1:=λ_=>Option (Addr×dT×ah)) v h λa b c=>some (a,b,c)
def MX{v p}(h:VG v=some p):v=.dJ p.1 p.2.1 p.2.2:=ar (qk h) λq h=>af.dJ.elim (motive_1:=λv=>∀q,af.dJ.elim (motive_1:=λ_=>Option (Addr×dT×ah)) v q (λa b c=>some (a,b,c))=some p->v=.dJ p.1 p.2.1 p.2.2) v q (λ_ _ _ _ h=>BT h▸rfl) q h
noncomputable def Gq(n:Nat)(v:af):Bool:=Nat.beq v.ctorIdx n
def MY(h:Gq 1 v):v=.none:=af.none.elim (motive_1:=λv=>v=.none) v (aal h) rfl
def dP(b:Bool)(p q:Prop):Prop:=match b with
 |true=>p
 |false=>q
def dF{b:Bool}{p q G:Prop}(h:dP b p q)(k:b->p->G)(l:b=false->q->G):G:=by
 cases b with
 |true=>exact k rfl h
 |false=>exact l rfl h
noncomputable def aB(l:ah)(i:Nat):af:=(l[i]?).getD .ae
noncomputable def aO(a:ah):af->af
 | .cell n=>aB a n
 |v=>v
noncomputable def Gr:Const->Option af
 | .none=>some .none
 | .bool b=>some (.bool b)
 | .int i=>some (.int i)
 | .str s=>some (.str s)
 |_=>none
noncomputable def ic(l:ah)(sl:Nat):Nat->ah
 |0=>l
 |k+1=>(ic l sl k).set (sl+k) .ae
noncomputable def fN(l:ah):aH->ah->ah
 |i::a,v::b=>fN (l.set i v) a b
 |_,_=>l
def gy(t:D3)(x:af)(a:St)(P:St->Prop):Prop:=match t with
 | .dA i=>P ⟨a.aC.set i x,a.cells⟩
 | .dU b=>match x with
  | .tuple c=>c.length=b.length/\P ⟨fN a.aC b c,a.cells⟩
  |_=>False
def wB(t:D3)(a:St):Prop:=match t with
 | .dA i=>aB a.aC i=.ae
 | .dU b=>∀i∈b,aB a.aC i=.ae
noncomputable def aL:Nat:=100000
def Gs(h:k<=aL):(k:Int)<2^63:=Int.lt_of_le_of_lt (acd.mpr h) (by decide:((aL:Nat):Int)<2^63)
noncomputable def dg(c:aS):aS:=c.mergeSort (λa b=>decide (a<=b))
noncomputable def AK(a:ah)(v:af):Option (Addr×dT×ah):=(VG v).elim ((xG v).elim none λn=>(MW (aB a n)).elim none λp=>(Gp (aB a p.2)).elim none λq=>some (p.1,q)) some
noncomputable def mT(x:Str):dT->ah->Option af
 |n::a,v::b=>if n=x then some v else mT x a b
 |_,_=>none
noncomputable def xH(x:Str)(v:af):dT->ah->dT×ah
 |n::a,u::b=>if n=x then(n::a,v::b)else let r:=xH x v a b;(n::r.1,u::r.2)
 |_,_=>([x],[v])
noncomputable def dQ(k:Int):aS->ah->Option af
 |n::a,v::b=>if n=k then some v else dQ k a b
 |_,_=>none
noncomputable def gI(k:Int)(v:af):aS->ah->aS×ah
 |n::a,u::b=>if n=k then(n::a,v::b)else let r:=gI k v a b;(n::r.1,u::r.2)
 |_,_=>([k],[v])
def small(a:Int):Prop:= -(2^63)<=a/\a<=2^63
def VH(op:Operator)(a b:Int)(Q:Int->Prop):Prop:=match op with
 | .Add=>Q (a+b)
 | .Sub=>Q (a-b)
 | .Mult=>(small a\/small b)/\Q (a*b)
 | .FloorDiv=>0<b/\b<=2^63/\Q (a/b)
 | .Mod=>0<b/\Q (a %b)
 | .Pow=>0<=b/\b<=20/\a.natAbs<2^400/\Q (a^b.toNat)
 | .LShift=>0<=b/\b<=64/\a.natAbs<2^400/\Q (a*2^b.toNat)
 | .RShift=>0<=b/\b<=64/\Q (a/2^b.toNat)
 | .BitAnd=>0<=a/\0<=b/\Q ((a.toNat&&&b.toNat:Nat):Int)
 |_=>False
mutual
noncomputable def gp:af->PyData
 | .none=>.none
 | .bool b=>.bool b
 | .int i=>.int i
 | .str s=>.str s
 | .list a=>.list (jl a)
 | .tuple a=>.tuple (jl a)
 |_=>.none
noncomputable def jl:ah->List PyData
 |[]=>[]
 |x::a=>gp x::jl a
end
noncomputable def xI(v:af):Bool:=(Gn v).elim ((xF v).elim ((IF v).elim (Gq 1 v) λ_=>true) λ_=>true) PyData.strOk
noncomputable def bC:Nat->af->Bool
 |0,v=>xI v
 |n+1,v=>(ql v).elim ((D4 v).elim (xI v) λa=>a.all (bC n)) λa=>a.all (bC n)
noncomputable def zG(a b:af):Bool:=PyData.eqv (gp a) (gp b)
noncomputable def D6:ah->ah
 |[a]=>[a,.none]
 |l=>l
def eZ(v:af)(Q:ah->Prop):Prop:=(ql v).elim False Q
def c7(v:af)(Q:Int->Prop):Prop:=(xF v).elim False Q
def vN(v:af)(Q:Bool->Prop):Prop:=(IF v).elim False Q
def Rr(v:af)(Q:Int->Prop):Prop:=(xF v).elim (vN v λb=>Q (bif b then 1 else 0)) Q
def D7(a:af)(Q:Bool->Prop):Prop:=dP (Gq 1 a) (Q true) (dP (Gq 3 a||Gq 7 a) (Q false) False)
def Yz(b:af)(Q:Prop):Prop:=dP (Gq 1 b) Q False
def YA(a b:af)(Q:Bool->Prop):Prop:=(stO b).elim ((vM b).elim (bC 8 a/\bC 8 b/\((ql b).elim ((D4 b).elim False λc=>Q (c.any λy=>zG y a)) λc=>Q (c.any λy=>zG y a)))
 λp=>c7 a λx=>Q (decide (x∈p.1))) λd=>c7 a λx=>Q (decide (x∈d))
def xJ(op:CmpOp)(a b:af)(Q:Bool->Prop):Prop:=match op with
 | .Lt=>c7 a λx=>c7 b λy=>Q (decide (x<y))
 | .LtE=>c7 a λx=>c7 b λy=>Q (decide (x<=y))
 | .Gt=>c7 a λx=>c7 b λy=>Q (decide (y<x))
 | .GtE=>c7 a λx=>c7 b λy=>Q (decide (y<=x))
 | .Eq=>bC 8 a/\bC 8 b/\Q (zG a b)
 | .NotEq=>bC 8 a/\bC 8 b/\Q (!zG a b)
 | .Is=>Yz b (D7 a Q)
 | .IsNot=>Yz b (D7 a λr=>Q (!r))
 | .In=>YA a b Q
 | .NotIn=>YA a b λr=>Q (!r)
def uL(v:af)(Q:Bool->Prop):Prop:=(IF v).elim ((xF v).elim ((ql v).elim (dP (Gq 1 v) (Q false) False) λa=>a.length<=aL/\Q (!a.isEmpty)) λi=>Q (decide (i≠0))) Q
def Lv(A:Around)(n:Nat):Prop:=A.handled=none/\A.depth+2*n<=900/\A.units+10*n<=9000
def mz(X:Cx)(n:Nat)(f:Value)(c:ah)(b:ah)(Q:af->ah->Prop):Prop:=
 ∀(A:Around) (F H:bj) (d:aZ) (i:Shared) (j:aQ) (E:dy),Lv A n->R0 X F H d b i->ax X.prog X.w F d c j->
  codeAny (model X.prog X.w) A (.call f ⟨j,[]⟩) (λr k=>match r with
   | .ok (.ret v)=>∃g h l a,Le F g/\hU d h/\R0 X g H h l k/\aG X.prog X.w g h a v/\Q a l
   | .ok _=>False
   | .error e=>E e k) i
def nW(X:Cx)(n:Nat)(f:Value)(b:ah)(Q:af->Prop):Prop:=
 ∀(A:Around) (F H:bj) (d:Shared) (g:aQ) (E:dy),Lv A n->R0 X F H [] [] d->ax X.prog X.w F [] b g->
  codeAny (model X.prog X.w) A (.call f ⟨g,[]⟩) (λr h=>match r with
   | .ok (.ret v)=>∃c a,Le F c/\R0 X c H [] [] h/\aG X.prog X.w c [] a v/\Q a
   | .ok _=>False
   | .error e=>E e h) d
noncomputable def MZ(v:Value):Option Addr:=if h:v.ctorIdx=10 then Value.ref.elim (motive:=λ_=>Option Addr) v h some else none
noncomputable def B2(o:Option (Option Value)):Option Addr:=(o.bind id).bind MZ
noncomputable def uM(K:Frag)(x:Str):Option Addr:=B2 (nsIn K mainGlobals x)
noncomputable def Gf(X:Cx)(x:Str):Option Addr:=uM X.K x
def M0(h:MZ v=some a):v=.ref a:=wS (λq:v.ctorIdx=10=>Value.ref.elim (motive:=λv=>∀q:v.ctorIdx=10,Value.ref.elim (motive:=λ_=>Option Addr) v q some=some a->v=.ref a) v q (λ_ _ h=>v6 _ (BT h)) q ((dif_pos q).symm.trans h)) λq=>nx ((dif_neg q).symm.trans h)
def Uq{b:Type}{o:Option (Option b)}{a:b}(h:o.bind id=some a):o=some (some a):=aj (TD.mp h) λ_ c d=>c.trans (v6 some d)
def B3(h:B2 o=some f):o=some (some (.ref f)):=aj (TD.mp h) λ_ a b=>M0 b▸Uq a
def XS(L:bj)(h:Heap):Prop:=∀b o,L b=some o->∃sl,h.get? b=some {o with slots:=sl}
noncomputable def fe(H L:bj):bj:=λb=>(H b).elim (L b) some
def FrL(A:Around)(L:bj):Prop:=∃l,A.frames=some l/\∀b∈l,b.scope.kind≠ .module/\∃a o,b.frame=some a/\L a=some o/\∀c,o.data≠ .fields c
structure D8(h:Heap)(G:Addr->Prop)(e C d:Addr):Prop where
 obj:∃ox fv,h.get? e=some ox/\ox.cls=.ref C/\ox.dict=some d/\ox.data=.fields fv/\G e/\
  (fv[1]?=some .none\/∃T oT ts,fv[1]?=some (.ref T)/\G T/\T≠e/\h.get? T=some oT/\oT.data=.fields ts/\ts[3]?=some .none)
def YB(X:Cx)(F:bj)(G:Addr->Prop)(h:Heap)(e:Value)(x:Str)(c:ah):Prop:=
 ∃a C d b,e=.ref a/\Gf X x=some C/\D8 h G a C d/\F d=some b/\cM X.prog X.w F [] (.attrs ["what","at"] c) b
def M3(F H L:bj)(a:Addr):Prop:=F a=none/\H a=none/\L a=none
structure MD(X:Cx)(F H L:bj)(σ:Shared)(e:Value)(x:Str)(vs:List af):Prop where
 r0:R0 X F H [] [] σ
 D9:XS L σ.heap
 wC:∀b o,F b=some o->L b=none
 YC:YB X F (M3 F H L) σ.heap e x vs
def M4(X:Cx)(n:Nat)(f:Value)(d:ah)(Q:af->Prop)(R:Str->ah->Prop):Prop:=
 ∀(A:Around) (F H L:bj) (h:Shared) (g:aQ),Lv A n->A.handled=none->FrL A L->(∀b o,L b=some o->H b=none)->R0 X F (fe H L) [] [] h->ax X.prog X.w F [] d g->
  codeAny (model X.prog X.w) A (.call f ⟨g,[]⟩) (λr i=>match r with
   | .ok (.ret v)=>∃c a,Le F c/\R0 X c (fe H L) [] [] i/\aG X.prog X.w c [] a v/\Q a
   | .ok _=>False
   | .error e=>∃c x g,Le F c/\MD X c H L i e x g/\R x g) h
def Ea(X:Cx)(n:Nat)(f:Value)(c:ah)(Q:af->Prop):Prop:=
 ∀(A:Around) (F H L:bj) (h:Shared) (i:aQ) (E:dy),Lv A n->A.handled=none->FrL A L->(∀b o,L b=some o->H b=none)->R0 X F (fe H L) [] [] h->ax X.prog X.w F [] c i->
  codeAny (model X.prog X.w) A (.call f ⟨i,[]⟩) (λr g=>match r with
   | .ok (.ret v)=>∃d a,Le F d/\R0 X d H [] [] g/\XS L g.heap/\(∀b o,d b=some o->L b=none)/\aG X.prog X.w d [] a v/\Q a
   | .ok _=>False
   | .error e=>E e g) h
noncomputable def M5(X:Cx)(C:Addr)(m:Str):Option Addr:=B2 (findIn X.K (.ref C) m)
noncomputable def ff(K:Frag):aZ:=(["Order","Program","Walk"]:dT).filterMap (uM K)
mutual
noncomputable def af.nc:af->Bool
 | .cell _=>false
 | .ji _ _=>false
 | .ae=>false
 | .list b=>eJ b
 | .tuple b=>eJ b
 | .dict _ a=>eJ a
 | .attrs _ a=>eJ a
 | .dJ _ _ a=>eJ a
 |_=>true
noncomputable def eJ:ah->Bool
 |[]=>true
 |x::a=>x.nc&&eJ a
end
def ba(X:Cx)(n:Nat)(x:Str)(a:ah)(Q:af->Prop):Prop:=∃f,Gf X x=some f/\eJ a/\nW X n (.ref f) a Q
def gq(X:Cx)(n:Nat)(x:Str)(a:ah)(Q:af->Prop)(R:Str->ah->Prop):Prop:=∃f,Gf X x=some f/\eJ a/\M4 X n (.ref f) a Q R
def Rp(R:Str->ah->Prop):Str->ah->Prop:=λx a=>x≠ ""/\R x a
def qm(X:Cx)(n:Nat)(x:Str)(a:ah)(Q:af->Prop):Prop:=∃f,Gf X x=some f/\eJ a/\Ea X n (.ref f) a Q
def ie(X:Cx)(n:Nat)(x:Str)(b:ah)(a:ah)(Q:af->ah->Prop):Prop:=∃f,Gf X x=some f/\mz X n (.ref f) b a Q
def mU(X:Cx)(n:Nat)(C:Addr)(m:Str)(a:ah)(Q:af->Prop):Prop:=∃f,M5 X C m=some f/\eJ a/\nW X n (.ref f) a Q
def qn(X:Cx)(n:Nat)(C:Addr)(m:Str)(b:ah)(a:ah)(Q:af->ah->Prop):Prop:=∃f,M5 X C m=some f/\mz X n (.ref f) b a Q
noncomputable def Ur(a:ah)(g:af->af)(v:af):af:=bif mS v then(match v with
 | .ji C k=>(match aB a k with| .attrs d c=>.dJ C d (c.map g)|_=>.ae)
 | .list b=>.list (b.map g)
 | .tuple b=>.tuple (b.map g)
 | .dict e c=>.dict e (c.map g)
 | .set b=>.set b
 |_=>.ae)else .ae
noncomputable def rm(a:ah):Nat->af->af
 |0,v=>if v.nc then v else .ae
 |f+1,v=>if v.nc then v else Ur a (rm a f) (aO a v)
noncomputable def dz(a:ah)(v:af):af:=rm a 6 v
noncomputable def iI(a:ah)(v:af):af:=if(dz a v).nc then dz a v else .ae
noncomputable def fg(b:aH)(a:St):St:=⟨b.foldl (λl i=>l.set i .ae) a.aC,a.cells⟩
def eF(v:af)(a:ah)(b:St):Prop:=(xG v).elim True λn=>aB b.cells n=.list a
noncomputable def cB(a b:Int):ah:=(List.range (b-a).toNat).map λ(i:Nat)=>af.int (a+i)
noncomputable def qo(a:ah):ah:=a.mapIdx λi x=>af.tuple [.int i,x]
noncomputable def xK(a b:ah):ah:=List.zipWith (λx y=>af.tuple [x,y]) a b
noncomputable def fZ(v:af):Bool:=Gq 6 v
noncomputable def tf(v:af):Bool:=Gq 9 v
noncomputable def xM(v:af):Bool:=Gq 10 v
def fk(h:c7 v Q):∃i,v=.int i/\Q i:=aj (oP h) λi e q=>ay i (sy e) q
def kq(h:vN v Q):∃i,v=.bool i/\Q i:=aj (oP h) λi e q=>ay i (B1 e) q
def cD(h:eZ v Q):∃i,v=.list i/\Q i:=aj (oP h) λi e q=>ay i (hZ e) q
def Eb(h:fZ v):∃a,v=.list a:=af.list.elim (motive_1:=λv=>∃a,v=.list a) v (aal h) λa=>⟨a,rfl⟩
def Ed(h:tf v):∃a b,v=.dict a b:=af.dict.elim (motive_1:=λv=>∃a b,v=.dict a b) v (aal h) λa b=>⟨a,b,rfl⟩
def Gu(h:xM v):∃a,v=.set a:=af.set.elim (motive_1:=λv=>∃a,v=.set a) v (aal h) λa=>⟨a,rfl⟩
def Gv(h:Gq 7 v):∃a,v=.tuple a:=af.tuple.elim (motive_1:=λv=>∃a,v=.tuple a) v (aal h) λa=>⟨a,rfl⟩
def Gw(h:Gq 3 v):∃a,v=.int a:=af.int.elim (motive_1:=λv=>∃a,v=.int a) v (aal h) λa=>⟨a,rfl⟩
def IH(c k:af)(Q:af->Prop):Prop:=c7 k λi=>(ql c).elim ((D4 c).elim ((vM c).elim False λp=>∃u,dQ i p.1 p.2=some u/\Q u) λa=>0<=i/\i<a.length/\a.length<=aL/\Q (aB a i.toNat))
 λa=>(0<=i/\i<a.length/\a.length<=aL/\Q (aB a i.toNat))\/(i= -1/\0<a.length/\Q (aB a (a.length-1)))
def VI(X:Cx)(C:Addr)(m:Str):Prop:=∃f,M5 X C m=some f
def a2(h:(a&&b)):a/\b:=PP.mp h
def nt(h:(!a)):a=false:=by cases a<;>first|rfl|exact Bool.noConfusion h
def YD{c:Type}[BEq c][LawfulBEq c]{a b:c}(h:(a==b)):a=b:=aae.mp h
noncomputable def YE(n:Nat)(e:aD)(f:e.ctorIdx=n->Bool):Bool:=if h:e.ctorIdx=n then f h else false
def B4{n:Nat}{e:aD}{f:e.ctorIdx=n->Bool}(h:YE n e f):∃q,f q:=by
 unfold YE at h;by_cases q:e.ctorIdx=n
 ·rw[dif_pos q]at h;exact⟨q,h⟩
 ·rw[dif_neg q]at h;cases h
section
variable{e:aD}
noncomputable def Gx(e:aD)(f:Str->Bool):Bool:=YE 23 e λh=>Expr.Name.elim (motive_1:=λ_=>Bool) e h λx _=>f x
@[elab_as_elim] def xN{f:Str->Bool}{P:aD->Prop}(h:Gx e f)(K:∀x p,f x->P (.Name x p)):P e:=ar (B4 h) λq h=>
 Expr.Name.elim (motive_1:=λe=>∀q,Expr.Name.elim (motive_1:=λ_=>Bool) e q (λx _=>f x)->P e) e q (λx p _ h=>K x p h) q h
noncomputable def B5(e:aD)(f:List aD->Bool):Bool:=YE 25 e λh=>Expr.Tuple.elim (motive_1:=λ_=>Bool) e h λa _ _=>f a
@[elab_as_elim] def AL{f:List aD->Bool}{P:aD->Prop}(h:B5 e f)(K:∀a k p,f a->P (.Tuple a k p)):P e:=ar (B4 h) λq h=>
 Expr.Tuple.elim (motive_1:=λe=>∀q,Expr.Tuple.elim (motive_1:=λ_=>Bool) e q (λa _ _=>f a)->P e) e q (λa k p _ h=>K a k p h) q h
end
section
variable{b:Type}
noncomputable def Gy(l:List b)(f:b->List b->Bool):Bool:=match l with
 |a::r=>f a r
 |[]=>false
@[elab_as_elim] def Ee{l:List b}{f:b->List b->Bool}{P:List b->Prop}(h:Gy l f)(K:∀a r,f a r->P (a::r)):P l:=by
 cases l with
 |nil=>exact Bool.noConfusion h
 |cons a r=>exact K a r h
noncomputable def Ef(l:List b):Bool:=match l with
 |_::_=>false
 |[]=>true
@[elab_as_elim] def YF{l:List b}{P:List b->Prop}(h:Ef l)(k:P []):P l:=by
 cases l with
 |nil=>exact k
 |cons a r=>exact Bool.noConfusion h
end
noncomputable def M6(e:aD)(f:aD->List aD->Bool):Bool:=YE 16 e λh=>Expr.Call.elim (motive_1:=λ_=>Bool) e h λg as _ _=>f g as
@[elab_as_elim] def M7{f:aD->List aD->Bool}{P:aD->Prop}(h:M6 e f)(K:∀g as k p,f g as->P (.Call g as k p)):P e:=ar (B4 h) λq h=>
 Expr.Call.elim (motive_1:=λe=>∀q,Expr.Call.elim (motive_1:=λ_=>Bool) e q (λg as _ _=>f g as)->P e) e q (λg as k p _ h=>K g as k p h) q h
noncomputable def eK(o:aD):Bool:=Nat.beq o.ctorIdx 23||(Nat.beq o.ctorIdx 20||(Nat.beq o.ctorIdx 21||M6 o λg as=>Gx g λ_=>Gy as λ_ _=>true))
def II(h:eK o):attributeBase o x env t=t:=
 (aaV.mp h).elim (λh=>Expr.Name.elim (motive_1:=λo=>attributeBase o x env t=t) o (aal h) λ_ _=>rfl) λh=>(aaV.mp h).elim
  (λh=>Expr.Attribute.elim (motive_1:=λo=>attributeBase o x env t=t) o (aal h) λ_ _ _=>rfl) λh=>(aaV.mp h).elim
  (λh=>Expr.Subscript.elim (motive_1:=λo=>attributeBase o x env t=t) o (aal h) λ_ _ _=>rfl)
  λh=>M7 (P:=λo=>attributeBase o x env t=t) h λg as k p h=>xN (P:=λg=>attributeBase (.Call g as k p) x env t=t) h λy q h=>Ee (P:=λas=>attributeBase (.Call (.Name y q) as k p) x env t=t) h λ_ _ _=>rfl
noncomputable def ig(p q:Pos):Bool:=p.endLine==q.line
noncomputable def cZ:List (Str×NameKind)->Nat->List (Str×Nat×Bool)
 |[],_=>[]
 |(x,k)::r,i=>match k with
  | .local=>(x,i,false)::cZ r (i+1)
  | .cell=>(x,i,true)::cZ r (i+1)
  |_=>cZ r i
noncomputable def eL(N:Nat)(a:List (Str×NameKind)):a0:=⟨N,a,cZ a 0,cZ a 0⟩
noncomputable def dq(S:a0)(a:List (Str×NameKind))(sl:Nat):a0:=
 ⟨S.N,a,cZ a sl++S.a8.filter λy=>y.2.2&&a.lookup y.1==some .free,cZ a sl⟩
noncomputable def jN{a:Type}[BEq a]:List a->Bool
 |[]=>true
 |x::r=> !r.contains x&&jN r
noncomputable def fi(S:a0):Bool:=jN (S.a8.map (·.1))&&jN (S.a8.map (·.2.1))&&S.a8.all (λy=> !(y.1==("__debug__":Str))&& !(y.1==("__classdict__":Str)))&&S.wr.all (λy=>S.a8.contains y&&decide (y.2.1<S.N))
noncomputable def M8(S:a0)(x:Str):Bool:=S.names.lookup x==some .globalImplicit&& !(x==("__debug__":Str))
noncomputable def mV(K:Frag)(S:a0)(x:Str):Option Value:=bif M8 S x then(nsIn K mainGlobals x).bind id else none
def Us{c:Type}{b:Bool}{o:Option c}{a:c}(h:(bif b then o else none)=some a):b/\o=some a:=by
 cases b with
 |true=>exact⟨rfl,h⟩
 |false=>exact nx h
def M9{K:Frag}(h:mV K S x=some u):M8 S x/\nsIn K mainGlobals x=some (some u):=⟨(Us h).1,Uq (Us h).2⟩
def AM{b:Type}{o:Option b}{p:b->Bool}(h:o.any p):∃a,o=some a/\p a:=by
 cases o with
 |some a=>exact⟨a,rfl,h⟩
 |none=>exact Bool.noConfusion h
noncomputable def gZ(K:Frag)(S:a0)(x:Str)(v:Value):Bool:=M8 S x&&(nsIn K mainGlobals x==some none&&(bootBuiltins x==some v&& !(x==("__name__":Str))))
noncomputable def Rh(K:Frag)(S:a0)(x:Str):Bool:=((mV K S x).bind MZ).any λf=>keepIn K (.ref f)&&isFn K (.ref f)
noncomputable def Eg(K:Frag)(S:a0)(x:Str):Bool:=((mV K S x).bind MZ).any λf=>keepIn K (.ref f)&&isClsIn K f
def tn{a:Bool}(h:¬a):(!a):=by cases a<;>first|rfl|exact absurd rfl h
def YG{b:Type}{o:Option b}{p:b->Bool}{a:b}(e:o=some a)(h:o.all p):p a:=by subst e;exact h
def B6{b:Type}{o:Option b}{p:Bool}{q:b->Bool}{G:Prop}(h:o.elim p q=true)(k:p=true->G)(l:∀a,o=some a->q a=true->G):G:=by
 cases o with
 |none=>exact k h
 |some a=>exact l a rfl h
noncomputable def YH:Value->Tok
 | .int _ t=>t
 | .str _ t=>t
 |_=>0
noncomputable def IJ(v:af)(u:Value):Bool:=(xF v).elim ((Gn v).elim false λs=>u==.str s (YH u)) λi=>u==.int i (YH u)
noncomputable def rT(S:a0)(x:Str)(i:Nat):Bool:=S.a8.any λy=>y.1==x&&y.2.1==i
noncomputable def Gz(S:a0)(x:Str)(i:Nat):Bool:=S.wr.any λy=>y.1==x&&y.2.1==i
noncomputable def th(e:aD):Bool:=Nat.beq e.ctorIdx 26
noncomputable def jO(e:aD):Bool:=Nat.beq e.ctorIdx 7
noncomputable def aK(e:aD):Bool:=Nat.beq e.ctorIdx 22
noncomputable def Na(K:Frag)(x:Str):Bool:=(ff K).all λC=>plainGet K C x&&hasDictIn K C&&(findIn K (.ref C) x).any (noGet K)
noncomputable def Eh(K:Frag)(m:Str):Bool:=(ff K).all λC=>(B2 (findIn K (.ref C) m)).all λf=>isFn K (.ref f)&&(keepIn K (.ref f)&&plainGet K C m)
noncomputable def Ut(K:Frag)(x:Str):Bool:=(ff K).all λC=>findIn K (.ref C) "__setattr__"==some (some (.builtin "object.__setattr__"))&&plainOver K C&&takerIn K C x==some none&&hasDictIn K C
noncomputable def nmB(S:a0)(e:aD)(i:Nat):Bool:=Gx e λx=>Gz S x i
noncomputable def Rt(S:a0):List aD->aH->Bool
 |[],a=>Ef a
 |e::b,a=>Gy a λi a=>nmB S e i&&Rt S b a
noncomputable def uN(S:a0)(t:D3)(e:aD):Bool:=match t with
 | .dA i=>nmB S e i
 | .dU a=>B5 e λb=>Rt S b a&&jN a
noncomputable def j7:aD->List aD
 | .BoolOp _ d _=>d
 | .BinOp l _ r _=>[l,r]
 | .UnaryOp _ a _=>[a]
 | .IfExp a b c _=>[a,b,c]
 | .Dict g h _=>g.filterMap id++h
 | .Set d _ _=>d
 | .ListComp e _ _ _=>[e]
 | .DictComp k v _ _ _=>[k,v]
 | .Compare l _ i _=>l::i
 | .Call f as _ _=>f::as
 | .Attribute e _ _=>[e]
 | .Subscript a b _=>[a,b]
 | .List d _=>d
 | .Tuple d _ _=>d
 | .Slice a b c _=>[a,b,c].filterMap id
 |_=>[]
noncomputable def cx(e:aD)(i:Nat):aD:=(j7 e).getD i default
noncomputable def VJ:aD->Nat
 | .Constant _ k _=>k
 | .Tuple _ k _=>k
 | .Set _ k _=>k
 |_=>0
noncomputable def GA:aD->List Comprehension
 | .ListComp _ a _ _=>a
 | .DictComp _ _ a _ _=>a
 |_=>[]
noncomputable def cu:aD->Scope
 | .ListComp _ _ s _=>s
 | .DictComp _ _ _ s _=>s
 |_=>default
noncomputable def sC(S:a0)(i:Nat):Str:=((S.a8.find? (·.2.1==i)).map Prod.fst).getD ""
structure c6(X:Cx)(S:a0)(env:Env)(F H:bj)(ι:List Addr)(st:St)(σ:Shared):Prop where
 r0:R0 X F H ι st.cells σ
 a8:bR X S env F H ι st.aC σ.heap
structure cN(X:Cx)(S:a0)(env:Env)(F H:bj)(ι:List Addr)(σ:Shared)(F':bj)(bf:List Addr)(aY:St)(bh:Shared):Prop where
 le:Le F F'
 jP:hU ι bf
 bu:c6 X S env F' H bf aY bh
section
variable{X:Cx}{S:a0}{g:Env}{A:Around}{E:dy}{F I M U H:bj}{r G Y L:aZ}{C J aA bL:St}{B D O T:Shared}
def cN.gP(R:c6 X S g F H r C B):cN X S g F H r B F r C B:=⟨Le.refl _,hU.refl _,R⟩
def cN.trans(a:cN X S g F H r B M Y aA O)(b:cN X S g M H Y O U L bL T):cN X S g F H r B U L bL T:=
 ⟨a.le.trans b.le,λn x e=>b.jP n x (a.jP n x e),b.bu⟩
def c6.ns(R:c6 X S g F H r C B):∃oL,B.heap.get? g.locals=some oL:=ar R.a8.ns λm h=>ar h.1 λoL h=>ar h λ_ h=>ar h λ_ h=>⟨oL,h.1⟩
def bR.ext{h c:Heap}(V:bR X S g F H r aC h)(d:∀b o,h.get? b=some o->c.get? b=some o):bR X S g F H r aC c:=
 V.to (λa o _ e=>d a o e) rfl (λ_ _ e=>e) V.free λ_ _ e=>e
def bR.aT(V:bR X S g F H r aC h)(b:Le F I)(c:hU r G)(d:∀a,F a=none->a∉r->AH S g a->I a=none/\a∉G):bR X S g I H G aC h:=
 V.to (λa o _ e=>e) rfl (λi u h=>h.aT b c) (λa q=>d a (V.free a q).1 (V.free a q).2 q) λ_ _ e=>e
def c6.ext(R:c6 X S g F H r C B){a:Heap}(c:∀b o,B.heap.get? b=some o->a.get? b=some o):c6 X S g F H r C {B with heap:=a,toks:=tk}:=
 ⟨R.r0.ext c,R.a8.ext c⟩
def c6.td(R:c6 X S g F H r C B) tk:c6 X S g F H r C {B with toks:=tk}:=⟨R.r0.td tk,R.a8⟩
def cN.ext(R:c6 X S g F H r C B){a:Heap}(c:∀b o,B.heap.get? b=some o->a.get? b=some o):cN X S g F H r B F r C {B with heap:=a,toks:=tk}:=
 ⟨Le.refl _,hU.refl _,R.ext c⟩
def cN.td(R:c6 X S g F H r C B) tk:cN X S g F H r B F r C {B with toks:=tk}:=⟨Le.refl _,hU.refl _,R.td tk⟩
def fO(S:a0)(g:Env)(a:Addr):Prop:=a≠g.locals/\∀x i,(x,i,true)∈S.a8->g.cells.lookup x≠some a
def fO.no(h:fO S g a)(q:AH S g a):False:=by
 cases q with
 |aC=>exact h.1 rfl
 |cell b c=>exact h.2 _ _ b c
def rn(h:¬AH S g a):fO S g a:=⟨λq=>h (q▸ .aC),λx i b q=>h (.cell b q)⟩
def c6.Ei(R:c6 X S g F H r C B)(q:AH S g a):∃o,B.heap.get? a=some o:=by
 cases q with
 |aC=>exact R.ns
 |cell b c=>exact ar (R.a8.cl _ _ _ b c) λu h=>ar h.1 λo h=>⟨o,h.1⟩
def c6.nX(R:c6 X S g F H r C B)(h:B.heap.objs.size<=a):fO S g a:=
 rn λq=>ar (R.Ei q) λo e=>absurd (KM e) (aaG.mpr h)
def cN.Gl(R:c6 X S g F H r C B)(d:B.heap.get? a=some o)(c:F a=none)(f:H a=none)(h:a∉r)(i:fO S g a):cN X S g F H r B (fX F a o) r C B:=
 ⟨ez c,hU.refl _,R.r0.Gl d c f h,R.a8.aT (ez c) (hU.refl _) λb j k q=>⟨(fM λe:b=a=>i.no (e▸q)).trans j,k⟩⟩
def cN.Gm(R:c6 X S g F H r C B)(d:B.heap.get? a=some o)(e:F a=none)(f:H a=none)(h:a∉r)(i:fO S g a)(j:(a==sysModules)=false)(k:cM X.prog X.w F r c o):
  cN X S g F H r B F (r++[a]) ⟨C.aC,C.cells++[c]⟩ B:=
 ⟨Le.refl _,hU.MO _ _,R.r0.Gm d e f h j k,R.a8.aT (Le.refl _) (hU.MO _ _) λb l n q=>⟨l,λm=>(AC.mp m).elim n λm=>i.no (u8.mp m▸q)⟩⟩
def c6.Ej(R:c6 X S g F H r C B)(m:a∈r):fO S g a:=rn λq=>(R.a8.free a q).2 m
def bR.sameBut(V:bR X S g F H r aC h)(c:Heap.SameBut a h d)(f:fO S g a):bR X S g F H r aC d:=
 V.to (λb o q e=>(c.2 b λz=>f.no (z▸q)).trans e) rfl (λ_ _ e=>e) V.free λ_ _ e=>e
def cN.sv(R:c6 X S g F H r C B){d:Heap}(e:r[n]?=some a)(b:C.cells[n]?=some c)(h:c≠ .ae)(i:d.get? a=some j)(f:Heap.SameBut a B.heap d)
  (k:cM X.prog X.w F r l j):cN X S g F H r B F r ⟨C.aC,C.cells.set n l⟩ {B with heap:=d,toks:=tk}:=
 ⟨Le.refl _,hU.refl _,R.r0.sv e b h i f k,R.a8.sameBut f (R.Ej (wE e))⟩
def wX{l:ah}(e:(l.set i v)[j]?=some z):(i=j/\z=v)\/(i≠j/\l[j]?=some z):=by
 rw[List.getElem?_set]at e;refine wS (p:=i=j) (λq=>?_) (λq=>?_)
 ·rw[if_pos q]at e
  refine .inl ⟨q,?_⟩;refine wS (p:=i<l.length) (λp=>?_) (λp=>?_)
  ·rw[if_pos p]at e;exact(BT e).symm
  ·rw[if_neg p]at e;exact nx e
 ·rw[if_neg q]at e;exact .inr ⟨q,e⟩
def gv.ne{aC:ah}(h:gv X F r aC j u)(q:i≠j):gv X F r (aC.set i v) j u:=λz e n=>(wX e).elim (λe=>absurd e.1 q) λe=>h z e.2 n
def gv.eq{aC:ah}(h:aG X.prog X.w F r v w):gv X F r (aC.set i v) i (some w):=λz e n=>(wX e).elim (λe=>(ay w rfl (e.2▸h))) λe=>absurd rfl e.1
def XT(X:Cx)(S:a0)(g:Env)(F H:bj)(r:aZ)(B:Shared)(Q:af->St->Prop)(P:dy):Prop:=∀v D I G J a,cN X S g F H r B I G J D->aG X.prog X.w I G a v->Q a J->P v D
def abp(X:Cx)(S:a0)(g:Env)(F H:bj)(r:aZ)(B:Shared)(Q:ah->St->Prop)(P:aQ->Shared->Prop):Prop:=∀v D I G J a,cN X S g F H r B I G J D->ax X.prog X.w I G a v->Q a J->P v D
def TsK(X:Cx)(S:a0)(g:Env)(F H:bj)(r:aZ)(B:Shared)(Q:Bool->St->Prop)(P:Bool->Shared->Prop):Prop:=∀b D I G J,cN X S g F H r B I G J D->Q b J->P b D
def FrK(X:Cx)(S:a0)(g:Env)(F H:bj)(r:aZ)(B:Shared)(Q:af->St->Prop)(P:dy):Prop:=∀a o D I G J c,cN X S g F H r B I G J D->D.heap.get? a=some o->I a=none->H a=none->a∉G->fO S g a->(a==sysModules)=false->cM X.prog X.w I G c o->Q c J->P (.ref a) D
def aU(X:Cx)(S:a0)(g:Env)(A:Around)(E:dy)(t:Sem Value)(Q:af->St->Prop)(C:St):Prop:=
 ∀F H r B (P:dy),c6 X S g F H r C B->
  XT X S g F H r B Q P->wpAny (model X.prog X.w) A t P E B
def fE(X:Cx)(S:a0)(g:Env)(A:Around)(E:dy)(t:Sem aQ)(Q:ah->St->Prop)(C:St):Prop:=
 ∀F H r B (P:aQ->Shared->Prop),c6 X S g F H r C B->
  abp X S g F H r B Q P->wpAny (model X.prog X.w) A t P E B
def g8(X:Cx)(S:a0)(g:Env)(A:Around)(E:dy)(t:Sem Bool)(Q:Bool->St->Prop)(C:St):Prop:=
 ∀F H r B (P:Bool->Shared->Prop),c6 X S g F H r C B->
  TsK X S g F H r B Q P->wpAny (model X.prog X.w) A t P E B
def j8(X:Cx)(S:a0)(g:Env)(A:Around)(E:dy)(t:Sem Value)(Q:af->St->Prop)(C:St):Prop:=
 ∀F H r B (P:dy),c6 X S g F H r C B->
  FrK X S g F H r B Q P->wpAny (model X.prog X.w) A t P E B
def aU.B7(h:j8 X S g A E t Q C):aU X S g A E t Q C:=λF H r B P R k=>
 h F H r B P R λa o D I G J c N d e f i j l m q=>
  let b:=cN.Gl N.bu d e f i j
  k _ _ _ _ _ c (N.trans b) (.xC (Gk l) hX (m.aT b.le b.jP)) q
def aU.IK(h:j8 X S g A E t (λc C=>Q (.cell C.cells.length) ⟨C.aC,C.cells++[c]⟩) C):aU X S g A E t Q C:=λF H r B P R k=>
 h F H r B P R λa o D I G J c N b d e f i j l q=>
  let m:=cN.Gm N.bu b d e f i j l
  k _ _ _ _ _ _ (N.trans m) (.cell (by simp only[<-N.bu.r0.cS,GE (v0 _),aaR];rfl)) q
def ej{l:ah}(h:aB l i≠ .ae):l[i]?=some (aB l i):=by
 unfold aB at h⊢;cases e:l[i]? with
 |none=>rw[e]at h;exact absurd rfl h
 |some v=>rfl
def Ek{l:List (Str×Nat×Bool)}(h:(l.any λy=>y.1==x&&y.2.1==i)):∃b,(x,i,b)∈l:=
 aj (aak.mp h) λp a e=>bJ e λc d=>⟨p.2.2,aae.mp c▸aae.mp d▸a⟩
def xO(h:rT S x i):∃b,(x,i,b)∈S.a8:=Ek h
def ti(h:Gz S x i):∃b,(x,i,b)∈S.wr:=Ek h
def tj(R:c6 X S g F H r C B)(d:(x,i,b)∈S.a8)(e:C.aC[i]?=some v)(l:v≠ .ae)
  (k:∀u,aG X.prog X.w F r v u->P u B):wpAny (model X.prog X.w) A (loadName g x) P E B:=by
 cases b with
 |false=>exact aj R.a8.ns λm o s=>aj (s x i d v e l) λu p f=>wpAny_loadName_local R.a8.kind (R.a8.es.kl x i d) o p (k u f)
 |true=>
  refine cY (R.a8.es.kc x i d) λa t h=>aj h λc j _=>aj (R.a8.cl x i c d j) λw n s=>aj (s v e l) λu q f=>?_;subst q;exact a.elim (λa=>wpAny_loadName_cell R.a8.kind a j n (k u f)) λa=>wpAny_loadName_free R.a8.kind a j n (k u f) t
def cN.YI(R:c6 X S g F H r C B)(q:AH S g a)(d:H a=none)(k:Heap.SameBut a B.heap b)
  (l:∃m,b.Ns g.locals m/\∀x j,(x,j,false)∈S.a8->gv X F r (C.aC.set i v) j (m x)) (n:∀x j c,(x,j,true)∈S.a8->g.cells.lookup x=some c->∃u,b.IsCell c u/\gv X F r (C.aC.set i v) j u):
  cN X S g F H r B F r ⟨C.aC.set i v,C.cells⟩ {B with heap:=b,toks:=tk}:=
 have V:=R.a8;have f:=V.free a q
 ⟨Le.refl _,hU.refl _,R.r0.to (λc o p e=>(k.2 c λz=>p.elim (λh=>h (z▸f.1)) λh=>h.elim (λh=>h (z▸d)) λh=>f.2 (z▸h)).trans e) rfl rfl,V.es,abX.trans V.cS,l,n,V.free,V.Yw,V.noC⟩
def MS.ne(V:MS S g)(a:(x,i,b)∈S.a8)(d:(y,j,c)∈S.a8)(z:y≠x):i≠j:=λe=>z (V.slots _ _ _ _ _ d (e▸a))
def MS.nl(V:MS S g)(a:(x,i,false)∈S.a8)(b:(y,j,true)∈S.a8):i≠j:=λe=>Bool.noConfusion (V.VF x i i false true a (V.slots _ _ _ _ _ b (e▸a)▸e▸b)).2
def cN.YJ{i:Nat}{w:Option Value}{m:Str->Option Value}{tk:Nat}(R:c6 X S g F H r C B)(b:(x,i,false)∈S.a8)(f:Heap.SameBut g.locals B.heap k)(hw:gv X F r (C.aC.set i v) i w)
  (s:∀y j,(y,j,false)∈S.a8->gv X F r C.aC j (m y)) (o:k.Ns g.locals λy=>if y=x then w else m y):cN X S g F H r B F r ⟨C.aC.set i v,C.cells⟩ {B with heap:=k,toks:=tk}:=
 have V:=R.a8
 cN.YI R .aC V.Yw f (ay _ o λy j a=>wS (λz:y=x=>(if_pos z).symm▸(V.es.VF _ _ _ _ _ b (z▸a)).1▸hw) λz=>(if_neg z).symm▸(s y j a).ne (V.es.ne b a z))
  λy j c a l=>aj (V.cl y j c a l) λu p s=>ay u (p.sameBut f λe=>cY (V.es.kc y j a) λ_ _ h=>aj h λd q n=>n (se q l▸e)) (s.ne (V.es.nl b a))
def kr(R:c6 X S g F H r C B)(N:(x,i,b)∈S.wr)(Q:aG X.prog X.w F r v u)
  (k:∀D,cN X S g F H r B F r ⟨C.aC.set i v,C.cells⟩ D->P () D):wpAny (model X.prog X.w) A (storeName g x u) P E B:=by
 have V:=R.a8;refine cY (V.es.wA x i b N) λd _ n=>?_;cases b with
 |false=>
  exact aj V.ns λm p s=>wpAny_storeName_local (V.es.kl x i d) p (λZ Ui o=>k _ (.YJ R d o (.eq Q) s Ui)) (V.kind▸rfl)
 |true=>
  exact cY (V.es.kc x i d) λ_ _ h=>aj h λa f q=>aj (V.cl x i a d f) λw hi _=>wpAny_storeName_cell V.kind (n rfl) f hi λZ t o=>
   k _ (cN.YI (tk:=B.toks) R (.cell d f) (V.noC x i a N f) o (aj V.ns λm p s=>ay m (p.sameBut o λz=>q z.symm) λy j l=>(s y j l).ne λz=>V.es.nl l d z.symm)
    λy j c l n=>wS (λz:y=x=>ay _ (se f (z▸n)▸t) ((V.es.VF _ _ _ _ _ d (z▸l)).1▸ .eq Q))
     λz=>aj (V.cl y j c l n) λu hu s=>ay u (hu.sameBut o λe=>z (V.es.inj _ _ _ n (e▸f))) (s.ne (V.es.ne d l z)))
end
section
variable{c:Program}{w:World}{A:Around}{E:dy}{s:Shared}
set_option tactic.hygienic true in
def B8{a:Int}(h:a.natAbs<2^k):Builtin.Int.intBits a<=k:=by
 unfold Builtin.Int.intBits;split
 ·exact SC _
 ·rename_i q
  exact ac1 ((Nat.log2_lt λe=>q (aae.mpr (Int.natAbs_eq_zero.mp e))).mpr h)
def AN{b:Int}(a: -(2^63)<=b)(d:b<=2^63):b.natAbs<2^64:=by
 rcases Int.natAbs_eq b with e|e<;>rw[e]at a d
 ·exact IN (acd.mp d) (by decide:2^63<2^64)
 ·exact IN (acd.mp (Int.le_of_neg_le_neg a)) (by decide:2^63<2^64)
def xP(h:small a):Builtin.Int.intBits a<=64:=B8 (AN h.1 h.2)
def Nb{i:Nat}{a:Int}(h:i<=400)(b:0<=a)(d:a<=64):(i:Int)*a<=25600:=Int.mul_le_mul (acd.mpr h) d b (by decide)
def Ru{a b:Int}{Q:Int->Prop}{P:dy}(h:VH op a b Q)(k:∀r t tk,Q r->P (.int r t) {s with toks:=tk}):
  wpAny (model c w) A (binaryOp op (.int a t) (.int b u)) P E s:=by
 cases op
 case Add=>exact add_int (k _ _ _ h)
 case Sub=>exact sub_int (k _ _ _ h)
 case Mult=>exact mul_int (k _ _ _ h.2) (h.1.elim (λd=>IntMulOk.of_left (xP d)) λd=>by
  unfold IntMulOk;rw[SZ (aaG.mpr (xP d):¬(Builtin.Int.intBits b>shortFactorBits))];rw[ac9];exact acX)
 case FloorDiv=>
  have d:=h.1;refine floordiv_int (Int.ne_of_gt d) (Int.fdiv_eq_ediv_of_nonneg _ (Int.le_of_lt d)▸k _ _ _ h.2.2) (.inl ?_);unfold Builtin.divisionGoesByPylong;have f:¬(b==0):=λe=>Int.ne_of_gt d (aae.mp e);have g:=(Nat.log2_lt λe=>Int.ne_of_gt d (Int.natAbs_eq_zero.mp e)).mpr (AN (acF (by decide) (Int.le_of_lt d)) h.2.1);exact Bool.and_eq_false_iff.mpr (.inl (SZ (aaG.mpr (o0 (aaM (if_neg f))<|(o0 (acR (Nat.div_le_self _ 30)) (o0 g (by decide:64<=300)))))))
 case Mod=>exact mod_int (Int.ne_of_gt h.1) (Int.fmod_eq_emod_of_nonneg _ (Int.le_of_lt h.1)▸k _ _ _ h.2)
 case Pow=>exact pow_int h.1 (acF (Nb (B8 h.2.2.1) h.1 (acF h.2.1 (by decide:(20:Int)<=64))) (by decide:(25600:Int)<=2^27)) (k _ _ _ h.2.2.2)
 case LShift=>exact PyProof.Rows.lshift_int h.1 (acF (Int.add_le_add (acd.mpr (B8 h.2.2.1)) h.2.1) (by decide:((400:Nat):Int)+64<=2^27)) (k _ _ _ h.2.2.2)
 case RShift=>exact rshift_int h.1 (Int.fdiv_eq_ediv_of_nonneg _ (Int.le_of_lt (Int.pow_pos (by decide:(0:Int)<2)))▸k _ _ _ h.2.2)
 case BitAnd=>
  refine and_int ?_
  have e:Builtin.bitAnd a b=((a.toNat&&&b.toNat:Nat):Int):=by
   unfold Builtin.bitAnd;rw[FM h.1,FM h.2.1]
  exact e▸k _ _ _ h.2.2
 all_goals exact h.elim
end
section
variable{X:Cx}{S:a0}{B:Env}{A:Around}{E:dy}{F M U cg H:bj}{D O au bw:aZ}{L aY aA bL:St}{J bh Y aP:Shared}
def aU.aT(h:aU X S B A E t Q L)(k:∀a s,Q a s->b a s):aU X S B A E t b L:=λF H D J P R p=>h F H D J P R λv bh M O s a N V q=>p v bh M O s a N V (k a s q)
def fE.aT(h:fE X S B A E t Q L)(k:∀a s,Q a s->b a s):fE X S B A E t b L:=λF H D J P R p=>h F H D J P R λv bh M O s a N V q=>p v bh M O s a N V (k a s q)
def g8.aT(h:g8 X S B A E t Q L)(k:∀a s,Q a s->b a s):g8 X S B A E t b L:=λF H D J P R p=>h F H D J P R λv bh M O s N q=>p v bh M O s N (k v s q)
def j8.aT(h:j8 X S B A E t Q L)(k:∀a s,Q a s->b a s):j8 X S B A E t b L:=λF H D J P R p=>h F H D J P R λa o bh M O s c N d e f i j l n q=>p a o bh M O s c N d e f i j l n (k c s q)
section
variable{I:Program}{w:World}{v:Value}
def aG.i8(h:aG I w F D (.int i) v):∃t,v=.int i t:=h.AG
def aG.IL(h:aG I w F D (.str i) v):∃t,v=.str i t:=h.AG
def aG.mX(h:aG I w F D (.bool b) v):v=.bool b:=h.AG
def aG.El(h:aG I w F D .none v):v=.none:=h.AG
def aG.xQ(h:aG I w F D (.cell n) v):∃a,v=.ref a/\D[n]?=some a:=h.AG
def aG.ij(V:aG I w F D a v)(e:a=.int i):∃t,v=.int i t:=aG.i8 (e▸V)
def aG.GB(V:aG I w F D a v)(e:a=.str i):∃t,v=.str i t:=aG.IL (e▸V)
def aG.c7(V:aG I w F D a v)(q:Mine.c7 a Q):∃i t,v=.int i t/\Q i:=aj (fk q) λi e q=>ar (aG.i8 (e▸V)) λt e=>j6 i t e q
def aG.jk(h:aG I w F D (.list xs) v):∃a b d,v=.ref a/\F a=some (listOf (List.toArray b) d)/\ax I w F D xs b:=
 gH (h.D1 rfl) λa o e f c _=>dm c.jk λb d q r=>(uI a b d e (q▸f) r)
def aG.B9(V:aG I w F D a v)(e:a=.list xs):∃l b c,v=.ref l/\F l=some (listOf (List.toArray b) c)/\ax I w F D xs b:=(e▸V).jk
def aG.ko(h:aG I w F D (.tuple xs) v):∃a b d o,v=.ref a/\F a=some o/\o.cls=.type "tuple"/\o.data=.seq (List.toArray b) d/\ax I w F D xs b:=
 gH (h.D1 rfl) λa o e f c _=>gm c.ko λb d p q r=>(Kk a b d o e f p q r)
end
def R0.cell(R:R0 X F H D cells J)(e:aB cells n=c)(b:c≠ .ae):∃a o,D[n]?=some a/\J.heap.get? a=some o/\cM X.prog X.w F D c o:=by
 subst e;exact gH (R.xD n _ (ej b) b) λa o d f h _=>uH a o d f h
def R0.IM(R:R0 X F H D cells J)(V:aG X.prog X.w F D (.cell n) u)(e:aB cells n=c)(f:c≠ .ae):∃a o,u=.ref a/\D[n]?=some a/\J.heap.get? a=some o/\cM X.prog X.w F D c o:=
 aj V.xQ λa h i=>gm (R.cell e f) λb o d j l=>lF b o (h.trans (v6 _ (se i d))) d j l
def IP(h:cM I w F D c o):aO cells c=c:=h.casesOn (motive_3:=λc _ _=>aO cells c=c) (λ_=>rfl) (λ_ _ _=>rfl) rfl (λ_ _ _=>rfl) (λ_=>rfl) (λ_=>rfl) λ_ _=>rfl
def ku(R:R0 X F H D b J)(V:aG X.prog X.w F D v u)(e:aO b v=c)(f:mS c):
  ∃a o,u=.ref a/\J.heap.get? a=some o/\cM X.prog X.w F D c o/\Rg c a/\(F a=some o\/a∈D):=by
 subst e;revert f
 exact V.casesOn (motive_1:=λv u _=>mS (aO b v)->∃a o,u=.ref a/\J.heap.get? a=some o/\cM X.prog X.w F D (aO b v) o/\Rg (aO b v) a/\(F a=some o\/a∈D))
  Bool.noConfusion (λ_=>Bool.noConfusion) (λ_ _=>Bool.noConfusion) (λ_ _=>Bool.noConfusion)
  (λh f=>have i:aB b _≠ .ae:=λq=>Bool.noConfusion ((v6 mS q).symm.trans f)
   gH (R.xD _ _ (ej i) i) λ_ o j k l _=>have m:=wE h;DW _ o rfl (se j h▸k) l (Gk (R.nV _ m).2.2) (.inr m))
  (λd e q _=>(IP q).symm▸DW _ _ rfl (R.fz _ _ e) q d (.inl e)) λ_ _ _ _ _ _=>Bool.noConfusion
def cJ(R:R0 X F H D cells J)(V:aG X.prog X.w F D v u)(e:aO cells v=.list xs):
  ∃a b c,u=.ref a/\J.heap.get? a=some (listOf (List.toArray b) c)/\ax X.prog X.w F D xs b:=
 rR (ku R V e rfl) λa o d f h _ _=>dm h.jk λb c q r=>(uI a b c d (q▸f) r)
def qp(R:R0 X F H D cells J)(V:aG X.prog X.w F D v u)(e:aO cells v=.tuple xs):
  ∃a b c o,u=.ref a/\J.heap.get? a=some o/\o.cls=.type "tuple"/\o.data=.seq (List.toArray b) c/\ax X.prog X.w F D xs b:=
 rR (ku R V e rfl) λa o d f h _ _=>gm h.ko λb c p q r=>(Kk a b c o d f p q r)
def kJ(R:R0 X F H D cells J)(V:aG X.prog X.w F D v u)(e:aO cells v=.dict c d):
  ∃a b,u=.ref a/\J.heap.DictOf (intKind X.prog X.w) a (c.zip b)/\c.length=b.length/\ax X.prog X.w F D d b/\(a==sysModules)=false:=
 rR (ku R V e rfl) λa o f h i j _=>cU i.DZ λb p l q=>(DW a b f (Heap.dictOf_iff.mpr ⟨_,h,p⟩) l q j)
def cV{b:aQ}{h:Heap}(e:h.get? a=some (listOf b.toArray c)):h.IsList a b.toArray:=⟨_,e,rfl,c,rfl⟩
def zM(h:∀n,v≠ .cell n):aO cells v=v:=by cases v<;>first|rfl|exact absurd rfl (h _)
variable(hS:fi S)
def qr(hS:fi S)(h:(x,i,b)∈S.a8):(x==("__debug__":Str))=false:=by
 simp only[fi,Bool.and_eq_true]at hS;haveI:=WP.mp hS.1.2 _ h;simp only[Bool.and_eq_true,Bool.not_eq_true']at this;exact this.1
include hS in
theorem qs(c:rT S x i)(h:aB L.aC i≠ .ae/\Q (aB L.aC i) L):aU X S B A E (eval (.Name x p) B) Q L:=λF H D J P R k=>by
 refine ar (xO c) λb a=>?_;exact wpAny_Name (tj R a (ej h.1) h.1 λu V=>k _ _ _ _ _ _ (cN.gP R) V h.2) (qr hS a)
noncomputable def rp(F:bj)(D:aZ)(h:Heap):bj:=λb=>if b∈D then h.get? b else F b
def AO{h:Heap}{G:Prop}(e:rp F D h b=some o)(k:b∈D->h.get? b=some o->G)(l:F b=some o->G):G:=wS (λm:b∈D=>k m ((if_pos m).symm.trans e)) λm=>l ((if_neg m).symm.trans e)
def gJ(R:R0 X F H D cells J):Le F (rp F D J.heap):=λb o e=>wS (λm:b∈D=>(if_pos m).trans (R.fz b o e)) λm=>(if_neg m).trans e
def R0.ky{a:ah}(R:R0 X F H D a J):R0 X (rp F D J.heap) H D (a.map λ_=>.ae) J:=
 ⟨R.r6,R.de.trans (gJ R),λb o e=>AO e (λ_ h=>h) (R.fz b o),R.lE,λb o e=>AO e (λm _=>(R.nV b m).1) (R.gn b o),
  λn c e d=>aj (FB.mp (wE e)) λ_ _ q=>absurd q.symm d,R.cS.trans (v4 _).symm,R.fD,R.nV,R.gens,R.os⟩
section
variable{g:af->af}{I:Program}{w:World}(f:∀v u,aG I w F D v u->(g v).nc->aG I w M D (g v) u)
include f
theorem wY{b us}(V:ax I w F D b us):eJ (b.map g)->ax I w M D (b.map g) us:=
 V.zF (λ_=>.nil) λa _ k h=>bJ (a:=(g _).nc) h λp q=>.cons (f _ _ a p) (k q)
theorem abq(C:cM I w F D c o)(s:∀k m l,aB i k=.attrs m l->eJ (l.map g)->∀d,D[k]?=some d->∃t,M d=some t/\cM I w F D (.attrs m l) t)(u:M a=some o)(j:Rg c a):
  (Ur i g c).nc->aG I w M D (Ur i g c) (.ref a):=by
 revert j u
 refine C.casesOn (motive_3:=λc o _=>M a=some o->Rg c a->(Ur i g c).nc->aG I w M D (Ur i g c) (.ref a)) (λq e j h=>.xC j e (.list (wY f q h))) (λp q r e j h=>.xC j e (.tuple p q (wY f r h)))
  (λ_ _=>Bool.noConfusion) (λp q r e j h=>.xC j e (.dict p q (wY f r h))) (λq e j _=>.xC j e (.set q)) (λ{C k d} x e j h=>?_) λ_ _ _ _=>Bool.noConfusion
 have s:=s k;have y:Ur i g (.ji C k)=(match aB i k with| .attrs m l=>.dJ C m (l.map g)|_=>.ae):=rfl;rw[y]at h⊢;generalize aB i k=b at h s⊢;cases b with
 |attrs m l=>exact aj (s m l rfl h d x) λt z G=>eV G.rl λN P n q p r=>.dJ e rfl rfl rfl z (q▸ .attrs p (wY f r h))
 |_=>exact Bool.noConfusion h
end
def xR(R:R0 X F H D c J) f:∀(v:af) (u:Value),aG X.prog X.w F D v u->(rm c f v).nc->aG X.prog X.w (rp F D J.heap) D (rm c f v) u:=by
 have i:∀{v w:af} {u},aG X.prog X.w F D v u->v.nc->w=v->aG X.prog X.w (rp F D J.heap) D w u:=λV _ e=>e▸V.aT (gJ R) (hU.refl _);induction f with
 |zero=>exactλv u V h=>wS (λq:v.nc=>i V q (if_pos q)) λq=>Bool.noConfusion ((v6 af.nc (if_neg q:rm c 0 v=.ae)).symm.trans h)
 |succ f ih=>
  refineλv u V h=>wS (λq:v.nc=>i V q (if_pos q)) λq=>?_
  have p:rm c (f+1) v=Ur c (rm c f) (aO c v):=if_neg q;rw[p]at h⊢;cases j:mS (aO c v)with
  |false=>exact Bool.noConfusion ((v6 (λb=>af.nc (bif b then _ else _)) j).symm.trans h)
  |true=>exact rR (ku R V rfl j) λa o e r s t k=>e▸abq ih s (λk z C e _ d l=>have n:aB c k≠ .ae:=e▸af.noConfusion
    gH (R.xD k _ (ej n) n) λG x k1 k2 y _=>ay x ((if_pos (wE l)).trans (se k1 l▸k2)) (e▸y)) (k.elim (gJ R _ _) λm=>(if_pos m).trans r) t h
def bR.chg{aC d:ah}(V:bR X S B F H D aC h)(f:d.length=aC.length)(j:∀(i:Nat) c,d[i]?=some c->c≠ .ae->∃v,aC[i]?=some v/\v≠ .ae/\∀u,aG X.prog X.w F D v u->aG X.prog X.w M O c u)
  (k:∀a,F a=none->a∉D->AH S B a->M a=none/\a∉O):bR X S B M H O d h:=
 V.to (λ_ _ _ e=>e) f (λi u s c e n=>cU (j i c e n) λv l m o=>aj (s v l m) λw a b=>(ay w a (o w b))) (λa q=>k a (V.free a q).1 (V.free a q).2 q) λ_ _ e=>e
def Nc{l a:ah}{i:Nat}(e:(l.map (iI a))[i]?=some c)(n:c≠ .ae):∃v,l[i]?=some v/\v≠ .ae/\(dz a v).nc/\c=dz a v:=
 aj (TW.mp (FS.symm.trans e)) λv f d=>wS (λb:(dz a v).nc=>BX v f (λq=>Bool.noConfusion (show(dz a .ae).nc=true from q▸b)) b (d.symm.trans (if_pos b)))
  λb=>absurd (d.symm.trans (if_neg b)) n
def cN.ky(R:c6 X S B F H D L J):cN X S B F H D J (rp F D J.heap) D ⟨L.aC.map (iI L.cells),L.cells.map λ_=>.ae⟩ J:=
 ⟨gJ R.r0,hU.refl _,R.r0.ky,R.a8.chg (v4 _) (λi j e n=>zJ (Nc e n) λv c b d f=>dC v c b λu h=>f▸xR R.r0 6 v u h d) λa c b _=>⟨(if_neg b).trans c,b⟩⟩
include hS in
theorem VK(c:rT S x i)
  (h:aB (L.aC.map (iI L.cells)) i≠ .ae/\Q (aB (L.aC.map (iI L.cells)) i) ⟨L.aC.map (iI L.cells),L.cells.map λ_=>.ae⟩):aU X S B A E (eval (.Name x p) B) Q L:=λF H D J P R k=>by
 refine ar (xO c) λb a=>?_;haveI N:=cN.ky R;exact wpAny_Name (tj N.bu a (ej h.1) h.1 λu V=>k _ _ _ _ _ _ N V h.2) (qr hS a)
def Nd(h:∃v,Gr c=some v/\Q v L):aU X S B A E (eval (.Constant c e p) B) Q L:=λF H D J P R k=>aj h λv a d=>by
 cases c with
 |none=>exact wpAny_Constant_none (k _ _ _ _ _ _ (.gP R) .none (BT a▸d))
 |bool b=>exact wpAny_Constant_bool (k _ _ _ _ _ _ (.gP R) (.bool _) (BT a▸d))
 |int i=>exact wpAny_Constant_int (k _ _ _ _ _ _ (.td R _) (.int _ _) (BT a▸d))
 |str s=>exact wpAny_Constant_str (k _ _ _ _ _ _ (.td R _) (.str _ _) (BT a▸d))
 |_=>exact nx a
def nY(R:c6 X S B F H D L J)(h:mV X.K S x=some u)(k:P u J):wpAny (model X.prog X.w) A (eval (.Name x p) B) P E J:=
 aX (M9 h) λa q=>bJ a λb c=>have T:=(R.r0.r6.MR J.heap R.r0.Yx).1
  Calls.Name_function_global R.a8.kind (R.a8.Rq x (aae.mp b)) (Calls.loadGlobal_global (mg:=X.mg) (R.a8.globals▸T) (mg_of R.r0.k T q) k) (nt c)
def sD(R:c6 X S B F H D L J)(h:gZ X.K S x u)(k:P u J):wpAny (model X.prog X.w) A (eval (.Name x p) B) P E J:=
 bJ h λa h=>bJ h λb h=>bJ h λc d=>bJ a λe f=>have T:=R.r0.r6.MR J.heap R.r0.Yx
  Calls.Name_function_global R.a8.kind (R.a8.Rq x (aae.mp e)) (Calls.loadGlobal_builtin (mg:=X.mg) (mb:=X.mb) (R.a8.globals▸T.1) (mg_none_of R.r0.k T.1 (aae.mp b)) (R.a8.builtins▸T.2.1) ((R.r0.r6.blt x (beq_eq_false_iff_ne.mp (nt d))).trans (aae.mp c)) k) (nt f)
def Rv(h:mV X.K S x=some u)(a:IJ v u)(q:Q v L):aU X S B A E (eval (.Name x p) B) Q L:=λF H D J P R k=>
 nY R h (k _ _ _ _ _ v (.gP R) (B6 a (λa=>B6 a Bool.noConfusion λ_ e q=>uK e▸aae.mp q▸ .str _ _) λ_ e q=>sy e▸aae.mp q▸ .int _ _) q)
def VL(h:aU X S B A E (eval e B) (λv L=>c7 v λi=>Q (.int (-i)) L) L):aU X S B A E (eval (.UnaryOp .USub e p) B) Q L:=λF H D J P R k=>
 wpAny_UnaryOp (h F H D J _ R λv Y U au aA a N V q=>dm (V.c7 q) λi t e q=>e▸neg_int (k _ _ _ _ _ _ (N.trans (.td N.bu _)) (.int _ _) q))
def VM(h:aU X S B A E (eval e B) (λv L=>vN v λi=>Q (.bool (!i)) L) L):aU X S B A E (eval (.UnaryOp .Not e p) B) Q L:=λF H D J P R k=>
 wpAny_UnaryOp (h F H D J _ R λv Y U au aA a N V q=>aj (kq q) λi e q=>(e▸V).mX▸not_value (acI (k _ _ _ _ _ _ N (.bool _) q)))
def VN(h:aU X S B A E (eval l B) (λc L=>aU X S B A E (eval r B) (λd L=>c7 c λi=>c7 d λj=>VH op i j λr=>Q (.int r) L) L) L):
  aU X S B A E (eval (.BinOp l op r p) B) Q L:=λF H D J P R k=>
 wpAny_BinOp (h F H D J _ R λc Y U au aA a f n o=>o U H au Y _ f.bu λd aP cg bw bL b m s q=>dm (n.c7 q) λi t e q=>dm (s.c7 q) λj u x q=>
  e▸x▸Ru q λr t tk z=>k _ _ _ _ _ _ ((f.trans m).trans (.td m.bu _)) (.int _ _) z)
def VO(h:g8 X S B A E (isTrue e B (eval e B)) (λb L=>Q (!b) L) L):g8 X S B A E (isTrue (.UnaryOp .Not e p) B w) Q L:=λF H D J P R k=>
 wpAny_isTrue_Not (h F H D J _ R λb Y U au aA N q=>k _ _ _ _ _ N q)
def VP(h:g8 X S B A E (isTrue t B (eval t B)) (λr L=>(r->aU X S B A E (eval x B) Q L)/\(r=false->aU X S B A E (eval y B) Q L)) L):
  aU X S B A E (eval (.IfExp t x y p) B) Q L:=λF H D J P R k=>
 wpAny_IfExp (h F H D J _ R λb Y U au aA N q=>by
  cases b
  ·skip
   exact q.2 rfl U H au Y _ N.bu λv aP cg bw bL a c V z=>k _ _ _ _ _ _ (N.trans c) V z
  ·skip
   exact q.1 rfl U H au Y _ N.bu λv aP cg bw bL a c V z=>k _ _ _ _ _ _ (N.trans c) V z)
end
def rq a(b:ah):(jl b).any (λy=>PyData.eqv y (gp a))=b.any λy=>zG y a:=by
 induction b with
 |nil=>rfl
 |cons y b c=>exact v6 (zG y a|| ·) c
def GC{G:af->Prop}(h:xI v)(n:G .none)(b:∀b,G (.bool b))(i:∀i,G (.int i))(s:∀s,PyData.strOk s->G (.str s)):G v:=
 B6 h (λh=>B6 h (λh=>B6 h (λh=>MY h▸n) λ_ e _=>B1 e▸b _) λ_ e _=>sy e▸i _) λ_ e h=>uK e▸s _ h
def Nf{G:af->Prop}{n:Nat}(h:bC (n+1) v)(a:xI v->G v)(l:∀b,b.all (bC n)->G (.list b))(t:∀b,b.all (bC n)->G (.tuple b)):G v:=
 B6 h (λh=>B6 h a λ_ e h=>sA e▸t _ h) λ_ e h=>hZ e▸l _ h
def xS(b:∀v,bC n v->(gp v).canLay0/\(gp v).depth<=n)(a:ah):a.all (bC n)->PyData.canLayAll0 (jl a)/\PyData.depthAll (jl a)<=n:=by
 induction a with
 |nil=>exactλ_=>⟨rfl,SC _⟩
 |cons v a c=>exactλh=>bJ h λp q=>⟨PP.mpr ⟨(b v p).1,(c q).1⟩,Nat.max_le.mpr ⟨(b v p).2,(c q).2⟩⟩
def AP n:∀(v:af),bC n v->(gp v).canLay0/\(gp v).depth<=n:=by
 have a:∀{n v},xI v->(gp v).canLay0/\(gp v).depth<=n:=λ{n v} h=>GC (G:=λv=>(gp v).canLay0/\(gp v).depth<=n) h ⟨rfl,SC _⟩ (λ_=>⟨rfl,SC _⟩) (λ_=>⟨rfl,SC _⟩) λ_ h=>⟨h,SC _⟩;induction n with
 |zero=>exactλv h=>a h
 |succ n c=>exactλv h=>Nf (G:=λv=>(gp v).canLay0/\(gp v).depth<=n+1) h a (λb h=>have q:=xS c b h;⟨q.1,acR q.2⟩) λb h=>have q:=xS c b h;⟨q.1,acR q.2⟩
def kz v(h:bC 8 v):SeqAt.shaped (gp v):=PP.mpr ⟨(AP 8 v h).1,FM (o0 (AP 8 v h).2 (by decide))⟩
section
variable{c:Program}{w:World}{F:bj}{d:aZ}{h:Heap}
def AQ(e:∀v u,aG c w F d v u->bC n v->∃as,Reads h u (gp v) as){b:ah}(V:ax c w F d b us):b.all (bC n)->∃as,ReadsAll h us (jl b) as:=
 V.zF (λ_=>⟨_,.nil⟩) λa _ f q=>bJ q λp q=>ar (e _ _ a p) λ_ r=>ar (f q) λ_ g=>⟨_,.cons r g⟩
def sF(V:aG c w F d v u)(a:xI v):∃as,Reads h u (gp v) as:=by
 revert V;exact GC (G:=λv=>aG c w F d v u->∃as,Reads h u (gp v) as) a (λV=>V.El▸⟨_,.none⟩) (λb V=>V.mX▸⟨_,.bool b⟩) (λi V=>ar V.i8 λt e=>e▸⟨_,.int i t⟩) λs _ V=>ar V.IL λt e=>e▸⟨_,.str s t⟩
def xT(g:∀v u,aG c w F d v u->bC n v->∃as,Reads h u (gp v) as){b:ah}{f:aQ}(e:h.get? a=some (listOf f.toArray i))(V:ax c w F d b f)(q:b.all (bC n)):∃as,Reads h (.ref a) (gp (.list b)) as:=
 ar (AQ g V q) λ_ r=>⟨_,.list e rfl rfl r⟩
def vO(g:∀v u,aG c w F d v u->bC n v->∃as,Reads h u (gp v) as){b:ah}{f:aQ}{o:Obj}(e:h.get? a=some o)(k1:o.cls=.type "tuple")(k2:o.data=.seq f.toArray i)(V:ax c w F d b f)(q:b.all (bC n)):∃as,Reads h (.ref a) (gp (.tuple b)) as:=
 ar (AQ g V q) λ_ r=>⟨_,.tuple e k1 k2 r⟩
def IQ(i:On F h) n:∀(v:af) (u:Value),aG c w F d v u->bC n v->∃as,Reads h u (gp v) as:=by
 induction n with
 |zero=>exactλv u V b=>sF V b
 |succ n j=>
  intro v u V b;revert V;exact Nf (G:=λv=>aG c w F d v u->∃as,Reads h u (gp v) as) b (λk V=>sF V k) (λl q V=>eV V.jk λa m p e f g=>e▸xT j (i _ _ f) g q) λl q V=>tc V.ko λa m p o e f k1 k2 g=>e▸vO j (i _ _ f) k1 k2 g q
end
section
variable{X:Cx}{S:a0}{g:Env}{A:Around}{E:dy}{F D J N H:bj}{d C T B:aZ}{l Y n U:St}{f O L M:Shared}
def dM(R:R0 X F H d cells f)(V:aG X.prog X.w F d v u)(e:aO cells v=a)(h:mS a=false)(j:a≠ .ae):aG X.prog X.w F d a u:=by
 subst e;revert h j
 exact V.casesOn (motive_1:=λv u _=>mS (aO cells v)=false->aO cells v≠ .ae->aG X.prog X.w F d (aO cells v) u) (λ_ _=>.none) (λb _ _=>.bool b) (λi t _ _=>.int i t) (λs t _ _=>.str s t)
  (λ_ h j=>gH (R.xD _ _ (ej j) j) λ_ _ _ _ c _=>bx c.obj h) (λ_ _ c h _=>bx c.obj (IP c▸h)) λk k1 k2 m o c _ _=>.dJ k k1 k2 m o c
def GF(R:R0 X F H d b f)(V:aG X.prog X.w F d v u)(h:xI (aO b v)):aG X.prog X.w F d (aO b v) u:=by
 generalize e:aO b v=a at h;revert e;exact GC (G:=λa=>aO b v=a->aG X.prog X.w F d a u) h (λe=>dM R V e rfl af.noConfusion) (λ_ e=>dM R V e rfl af.noConfusion) (λ_ e=>dM R V e rfl af.noConfusion) λ_ _ e=>dM R V e rfl af.noConfusion
def gQ(R:R0 X F H d cells f)(V:aG X.prog X.w F d v u)(h:bC 8 (aO cells v)):∃as,Reads f.heap u (gp (aO cells v)) as:=
 B6 h (λh=>B6 h (λh=>sF (GF R V h) h) λi e q=>(sA e).symm▸tc (qp R V (sA e)) λa j k o e b k1 k2 c=>e▸vO (IQ R.fz 7) b k1 k2 c q)
  λi e q=>(hZ e).symm▸eV (cJ R V (hZ e)) λa j k e b c=>e▸xT (IQ R.fz 7) b c q
def GG{b:Array (Int×Value)}{s:Nat}{t:SetTable}{o:aS}{w:World}{prog:Program}(I:eY w b t o){a:Addr}{h:Heap}(u:h.get? a=some {cls:=.type "set",data:=.set b s t}):
  h.SetOf (intKind prog w) a (λk=>decide (k∈o)) o.length:=
 abh _ b s t u ⟨rfl,rfl,rfl⟩ rfl (λe p=>ar (aaH.mp p) λi c=>dm (I.MN i e (KE▸c)) λx tk _ q=>q▸⟨ay x (acA _ _ _ _) rfl,rfl⟩)
  (λk=>abZ.trans ⟨λm=>ar (aaH.mp m) λi c=>
    have j:i<b.size:=I.size▸(wP.mp c).1
    dm (I.MN i b[i] (aaC j)) λx tk r e=>ay (b[i]) (Array.getElem_mem_toList j) (by rw[e,<-se r c];exact acA _ _ _ _),
   λz=>aj z λe p v=>ar (aaH.mp p) λi c=>dm (I.MN i e (KE▸c)) λx tk r q=>
    (intKind prog w).inj _ _ _ v (show(intKind prog w).is x e.2=true from q▸acA prog w x tk)▸wE r⟩) I.small I.fits I.size
def uO(R:R0 X F H d cells f)(V:aG X.prog X.w F d v u)(e:aO cells v=.set xs):
  ∃a b c t,u=.ref a/\f.heap.get? a=some {cls:=.type "set",data:=.set b c t}/\eY X.w b t xs:=by
 exact rR (ku R V e rfl) λa o h i j _ _=>B0 j.Ro λb c t q r=>⟨a,b,c,t,h,q▸i,r⟩
def vP{c:aS}{h:aQ}(q:c.length=h.length) k:(valueAt (c.zip h) k).isSome=decide (k∈c):=by
 unfold valueAt;rw[Option.isSome_map,Bool.eq_iff_iff,List.find?_isSome,abZ]
 exact⟨λz=>aj z λp r e=>s5 e▸(List.of_mem_zip (a:=p.1) (b:=p.2) r).1,λm=>ar (aaH.mp m) λi o=>have j:=(wP.mp o).1
  ⟨(k,h[i]'(q▸j)),aaH.mpr ⟨i,List.getElem?_zip_eq_some.mpr ⟨o,f0 _⟩⟩,FM rfl⟩⟩
def Kn(R:R0 X F H d cells f)(V:aG X.prog X.w F d v u)(e:aO cells v=.tuple xs):∃a,u=.ref a:=rR (ku R V e rfl) λa _ h _ _ _ _=>⟨a,h⟩
def ij(R:R0 X F H d cells f)(V:aG X.prog X.w F d v u)(h:c7 (aO cells v) Q):∃i t,u=.int i t/\Q i:=
 aj (fk h) λi e q=>ar ((dM R V e rfl af.noConfusion).i8) λt e=>j6 i t e q
def GH(R:R0 X F H d cells f)(V:aG X.prog X.w F d v u)(h:Gq 1 (aO cells v)):u=.none:=(dM R V (MY h) rfl af.noConfusion).El
def IS(R:R0 X F H d cells f)(V:aG X.prog X.w F d v u)(h:Yz (aO cells v) Q):u=.none/\Q:=dF h (λe q=>⟨GH R V e,q⟩) λ_ h=>h.elim
def Uu(R:R0 X F H d cells f)(V:aG X.prog X.w F d v u)(h:D7 (aO cells v) Q):Q (u==.none):=
 dF h (λe q=>(v6 (λz:Value=>Q (z==Value.none)) (GH R V e)).mpr q) λ_ h=>dF h (λe q=>(aaV.mp e).elim (λe=>ar (Gw e) λi e=>ar ((dM R V e rfl af.noConfusion).i8) λt e=>e▸q)
  λe=>ar (Gv e) λb e=>ar (Kn R V e) λa e=>e▸q) λ_ h=>h.elim
def Uv(b:Bool){Q:Bool->Prop}{P:dy}(R:R0 X F H d cells f)(o:aG X.prog X.w F d Q1 Q2)(s:aG X.prog X.w F d Q3 Q4)(j:A.units+65<cLine)
  (h:YA (aO cells Q1) (aO cells Q3) Q) (k:∀r tk,Q r->P (.bool (if b=true then !r else r)) {f with toks:=tk}):wpAny (model X.prog X.w) A (compareOp (if b=true then .NotIn else .In) Q2 Q4) P E f:=by
 refine gw h (λh=>gw h (λh=>cY h λw x h=>ar (gQ R o w) λas m=>ar (gQ R s x) λbs c=>have c1:=kz _ w;have c2:=kz _ x
  gw h (λh=>gw h False.elim λy e q=>?_) λy e q=>?_) λp e q=>?_) λy e q=>?_
 ·rw[sA e]at c c2
  cases b
  ·exact SeqAt.in_tuple_reads c m (abQ c2) (abQ c1) (room_in_shaped c1 j) (rq _ _▸k _ _ q)
  ·exact SeqAt.notIn_tuple_reads c m (abQ c2) (abQ c1) (room_in_shaped c1 j) (rq _ _▸k _ _ q)
 ·rw[hZ e]at c c2
  cases b
  ·exact SeqAt.in_list_reads c m (abQ c2) (abQ c1) (room_in_shaped c1 j) (rq _ _▸k _ _ q)
  ·exact SeqAt.notIn_list_reads c m (abQ c2) (abQ c1) (room_in_shaped c1 j) (rq _ _▸k _ _ q)
 ·refine dm (ij R o q) λi t u q=>rR (kJ R s (te e)) λa ws v z G _ V=>u▸v▸?_
  cases b
  ·exact wpAny_in_of (acA _ _ _ _) V z.mapOf (vP G _▸k _ _ q)
  ·exact wpAny_notIn_of (acA _ _ _ _) V z.mapOf (vP G _▸k _ _ q)
 ·refine dm (ij R o q) λi t u q=>VC (uO R s (MV e)) λa es ep tt v Z I=>u▸v▸?_
  cases b
  ·exact wpAny_inSet_of (acA _ _ _ _) rfl (GG I Z) (k _ _ q)
  ·exact wpAny_notInSet_of (acA _ _ _ _) rfl (GG I Z) (k _ _ q)
def wZ{Q:Int->Int->Prop}{G:Value->Value->Prop}(R:R0 X F H d cells f)(a:aG X.prog X.w F d b c)(m:aG X.prog X.w F d o p)(h:c7 (aO cells b) λx=>c7 (aO cells o) λy=>Q x y)
  (k:∀i t j u,Q i j->G (.int i t) (.int j u)):G c p:=dm (ij R a h) λi t e q=>dm (ij R m q) λj u r q=>e▸r▸k i t j u q
def Ca(R:R0 X F H d cells f)(c:aG X.prog X.w F d t u)(i:aG X.prog X.w F d v w)(o:A.units+65<cLine)
  (h:xJ op (aO cells t) (aO cells v) Q) (k:∀r tk,Q r->P (.bool r) {f with toks:=tk}):wpAny (model X.prog X.w) A (compareOp op u w) P E f:=by
 cases op
 ·exact cY h λj m q=>ar (gQ R c j) λas p=>ar (gQ R i m) λx s=>eq_dataH p s (kz _ j) (kz _ m) (Nat.lt_of_succ_lt o) (k _ _ q)
 ·exact cY h λj m q=>ar (gQ R c j) λas p=>ar (gQ R i m) λx s=>ne_dataH p s (kz _ j) (kz _ m) (Nat.lt_of_succ_lt o) (k _ _ q)
 ·exact wZ (G:=λa b=>wpAny _ A (compareOp .Lt a b) P E f) R c i h λ_ _ _ _ q=>PyProof.Rows.lt_int (k _ _ q)
 ·exact wZ (G:=λa b=>wpAny _ A (compareOp .LtE a b) P E f) R c i h λ_ _ _ _ q=>le_int (k _ _ q)
 ·exact wZ (G:=λa b=>wpAny _ A (compareOp .Gt a b) P E f) R c i h λ_ _ _ _ q=>gt_int (k _ _ q)
 ·exact wZ (G:=λa b=>wpAny _ A (compareOp .GtE a b) P E f) R c i h λ_ _ _ _ q=>ge_int (k _ _ q)
 ·exact aX (IS R i h) λe q=>e▸is_none (k _ f.toks (Uu R c q))
 ·exact aX (IS R i h) λe q=>e▸isNot_none (k _ f.toks (Uu R c q))
 ·exact Uv false R c i o h k
 ·exact Uv true (Q:=λr=>Q (!r)) R c i o h λr tk q=>k _ tk q
end
section
variable{X:Cx}{S:a0}{env:Env}{A:Around}{E:dy}{F U y G H:bj}{j T B D:aZ}{d O C J:St}{g L s I:Shared}{n:Nat}
def Lv.Rx(h:Lv A n):A.units+65<cLine:=IN (Nat.add_le_add_right (o0 (T0 _ _) h.2.2) 65) (by decide:9000+65<cLine)
def VQ(m:Lv A n)(o:behindInMarks op r=false)
  (h:aU X S env A E (eval l env) (λe d=>aU X S env A E (eval r env) (λf d=>xJ op (aO d.cells e) (aO d.cells f) λr=>Q (.bool r) d) d) d):
  aU X S env A E (eval (.Compare l [op] [r] p) env) Q d:=λF H j g P R k=>
 wpAny_Compare1 (h F H j g _ R λe s y B C a i t u=>u y H B s _ i.bu λf I G D J b c v q=>
  Ca c.bu.r0 (t.aT c.le c.jP) v m.Rx q λr tk z=>k _ _ _ _ _ _ ((i.trans c).trans (cN.td c.bu _)) (.bool _) z) o
def VR(m:Lv A n)(o:behindInMarks op r=false)
  (h:aU X S env A E (eval l env) (λe d=>aU X S env A E (eval r env) (λf d=>xJ op (aO d.cells e) (aO d.cells f) λr=>Q r d) d) d):
  g8 X S env A E (isTrue (.Compare l [op] [r] p) env w) Q d:=λF H j g P R k=>
 wpAny_isTrue_Compare1 (h F H j g _ R λe s y B C a i t u=>u y H B s _ i.bu λf I G D J b c v q=>
  Ca c.bu.r0 (t.aT c.le c.jP) v m.Rx q λr tk z=>acI (k _ _ _ _ _ ((i.trans c).trans (cN.td c.bu _)) z)) o
def wD l e b f c p(w:Sem Value)(h:behindInMarks b c=false):isTrue (.Compare l [e,b] [f,c] p) env w=
  (eval l env>>=λa=>testChain p a [e,b] [eval f env,eval c env]):=by
 show(eval l env>>=λa=>testChain p a [e,b] [eval f env,markedBehindIn b c (eval c env)])=_;rw[markedBehindIn_of_false h]
def xU(h:wpAny M A m P E g):wpAny M A (operate c m) P E g:=λb p a=>by
 simp only[Sem.wp_operate];exact h b p a
def xV(h:P () g):wpAny M A (release b c) P E g:=λe p a=>by
 simp only[Sem.wp_release];exact h
def Ry(u:Lv A n)(hr:behindInMarks v x=false)
  (h:aU X S env A E (eval l env) (λM d=>aU X S env A E (eval Q6 env) (λi d=>xJ Q5 (aO d.cells M) (aO d.cells i) λr=>(r=false->Q false d)/\
   (r->aU X S env A E (eval x env) (λV d=>xJ v (aO d.cells i) (aO d.cells V) λr=>Q r d) d)) d) d):
  g8 X S env A E (isTrue (.Compare l [Q5,v] [Q6,x] p) env w) Q d:=λF H j g P R k=>by
 refine(wD _ _ _ _ _ _ _ hr)▸dL (h F H j g _ R λM s y B C a m Y Z=>dL (KB (Z y H B s _ m.bu λi I G D J b e c9 q=>?_)));have k:∀b tk U T O L,cN X S env G H D I U T O L->Q b O->P b {L with toks:=tk}:=λb tk U T O L N z=>k _ _ _ _ _ (((m.trans e).trans N).trans (.td N.bu tk)) z;refine dL (aaf (dL (KB (Ca e.bu.r0 (Y.aT e.le e.jP) c9 u.Rx q λr tk z=>dL (xV (dL (KB (acI ?_))))))));have e:=e.bu;clear m Y Z q h;cases r with
 |false=>exact s4 (k _ _ _ _ _ _ (.gP e) (z.1 rfl))
 |true=>exact dL (KB (z.2 rfl G H D _ _ (e.td tk) λV zy aai Ve aaj c f o t=>dL (aaf (dL (xU (Ca f.bu.r0 (c9.aT f.le f.jP) o u.Rx t λr tk' z=>
   KB (acI (k _ _ _ _ _ _ ((cN.td e tk).trans f) z))))))))
def VS(h:g8 X S env A E (allTrue .And a env) Q d):g8 X S env A E (isTrue (.BoolOp .And a p) env w) Q d:=λF H j g P R k=>wpAny_isTrue_BoolOp (h F H j g P R k)
def YK(h:g8 X S env A E (allTrue .Or a env) Q d):g8 X S env A E (isTrue (.BoolOp .Or a p) env w) Q d:=λF H j g P R k=>wpAny_isTrue_BoolOp (h F H j g P R k)
def GI(h:Q true d):g8 X S env A E (allTrue .And [] env) Q d:=λF H j g P R k=>wpAny_allTrue_And_nil (k _ _ _ _ _ (cN.gP R) h)
def Ko(h:Q false d):g8 X S env A E (allTrue .Or [] env) Q d:=λF H j g P R k=>wpAny_allTrue_Or_nil (k _ _ _ _ _ (cN.gP R) h)
def Em(h:g8 X S env A E (isTrue e env (eval e env)) (λb d=>(b=false->Q false d)/\(b->g8 X S env A E (allTrue .And a env) Q d)) d):
  g8 X S env A E (allTrue .And (e::a) env) Q d:=λF H j g P R k=>wpAny_allTrue_And_cons (h F H j g _ R λb s y B C N q=>by
  cases b
  ·exact k _ _ _ _ _ N (q.1 rfl)
  ·exact q.2 rfl _ _ _ _ _ N.bu λb I G D J c z=>k _ _ _ _ _ (N.trans c) z)
def GJ(h:g8 X S env A E (isTrue e env (eval e env)) (λb d=>(b->Q true d)/\(b=false->g8 X S env A E (allTrue .Or a env) Q d)) d):
  g8 X S env A E (allTrue .Or (e::a) env) Q d:=λF H j g P R k=>wpAny_allTrue_Or_cons (h F H j g _ R λb s y B C N q=>by
  cases b
  ·exact q.2 rfl _ _ _ _ _ N.bu λb I G D J c z=>k _ _ _ _ _ (N.trans c) z
  ·exact k _ _ _ _ _ N (q.1 rfl))
abbrev bP(Q:Bool->St->Prop)(v:af)(d:St):Prop:=vN v λb=>Q b d
def En
  (h:aU X S env A E (eval e env) (bP λb d=>(b=false->Q false d)/\(b->aU X S env A E (boolOp p .And (evalEach (f::c) env)) (bP Q) d)) d):
  aU X S env A E (boolOp p .And (evalEach (e::f::c) env)) (bP Q) d:=λF H j g P R k=>
 dL (h F H j g _ R λv s y B C a N V q=>dL (aaf (aj (kq q) λb e q=>(e▸V).mX▸dL (KB (acI (by
  clear e;cases b
  ·exact s4 (k _ _ _ _ _ _ N (.bool _) (q.1 rfl))
  ·exact q.2 rfl _ _ _ _ _ N.bu λv I G D J a i V z=>k _ _ _ _ _ _ (N.trans i) V z))))))
def GK
  (h:aU X S env A E (eval e env) (bP λb d=>(b->Q true d)/\(b=false->aU X S env A E (boolOp p .Or (evalEach (f::c) env)) (bP Q) d)) d):
  aU X S env A E (boolOp p .Or (evalEach (e::f::c) env)) (bP Q) d:=λF H j g P R k=>
 dL (h F H j g _ R λv s y B C a N V q=>dL (aaf (aj (kq q) λb e q=>(e▸V).mX▸dL (KB (acI (by
  clear e;cases b
  ·exact q.2 rfl _ _ _ _ _ N.bu λv I G D J a i V z=>k _ _ _ _ _ _ (N.trans i) V z
  ·exact s4 (k _ _ _ _ _ _ N (.bool _) (q.1 rfl))))))))
def Ng(R:R0 X F H j cells g)(V:aG X.prog X.w F j v u)
  (h:uL (aO cells v) Q) (k:∀r tk,Q r->P r {g with toks:=tk}):wpAny (model X.prog X.w) A (truthy u) P E g:=
 gw h (λh=>gw h (λh=>gw h (λh=>dF h (λe q=>(GH R V e)▸s4 (k _ g.toks q)) λ_ h=>h.elim)
   λc e q=>eV (cJ R V (hZ e)) λa f o e m l=>e▸wpAny_truthy_list (cV m) (ST▸l.length▸Gs q.1) ((l.zF (P:=λc f=>(!c.isEmpty)= !f.toArray.isEmpty) rfl λ_ _ _=>rfl)▸k _ _ q.2))
  λi e q=>ar ((dM R V (sy e) rfl af.noConfusion).i8) λt e=>e▸truthy_int (show P (!decide (i=0)) _ from decide_not (p:=i=0)▸k _ g.toks q))
  λb e q=>(dM R V (B1 e) rfl af.noConfusion).mX▸acI (k _ g.toks q)
def Nh(h:aU X S env A E w (λv d=>uL (aO d.cells v) λb=>Q b d) d)
  (c:isTrue e env w=(do let v<-w;standAt e.pos;holding [v] (truthy v))):g8 X S env A E (isTrue e env w) Q d:=λF H j g P R k=>
 wpAny_isTrue_value (h F H j g _ R λv s y B C a N V q=>Ng N.bu.r0 V q λr tk z=>k _ _ _ _ _ (N.trans (cN.td N.bu _)) z) c
def mA(h:aK a=false):starEach (a::as) env=(false,eval a env)::starEach as env:=by cases a<;>first|rfl|exact Bool.noConfusion h
def bD{as:List aD}(h:as.any aK=false):(backTo pos (starEach as env)).any (·.1)=false:=by
 induction as with
 |nil=>rfl
 |cons a as b=>have h:=ab2.mp h;exact(v6 (λl=>(backTo pos l).any (·.1)) (mA h.1)).trans (b h.2)
def rv(h:Q [] d):fE X S env A E (spliced (backTo p (starEach [] env))) Q d:=λF H j g P R k=>wpAny_items_nil (k _ _ _ _ _ _ (cN.gP R) .nil h)
def tp(e:aK a=false)
  (h:aU X S env A E (eval a env) (λv d=>fE X S env A E (spliced (backTo p (starEach as env))) (λc d=>Q (v::c) d) d) d):fE X S env A E (spliced (backTo p (starEach (a::as) env))) Q d:=λF H j g P R k=>
 wpAny_items_cons (h F H j g _ R λv s y B C a N V q=>q _ _ _ _ _ N.bu λc I G D J as b f z=>k _ _ _ _ _ _ (N.trans b) (.cons (V.aT b.le b.jP) f) z) (mA e)
def R0.uP(R:R0 X F H j cells g)(h:g.heap.objs.size<=a):(a==sysModules)=false:=
 aj (R.r6.MR g.heap R.Yx).2.2 λc b _=>beq_eq_false_iff_ne.mpr λe=>ac6 sysModules (UF (abV (by decide:sysModules<cStatics) b.lt) (e▸h))
def Rz(e:n=k)(h:n<=100):k<=sizeLine:=e▸o0 h (by decide)
def IT(h:∀F H j g (P:dy),c6 X S env F H j d g->
  (∀o s y B C c tk,cN X S env F H j g y B C s->o.isFreed=false->cM X.prog X.w y B c o->Q c C->P (.ref s.heap.objs.size) {s with heap:=s.heap.push o,toks:=tk})->wpAny (model X.prog X.w) A t P E g):
  j8 X S env A E t Q d:=λF H j g P R k=>h F H j g P R λo s y B C c tk N a f q=>
 haveI i:cN X S env y H B s y B C {s with heap:=s.heap.push o,toks:=tk}:=cN.ext N.bu (λb x e=>wT _ e)
 k _ o _ y B C c (N.trans i) (GM _ a) (N.bu.r0.hW (v0 _)) (N.bu.r0.mu (v0 _)) (N.bu.r0.su (v0 _)) (N.bu.nX (v0 _)) (N.bu.r0.uP (v0 _)) f q
def RA(h:fE X S env A E (spliced (backTo p (starEach as env))) (λb d=>b.length<=100/\Q (.list b) d) d):j8 X S env A E (eval (.List as p) env) Q d:=
 IT λF H j g P R k=>wpAny_List (h F H j g _ R λb s y B C a N V q=>⟨Rz V.length q.1,k _ s y B C _ s.toks N rfl (.list V) q.2⟩)
def Eo(h:fE X S env A E (spliced (backTo p (starEach as env))) (λb d=>b.length<=100/\Q (.tuple b) d) d):j8 X S env A E (eval (.Tuple as c p) env) Q d:=
 IT λF H j g P R k=>wpAny_Tuple (h F H j g _ R λb s y B C a N V q=>⟨Rz V.length q.1,k _ s y B C _ s.toks N rfl (.tuple rfl rfl V) q.2⟩)
end
section
variable{d:Program}{w:World}{F:bj}{e bf:aZ}
def nZ{x v}(h:aG d w F e x v):x.nc->aG d w F bf x v:=
 aG.rec (motive_1:=λx v _=>x.nc->aG d w F bf x v) (motive_2:=λk l _=>eJ k->ax d w F bf k l) (motive_3:=λc o _=>c.nc->cM d w F bf c o)
  (λ_=>.none) (λb _=>.bool b) (λi t _=>.int i t) (λs t _=>.str s t) (λh q=>Bool.noConfusion q) (λm h _ f q=>.xC m h (f q)) (λg k1 k2 n j _ f q=>.dJ g k1 k2 n j (f q))
  (λ_=>.nil) (λ_ _ a b q=>bJ q λp q=>.cons (a p) (b q)) (λ_ f q=>.list (f q)) (λg j _ f q=>.tuple g j (f q)) (λ_=>.range) (λg j _ f q=>.dict g j (f q)) (λh _=>.set h) (λh q=>Bool.noConfusion q) (λh _ f q=>.attrs h (f q)) h
def mY{xs b}(h:ax d w F e xs b):eJ xs->ax d w F bf xs b:=h.zF (λ_=>.nil) λ{x _ _ _} a _ k q=>bJ (a:=x.nc) q λp q=>.cons (nZ a p) (k q)
end
section
variable{X:Cx}{S:a0}{i:Env}{A:Around}{E:dy}{F L aF Y H:bj}{B O au bw:aZ}{j aY aA bL:St}{D J ai U:Shared}{n:Nat}
def rx:Le (rest F B h) (rest F [] h):=λb o e=>by
 refine cY (bY.mp e) λa d c=>?_;exact bY.mpr ⟨a,acS,c⟩
def AR(g:Lv A n)(R:c6 X S i F H B j D)(V:ax X.prog X.w F B args us)(l:eJ args)(h:nW X n f args Q)
  (k:∀v J L a,cN X S i F H B D L B j J->aG X.prog X.w L B a v->Q a->P v J):wpAny (model X.prog X.w) A (call f us) P E D:=by
 refine wpAny_call (aaS (h A F (rest F [] D.heap) D us E g R.r0.D2 (mY V l)) λr J z=>?_);rcases r with e|(_|_|_|v)<;>first|exact z|exact z.elim|skip
 refine gH z λL a c d p q=>?_
 haveI s:∀b o,L b=some o->rest F B D.heap b=none:=λb o e=>by
  haveI:=d.gn b o e;exact nf λx q=>sn (rx b x q) this
 exact k _ _ _ _ ⟨c,hU.refl _,R.r0.MU c d,R.a8.zL (λb o e=>d.lE b o (rx b o e)) c (hU.refl _) s λa m=>fY m⟩ (p.aT (Le.refl _) λn a e=>by exact nx e) q
def AS(p:Lv A n)(R:c6 X S i F H B j D)(V:ax X.prog X.w F B args us)(h:mz X n f args j.cells Q)
  (k:∀v J L O d a,cN X S i F H B D L O ⟨j.aC,d⟩ J->aG X.prog X.w L O a v->Q a d->P v J):wpAny (model X.prog X.w) A (call f us) P E D:=by
 refine wpAny_call (aaS (h A F (rest F B D.heap) B D us E p R.r0.out V) λr J z=>?_);rcases r with e|(_|_|_|v)<;>first|exact z|exact z.elim|skip
 refine tc z λL O d a g l c s q=>?_;exact k _ _ _ _ _ _ ⟨g,l,R.r0.zL c,R.a8.zL c.lE g l (λb o e=>c.gn b o e) λa m=>(c.nV a m).1⟩ s q
def cL{l:List (Bool×Sem Value)}(c:l.any (·.1)=false)(h:wpAny M A (spliced l) (λa s=>P ⟨a,[]⟩ s) E D):wpAny M A (evalArgs f true l []) P E D:=by
 cases l with
 |nil=>exact dL (ab6 h (λa e d=>dL (s4 (KB (dL (s4 (dL (s4 (s4 d)))))))) λ_ _ x=>x)
 |cons x r=>
  obtain⟨b,t⟩:=x;cases b with
  |true=>exact Bool.noConfusion c
  |false=>exact Calls.evalArgs_plain h
def sG(h:mV X.K S x=some (.ref f)):Gf X x=some f:=v6 B2 (M9 h).2
def lH{as:List aD}(b:mV X.K S x=some (.ref f))(c:keepIn X.K (.ref f))(a:as.any aK=false)
  (h:∀F H B D (P:dy),c6 X S i F H B j D->XT X S i F H B D Q P->
   wpAny (model X.prog X.w) A (spliced (backTo q (starEach as i))) (λd J=>X.K.In J.heap/\wpAny (model X.prog X.w) A (call (.ref f) d) P E J) E D):
  aU X S i A E (eval (.Call (.Name x p) as [] q) i) Q j:=λF H B D P R k=>by
 refine dL (nY R b ?_);exact callWith_of (P:=λh=>X.K.In h) (by refine(bD a).symm▸?_;rfl) (keeps_K c) (cL (bD a) (h F H B D P R k))
def Cb(d:Lv A n){as:List aD}(e:∃f,mV X.K S x=some (.ref f)/\keepIn X.K (.ref f))(l:as.any aK=false)
  (h:fE X S i A E (spliced (backTo q (starEach as i))) (λb j=>ba X n x b (λv=>Q v j)) j):aU X S i A E (eval (.Call (.Name x p) as [] q) i) Q j:=by
 refine aj e λf c m=>?_;refine lH c m l λF H B D P R k=>h F H B D _ R λw ai aF au aA b N V z=>⟨N.bu.r0.k,?_⟩;refine cU z λg o r s=>?_;obtain rfl:=se (sG c) o;exact AR d N.bu V r s λv U Y a t u z=>k _ _ _ _ _ _ (N.trans t) u z
def Ni(e:Lv A n){as:List aD}(l:∃f,mV X.K S x=some (.ref f)/\keepIn X.K (.ref f))(m:as.any aK=false)
  (h:fE X S i A E (spliced (backTo q (starEach as i))) (λb j=>ie X n x b j.cells (λv c=>Q v ⟨j.aC,c⟩)) j):aU X S i A E (eval (.Call (.Name x p) as [] q) i) Q j:=by
 refine aj l λf d o=>?_;refine lH d o m λF H B D P R k=>h F H B D _ R λw ai aF au aA b N V z=>⟨N.bu.r0.k,?_⟩;refine aj z λg r s=>?_;obtain rfl:=(se (sG d) r).symm;exact AS e N.bu V s λv U Y bw c a t u z=>k _ _ _ _ _ _ (N.trans t) u z
def Kp{d c:Type}{o:Option d}{p:Option c}{q:d->Option c}{b:c}{G:Prop}(h:o.elim p q=some b)(k:p=some b->G)(l:∀a,o=some a->q a=some b->G):G:=by
 cases o with
 |none=>exact k h
 |some a=>exact l a rfl h
def IU{h:Heap}{b o:Obj}(c:h.get? a=some b)(k1:b.cls=.ref C)(k2:b.dict=some d)(e:notCls b)(f:h.get? d=some o):InstAt h a b C (some o):=⟨c,k1,e,by rw[k2];exact f⟩
def tq(R:R0 X F H B cells D)(V:aG X.prog X.w F B v u)(s:AK cells v=some p):
  ∃a g b f m,u=.ref a/\InstAt D.heap a g p.1 (some (dictOf b m))/\iU b p.2.1 f/\ax X.prog X.w F B p.2.2 f:=
 Kp s (λh=>Kp h nx λn e h=>Kp h nx λp t h=>Kp h nx λq w h=>BT h▸gH (R.IM (wW e▸V) (IG t) af.noConfusion) λa o e I x y=>aj y.D0 λd l z=>
   gm (R.cell (D5 w) af.noConfusion) λM C k1 k2 k=>eV k.rl λb f n q p r=>Yr a o b f n e (l▸IU (l▸x) rfl rfl rfl (se z k1▸q▸k2)) p r)
  λp e h=>BT h▸VE (MX e▸V).AG λa d g C e G k1 k2 k f2 c=>eV c.rl λb f n q p r=>Yr a g b f n e (IU (R.fz _ _ G) k1 k2 k (q▸R.fz _ _ f2)) p r
def AU:getL x (⟨b,.str y tk,v⟩::a)=bif y==x then some (some v)else getL x a:=by
 show(match(match(y==x)with|true=>some (⟨b,.str y tk,v⟩:DictEntry)|false=>a.find? (·.key.isStr x))with|some e=>some (some e.val)|none=>_)=_;cases y==x<;>rfl
def GL(h:iU k c l):∀{d:ah},ax X.prog X.w F B d l->∃r,getL x k=some r/\(mT x c d).elim (r=none) λu=>∃w,r=some w/\aG X.prog X.w F B u w:=by
 induction h with
 |nil=>exactλ_=>ay none rfl rfl
 | @cons s y tk v k c l h m=>
  refineλ{d} V=>gm V.MQ λz f e a b=>e▸wS (λq:y=x=>ay (some v) (AU.trans (v6 (bif · then _ else _) (aae.mpr q))) ?_) λq=>aj (m b) λr o p=>ay r (AU.trans ((v6 (bif · then _ else _) (beq_eq_false_iff_ne.mpr q)).trans o)) ?_
  ·exact have g:mT x (y::c) (z::f)=some z:=if_pos q;g▸ay v rfl a
  ·exact have g:mT x (y::c) (z::f)=mT x c f:=if_neg q;g▸p
def ry(h:iU a ns ws)(V:ax X.prog X.w F B b ws):(∀u,mT x ns b=some u->∃w,getL x a=some (some w)/\aG X.prog X.w F B u w)/\(mT x ns b=none->getL x a=some none):=
 aj (GL h V (x:=x)) λr c d=>⟨λu e=>aj (ID (q:=λu=>∃w,r=some w/\aG X.prog X.w F B u w) e d) λw e h=>ay w (e▸c) h,λe=>IE e d▸c⟩
def aG.Nj(h:aG X.prog X.w F B v u):handedIn u:=h.casesOn (motive_1:=λ_ u _=>handedIn u) rfl (λ_=>rfl) (λ_ _=>rfl) (λ_ _=>rfl) (λ_=>rfl) (λ_ _ _=>rfl) λ_ _ _ _ _ _=>rfl
def AV(a:eK e):eval (.Attribute e x p) i=(do
   let o<-eval e i
   standAt p.atName
   let r<-holding [o] (getAttr o x true)
   letTemporaryGo e o r
   pure r):=v6 (λt=>do let o<-t;standAt p.atName;let r<-holding [o] (getAttr o x true);letTemporaryGo e o r;pure r) (II a)
def abr(X:Cx)(x:Str)(Q:af->St->Prop)(v:af)(j:St):Prop:=∃p u,AK j.cells v=some p/\p.1∈ff X.K/\mT x p.2.1 p.2.2=some u/\Q u j
def RB(f:eK e)(g:Na X.K x)(h:aU X S i A E (eval e i) (abr X x Q) j):aU X S i A E (eval (.Attribute e x p) i) Q j:=λF H B D P R k=>
 Attribute_any_ (h F H B D _ R λv ai aF au aA a N V z=>gH z λp u l o r q=>MM (tq N.bu.r0 V l) λa d G M m e I s t=>aj ((ry s t).1 u r) λw hw c=>bJ (WP.mp g p.1 o) λc1 b=>bJ c1 λc1 y=>
  aj (AM b) λT C b=>e▸get_value N.bu.r0.k I (plainGet_of c1).1 (findObj_own y C b hw) c.Nj (k _ _ _ _ _ _ (N.trans (.td N.bu _)) c q)) (AV f)
def tr(b:eK o):eval (.Call (.Attribute o m q) as [] p) i=(do
  let a<-eval o i
  standAt q.atName
  methodCall o m q p i a (as.length+0) (backTo p (starEach as i)) []):=v6 (λt=>do let a<-t;standAt q.atName;methodCall o m q p i a (as.length+0) (backTo p (starEach as i)) []) (II b)
def AW{as:List aD}(a:as.any aK=false)(b:as.length<20):methodCallForm (as.length+0) (backTo p (starEach as i)) []:=
 PP.mpr ⟨PP.mpr ⟨WP.mpr λx c=>tn (List.any_eq_false.mp (bD (env:=i) (pos:=p) a) x c),rfl⟩,FM (abV b (by decide))⟩
def tu(h:ig q p):methodCallPos true o i q p=pure p:=if_pos (PP.mpr ⟨rfl,h⟩)
def RC(X:Cx)(m:Str)(T:Addr->af->St->Prop)(a:af)(j:St):Prop:=∃p,AK j.cells a=some p/\p.1∈ff X.K/\mT m p.2.1 p.2.2=none/\(∃f,M5 X p.1 m=some f)/\T p.1 a j
def Ep{as:List aD}{Q:af->St->Prop}{T:Addr->af->ah->St->Prop}(Z:eK o)(hm:Eh X.K m)(y:as.any aK=false)(hl:as.length<20)(hp:ig q p)
  (h:aU X S i A E (eval o i) (RC X m λC g j=>fE X S i A E (spliced (backTo p (starEach as i))) (λl j=>T C g l j) j) j)
  (s:∀C f F H B D u G g l j (P:dy),M5 X C m=some f->c6 X S i F H B j D->aG X.prog X.w F B g u->ax X.prog X.w F B l G->T C g l j->
   XT X S i F H B D Q P->wpAny (model X.prog X.w) A (call (.ref f) (u::G)) P E D):
  aU X S i A E (eval (.Call (.Attribute o m q) as [] p) i) Q j:=λF H B D P R k=>by
 refine(tr Z)▸dL (h F H B D _ R λu ai aF au aA g N V z=>dL (aaf ?_));refine Vz z λr h1 h2 h4 t h5=>ar t λf t=>MM (tq N.bu.r0 V h1) λa d es ws mm e I hn hv=>bJ (a:=isFn X.K (.ref f)) (b:=keepIn X.K (.ref f)&&plainGet X.K r.1 m) (YG (p:=λf=>isFn X.K (.ref f)&&(keepIn X.K (.ref f)&&plainGet X.K r.1 m)) t (WP.mp hm r.1 h2)) λc1 c=>bJ c λc2 M=>?_;delta methodCall calleeOf;refine(AW y hl).symm▸(if_pos rfl)▸e▸dL (KB (method_fn N.bu.r0.k I (plainGet_of M).1 (plainGet_of M).2 (B3 t) (aae.mp c1) (by show(lookIn m (dictOf es mm)).map _=_;rw[lookIn_dict,(ry hn hv (x:=m)).2 h4];rfl) ?_));refine(tu hp)▸dL (s4 (callWith_of (P:=λh=>X.K.In h) (by refine(bD y).symm▸?_;rfl) (keeps_K c2) (cL (bD y) (h5 _ _ _ _ _ N.bu λl U Y bw bL as w c9 z=>⟨w.bu.r0.k,?_⟩))));exact s r.1 f _ _ _ _ _ _ _ _ _ _ t w.bu ((e▸V).aT w.le w.jP) c9 z λv J L O aY a g9 Ay q=>k _ _ _ _ _ _ ((N.trans w).trans g9) Ay q
def RE(e:Lv A n){as:List aD}(l:eK o)(r:Eh X.K m)(s:as.any aK=false)(t:as.length<20)(b:ig q p)
  (h:aU X S i A E (eval o i) (RC X m λC c j=>fE X S i A E (spliced (backTo p (starEach as i))) (λd j=>mU X n C m (c::d) (λv=>Q v j)) j) j):aU X S i A E (eval (.Call (.Attribute o m q) as [] p) i) Q j:=
 Ep l r s t b h λC f F H B D u N c d j P w R V x z k=>cU z λg y G b=>AR e R (.cons V x) G (se y w▸b) λv U Y a I M z=>k _ _ _ _ _ _ I M z
def Nk(l:Lv A n){as:List aD}(r:eK o)(s:Eh X.K m)(t:as.any aK=false)(w:as.length<20)(b:ig q p)
  (h:aU X S i A E (eval o i) (RC X m λC c j=>fE X S i A E (spliced (backTo p (starEach as i))) (λd j=>qn X n C m (c::d) j.cells (λv e=>Q v ⟨j.aC,e⟩)) j) j):aU X S i A E (eval (.Call (.Attribute o m q) as [] p) i) Q j:=
 Ep r s t w b h λC f F H B D u N c d j P x R V y z k=>aj z λg G b=>AS l R (.cons V y) (se G x▸b) λv U Y bw e a I M z=>k _ _ _ _ _ _ I M z
end
section
variable{X:Cx}{S:a0}{g:Env}{A:Around}{E:dy}{F B C I H:bj}{c z L y:aZ}{j N m M:St}{f J D G:Shared}{n:Nat}
def Nl{a:ah}(h:i<a.length):a[i]?=some (aB a i):=by
 unfold aB;refine(f0 h)▸?_;rfl
def w5{a:ah}{b:aQ}(V:ax X.prog X.w F c a b)(h:i<a.length):∃w,b.toArray[i]?=some w/\aG X.prog X.w F c (aB a i) w:=aj (V.get i _ (Nl h)) λw d e=>ay w (ach.trans d) e
def uQ(h:th s=false):subscripted s false o i=operate [o,i] (getItem o i):=by cases s<;>first|rfl|exact Bool.noConfusion h
def Cc{K:Type}[DecidableEq K]{x k:K}{l:List (K×Value)}:valueAt ((x,w)::l) k=if x=k then some w else valueAt l k:=by
 show(match decide (x=k)with|true=>some (x,w)|false=>l.find? λkv=>kv.1=k).map (λp:K×Value=>p.2)=_;by_cases e:x=k
 ·rw[FM e,if_pos e];rfl
 ·rw[SZ e,if_neg e];rfl
def sH{d:aQ}(V:ax X.prog X.w F c h d) k:∀{b:aS},b.length=d.length->(dQ k b h).elim (valueAt (b.zip d) k=none) λu=>∃w,valueAt (b.zip d) k=some w/\aG X.prog X.w F c u w:=
 V.zF (P:=λh d=>∀{b:aS},b.length=d.length->(dQ k b h).elim (valueAt (b.zip d) k=none) λu=>∃w,valueAt (b.zip d) k=some w/\aG X.prog X.w F c u w) (λ{b} i=>aaZ.mp i▸rfl) λ{v w h d} a _ l b i=>by
  cases b with
  |nil=>exact Nat.noConfusion i
  |cons x b=>
   have l:=l (aa3 i);have o:dQ k (x::b) (v::h)=if x=k then some v else dQ k b h:=rfl
   have p:valueAt ((x::b).zip (w::d)) k=if x=k then some w else valueAt (b.zip d) k:=Cc
   rw[o,p];by_cases e:x=k
   ·rw[if_pos e,if_pos e];exact ay w rfl a
   ·rw[if_neg e,if_neg e];exact l
def Cd{a:aS}{b:aQ}(V:ax X.prog X.w F c d b)(h:a.length=b.length) k:
  (∀u,dQ k a d=some u->∃w,valueAt (a.zip b) k=some w/\aG X.prog X.w F c u w)/\(dQ k a d=none->valueAt (a.zip b) k=none):=
 ⟨λu e=>ID (q:=λu=>∃w,valueAt (a.zip b) k=some w/\aG X.prog X.w F c u w) e (sH V k h),λe=>IE e (sH V k h)⟩
def Er{b:aQ}{h:Heap}{o:Obj}(e:h.get? a=some o)(k1:o.cls=.type "tuple")(k2:o.data=.seq b.toArray d):IsTup h a b.toArray:=⟨_,e,k1,d,k2⟩
def VT{i:Int}(a:0<=i)(b:i<n):seqIndex? i n=some i.toNat:=by
 have e:(if i<0 then i+n else i)=i:=if_neg (Int.not_lt.mpr a);show(if 0<=(if i<0 then i+(n:Int)else i)&&(if i<0 then i+(n:Int)else i)<n then some (if i<0 then i+(n:Int)else i).toNat else none)=_;rw[e];exact if_pos (PP.mpr ⟨FM a,FM b⟩)
def RG(h:0<n):seqIndex? (-1) n=some (n-1):=by
 have e:(-1:Int)+n=((n-1:Nat):Int):=(Int.add_comm ..).trans (Int.ofNat_sub h).symm;show(if 0<=((-1:Int)+n)&&((-1:Int)+n)<n then some ((-1:Int)+n).toNat else none)=_;rw[e];exact if_pos (PP.mpr ⟨FM (IR _),FM (aaY.mpr (Nat.sub_lt h Nat.one_pos))⟩)
def Nm{i:Int}{n:Nat}(a:i<n)(b:n<=aL):i<2^63:=Int.lt_trans a (Gs b)
def RH(R:R0 X F H c cells f)(V:aG X.prog X.w F c a u)(Vb:aG X.prog X.w F c b v)(hs:th s=false)
  (h:IH (aO cells a) b Q) (k:∀r a tk,aG X.prog X.w F c a r->Q a->P r {f with toks:=tk}):wpAny (model X.prog X.w) A (subscriptTail e s u v) P E f:=
 dm (Vb.c7 h) λi t e h=>e▸gw h (λh=>gw h (λh=>gw h False.elim λp e q=>aj q λu' Y q=>rR (kJ R V (te e)) λd ws e hd hl U hm=>
    e▸aj ((Cd U hl _).1 u' Y) λw hw Z=>tail_any hd.typeIs slot_dict_getitem.lookup (wpAny_getItem_of (acA _ _ _ _) hd.mapOf hw (k _ _ _ Z q)) (uQ hs))
   λxs e q=>mr q λY O h3 q=>tc (qp R V (sA e)) λl ws ep o e ho k1 k2 U=>e▸aj (w5 U ((Int.toNat_lt Y).mpr O)) λw hw Z=>
    tail_any (T:="tuple") (ay _ ho k1) PySem.F.slot_tuple_getitem.lookup (PyProof.Rows.getItem_tuple (Er ho k1 k2) (acF (by decide:(-(2^63):Int)<=0) Y) (Nm O h3) (VT Y (ST▸U.length▸O)) hw (k _ _ f.toks Z q)) (uQ hs))
  λxs e q=>eV (cJ R V (hZ e)) λl ws ep e ho U=>e▸tail_any (cV ho).typeIs slot_list_getitem.lookup (q.elim (λq=>mr q λY O h3 q=>aj (w5 U ((Int.toNat_lt Y).mpr O)) λw hw Z=>wpAny_getItem_list (cV ho) Y (Nm O h3) hw (k _ _ f.toks Z q))
   λq=>cY q λe2 O q=>e2▸aj (w5 U (Nat.sub_lt O Nat.one_pos)) λw hw Z=>wpAny_getItem_list_neg (cV ho) (by decide) (Int.neg_le_neg (acd.mpr (ST▸U.length▸O))) (by decide) (x:=w)
    (by rw[ST,<-U.length,Int.add_comm,show((xs.length:Int)+ -1).toNat=xs.length-1 from(v6 Int.toNat (Int.ofNat_sub O).symm)];exact hw) (k _ _ f.toks Z q)) (uQ hs)
end
section
variable{X:Cx}{S:a0}{f:Env}{A:Around}{E:dy}{F O C Y H:bj}{s L D J:aZ}{g aY G bL:St}{y I B U:Shared}{n:Nat}
def RI(j:th i=false)
  (h:aU X S f A E (eval e f) (λv g=>aU X S f A E (eval i f) (λk g=>IH (aO g.cells v) k λu=>Q u g) g) g):
  aU X S f A E (eval (.Subscript e i p) f) Q g:=λF H s y P R k=>
 Subscript_ (h F H s y _ R λu B C D G a d l m=>m _ _ _ _ _ d.bu λv U Y J bL b c o q=>
  RH c.bu.r0 (l.aT c.le c.jP) o j q λr a tk V z=>k _ _ _ _ _ _ ((d.trans c).trans (cN.td c.bu tk)) V z)
def el{c:List (Bool×Sem Value)}(d:(∃T,u=.type T)\/∃i,u=.builtin i)(b:c.any (·.1)=false)
  (h:wpAny M A (evalArgs u true c []) (λa e=>wpAny M A (call u (first++a.pos) a.kw) Q E e) E y):wpAny M A (callWith pos u first c []) Q E y:=by
 rcases d with d|d
 ·obtain⟨T,rfl⟩:=d;exact PySem.callWith_type b h
 ·obtain⟨T,rfl⟩:=d;exact Calls.callWith_builtin b h
def Nn{as:List aD}(b:gZ X.K S x u)(c:(∃T,u=.type T)\/∃i,u=.builtin i)(a:as.any aK=false)
  (h:∀F H s y (P:dy),c6 X S f F H s g y->XT X S f F H s y Q P->
   wpAny (model X.prog X.w) A (spliced (backTo q (starEach as f))) (λd I=>wpAny (model X.prog X.w) A (call u d) P E I) E y):
  aU X S f A E (eval (.Call (.Name x p) as [] q) f) Q g:=λF H s y P R k=>dL (sD R b (el c (bD a) (cL (bD a) (h F H s y P R k))))
def abt(X:Cx)(S:a0)(f:Env)(F H:bj)(s:aZ)(y:Shared)(Q:af->St->Prop)(P:dy):Prop:=∀o B C D G c tk a d,cN X S f F H s y C D G B->(∀b x,B.heap.get? b=some x->a.get? b=some x)->B.heap.objs.size<=d->a.get? d=some o->cM X.prog X.w C D c o->Q c G->P (.ref d) {B with heap:=a,toks:=tk}
def n7(h:∀F H s y (P:dy),c6 X S f F H s g y->
  abt X S f F H s y Q P->wpAny (model X.prog X.w) A t P E y):
  j8 X S f A E t Q g:=λF H s y P R k=>h F H s y P R λo B C D G c tk b d N e a i j q=>
 haveI l:cN X S f C H D B C D G {B with heap:=b,toks:=tk}:=cN.ext N.bu e
 k _ o _ C D G c (N.trans l) i (N.bu.r0.hW a) (N.bu.r0.mu a) (N.bu.r0.su a) (N.bu.nX a) (N.bu.r0.uP a) j q
def lI(b:aK a=false)(h:aU X S f A E (eval a f) (λv g=>Q [v] g) g):fE X S f A E (spliced (backTo q (starEach [a] f))) Q g:=
 tp b (h.aT λv g q=>rv q)
def w6(c:aK a=false)(d:aK b=false)(h:aU X S f A E (eval a f) (λv g=>aU X S f A E (eval b f) (λu g=>Q [v,u] g) g) g):
  fE X S f A E (spliced (backTo q (starEach [a,b] f))) Q g:=
 tp c (h.aT λv g h=>tp d (h.aT λu g q=>rv q))
def ax.j9(V:ax prog w F s [a] us):∃u,us=[u]/\aG prog w F s a u:=gm V.qh λu us e a b=>ay u (e.trans (v6 _ b.wV)) a
def ax.IV(V:ax prog w F s [a,b] us):∃u v,us=[u,v]/\aG prog w F s a u/\aG prog w F s b v:=gm V.qh λu us e a b=>aj b.j9 λv c b=>uH u v (e.trans (v6 _ c)) a b
def tw(h:aK a=false):[a].any aK=false:=(Bool.or_false _).trans h
def IW(h:aK a=false)(c:aK b=false):[a,b].any aK=false:=ab2.mpr ⟨h,tw c⟩
def w7(j:gZ X.K S x u)(l:(∃T,u=.type T)\/∃i,u=.builtin i)(b:aK a=false)(h:aU X S f A E (eval a f) Z g)
  (m:∀F H s y (P:dy) v g c,c6 X S f F H s g y->aG X.prog X.w F s c v->Z c g->XT X S f F H s y Q P->
   wpAny (model X.prog X.w) A (call u [v]) P E y):aU X S f A E (eval (.Call (.Name x p) [a] [] q) f) Q g:=
 Nn j l (tw b) λF H s y P R k=>lI (Q:=λd g=>∃v,d=[v]/\Z v g) b (h.aT λv g z=>(ay v rfl z)) F H s y _ R λo B C D G d N V z=>aj z λv e z=>
  aj (ax.j9 (a:=v) (us:=o) (e▸V)) λM e r=>e▸m _ _ _ _ _ _ _ _ N.bu r z λv I O L aY a t w q=>k _ _ _ _ _ _ (N.trans t) w q
def abu(Q:af->St->Prop)(v:af)(g:St):Prop:=∃a,(aO g.cells v=.list a\/aO g.cells v=.tuple a)/\a.length<=aL/\Q (.int a.length) g
def sz{a:ah}{b:aQ}(c:ax prog w F s a b):b.toArray.size=a.length:=ST.trans c.length.symm
def fo(h:k<=aL):k<=sizeLine:=o0 h (by decide)
def YL{a:ah}{b:aQ}(c:ax prog w F s a b)(h:a.length<=aL):(b.toArray.size:Int)<2^63:=Gs (o0 (aaM (sz c)) h)
def VU(i:gZ X.K S x (.builtin "len"))(j:aK a=false)
  (h:aU X S f A E (eval a f) (abu Q) g):aU X S f A E (eval (.Call (.Name x p) [a] [] q) f) Q g:=
 w7 i (.inr ⟨_,rfl⟩) j h λF H s y P v g c R V z k=>cU z λr e h z=>e.elim
  (λe=>eV (cJ R.r0 V e) λa l m e d b=>e▸PyProof.Rows.len_list (cV d) (YL b h) (k _ _ _ _ _ _ (.td R _) (.int _ _) (sz b▸z)))
  λe=>tc (qp R.r0 V e) λa l m o e d k1 k2 b=>e▸PyProof.Rows.len_tuple (Er d k1 k2) (YL b h) (k _ _ _ _ _ _ (.td R _) (.int _ _) (sz b▸z))
def abv(Q:af->St->Prop)(v:af)(g:St):Prop:=∃i,v=.int i/\Q (.int i.natAbs) g
def VW(i:Int):(if i<0 then-i else i)=(i.natAbs:Int):=wS (λh:i<0=>(if_pos h).trans (Int.ofNat_natAbs_of_nonpos (Int.le_of_lt h)).symm) λh=>(if_neg h).trans (Int.natAbs_of_nonneg (Int.not_lt.mp h)).symm
def VX(b:gZ X.K S x (.builtin "abs"))(d:aK a=false)
  (h:aU X S f A E (eval a f) (abv Q) g):aU X S f A E (eval (.Call (.Name x p) [a] [] q) f) Q g:=
 w7 b (.inr ⟨_,rfl⟩) d h λF H s y P v g c R V z k=>aj z λi e z=>ar (V.ij e) λt e=>e▸call_abs_int λu tk=>k _ _ _ _ _ (.int _) (.td R _) (.int _ _) ((VW i).symm▸z)
def Np(d:gZ X.K S x (.type "int"))(j:aK a=false)
  (h:aU X S f A E (eval a f) (λv g=>Rr v λi=>Q (.int i) g) g):aU X S f A E (eval (.Call (.Name x p) [a] [] q) f) Q g:=
 w7 d (.inl ⟨_,rfl⟩) j h λF H s y P v g c R V z k=>gw z (λz=>aj (kq z) λb e z=>(aG.mX (e▸V))▸call_int_bool (by cases b<;>exact k _ _ _ _ _ _ (.td R _) (.int _ _) z))
  λi e z=>ar (V.ij (sy e)) λt e=>e▸call_int_int (k _ _ _ _ _ _ (.gP R) (.int _ _) z)
def tx{c:aS}(V:ax prog w F s (c.map .int) d):IntsAre d c:=by
 induction c generalizing d with
 |nil=>exact V.wV▸ .nil
 |cons i c h=>exact gm V.qh λu k e a b=>ar a.i8 λt j=>e▸j▸ .cons i t (h b)
def xW{a:aS}(V:IntsAre ws a):ax prog w F s (a.map .int) ws:=by
 induction V with
 |nil=>exact .nil
 |cons i t _ b=>exact .cons (.int i t) b
def abw(Q:af->St->Prop)(v:af)(g:St):Prop:=∃(a:aS) (m:Int),aO g.cells v=.list (a.map .int)/\a.length<=aL/\a.max?=some m/\Q (.int m) g
def VY{l:aS}(a:l.max?=some m)(b:i<l.length)(h:∀j,j<l.length->l.getD j 0<=l.getD i 0):l.getD i 0=m:=
 aX (List.max?_eq_some_iff.mp a) λc d=>Int.le_antisymm (d _ (getD_mem b)) (aj (mem_getD c) λj k e=>e▸h j k)
def VZ(M:Lv A n)(N:gZ X.K S x (.builtin "max"))(T:aK a=false)
  (h:aU X S f A E (eval a f) (abw Q) g):aU X S f A E (eval (.Call (.Name x p) [a] [] q) f) Q g:=
 w7 N (.inr ⟨_,rfl⟩) T h λF H s y P v g c R V z k=>gH z λZ m e _ u q=>eV (cJ R.r0 V e) λa ws ep e ho o=>have w:=tx o
  e▸ar w.allInts.items λb e=>have l:Z=b.toList.map (·.1):=w.numsOf.symm.trans ((v6 numsOf (v6 Array.toList e)).trans (nums_intItems _))
   have r:b.size=(b.toList.map (·.1)).length:=(v4 _).trans aaN|>.symm;have d:0<b.size:=r▸l▸List.length_pos_iff.mpr λe=>nx ((v6 List.max? e).symm.trans u)
   max_intList M.1 (e▸cV ho) d λv h' tk o hk=>ar (intItems_at o) λt e=>aX (argBest_gt (numAt b) (b.size-1)) λh1 h2=>
    have e1:numAt b (argBest (λi j=>decide (numAt b i>numAt b j)) (b.size-1))=m:=(numAt_eq _ _).trans (VY (l▸u) (Nat.lt_of_lt_of_eq (Nat.lt_of_le_pred d h1) r) λj hj=>by
     rw[<-numAt_eq,<-numAt_eq];exact h2 j ((Nat.le_sub_one_iff_lt d).mpr (Nat.lt_of_lt_of_eq hj r.symm)))
    k _ _ _ _ _ (.int m) (.ext R hk) (e▸e1▸ .int _ _) q
end
section
variable{X:Cx}{S:a0}{f:Env}{A:Around}{E:dy}{F U B cg H:bj}{l O J L:aZ}{c aY r bL:St}{g bh G Y:Shared}{n:Nat}
def abx(X:Cx)(y:Str)(Q:af->St->Prop)(v:af)(c:St):Prop:=∃D a b,v=.dJ D a b/\Gf X y=some D/\Q (.bool true) c
def Kq(j:gZ X.K S x (.builtin "isinstance"))(b:aK a=false)(i:mV X.K S y=some (.ref C))
  (h:aU X S f A E (eval a f) (abx X y Q) c):aU X S f A E (eval (.Call (.Name x p) [a,.Name y T] [] q) f) Q c:=
 Nn j (.inr ⟨_,rfl⟩) (IW b rfl) λF H l g P R k=>wpAny_items_cons (h F H l g _ R λu G B J r v N V z=>wpAny_items_cons (nY N.bu i (wpAny_items_nil (eV z λD o s e w q=>
  MM (tq (cells:=r.cells) (p:=(D,o,s)) N.bu.r0 V (e▸rfl)) λa d Z ws m e I _ _=>e▸isi_call (t:=.ref D) N.bu.r0.k (λM=>I.type) (aaV.mpr (.inl (aae.mpr (v6 _ (se w (sG i)))))) Value.noConfusion (k _ _ _ _ _ _ N (.bool _) q))))) (mA b)
def kK{T:String}{id:String}{as:List aD}{Q:af->St->Prop}{Z:af->ah->St->Prop}{K:af->St->Prop}(d:Slot T m id)(y:PlainAttrs T)(t:typeOf (.builtin id)=pure (.type "method_descriptor"))
  (C:eK o) (w:as.any aK=false) (D:as.length<20) (I:ig q p)
  (h:aU X S f A E (eval o f) (λb c=>K b c/\fE X S f A E (spliced (backTo p (starEach as f))) (λe c=>Z b e c) c) c)
  (j:∀F H l g b u c,c6 X S f F H l c g->aG X.prog X.w F l b u->K b c->g.TypeIs u T/\∀a,u=.ref a->∃o,g.heap.get? a=some o/\o.dict=none)
  (i:∀F H l g u x b e c (P:dy),c6 X S f F H l c g->aG X.prog X.w F l b u->ax X.prog X.w F l e x->Z b e c->
   XT X S f F H l g Q P->wpAny (model X.prog X.w) A (call (.builtin id) (u::x)) P E g):
  aU X S f A E (eval (.Call (.Attribute o m q) as [] p) f) Q c:=λF H l g P R k=>by
 refine(tr C)▸dL (h F H l g _ R λu G B J r b N V z=>dL (aaf ?_));have j:=j _ _ _ _ _ _ _ N.bu V z.1;delta methodCall calleeOf;refine(AW w D).symm▸(if_pos rfl)▸dL (KB (getMethod_builtin j.1 y d t j.2 ?_));refine(tu I)▸dL (s4 (el (.inr ⟨_,rfl⟩) (bD w) (cL (bD w) (z.2 _ _ _ _ _ N.bu λe Y cg L bL as s M z=>?_))));exact i _ _ _ _ _ _ _ _ _ _ s.bu (V.aT s.le s.jP) M z λv bh U O aY a g9 Ay q=>k _ _ _ _ _ _ ((N.trans s).trans g9) Ay q
def GN{o:Obj}(d:g.heap.get? a=some o)(e:o.cls=.type T)(h:o.dict=none):g.TypeIs (.ref a) T/\∀b,Value.ref a=.ref b->∃o,g.heap.get? b=some o/\o.dict=none:=⟨⟨o,d,e⟩,λb i=>Value.ref.inj i▸⟨o,d,h⟩⟩
def tA{c:St}(R:c6 X S f F H l c g)(V:aG X.prog X.w F l b u)(h:fZ (aO c.cells b)):g.TypeIs u "list"/\∀a,u=.ref a->∃o,g.heap.get? a=some o/\o.dict=none:=
 ar (Eb h) λi e=>eV (cJ R.r0 V e) λa j k e d m=>e▸GN d rfl rfl
def Nq{c:St}(R:c6 X S f F H l c g)(V:aG X.prog X.w F l d u)(h:tf (aO c.cells d)):g.TypeIs u "dict"/\∀a,u=.ref a->∃o,g.heap.get? a=some o/\o.dict=none:=
 pU (Ed h) λk m e=>rR (kJ R.r0 V e) λa p e i _ _ _=>e▸eV i λo q s j b _=>GN j b.1 b.2.1
def RJ{c:St}(R:c6 X S f F H l c g)(V:aG X.prog X.w F l b u)(h:xM (aO c.cells b)):g.TypeIs u "set"/\∀a,u=.ref a->∃o,g.heap.get? a=some o/\o.dict=none:=
 ar (Gu h) λi e=>VC (uO R.r0 V e) λa j k t e d I=>e▸GN d rfl rfl
def V4(Q:af->St->Prop)(v:af)(c:St):Prop:=∃s,v=.str s/\s.length<=100/\Q (.str (Txt.strip s)) c
def Nr{Q:af->St->Prop}(i:eK o)(j:ig q p)(h:aU X S f A E (eval o f) (V4 Q) c):aU X S f A E (eval (.Call (.Attribute o "strip" q) [] [] p) f) Q c:=
 kK (Z:=λb d c=>d=[]/\V4 Q b c) (K:=V4 Q) PySem.F.slot_str_strip PySem.F.plainAttrs_str PySem.F.type_str_strip i rfl (ack _) j
  (h.aT λv c z=>⟨z,rv ⟨rfl,z⟩⟩)
  (λF H l g b u c R V z=>cU z λs e _ _=>ar (V.GB e) λt e=>e▸⟨typeIs_str _ _ _,λa h=>Value.noConfusion h⟩)
  λF H l g u C b d c P R V m z k=>aX z λw z=>(ax.wV (w▸m))▸cU z λx e y z=>ar (V.GB e) λt e=>
   e▸call_gives PySem.F.slot_str_strip (typeIs_str _ _ _) PySem.F.entry_str_strip (PySem.F.args_str_strip_1 _) (gives_str_strip x t) (post_val_or_made (λ_=>fits_stripped _ _ _ (Rz rfl y)) λD tk=>k _ _ _ _ _ _ (.td R tk) (.str _ _) z)
def YM(Q:af->St->Prop)(v k:af)(c:St):Prop:=∃(a:aS) (x:Int) (i:Nat),aO c.cells v=.list (a.map .int)/\k=.int x/\a.length<=aL/\a.findIdx? (·==x)=some i/\Q (.int i) c
def Nt{Q:af->St->Prop}(hb:eK o)(D:aK a=false)(hp:ig q p)
  (h:aU X S f A E (eval o f) (λv c=>fZ (aO c.cells v)/\aU X S f A E (eval a f) (YM Q v) c) c):
  aU X S f A E (eval (.Call (.Attribute o "index" q) [a] [] p) f) Q c:=
 kK (Z:=λm I c=>∃k,I=[k]/\YM Q m k c)
  (K:=λm c=>fZ (aO c.cells m)) PySem.F.slot_list_index acY PySem.F.type_list_index hb (tw D) (acJ (ack _)) hp
  (h.aT λv c z=>⟨z.1,lI D (z.2.aT λk c z=>(ay k rfl z))⟩)
  (λF H l g m u c R V h=>tA R V h)
  λF H l g u us m I c P R V Vs z k=>aj z λkk e z=>aj (ax.j9 (a:=kk) (us:=us) (e▸Vs)) λv e0 hv=>uJ z λb x i e e1 hl M q=>eV (cJ R.r0 V e) λa ws ep e2 N Yf=>ar (hv.ij e1) λt e3=>
   have s:=tx Yf;have hm:x∈b:=aj (List.findIdx?_eq_some_iff_getElem.mp M) λh1 h2 _=>aae.mp h2▸List.getElem_mem h1;have d:b.idxOf x<b.length:=List.idxOf_lt_length_iff.mpr hm;have T:b.idxOf x=i:=(List.findIdx_eq_getD_findIdx? ..).trans (v6 (·.getD b.length) M)
   e0▸e2▸e3▸call_meets PySem.F.slot_list_index (ay _ N rfl) PySem.F.entry_list_index (PySem.F.args_list_index_2 _ _)
    (SeqAt.list_indexAt a ws.toArray ep none #[] (.int x t) (isInt x) (b.idxOf x) (Nat.lt_of_lt_of_eq d (s.length.symm.trans ST.symm)) (Int.lt_of_lt_of_le (aaY.mpr d) (acF (acd.mpr hl) (by decide)))
     ((isInt_at x s _ (s.length.symm▸d) d).trans (aae.mpr (List.getElem_idxOf d))) λj C w=>(isInt_at x s j C (abV w d)).trans (ne_of_lt_idxOf w _))
    (bH N (λy hy=>(eq_isInt x t s y (List.mem_toArray.mp hy)).at _ _) (T▸k _ _ _ _ _ (.int i) (.td R _) (T▸ .int _ _) q))
def YN(Q:af->St->Prop)(v k d:af)(c:St):Prop:=∃a b x,aO c.cells v=.dict a b/\k=.int x/\Q ((dQ x a b).getD d) c
def Nu{a:aS}{b:aQ}(V:ax X.prog X.w F l e b)(i:a.length=b.length) k(j:aG X.prog X.w F l d u):aG X.prog X.w F l ((dQ k a e).getD d) ((valueAt (a.zip b) k).getD u):=by
 have h:=sH V k i;generalize dQ k a e=o at h⊢;cases o with
 |none=>exact(v6 (·.getD u) h).symm▸j
 |some x=>exact aj h λw m p=>(v6 (·.getD u) m).symm▸p
def RK{Q:af->St->Prop}(C:eK o)(w:aK a=false)(i:aK b=false)(D:ig q p)
  (h:aU X S f A E (eval o f) (λv c=>tf (aO c.cells v)/\aU X S f A E (eval a f) (λk c=>aU X S f A E (eval b f) (YN Q v k) c) c) c):
  aU X S f A E (eval (.Call (.Attribute o "get" q) [a,b] [] p) f) Q c:=
 kK (Z:=λj m c=>∃k d,m=[k,d]/\YN Q j k d c)
  (K:=λj c=>tf (aO c.cells j)) PySem.F.slot_dict_get PySem.F.plainAttrs_dict PySem.F.type_dict_get C (IW w i) (acJ (acJ (ack _))) D
  (h.aT λv c z=>⟨z.1,w6 w i (z.2.aT λk c z=>z.aT λd c z=>(j6 k d rfl z))⟩)
  (λF H l g j u c R V h=>Nq R V h)
  λF H l g u I j m c P R V M z k=>dm z λN dd e z=>gm (ax.IV (a:=N) (b:=dd) (us:=I) (e▸M)) λv T e0 hv Yf=>eV z λks m x e e1 z=>rR (kJ R.r0 V e) λa ws e2 y hl s hm=>ar (hv.ij e1) λt e3=>
   e0▸e2▸e3▸call_meetsIn PySem.F.slot_dict_get y.typeIs PySem.F.entry_dict_get (PySem.F.args_dict_get_3 _ _ _) (meets_dict_get_default (intKind X.prog X.w) a (acA _ _ _ _) hm T) (ay _ y.mapOf (k _ _ _ _ _ _ (.td R _) (Nu s hl x Yf) z))
end
section
variable{X:Cx}{S:a0}{g:Env}{A:Around}{E:dy}{F B C I H:bj}{i t L s:aZ}{d N m M:St}{j J D G:Shared}{n:Nat}
def sI{a:ah}(e:aB a c=v)(b:v≠ .ae):a[c]?=some v:=by subst e;exact ej b
def AX{d:St}(R:c6 X S g F H i d j)(V:aG X.prog X.w F i (.cell c) u)(e:aB d.cells c=.list xs):
  ∃a b f,u=.ref a/\i[c]?=some a/\d.cells[c]?=some (.list xs)/\j.heap.get? a=some (listOf (List.toArray b) f)/\ax X.prog X.w F i xs b:=
 gH (R.r0.IM V e af.noConfusion) λa o h k l c=>dm c.jk λb f q r=>BZ a b f h k (sI e af.noConfusion) (q▸l) r
def sJ{d:St}(R:c6 X S g F H i d j)(V:aG X.prog X.w F i v u)(f:v=.cell c)(e:aB d.cells c=.list xs):
  ∃a b h,u=.ref a/\i[c]?=some a/\d.cells[c]?=some (.list xs)/\j.heap.get? a=some (listOf (List.toArray b) h)/\ax X.prog X.w F i xs b:=AX R (f▸V) e
def Kr{d:St}(R:c6 X S g F H i d j)(V:aG X.prog X.w F i (.cell c) u)(e:aB d.cells c=.dict f h):
  ∃a b,u=.ref a/\i[c]?=some a/\d.cells[c]?=some (.dict f h)/\j.heap.DictOf (intKind X.prog X.w) a (f.zip b)/\f.length=b.length/\ax X.prog X.w F i h b/\(a==sysModules)=false:=
 gH (R.r0.IM V e af.noConfusion) λa o r k v c=>cU c.DZ λb p l q=>abc a b r k (sI e af.noConfusion) (Heap.dictOf_iff.mpr ⟨_,v,p⟩) l q (R.r0.nV a (wE k)).2.2
def xX{h:Heap}{b:aQ}(c:h.get? a=some (listOf b.toArray e))(f:Array Value->Array Value):∃n,(h.update a (Obj.mapSeq f)).get? a=some (listOf (f b.toArray) n):=⟨_,(UV (Obj.mapSeq f) c rfl).trans rfl⟩
def cN.w8(R:c6 X S g F H i d j){b us:aQ}(e:i[c]?=some a)(h:d.cells[c]?=some (.list xs))(k:j.heap.get? a=some (listOf b.toArray r))
  (l:f b.toArray=us.toArray) (o:ax X.prog X.w F i p us):cN X S g F H i j F i ⟨d.aC,d.cells.set c (.list p)⟩ {j with heap:=j.heap.update a (Obj.mapSeq f),toks:=tk}:=
 ar (xX k f) λn q=>cN.sv R e h af.noConfusion q (.update ..) (l▸ .list o)
def ax.dropLast{a:ah}{b:aQ}(c:ax prog w F i a b):ax prog w F i a.dropLast b.dropLast:=by rw[List.dropLast_eq_take,List.dropLast_eq_take,c.length];exact c.take _
def Es(e:aB cells c=.list xs):fZ (aO cells (.cell c)):=v6 fZ e
def YO(Q:af->St->Prop)(v:af)(d:St):Prop:=∃c a,v=.cell c/\aB d.cells c=.list a/\a.length<=aL/\a≠[]/\Q (aB a (a.length-1)) ⟨d.aC,d.cells.set c (.list a.dropLast)⟩
def V5{Q:af->St->Prop}(U:eK o)(l:ig q p)(h:aU X S g A E (eval o g) (YO Q) d):aU X S g A E (eval (.Call (.Attribute o "pop" q) [] [] p) g) Q d:=
 kK (Z:=λb O d=>O=[]/\YO Q b d) (K:=λb d=>fZ (aO d.cells b)) PySem.F.slot_list_pop acY PySem.F.type_list_pop U rfl (ack _) l
  (h.aT λv d z=>⟨dm z λc T r y=>r▸Es y.1,rv ⟨rfl,z⟩⟩)
  (λF H i j b u d R V h=>tA R V h)
  λF H i j u us b O d P R V Y z k=>aX z λe0 z=>(ax.wV (e0▸Y))▸rR z λc T r e hL w q=>uJ (sJ R V r e) λa ws ep e2 ha hc x f=>
   have l:0<T.length:=List.length_pos_iff.mpr w
   aj (w5 f (Nat.sub_lt l Nat.one_pos)) λy hy hr=>e2▸call_meets PySem.F.slot_list_pop (ay _ x rfl) PySem.F.entry_list_pop (PySem.F.args_list_pop_1 _) (MeetsSeq.list_pop_last a ws.toArray ep y (sz f▸hy) (sz f▸fo hL))
    ⟨x,k _ _ _ _ _ _ (cN.w8 (tk:=j.toks) R ha hc x ((List.eraseIdxIfInBounds_toArray _ _).trans (v6 List.toArray (List.eraseIdx_eq_dropLast ((Nat.sub_add_cancel (sz f▸l)).trans ST)))) f.dropLast) hr q⟩
def YP(Q:af->St->Prop)(v u:af)(d:St):Prop:=∃c a,v=.cell c/\aB d.cells c=.list a/\a.length<=aL/\Q .none ⟨d.aC,d.cells.set c (.list (a++[u]))⟩
def Ks{Q:af->St->Prop}(O:eK o)(r:aK a=false)(T:ig q p)
  (h:aU X S g A E (eval o g) (λv d=>fZ (aO d.cells v)/\aU X S g A E (eval a g) (YP Q v) d) d):aU X S g A E (eval (.Call (.Attribute o "append" q) [a] [] p) g) Q d:=
 kK (Z:=λb w d=>∃u,w=[u]/\YP Q b u d) (K:=λb d=>fZ (aO d.cells b)) acW acY PySem.F.type_list_append O (tw r) (acJ (ack _)) T
  (h.aT λv d z=>⟨z.1,lI r (z.2.aT λu d z=>(ay u rfl z))⟩)
  (λF H i j b u d R V h=>tA R V h)
  λF H i j u U b w d P R V Y z k=>aj z λx e0 z=>aj (ax.j9 (a:=x) (us:=U) (e0▸Y)) λv e3 hx=>gH z λc xs e1 e y q=>uJ (sJ R V e1 e) λa ws ep e2 ha hc f l=>
   e3▸e2▸wpAny_call_entry acW (ay _ f rfl) PySem.F.entry_list_append (show wpAny _ _ (updateSeq a (·.push v)>>=λ_=>ret .none) _ _ j from
    dL (wpAny_updateSeq f rfl (s4 (ay .none rfl (k _ _ _ _ _ _ (cN.w8 (tk:=j.toks) R ha hc f (List.push_toArray ..) (l.append (.cons hx .nil))) .none q))) (sz l▸fo y) (Array.size_push .. ▸acR (sz l▸fo y)))) (PySem.F.args_list_append_2 _ _)
def YQ(Q:af->St->Prop)(v u:af)(d:St):Prop:=∃c a b,v=.cell c/\aB d.cells c=.list a/\aO d.cells u=.list b/\a.length+b.length<=aL/\Q .none ⟨d.aC,d.cells.set c (.list (a++b))⟩
def Kt{Q:af->St->Prop}(hb:eK o)(T:aK a=false)(hp:ig q p)
  (h:aU X S g A E (eval o g) (λv d=>fZ (aO d.cells v)/\aU X S g A E (eval a g) (YQ Q v) d) d):aU X S g A E (eval (.Call (.Attribute o "extend" q) [a] [] p) g) Q d:=
 kK (Z:=λf U d=>∃u,U=[u]/\YQ Q f u d) (K:=λf d=>fZ (aO d.cells f)) PySem.F.slot_list_extend acY PySem.F.type_list_extend hb (tw T) (acJ (ack _)) hp
  (h.aT λv d z=>⟨z.1,lI T (z.2.aT λu d z=>(ay u rfl z))⟩)
  (λF H i j f u d R V h=>tA R V h)
  λF H i j u us f U d P R V Vs z k=>aj z λx e0 z=>aj (ax.j9 (a:=x) (us:=us) (e0▸Vs)) λv e3 hx=>uJ z λc xs ys e1 e e4 hL q=>uJ (sJ R V e1 e) λa Y ep e2 ha hc w hv=>eV (cJ R.r0 hx e4) λb l y e5 O r=>
   have hz:Y.toArray.size+l.toArray.size<=sizeLine:=sz hv▸sz r▸fo hL
   e3▸e2▸e5▸call_meets PySem.F.slot_list_extend (ay _ w rfl) PySem.F.entry_list_extend (PySem.F.args_list_extend_2 _ _) (AutoSeq1.list_extend_list_list_0 a Y.toArray ep b l.toArray y (extend_door hz) (o0 (T0 _ _) hz)) (bH w O
    (k _ _ _ _ _ _ (cN.w8 (tk:=j.toks) R ha hc w (List.append_toArray ..) (hv.append r)) .none q))
end
section
variable{X:Cx}{S:a0}{g:Env}{A:Around}{E:dy}{F U C L H:bj}{y O G J:aZ}{m aY I M:St}{w Y D B:Shared}{n:Nat}
def IX:aL=100000:=rfl
def AY{s:aD}{a b:Option aD}{p:Pos}{o i:Value}:subscripted (.Slice a b none p) false o i=operate [i,o] (getItem o i):=rfl
def Nv{k n:Nat}:sliceBounds none (some (k:Int)) none n=(0,max 0 (min (k:Int) n),1):=by
 show((0:Int),max 0 (min (if(k:Int)<0 then(k:Int)+n else k) n),(1:Int))=_;rw[if_neg (Int.not_lt.mpr (IR k))]
def Nw{k n:Nat}:sliceBounds (some (k:Int)) none none n=(max 0 (min (k:Int) n),(n:Int),1):=by
 show(max 0 (min (if(k:Int)<0 then(k:Int)+n else k) n),(n:Int),(1:Int))=_;rw[if_neg (Int.not_lt.mpr (IR k))]
def Uw(h:¬k<=n):min (k:Int) n=min (n:Int) n:=(Int.min_eq_right (acd.mpr (Nat.le_of_not_le h))).trans (Int.min_self _).symm
def Ce{a:aQ}{j:Int}(h:0<=j):slicePick a.toArray none (some j) none=(a.take j.toNat).toArray:=
 ar (Int.eq_ofNat_of_zero_le h) λj e=>e▸wS (λq:j<=a.length=>slicePick_upto _ _ q) λq=>by
  have e:slicePick a.toArray none (some (j:Int)) none=slicePick a.toArray none (some (a.length:Int)) none:=by unfold slicePick;rw[Nv,Nv,ST,Uw q]
  exact e.trans ((slicePick_upto _ _ (v0 _)).trans (v6 List.toArray ((List.take_length ..).trans (SL (Nat.le_of_not_le q)).symm)))
def Cg{a:aQ}{j:Int}(h:0<=j):slicePick a.toArray (some j) none none=(a.drop j.toNat).toArray:=
 ar (Int.eq_ofNat_of_zero_le h) λj e=>e▸wS (λq:j<=a.length=>slicePick_from _ _ q) λq=>by
  have e:slicePick a.toArray (some (j:Int)) none none=slicePick a.toArray (some (a.length:Int)) none none:=by unfold slicePick;rw[Nw,Nw,ST,Uw q]
  exact e.trans ((slicePick_from _ _ (v0 _)).trans (v6 List.toArray ((List.drop_length ..).trans (List.drop_of_length_le (Nat.le_of_not_le q)).symm)))
def YR(f:Nat->ah->ah)(Q:af->St->Prop)(b c:af)(m:St):Prop:=∃a j,aO m.cells b=.list a/\c=.int j/\0<=j/\j<=aL/\a.length<=aL/\Q (.list (f j.toNat a)) m
def RL{h:Heap}(o:Obj)(a:o.isFreed=false):h.objs.size<=(h.push o).objs.size:=KK (KM (GM h a))
def IY{e:aD}{a b:Option aD}{p:Pos}{l:Addr}{c:aQ}{q:Nat}{f h:Value}{lo j:Option Int}{P:dy}(r:w.heap.get? l=some (listOf c.toArray q))(t:IsPart f lo)(u:IsPart h j)(v:c.toArray.size<=sizeLine)
  (k:∀i d,(∀b x,w.heap.get? b=some x->i.get? b=some x)->w.heap.objs.size<=d->i.get? d=some (listOf (slicePick c.toArray lo j none) 0)->P (.ref d) {w with heap:=i}):
  wpAny (model X.prog X.w) A (subscriptTail e (.Slice a b none p) (.ref l) (.ref w.heap.objs.size)) P E {w with heap:=w.heap.push {cls:=.type "slice",data:=.fields #[f,h,.none]}}:=
 have o:=cV (wT {cls:=.type "slice",data:=.fields #[f,h,.none]} r)
 tail_any (T:="list") o.typeIs list_getitem_lookup (wpAny_getItem_list_slice o (Heap.IsSliceOf.new ..) t u .none nofun (k _ _ (λb x z=>wT _ (wT _ z)) (RL _ rfl) (GM _ rfl)) v) (AY (s:=e))
def GO
  (h:aU X S g A E (eval e g) (λf m=>aU X S g A E (eval b g) (YR List.take Q f) m) m):
  j8 X S g A E (eval (.Subscript e (.Slice none (some b) none p) q) g) Q m:=n7 λF H y w P R k=>
 Subscript_ (h F H y w _ R λu D C G I f i o r=>wpAny_Slice (evalPart_none_step (evalPart_some_step (r _ _ _ _ _ i.bu λv B L J M vb a s z=>evalPart_none_step (BY z λxs jj x N T _ V z=>ar (s.ij N) λt Z=>
  eV (cJ a.bu.r0 (o.aT a.le a.jP) x) λl ws ep e4 c j=>Z▸e4▸IY c .none (.int _ _) (sz j▸fo V) λh' d hk hd c=>k _ B L J M _ B.toks h' d (i.trans a) hk hd c (Ce T▸ .list (j.take _)) z)))))
def Cj
  (h:aU X S g A E (eval e g) (λf m=>aU X S g A E (eval b g) (YR List.drop Q f) m) m):
  j8 X S g A E (eval (.Subscript e (.Slice (some b) none none p) q) g) Q m:=n7 λF H y w P R k=>
 Subscript_ (h F H y w _ R λu D C G I f i o r=>wpAny_Slice (evalPart_some_step (r _ _ _ _ _ i.bu λv B L J M vb a s z=>evalPart_none_step (evalPart_none_step (BY z λxs jj x N T _ V z=>ar (s.ij N) λt Z=>
  eV (cJ a.bu.r0 (o.aT a.le a.jP) x) λl ws ep e4 c j=>Z▸e4▸IY c (.int _ _) .none (sz j▸fo V) λh' d hk hd c=>k _ B L J M _ B.toks h' d (i.trans a) hk hd c (Cg T▸ .list (j.drop _)) z)))))
def aby(Q:af->St->Prop)(v i j:af)(m:St):Prop:=∃s p q,v=.str s/\i=.int p/\j=.int q/\s.length<=100/\Q (.str (Txt.slice s (some p) (some q))) m
def Ku{c a b:aD}{p q:Pos}{Q:af->St->Prop}
  (h:aU X S g A E (eval c g) (λv m=>aU X S g A E (eval a g) (λi m=>aU X S g A E (eval b g) (aby Q v i) m) m) m):
  aU X S g A E (eval (.Subscript c (.Slice (some a) (some b) none p) q) g) Q m:=λF H y w P R k=>
 Subscript_ (h F H y w _ R λu D C G I va r Z cz=>wpAny_Slice (evalPart_some_step (cz _ _ _ _ _ r.bu λv B L J M vb N c9 s8=>evalPart_some_step (s8 _ _ _ _ _ N.bu λv' zA Iw Vf Vg vc V Ay z=>evalPart_none_step (uJ z λx i j e d f hl z=>
  ar (Z.GB e) λt e=>ar (c9.ij d) λt2 d=>ar (Ay.ij f) λt3 f=>e▸d▸f▸tail_any (T:="str") (typeIs_str _ _ _) PySem.F.slot_str_getitem.lookup
   (wpAny_getItem_str_slice (l:=some (i,t2)) (u:=some (j,t3)) (st:=none) (dC _ (GM _ rfl) rfl rfl) rfl (post_val_or_str ⟨o0 (Txt.slice_le x _ _) (Rz rfl hl),λt' tk=>
    k _ _ _ _ _ _ (((r.trans N).trans V).trans (.ext V.bu λb o hb=>wT _ hb)) (.str _ _) z⟩)) (AY (s:=c)))))))
def abz(Q:af->St->Prop)(c d:af)(m:St):Prop:=∃a b,aO m.cells c=.list a/\aO m.cells d=.list b/\a.length+b.length<=aL/\Q (.list (a++b)) m
def V6(h:aU X S g A E (eval l g) (λo m=>aU X S g A E (eval r g) (abz Q o) m) m):
  j8 X S g A E (eval (.BinOp l .Add r p) g) Q m:=n7 λF H y w P R k=>
 wpAny_BinOp (h F H y w _ R λu D C G I o q N V=>V C H G D _ q.bu λv B L J M vb d Z z=>gH z λxs ys e1 e2 hl z=>eV (cJ d.bu.r0 (N.aT d.le d.jP) e1) λa i ep e3 s t=>eV (cJ d.bu.r0 Z e2) λb c j e4 e f=>
  e3▸e4▸concat_meets (T:="list") (ay _ s rfl) (ay _ e rfl) noFill_list_add seq_list_add PySem.F.slot_list_add PySem.F.entry_list_add (PySem.F.args_list_add_2 _ _) (list_addW a b i.toArray c.toArray ep j none none #[] #[] (sz t▸sz f▸fo hl))
   (bH s e (k _ _ _ _ _ _ B.toks _ _ (q.trans d) (λb x hx=>wT _ hx) (v0 _) (GM _ rfl) (show cM _ _ _ _ (.list (xs++ys)) (listOf (i.toArray++c.toArray) 0)from List.append_toArray i c▸ .list (t.append f)) z)))
def abA(X:Cx)(F:bj)(y:aZ)(w:Shared)(Q:af->St->Prop)(m:St)(P:dy):Prop:=
 ∀o c tk a d,(∀b x,w.heap.get? b=some x->a.get? b=some x)->w.heap.objs.size<=d->a.get? d=some o->cM X.prog X.w F y c o->Q c m->P (.ref d) {w with heap:=a,toks:=tk}
def xa(j:gZ X.K S x u)(l:(∃T,u=.type T)\/∃i,u=.builtin i)(b:aK a=false)(h:aU X S g A E (eval a g) Z m)
  (r:∀F H y w (P:dy) v m c,c6 X S g F H y m w->aG X.prog X.w F y c v->Z c m->
   abA X F y w Q m P->
   wpAny (model X.prog X.w) A (call u [v]) P E w):j8 X S g A E (eval (.Call (.Name x p) [a] [] q) g) Q m:=n7 λF H y w P R k=>
 dL (sD R j (el l (bD (tw b)) (cL (bD (tw b)) (lI (Q:=λf m=>∃v,f=[v]/\Z v m) b (h.aT λv m z=>(ay v rfl z)) F H y w _ R λs D C G I f N V z=>aj z λv e z=>
  aj (ax.j9 (a:=v) (us:=s) (e▸V)) λu' e t=>e▸r _ _ _ _ _ _ _ _ N.bu t z λo c tk h' d h1 h2 h3 h4 h5=>k o D C G I c tk h' d N h1 h2 h3 h4 h5))))
def abB(Q:af->St->Prop)(v:af)(m:St):Prop:=∃a,aO m.cells v=.list a/\a.length<=aL/\Q (.list a) m
def Kv(d:gZ X.K S x (.type "list"))(f:aK a=false)
  (h:aU X S g A E (eval a g) (abB Q) m):j8 X S g A E (eval (.Call (.Name x p) [a] [] q) g) Q m:=
 xa d (.inl ⟨_,rfl⟩) f h λF H y w P v m c R V z k=>cU z λt i j z=>eV (cJ R.r0 V i) λa u N e l b=>
  e▸call_list_seq (hsz:=sz b▸fo j) a (.inl rfl) l rfl rfl λo T r s=>k _ _ w.toks o _ r (v0 _) s (.list b) z
def vQ{b:Int}(h:b<=aL){a:Int}(c:0<=a)(d:a<=aL):Builtin.Range.rangeSize a b 1=((b-a).toNat:Int):=
 (if_pos (by decide)).trans (wS (λq:a<b=>(if_pos q).trans ((v6 (·+1) (Int.ediv_one _)).trans ((Int.sub_add_cancel _ _).trans (Int.toNat_of_nonneg (Int.sub_nonneg_of_le (Int.le_of_lt q))).symm))) λq=>(if_neg q).trans (v6 Nat.cast (Int.toNat_of_nonpos (Int.sub_nonpos_of_le (Int.not_lt.mp q))).symm))
end
section
section
variable{X:Cx}{S:a0}{f:Env}{A:Around}{E:dy}{F g J D H:bj}{c y O B:aZ}{u V U G:St}{d z L C:Shared}{n:Nat}
def Hd(S:a0)(f:Env)(F H:bj)(c:aZ)(a:aZ):Prop:=∀b∈a,F b=none/\H b=none/\b∉c/\fO S f b
open Classical in
noncomputable def Et(H:bj)(a:aZ)(h:Heap):bj:=λb=>if b∈a then h.get? b else H b
def tB{h:Heap}(m:b∈wr):Et H wr h b=h.get? b:=if_pos m
def qt(m:b∉wr):Et H wr h b=H b:=if_neg m
def Ck(a:∀b∈wr,H b=none):Le H (Et H wr h):=λb o e=>by
 rw[qt];exact e;intro m;exact sn e (a b m)
def GP(a:∀b∈wr,H b=none)(e:Et H wr h b=none):H b=none:=nf λo q=>sn ((Ck a b o) q) e
def R0.Nx(R:R0 X F H c cells d)(j:On h d.heap)(i:∀b,H b=none->F b≠none\/b∈c->h b=none):R0 X F h c cells d:=
 ⟨R.r6,R.de,R.fz,j,λb o e=>i b (R.gn b o e) (.inl (e▸ace o)),R.xD,R.cS,R.fD,λa m=>⟨i a (R.nV a m).1 (.inr m),(R.nV a m).2⟩,R.gens,R.os⟩
def c6.zN(R:c6 X S f F H c u d)(h:Hd S f F H c wr):c6 X S f F (Et H wr d.heap) c u d:=
 ⟨R.r0.Nx (λb o e=>(Classical.em (b∈wr)).elim (λm=>(tB m).symm.trans e) λm=>R.r0.lE b o ((qt m).symm.trans e)) λb e q=>(qt λm=>q.elim (λq=>q (h b m).1) (h b m).2.2.1).trans e,
  R.a8.to (λ_ _ _ e=>e) rfl (λ_ _ e=>e) R.a8.free λa q e=>(qt λm=>(h a m).2.2.2.no q).trans e⟩
def c6.n8{h:Heap}(R:c6 X S f F (Et H i h) c u d)(p:∀b∈i,H b=none/\fO S f b)(k:∀b∈i,∃o,h.get? b=some o):
  c6 X S f F H c u d/\Hd S f F H c i/\∀b∈i,∀o,h.get? b=some o->d.heap.get? b=some o:=
 haveI j:∀b∈i,H b=none:=λb m=>(p b m).1
 ⟨⟨R.r0.Nx (λb o e=>R.r0.lE b o (Ck j b o e)) λb e _=>GP j e,R.a8.to (λ_ _ _ e=>e) rfl (λ_ _ e=>e) R.a8.free λa q e=>GP j e⟩,
  λb m=>ar (k b m) λo r=>(fL (nf λx q=>sn ((tB m).trans r) (R.r0.gn b x q)) (j b m) (λl=>sn ((tB m).trans r) (R.r0.nV b l).1) ((p b m).2)),λb m o e=>R.r0.lE b o ((tB m).trans e)⟩
def cN.Cm{h':Heap}(R:c6 X S f F H c u d)(h:Hd S f F H c wr)(j:∀b o,b∉wr->d.heap.get? b=some o->h'.get? b=some o):cN X S f F H c d F c u {d with heap:=h',toks:=tk}:=
 ⟨Le.refl _,hU.refl _,R.r0.to (λb o i e=>j b o (λm=>i.elim (λq=>q (h b m).1) λi=>i.elim (λq=>q (h b m).2.1) (h b m).2.2.1) e) rfl rfl,
  R.a8.to (λa o q e=>j a o (λm=>(h a m).2.2.2.no q) e) rfl (λ_ _ e=>e) R.a8.free λ_ _ e=>e⟩
def cN.Ny(N:cN X S f F a c d J O U L)(M:cN X S f J b O L D B G C)(R:c6 X S f D H B G C):cN X S f F H c d D B G C:=⟨N.le.trans M.le,λn x e=>M.jP n x (N.jP n x e),R⟩
structure zH(X:Cx)(A:Around)(tgt:PySem.Expr)(I:Addr)(wr:List Addr)(xs:List af)(rz:bj->List Addr->List af->Prop)(Z:Nat->Heap->Prop):Prop where
 aT:∀F g c y cells i6,rz F c cells->Le F g->hU c y->i6=cells->rz g y i6
 ex:∀i h,Z i h->∀b∈wr,∃o,h.get? b=some o
 frame:∀i h h',Z i h->(∀b∈wr,∀o,h.get? b=some o->h'.get? b=some o)->Z i h'
 item:∀i F H c cells d x (Q:Option Value->Shared->Prop) (E:Value->Shared->Prop),xs[i]?=some x->Z i d.heap->R0 X F H c cells d->rz F c cells->(∀b∈wr,F b=none)->
  (∀v h' tk g,aG X.prog X.w g c x v->Z (i+1) h'->(∀b o,b∉wr->d.heap.get? b=some o->h'.get? b=some o)->(g=F\/∃T o,d.heap.objs.size<=T/\T∉wr/\h'.get? T=some o/\g=fX F T o)->Q (some v) {d with heap:=h',toks:=tk})->
  wpAny (model X.prog X.w) A (pyNext (.ref I)) (λr s=>match r with|none=>False|some v=>wpAny (model X.prog X.w) A (letOwnedTupleGo tgt (.ref I) v) (λ_ s=>Q (some v) s) E s) E d
 done:∀F H c cells d (Q:Option Value->Shared->Prop) (E:Value->Shared->Prop),Z xs.length d.heap->R0 X F H c cells d->rz F c cells->(∀b∈wr,F b=none)->
  (∀h' tk,(∀b o,b∉wr->d.heap.get? b=some o->h'.get? b=some o)->Q none {d with heap:=h',toks:=tk})->wpAny (model X.prog X.w) A (pyNext (.ref I)) Q E d
 self:∀i (s:Shared) (Q:Value->Shared->Prop) (E:Value->Shared->Prop),Z i s.heap->Q (.ref I) s->wpAny (model X.prog X.w) A (pyIter (.ref I)) Q E s
def Cn(R:c6 X S f F H c u d)(h:d.heap.objs.size<=a):F a=none/\H a=none/\a∉c/\fO S f a:=
 (fL (R.r0.hW h) (R.r0.mu h) (R.r0.su h) (R.nX h))
def zH.next{l:ah}{rz:bj->aZ->ah->Prop}(W:zH X A h I wr l rz Z)(R:c6 X S f F H c u d)(e:Hd S f F H c wr)(M:l[i]?=some x)(P:Z i d.heap)
  (p:rz F c u.cells) {Q:Option Value->Shared->Prop} (k:∀v z g,cN X S f F H c d g c u z->aG X.prog X.w g c x v->Z (i+1) z.heap->Hd S f g H c wr->Q (some v) z):
  wpAny (model X.prog X.w) A (pyNext (.ref I)) (λr s=>match r with|none=>False|some v=>wpAny (model X.prog X.w) A (letOwnedTupleGo h (.ref I) v) (λ_ s=>Q (some v) s) E s) E d:=by
 refine W.item i F H c u.cells d x Q E M P R.r0 p (λb m=>(e b m).1) λv h' tk g t w Y hF=>?_;haveI N:=cN.Cm (tk:=tk) R e Y;clear p;rcases hF with rfl|⟨T,o,hT,j,ho,rfl⟩
 ·exact k v _ _ N t w e
 ·refine mr (Cn R hT) λf1 f2 f3 f4=>?_
  haveI N2:=cN.Gl N.bu (a:=T) ho f1 f2 f3 f4;exact k v _ _ (N.trans N2) t w λb m=>⟨(fM λq=>j (by refine q▸?_;exact m)).trans (e b m).1,(e b m).2⟩
def xb(X:Cx)(l:Addr)(b:ah):bj->aZ->ah->Prop:=λF c a=>
 (∃e h,F l=some (listOf (List.toArray e) h)/\ax X.prog X.w F c b e)\/∃n,c[n]?=some l/\aB a n=.list b
def xY(R:R0 X F H c b d)(h:xb X l xs F c b):∃e i,d.heap.get? l=some (listOf (List.toArray e) i)/\ax X.prog X.w F c xs e:=
 h.elim (λh=>dm h λe i k j=>(j6 e i (R.fz _ _ k) j)) λh=>aj h λn k j=>
  have m:aB b n≠ .ae:=j▸af.noConfusion
  gH (R.xD n _ (ej m) m) λa o k1 k2 p _=>dm (cM.jk (xs:=xs) (j▸p)) λe i q r=>(j6 e i (BT (k1.symm.trans k)▸q▸k2) r)
def YS e it v:letOwnedTupleGo e it v=pure ()\/∀p,letOwnedTupleGo e it v=letOwnedTupleGo (.List [] p) it v:=by cases e<;>first|exact .inl rfl|exact .inr λ_=>rfl
def Ux(b:P () s)(h:∀a p,wpAny (model X.prog X.w) A (letOwnedTupleGo (.List [] p) (.ref I) (.ref a)) P E s):wpAny (model X.prog X.w) A (letOwnedTupleGo e (.ref I) v) P E s:=by
 rcases YS e (.ref I) v with q|q
 ·rw[q];exact s4 b
 ·rw[q e.pos]
  cases v with
  |ref a=>exact h a _
  |_=>exact s4 b
def RM{h:Heap}(r:h.IsListIter I l i){s:Shared}(j:s.heap.IsListIter I l i)(b:P () s):wpAny (model X.prog X.w) A (letOwnedTupleGo e (.ref I) v) P E s:=
 Ux b λa p=>cU j λo k m q=>dL (wpAny_load k (by refine m▸?_;refine q▸?_;exact s4 b))
def zH.list(hA:A.handled=none) r I l xs(hne:l≠I):zH X A r I [I] xs (xb X l xs) (λi h=>h.IsListIter I l i) where
 aT:=λF g c y a i6 h hF gj e=>by
  subst e;rcases h with⟨ws,t,v,M⟩|⟨n,v,M⟩
  ·exact .inl (j6 ws t (hF _ _ v) (M.aT hF gj))
  ·exact .inr (ay n (gj _ _ v) M)
 ex:=λi h j b m=>by
  refine aj j λo p _=>?_;obtain rfl:=u8.mp m;exact⟨o,p⟩
 frame:=λi h h' j hk=>j.at λo e=>hk I ((.head _)) o e
 item:=λi F H c a d x Q E hx j R N hw k=>by
  refine dm (xY R N) λws t p P=>?_;refine aj (P.get i x hx) λw T hr=>?_;refine wpAny_pyNext_list_item j (cV p) (x:=w) (by simpa using T) λh' Y AA=>?_;exact RM Y Y (k w h' d.toks F hr Y (λb o Z e=>(AA.2 b λq=>Z (u8.mpr q)).trans e) (.inl rfl))
 done:=λF H c a d Q E j R N hw k=>by
  refine dm (xY R N) λws t p P=>?_;refine wpAny_pyNext_list_end hA j (cV p) (by simp[P.length]) λcz Ke=>k cz d.toks λb o Z e=>Ke b o (λq=>Z (u8.mpr q)) e
 self:=λi s Q E j hq=>wpAny_pyIter_listiter j hq
def xZ{a b:Int}{i:Nat}(h:(cB a b)[i]?=some x):x=.int (a+i):=by
 unfold cB at h;rw[FS]at h;refine aj (TW.mp h) λj k e=>?_;clear h;subst e;rw[wP]at k;obtain⟨m,l⟩:=k;simp at l;rw[l]
def Nz{x left ik:Int}{s:Shared}(h:IsRangeIter s.heap I x left ik)(b:P () s):wpAny (model X.prog X.w) A (letOwnedTupleGo e (.ref I) v) P E s:=
 Ux b λa p=>dL (wpAny_load h (s4 b))
def zH.range(p:A.handled=none)(q:aD)(I:Addr)(a b:Int):zH X A q I [I] (cB a b) (λ_ _ _=>True) (λi h=>IsRangeIter h I (a+(i:Nat)*1) (((b-a).toNat:Int)-(i:Nat)) 1) where
 aT:=λ_ _ _ _ _ _ _ _ _ _=>trivial
 ex:=λi h j b m=>by obtain rfl:=u8.mp m;exact⟨_,j⟩
 frame:=λi h r j M=>(Walks.range (prog:=X.prog) (w:=X.w) p I a 1 (b-a).toNat).frame i h r j λb T o e=>M b T o e
 item:=λi F H c l d x Q E N j R Y hw k=>by
  haveI Z:i<(b-a).toNat:=by haveI:=(wP.mp N).1;simpa [cB]using this
  refine(Walks.range (prog:=X.prog) (w:=X.w) p I a 1 (b-a).toNat).item i d _ E Z j λv r tk hv P M=>?_;obtain⟨t,rfl⟩:=hv;refine Nz P (k _ r tk F ?_ P M (.inl rfl));simp only[xZ N,Int.mul_one];exact .int _ _
 done:=λF H c l d Q E j R Y hw k=>by
  haveI e:(cB a b).length=(b-a).toNat:=by simp[cB]
  replace j:=e▸j;exact(Walks.range (prog:=X.prog) (w:=X.w) p I a 1 (b-a).toNat).done d Q E j k
 self:=λi s Q E j hq=>wpAny_pyIter_rangeiter j hq
end
end
section
variable{X:Cx}{S:a0}{y:Env}{A:Around}{E:dy}{F j J N H:bj}{f g U G:aZ}{B aY C Y:St}{w O L M:Shared}{n:Nat}
def rA(X:Cx)(l:Addr)(b:ah)(F:bj)(f:aZ):Prop:=∃a c,F l=some (listOf (List.toArray a) c)/\ax X.prog X.w F f b a
def rA.aT(h:rA X l xs F f)(a:Le F j)(b:hU f g):rA X l xs j g:=dm h λc d e i=>(j6 c d (a _ _ e) (i.aT a b))
def NA{c d:ah}{i:Nat}(h:(xK c d)[i]?=some x):∃a b,c[i]?=some a/\d[i]?=some b/\x=.tuple [a,b]:=by
 unfold xK at h;rw[List.getElem?_zipWith]at h;cases e:c[i]?<;>rw[e]at h<;>try (exact nx h;done)
 cases k:d[i]?<;>rw[k]at h<;>try (exact nx h;done)
 obtain rfl:=BT h;exact(uH _ _ rfl rfl rfl)
def Kw{c:ah}{i:Nat}(h:(qo c)[i]?=some x):∃a,c[i]?=some a/\x=.tuple [.int i,a]:=by
 unfold qo at h;rw[List.getElem?_mapIdx]at h;refine aj (TW.mp h) λa d b=>?_;subst b;exact(ay a d rfl)
def fm{b:Type}{P:b->Prop}{a:b}{l:List b}(h:P a)(t:∀x∈l,P x):∀x∈a::l,P x:=λx m=>(EQ.mp m).elim (λe=>e▸h) (t x)
def XU{a:Type}{P:a->Prop}:∀x∈([]:List a),P x:=λ_ m=>nl m
def zH.ofT{δ:Type}{n:δ->Nat}{Pt:δ->Nat->Array Value->Prop}{u:δ->Nat->Heap->Prop}{v:δ->Nat->Addr->Heap->Prop}{c:List aD}{kk:Nat}
  {src:δ->bj->aZ->Prop} {rz:bj->aZ->Prop} {Z:Nat->Heap->Prop} (W:∀d,WalksT X.prog X.w A I fp w0 (n d) (Pt d) (u d) (v d)) (hw:∀b∈w0,b∈wr) (hs:∀F f,rz F f->∃d,src d F f)
  (aT:∀F j f g,rz F f->Le F j->hU f g->rz j g) (ex:∀i h,Z i h->∀b∈wr,∃o,h.get? b=some o) (frame:∀i h p,Z i h->(∀b∈wr,∀o,h.get? b=some o->p.get? b=some o)->Z i p) (cS:∀d F f,src d F f->n d=xs.length)
  (to:∀d F f h i,src d F f->On F h->Z i h->u d i h) (of:∀d i h,u d i h->Z i h) (z:∀d F f i a x,src d F f->Pt d i a->xs[i]?=some x->∃D,x=.tuple D/\ax X.prog X.w F f D a.toList) (self:∀i (s:Shared) (Q:dy) (E:dy),Z i s.heap->Q (.ref I) s->wpAny (model X.prog X.w) A (pyIter (.ref I)) Q E s):
  zH X A (.Tuple c kk pos) I wr xs (λF f _=>rz F f) Z where
 aT:=λF j f g _ _ h hF gj _=>aT F j f g h hF gj
 ex:=ex
 frame:=frame
 item:=λi F H f l w x Q E hx r R h hn k=>ar (hs F f h) λd s=>
  (W d).item i w _ E (cS d F f s▸(wP.mp hx).1) (to d F f _ i s R.fz r) λT a p tk hP P q hM hk=>(W d).go c kk pos i T _ _ E hM λh'' hst Kf=>
   aj (z d F f i a x s hP hx) λD e V=>aj q λo ho q=>aX q λhc q=>ar q λep hd=>
    haveI ap:=(W d).apart i T _ hM
    k (.ref T) h'' tk (fX F T o) (e▸ .xC trivial hX (.tuple hc hd (V.aT (ez (R.hW P)) (hU.refl _)))) (of d _ _ hst) (λb o t e=>Kf b o (λm=>t (hw b m)) (hk b o (λm=>t (hw b m)) e))
     (.inr (lF T o P (λm=>ar (ex i _ r T m) λ_ h=>absurd (KM h) (aaG.mpr P)) (Kf T o ap ho) rfl))
 done:=λF H f l w Q E r R h hn k=>ar (hs F f h) λd s=>(W d).done w Q E (to d F f _ _ s R.fz (cS d F f s▸r)) λp tk hk=>k p tk λb o t e=>hk b o (λm=>t (hw b m)) e
 self:=self
def GQ{h:Heap}{a:aQ}(b:On F h)(e:F l=some (listOf a.toArray c)):h.IsList l a.toArray:=cV (b _ _ e)
def zH.zip(hA:A.handled=none)(I:List aD) kk pos z TI l m t P R(D:ZipApart z TI l m t P R)(T V:ah)(hl:V.length=T.length):
  zH X A (.Tuple I kk pos) z [z,TI,l,m,t] (xK T V) (λF f _=>rA X P T F f/\rA X R V F f)
   (λi h=>IsZip h z TI l .none/\IsPair h TI (.ref m) (.ref t)/\(∃a b,IsPair h l a b)/\h.IsListIter m P i/\h.IsListIter t R i):=
 zH.ofT (δ:=aQ×aQ) (src:=λd F f=>(∃ep,F P=some (listOf d.1.toArray ep))/\ax X.prog X.w F f T d.1/\(∃ep,F R=some (listOf d.2.toArray ep))/\ax X.prog X.w F f V d.2) (λd=>WalksT.zip2 hA z TI l m t P R D d.1.toArray d.2.toArray)
  (fm (.head _) (fm (.tail _ (.tail _ (.head _))) (fm (.tail _ (.tail _ (.tail _ (.head _)))) (fm (.tail _ (.tail _ (.tail _ (.tail _ (.head _))))) XU))))
  (λF f h=>dm h.1 λa b p q=>dm h.2 λc d r s=>(BX (a,c) ⟨b,p⟩ q ⟨d,r⟩ s)) (λF j f g h Z gj=>⟨h.1.aT Z gj,h.2.aT Z gj⟩)
  (λi h q=>Vw q λh1 h2 h3 h4 h5=>fm ⟨_,h1⟩ (fm ⟨_,h2⟩ (fm (pU h3 λ_ _ h=>⟨_,h⟩) (fm (ar h4 λo h=>⟨o,h.1⟩) (fm (ar h5 λo h=>⟨o,h.1⟩) XU)))))
  (λi h h' q hk=>Vw q λh1 h2 h3 h4 h5=>⟨hk z (.head _) _ h1,hk TI (.tail _ (.head _)) _ h2,pU h3 λa b h=>(DV a b (hk l (.tail _ (.tail _ (.head _))) _ h)),h4.at λo e=>hk m (.tail _ (.tail _ (.tail _ (.head _)))) o e,h5.at λo e=>hk t (.tail _ (.tail _ (.tail _ (.tail _ (.head _))))) o e⟩)
  (λd F f s=>mr s λ_ a _ b=>by
   show min d.1.toArray.size d.2.toArray.size=(xK T V).length;unfold xK;simp only[List.length_zipWith,ST,ST,<-a.length,<-b.length])
  (λd F f h i s Z k=>mr s λa _ b _=>(aa4 k.1 k.2.1 k.2.2.1 k.2.2.2.1 k.2.2.2.2 (ar a λ_ e=>GQ Z e) (ar b λ_ e=>GQ Z e))) (λd i h s=>(DU s.1 s.2.1 s.2.2.1 s.2.2.2.1 s.2.2.2.2.1))
  (λd F f i vals x s hP hx=>mr s λ_ V1 _ V2=>gm (NA hx) λa b ha hb e=>gm hP λu v hu hv e'=>aj (V1.get i a ha) λu' h1 r1=>aj (V2.get i b hb) λv' h2 r2=>⟨[a,b],e,by
   subst e';obtain rfl:=BT ((ach ..).symm.trans hu|>.symm.trans h1);obtain rfl:=BT ((ach ..).symm.trans hv|>.symm.trans h2);exact .cons r1 (.cons r2 .nil)⟩)
  λi s Q E k hq=>wpAny_pyIter_zip k.1 hq
def zH.V7(R:A.handled=none)(k:List aD) T pos e it l(r:e≠it)(v:l≠e)(z:l≠it) xs:
  zH X A (.Tuple k T pos) e [e,it] (qo xs) (λF f _=>rA X l xs F f) (λi h=>(∃c,IsEnum h e it i c)/\h.IsListIter it l i):=
 zH.ofT (δ:=aQ) (src:=λd F f=>(∃V,F l=some (listOf d.toArray V))/\ax X.prog X.w F f xs d) (λd=>WalksT.enumerate R e it l r v z d.toArray) (λ_ h=>h)
  (λF f h=>dm h λa b p q=>(ay a ⟨b,p⟩ q)) (λF j f g h D Z=>h.aT D Z) (λi h q=>fm (ar q.1 λ_ h=>⟨_,h⟩) (fm (ar q.2 λo h=>⟨o,h.1⟩) XU))
  (λi h h' q I=>⟨ar q.1 λc h=>(wz c (I e (.head _) _ h)),q.2.at λo x=>I it (.tail _ (.head _)) o x⟩)
  (λd F f s=>by
   show d.toArray.size=(qo xs).length;unfold qo;simp only[List.length_mapIdx,ST,s.2.length])
  (λd F f h i s D m=>(bH m.1 m.2 (ar s.1 λ_ e=>GQ D e))) (λd i h s=>⟨s.1,s.2.1⟩)
  (λd F f i P x s hP hx=>aj (Kw hx) λa ha e=>dm hP λt u hu e'=>aj (s.2.get i a ha) λu' h1 r1=>⟨[.int i,a],e,by
   subst e';obtain rfl:=BT ((ach ..).symm.trans hu|>.symm.trans h1);exact .cons (.int _ _) (.cons r1 .nil)⟩)
  λi s Q E m hq=>ar m.1 λ_ h=>wpAny_pyIter_enum h hq
end
section
variable{X:Cx}{S:a0}{env:Env}{A:Around}{E:dy}{F Y I cg H B:bj}{w U O bw:aZ}{d aY T bL:St}{C D G L:Shared}{n:Nat}
def vR(X:Cx)(F:bj)(w:aZ)(a:aR)(b:Flow):Prop:=aR.casesOn (motive:=λ_=>Prop) a (b=.next) (b=.brk) (b=.cont) λa=>∃v,b=.ret v/\aG X.prog X.w F w a v
@[elab_as_elim] def vR.zF{b:Flow}{P:aR->Flow->Prop}(V:vR X F w a b)(c:P .next .next)(f:P .brk .brk)(g:P .cont .cont)(h:∀a v,aG X.prog X.w F w a v->P (.ret a) (.ret v)):P a b:=
 aR.casesOn (motive:=λa=>vR X F w a b->P a b) a (λe=>(show b=.next from e)▸c) (λe=>(show b=.brk from e)▸f) (λe=>(show b=.cont from e)▸g) (λa V=>aj V λv e V=>e▸h a v V) V
def vR.ret(V:aG X.prog X.w F w a v):vR X F w (.ret a) (.ret v):=⟨v,rfl,V⟩
def vS(c:aR)(a b:Prop):Prop:=aR.casesOn (motive:=λ_=>Prop) c a b b λ_=>b
def NB(J:St->Prop)(K:aR->St->Prop)(a:aR)(d:St):Prop:=aR.casesOn (motive:=λ_=>Prop) a (J d) (K .next d) (J d) λv=>K (.ret v) d
def StK(X:Cx)(S:a0)(env:Env)(F H:bj)(w:aZ)(C:Shared)(Q:aR->St->Prop)(P:Flow->Shared->Prop):Prop:=∀b D Y U aY a,cN X S env F H w C Y U aY D->vR X Y U a b->Q a aY->P b D
def rC(X:Cx)(S:a0)(env:Env)(A:Around)(E:dy)(B:bj)(t:Sem Flow)(Q:aR->St->Prop)(d:St):Prop:=
 ∀F H w C (P:Flow->Shared->Prop),Le B H->c6 X S env F H w d C->
  StK X S env F H w C Q P->wpAny (model X.prog X.w) A t P E C
def Uy(h:Q .next d):rC X S env A E B (execs [] env) Q d:=λF H w C P a R k=>wpAny_execs_nil (k _ _ _ _ _ .next (cN.gP R) rfl h)
def Co{Q:aR->St->Prop}(h:rC X S env A E B (exec s env) (λb d=>vS b (rC X S env A E B (execs r env) Q d) (Q b d)) d):rC X S env A E B (execs (s::r) env) Q d:=λF H w C P c R k=>
 wpAny_execs_cons (h F H w C _ c R λb G I O T a N V q=>by
  revert q;refine V.zF ?_ ?_ ?_ λa v V=>?_
  ·exactλq=>q _ _ _ _ _ c N.bu λb L cg bw bL a e f q=>k _ _ _ _ _ _ (N.trans e) f q
  ·exactλq=>k _ _ _ _ _ .brk N rfl q
  ·exactλq=>k _ _ _ _ _ .cont N rfl q
  ·exactλq=>k _ _ _ _ _ _ N (.ret V) q)
def rC.aT(h:rC X S env A E B t Q d)(k:∀a s,Q a s->b a s):rC X S env A E B t b d:=λF H w C P c R p=>h F H w C P c R λv D Y U s a N V q=>p v D Y U s a N V (k a s q)
def NC(h:aU X S env A E (eval e env) (λv d=>Q (.ret v) d) d):rC X S env A E B (exec (.Return (some e) p) env) Q d:=λF H w C P b R k=>
 wpAny_Return_some (h F H w C _ R λv G I O T a N V q=>k _ _ _ _ _ (.ret a) N (.ret V) q)
def V8(h:Q (.ret .none) d):rC X S env A E B (exec (.Return none p) env) Q d:=λF H w C P a R k=>
 wpAny_Return_none (k _ _ _ _ _ (.ret .none) (cN.gP R) (.ret .none) h)
def YT(h:Q .brk d):rC X S env A E B (exec (.Break p) env) Q d:=λF H w C P a R k=>wpAny_Break (k _ _ _ _ _ .brk (cN.gP R) rfl h)
def abC(h:g8 X S env A E (isTrue t env (eval t env)) (λr d=>(r->rC X S env A E B (execs a env) Q d)/\(r=false->rC X S env A E B (execs b env) Q d)) d):
  rC X S env A E B (exec (.If t a b p) env) Q d:=λF H w C P e R k=>
 wpAny_If (h F H w C _ R λr G I O T N q=>by
  cases r
  ·exact q.2 rfl _ _ _ _ _ e N.bu λv L cg bw bL a c V z=>k _ _ _ _ _ _ (N.trans c) V z
  ·exact q.1 rfl _ _ _ _ _ e N.bu λv L cg bw bL a c V z=>k _ _ _ _ _ _ (N.trans c) V z)
def GR(R:c6 X S env F H w d C):interactive env=false:=by unfold interactive;refine R.a8.kind▸?_;rfl
def ND(h:aU X S env A E (eval (.Call f as b q) env) (λv d=>Q .next d) d):rC X S env A E B (exec (.Expr (.Call f as b q) p) env) Q d:=λF H w C P c R k=>
 wpAny_Expr_any (h F H w C _ R λv G I O T a N V q=>k _ _ _ _ _ .next N rfl q) (GR R) rfl
def xc(a:Gz S x i)(R:c6 X S env F H w d C)(V:aG X.prog X.w F w v u)
  (k:∀D,cN X S env F H w C F w ⟨d.aC.set i v,d.cells⟩ D->P () D):wpAny (model X.prog X.w) A (assign (.Name x q) env u) P E C:=ar (ti a) λb c=>wpAny_assign_Name (kr R c V k)
noncomputable def i9(e:aD):Bool:=Nat.ble 8 e.ctorIdx&&Nat.ble e.ctorIdx 10
def AZ(h:i9 e=false):swapsWith e (some t) l env=pure false:=by
 cases e<;>first|rfl|exact Bool.noConfusion h
def V9(h:i9 e=false):swapsWithSole [t] e l env=pure false:=AZ h
def x2(c:Gz S x i)(f:i9 e=false)(h:aU X S env A E (eval e env) (λv d=>Q .next ⟨d.aC.set i v,d.cells⟩) d):
  rC X S env A E B (exec (.Assign [.Name x q] e p) env) Q d:=λF H w C P l R k=>
 wpAny_Assign_Name (h F H w C _ R λv G I O T a N V z=>ar (ti c) λb g=>kr N.bu g V λL j=>k _ _ _ _ _ .next (N.trans j) rfl z) (AZ f)
def GS:∀(b:aH) (l:ah) (a:ah),(fN l b a).length=l.length:=by
 intro b;induction b with
 |nil=>intro l a;cases a<;>rfl
 |cons i b c=>
  intro l a;cases a with
  |nil=>rfl
  |cons v a=>exact(c _ a).trans abX
def Eu:∀(l:ah) (a:ah),i∉b->fN (l.set i v) b a=(fN l b a).set i v:=by
 induction b with
 |nil=>intro l a _;cases a<;>rfl
 |cons j b c=>
  intro l a h;cases a with
  |nil=>rfl
  |cons u a=>
   show fN ((l.set i v).set j u) b a=_;refine(List.set_comm _ _ λq:i=j=>h (EQ.mpr (.inl q)))▸?_;exact c _ a λm=>h (.tail _ m)
def Ew{a:aH}:∀(l:ah) (b:ah),a.length=b.length->fN l (a++[i]) (b++[v])=(fN l a b).set i v:=by
 induction a with
 |nil=>intro l b h;obtain rfl:=aaZ.mp h.symm;rfl
 |cons j a c=>
  intro l b h;refine pU (KF h.symm) λu f e=>?_;subst e;exact c _ f (aa3 h)
def GU{a:aH}:∀(l:ah) (b:ah),b.length=a.length->jN a->fN l a.reverse b.reverse=fN l a b:=by
 induction a with
 |nil=>exactλl b h _=>aaJ h▸rfl
 |cons j a f=>
  exactλl b h g=>pU (KF h) λu o e=>bJ g λi k=>by
   subst e;have c:=aa3 h;rw[List.reverse_cons,List.reverse_cons,Ew _ _ ((acH ..).trans (c.symm.trans (acH ..).symm)),f _ _ c k];exact(Eu _ _ λm=>bx (List.contains_iff_mem.mpr m) (nt i)).symm
def StO(X:Cx)(S:a0)(env:Env)(A:Around)(E:dy)(H:bj)(t:Value->Sem Unit)(i:Nat):Prop:=∀F w d C v u (P:Unit->Shared->Prop),c6 X S env F H w d C->aG X.prog X.w F w v u->(∀D,cN X S env F H w C F w ⟨d.aC.set i v,d.cells⟩ D->P () D)->wpAny (model X.prog X.w) A (t u) P E C
def A0{c:Type}{f:c->Value->Sem Unit}{g:c->Nat}{l:List c}:∀{i:ah} {j:aQ} {d:St} {C:Shared} {P:Unit->Shared->Prop},
  i.length=l.length->(∀p∈l,StO X S env A E H (f p) (g p))->c6 X S env F H w d C->ax X.prog X.w F w i j->(∀D,cN X S env F H w C F w ⟨fN d.aC (l.map g) i,d.cells⟩ D->P () D)->wpAny (model X.prog X.w) A (assignInOrder (l.map f) j) P E C:=by
 induction l with
 |nil=>exactλh _ R V k=>s4 (k _ (aaJ h▸cN.gP R))
 |cons p l r=>
  exactλh o R V k=>pU (KF h) λv x e=>by
   subst e;exact gm V.qh λu s e a b=>e▸dL (KB (o p (.head _) _ _ _ _ _ _ _ R a λG q=>r (aa3 h) (λp m=>o p (.tail _ m)) q.bu b λL t=>k L (q.trans t)))
noncomputable def NF(p:Str×Pos×Nat):aD:=.Name p.1 p.2.1
def Ex:∀{b:aH},Rt S a b->∃l:List (Str×Pos×Nat),a=l.map NF/\b=l.map (·.2.2)/\∀p∈l,Gz S p.1 p.2.2:=by
 induction a with
 |nil=>exactλh=>YF h ⟨[],rfl,rfl,λ_=>nl⟩
 |cons e a c=>exactλh=>Ee h λi f h=>bJ h λg j=>xN g λx p k=>cU (c j) λl o r s=>dC ((x,p,i)::l) (o▸rfl) (r▸rfl) λq m=>(EQ.mp m).elim (λe=>e▸k) (s q)
def Wa(l:List (Str×Pos×Nat)):(assignEach (l.map NF) env).map (·.2)=l.map (λp=>assign (NF p) env)/\(assignEach (l.map NF) env).findIdx? (·.1)=none:=
 l.rec ⟨rfl,rfl⟩ λp l a=>⟨v6 (assign (NF p) env:: ·) a.1,(List.findIdx?_cons (x:=(false,assign (NF p) env))).trans (v6 (Option.map (·+1)) a.2)⟩
def x3{b:aQ}{h:Heap}{o:Obj}(e:h.get? a=some o)(k1:o.cls=.type "tuple")(k2:o.data=.seq b.toArray c):h.IsTuple a b.toArray:=⟨_,e,k1,c,k2⟩
def cN.GV(R:c6 X S env F H w d C)(a:Heap.ExtBut C.heap.objs.size C.heap c):cN X S env F H w C F w d {C with heap:=c,toks:=tk}:=
 cN.ext R λb o e=>a b o (LE (KM e)) e
def IZ{c:aH}{g:ah}(j:A.handled=none)(r:Rt S s c)(R:c6 X S env F H w d C)(V:aG X.prog X.w F w (.tuple g) u)(b:g.length=c.length)
  (k:∀D,cN X S env F H w C F w ⟨fN d.aC c g,d.cells⟩ D->P () D):wpAny (model X.prog X.w) A (assign (.Tuple s kk q) env u) P E C:=cU (Ex r) λl t x y=>tc V.ko λa N Q o e z k1 k2 h=>by
 subst t x e;have M:=Wa (env:=env) l;have b:=b.trans (v4 _);exact wpAny_assign_Tuple j (x3 (R.r0.fz _ _ z) k1 k2) ((v4 (f:=Prod.snd)).symm.trans ((v6 List.length M.1).trans ((v4 _).trans (b.symm.trans h.length)))) M.2 λZ i=>M.1▸A0 b (λp m F w d C v u P R V k=>xc (y p m) R V k) (cN.GV (tk:=C.toks) R i).bu h λD J=>k D ((cN.GV (tk:=C.toks) R i).trans J)
def NG(a:∀x p b,f (.Name x p)=some b->b=x){l:List (Str×Pos×Nat)}:((l.map NF).filterMap f).length=(l.map NF).length->(l.map NF).filterMap f=l.map (·.1):=by
 induction l with
 |nil=>exactλ_=>rfl
 |cons p l c=>
  intro h;cases q:f (NF p)with
  |none=>exact absurd (List.length_filterMap_le f (l.map NF)) (Nat.not_le.mpr ((v6 List.length (List.filterMap_cons_none q)).symm.trans h▸W1 _))
  |some b=>exact(List.filterMap_cons_some q).trans (a _ _ _ q▸v6 (b:: ·) (c (aa3 ((v6 List.length (List.filterMap_cons_some q)).symm.trans h))))
noncomputable def NH(e:aD):Bool:=Nat.beq e.ctorIdx 21||(Nat.beq e.ctorIdx 5||B5 e λa=> !a.all (constantsAlone 8))
def YU(a:List aD)(t:Sem (Option dT)):Prop:=t=pure none\/∃f:aD->Option Str,(∀x p b,f (.Name x p)=some b->b=x)/\(a.filterMap f).length=a.length/\t=pure (some (a.filterMap f))
def Ba{e:Type}{c:Prop}[Decidable c]{P:e->Prop}{a b:e}(f:c->P a)(g:¬c->P b):P (if c then a else b):=by
 by_cases q:c
 ·rw[if_pos q];exact f q
 ·rw[if_neg q];exact g q
def Wb{e:Type}{c1 f b g c:Prop}[Decidable c1][Decidable f][Decidable b][Decidable g][Decidable c]{n u r:e}{P:e->Prop}(a:P n)(h:¬c)(i:¬b->P r):P (if c1 then n else if f then n else if b then n else if g then n else if c then u else r):=
 Ba (λ_=>a) λ_=>Ba (λ_=>a) λ_=>Ba (λ_=>a) λj=>Ba (λ_=>a) λ_=>Ba (λq=>absurd q h) λ_=>i j
def YV{b x y:Str}{c:Prop}[Decidable c](h:(if c then some x else none)=some b):b=x:=wS (λq:c=>(BT ((if_pos q).symm.trans h)).symm) λq=>nx ((if_neg q).symm.trans h)
def GW{es:List aD}{kk:Nat}{q:Pos}{v:aD}(a:NH v):YU es (swappedStores [.Tuple es kk q] v env):=
 (aaV.mp a).elim (λh=>Expr.Subscript.elim (motive_1:=λv=>YU es (swappedStores [.Tuple es kk q] v env)) v (aal h) λ_ _ _=>.inl rfl) λh=>(aaV.mp h).elim
  (λh=>Expr.IfExp.elim (motive_1:=λv=>YU es (swappedStores [.Tuple es kk q] v env)) v (aal h) λ_ _ _ _=>.inl rfl)
  λh=>AL (P:=λv=>YU es (swappedStores [.Tuple es kk q] v env)) h λg _ _ h=>Wb (P:=YU es) (.inl rfl) (λc=>bx c (nt h)) λf=>.inr (dC _ (λx p b e=>YV (y:=x) e) (Decidable.byContradiction λn=>f (aaV.mpr (.inl (bne_iff_ne.mpr n)))) rfl)
def Kx{b:ah}{c:aQ}(V:ax X.prog X.w F w b c):ax X.prog X.w F w b.reverse c.reverse:=V.zF .nil λa _ e=>by rw[List.reverse_cons,List.reverse_cons];exact e.append (.cons a .nil)
def abD(b:aH)(Q:aR->St->Prop)(v:af)(d:St):Prop:=∃a,v=.tuple a/\a.length=b.length/\Q .next ⟨fN d.aC b a,d.cells⟩
def Ky(M:A.handled=none)(c:uN S (.dU is) (.Tuple r i q))(hn:i9 e=false)(ht:NH e)
  (h:aU X S env A E (eval e env) (abD is Q) d):rC X S env A E B (exec (.Assign [.Tuple r i q] e p) env) Q d:=λF H w C P hB R k=>bJ c λc h3=>
 dL (aaf (dL (V9 (t:=.Tuple r i q) (l:=p.line) (env:=env) hn▸s4 (dL (h F H w C _ R λu G I O T a N V z=>cU z λvs e s z=>(GW (env:=env) (es:=r) (kk:=i) (q:=q) ht).elim
  (λb=>b▸dL (s4 (dL (IZ (kk:=i) M c N.bu (e▸V) s λL j=>s4 (k _ _ _ _ _ .next (N.trans j) rfl z)))))
  λb=>cU b λf hf x b=>cU (Ex c) λl e1 e2 y=>tc (e▸V:aG X.prog X.w I O (.tuple vs) u).ko λa ws ep o e ha k1 k2 Z=>by
   clear V;subst e1 e2 e;have Iy:=s.trans (v4 _);have J:(l.map (·.1)).length=ws.toArray.size:=(v4 _).trans (Iy.symm.trans Z.length);refine b▸NG hf x▸dL (s4 (dL (wpAny_rule (dL (J▸wpAny_unpackItems_tuple M (x3 (N.bu.r0.fz _ _ ha) k1 k2) λh' he=>?_)))));have j:=cN.GV (tk:=G.toks) N.bu he;have Q:((l.map (·.1)).reverse.map λn=>bindName env n)=l.reverse.map λp=>bindName env p.1:=(v6 (List.map _) List.map_reverse.symm).trans aac;refine Q▸dL (A0 (g:=(·.2.2)) (acH.trans (Iy.trans acH.symm)) (λp m F w d C v u P R V k=>ar (ti (y p (List.mem_reverse.mp m))) λ_ y=>wpAny_bindName (kr R y V k)) j.bu (Kx Z) λzA g9=>s4 ?_);rw[List.map_reverse,GU _ _ s h3]at g9;exact k _ _ _ _ _ .next ((N.trans j).trans g9) rfl z)))))
end
section
variable{X:Cx}{S:a0}{f:Env}{A:Around}{E:dy}{F F' G U H B:bj}{ι bf L T:aZ}{g aY M Y:St}{D bh O J:Shared}{n:Nat}
def Kz(R:c6 X S f F H ι g D)(V:aG X.prog X.w F ι v u)(t:v=.cell c)(e:aB g.cells c=.ji C k)(i:aB g.cells k=.attrs ns j):
  ∃a d b h m,u=.ref a/\ι[k]?=some d/\g.cells[k]?=some (.attrs ns j)/\InstAt D.heap a (instObj C d) C (some (dictOf b m))/\D.heap.get? d=some (dictOf b m)/\iU b ns h/\ax X.prog X.w F ι j h:=
 gH (R.r0.IM (t▸V) e af.noConfusion) λa o w _ x y=>aj y.D0 λd q l=>gm (R.r0.cell i af.noConfusion) λN P k1 k2 z=>eV z.rl λb h n I p r=>
  have s:D.heap.get? d=some (dictOf b n):=se k1 l▸I▸k2
  abl a d b h n w l (sI i af.noConfusion) ⟨q▸x,rfl,rfl,s⟩ s p r
def uR(h:iU i d r)(s:aG X.prog X.w F ι v u):∀{k:ah},ax X.prog X.w F ι k r->
  ∃m,iU (putL x hs (.str x tk) u i) (xH x v d k).1 m/\ax X.prog X.w F ι (xH x v d k).2 m:=by
 induction h with
 |nil=>exactλ_=>ay _ (.cons .nil) (.cons s .nil)
 | @cons l y c w i d r h t=>
  refineλ{k} V=>gm V.MQ λz j e a b=>e▸wS (λq:y=x=>?_) λq=>aj (t b) λm C I=>?_
  ·have o:putL x hs (.str x tk) u (⟨l,.str y c,w⟩::i)=⟨l,.str y c,u⟩::i:=if_pos (aae.mpr q)
   have p:xH x v (y::d) (z::j)=(y::d,v::j):=if_pos q;rw[o,p];exact ay _ (.cons h) (.cons s b)
  ·have o:putL x hs (.str x tk) u (⟨l,.str y c,w⟩::i)=⟨l,.str y c,w⟩::putL x hs (.str x tk) u i:=if_neg λe=>q (aae.mp e)
   have p:xH x v (y::d) (z::j)=(y::(xH x v d j).1,z::(xH x v d j).2):=if_neg q;rw[o,p];exact ay _ (.cons C) (.cons a I)
def x4{a:List DictEntry}{b:dT}(h:iU a b ws):a.length=b.length/\a.any (·.refKey)=false:=by
 induction h with
 |nil=>exact⟨rfl,rfl⟩
 |cons h c=>exact⟨v6 _ c.1,c.2⟩
def x5 x a k v(b:List DictEntry):(putL x a k v b).length<=b.length+1:=by
 induction b with
 |nil=>exact v0 _
 |cons e r d=>
  refine wS (λq:e.key.isStr x=>?_) λq=>?_
  ·have c:putL x a k v (e::r)=⟨e.hash,e.key,v⟩::r:=if_pos q
   exact c▸aaU _
  ·have c:putL x a k v (e::r)=e::putL x a k v r:=if_neg q
   exact c▸acR d
def NI{h:Heap}(c:h.get? d=some (dictOf a n)):(h.update d (Obj.putName name b k v)).get? d=some (dictOf (putL name b k v a) (putN name a n)):=putName_dict name b k v a n▸UV (Obj.putName name b k v) c (by rw[putName_dict];rfl)
def GX{K:Frag}{s:Shared}(i:K.In s.heap)(I:InstAt s.heap x (instObj C d) C (some (dictOf c n)))
  (e:s.heap.get? d=some (dictOf c n)) (j:plainOver K C) (k:takerIn K C name=some none) (l:hasDictIn K C) (m:c.any (·.refKey)=false) (o:c.length<=1000)
  (h:R (.ok (.ret .none)) {s with heap:=s.heap.update d (Obj.putName name (PyData.keyHash w.params name) (.str name s.toks) v),toks:=s.toks+1}):
  codeAny (model prog w) A (.call (.builtin "object.__setattr__") ⟨[.ref x,.str name tk,v],[]⟩) R s:=by
 refine osa_open i I j k λb=>aj (any_some l) λr p q=>?_;refine dL (s4 (dL (dL (wpAny_loadPart I.at_ (dL ((looks_clsIn i p).here (q.symm▸s4 (a:=some d) (dL (s4 (dL (dL (dL (ab7 (s4 (dL (wpAny_mkText (dL (wpAny_loadPart e ?_))))))))))))))))));dsimp only;rw[aRefKeyMayBeTheName_at,(v6 (!c.toArray.any (·.key.isStr name)&& ·) (List.any_toArray.trans m)).trans (ac9 _)];exact wpAny_updatePart e (dL (wpAny_lookBehind (NI e) (pastItsLine_dict (o0 (aaM ST) (o0 (x5 ..) (o0 (acR o) (by decide))))) (s4 h)))
def abE(X:Cx)(x:Str)(Q:aR->St->Prop)(v u:af)(g:St):Prop:=∃c C k a b,u=.cell c/\aB g.cells c=.ji C k/\C∈ff X.K/\aB g.cells k=.attrs a b/\a.length<=100/\Q .next ⟨g.aC,g.cells.set k (.attrs (xH x v a b).1 (xH x v a b).2)⟩
def KA(N:Ut X.K x)(V:i9 e=false)
  (h:aU X S f A E (eval e f) (λv g=>aU X S f A E (eval o f) (abE X x Q v) g) g):rC X S f A E B (exec (.Assign [.Attribute o x q] e p) f) Q g:=λF H ι D P hB R k=>
 plainObj_wpAny_Assign_Attribute (h F H ι D _ R λv O G L M a r Z cz=>cz G H L O _ r.bu λu J U T Y b i c9 z=>abn z λc C kk ns vs e e1 hC e2 hl z=>abo (Kz i.bu c9 e e1 e2) λa' d es ws m e hk j I t w hV=>
  bJ (WP.mp N C hC) λl c4=>bJ l λl c3=>bJ l λc1 c2=>aj (uR w (hs:=PyData.keyHash X.w.params x) (tk:=J.toks+1) (Z.aT i.le i.jP) hV) λF9 n1 n2=>have y:=x4 w
  e▸set_plain i.bu.r0.k I (aae.mp c1) (GX (s:={J with toks:=J.toks+1}) i.bu.r0.k I t c2 (aae.mp c3) c4 y.2 (y.1▸o0 hl (by decide))
   (k _ _ _ _ _ .next ((r.trans i).trans (cN.sv i.bu hk j af.noConfusion (NI t) (.update ..) (.attrs n1 n2))) rfl z))) (AZ V)
def Cp{E:dy}{s:Shared}{a:aQ}{p:Nat}{k:Int}{j:Nat}{Q:Unit->Shared->Prop}(c:s.heap.get? l=some (listOf a.toArray p))(q:a.length<=aL)(m:j<a.length)(b:k=j\/(k= -1/\j=a.length-1))
  (h:Q () {s with heap:=s.heap.update l (Obj.mapSeq (·.setIfInBounds j v))}):wpAny (model prog w) A (setItem (.ref l) (.int k t) v) Q E s:=by
 haveI d:=cV c;unfold setItem;refine KB (dL (wpAny_sequenceKey d.typeIs rfl ?_));refine dL (wpAny_callSpecial?_slot (name:=Str.ofString "__setitem__") d.typeIs slot_list_setitem (wpAny_call_entry slot_list_setitem d.typeIs entry_list_setitem ?_ (args_list_setitem _ _ _)));show wpAny _ _ (Builtin.List.listSubscript? (.int k t)>>=_) _ _ s;refine dL (wpAny_listSubscript_int (b.elim (λe=>e▸fitsIndex_of (IR _) (Nm (aaY.mpr m) q)) λe=>e.1▸fitsIndex_neg (by decide) (by decide)) ?_);have o:a.toArray[j]?=some a[j]:=(Array.getElem_eq_iff.mp rfl);rcases b with b|b
 ·subst b
  refine dL (dL (wpAny_seqItemAt c rfl (s4 ?_)));refine o▸?_;exact dL (wpAny_setSeqItemAt c rfl (s4 (ay Value.none rfl (s4 h))))
 ·obtain⟨rfl,rfl⟩:=b
  refine dL (dL ?_);refine dL (wpAny_seqItems c rfl (s4 (s4 ?_)))
  have r:(seqIndex? (-1) a.toArray.size).bind (λi=>(a.toArray[i]?).map λx=>(i,x))=some (a.length-1,a[a.length-1]):=by
   rw[ST,RG (IN (SC _) m),Option.bind_some,o];rfl
  refine r▸?_;exact dL (wpAny_setSeqItemAt c rfl (s4 (ay Value.none rfl (s4 h))))
def KC{k x:Int}{l:List (Int×Value)}(h:k≠x):stored ((k,w)::l) x u=(k,w)::stored l x u:=by
 show(if(decide (k=x)||l.any λkv=>kv.1=x)=true then(if k=x then(k,u)else(k,w))::l.map (λkv=>if kv.1=x then(kv.1,u)else kv)else(k,w)::(l++[(x,u)]))=_;rw[SZ h,if_neg h,Bool.false_or];unfold stored;cases l.any λkv=>kv.1=x<;>rfl
def KD{l:List (Int×Value)}(h:x∉l.map (·.1)):stored ((x,w)::l) x u=(x,u)::l:=by
 show(if(decide (x=x)||l.any λkv=>kv.1=x)=true then(if x=x then(x,u)else(x,w))::l.map (λkv=>if kv.1=x then(kv.1,u)else kv)else _)=_;rw[FM rfl,Bool.true_or,if_pos rfl,if_pos rfl,map_store_of_not_mem _ _ _ h]
def GY{i:aQ}(V:ax X.prog X.w F ι d i)(r:aG X.prog X.w F ι v u):∀{c:aS},c.length=i.length->c.Nodup->
  ∃h,stored (c.zip i) x u=(gI x v c d).1.zip h/\(gI x v c d).1.length=h.length/\ax X.prog X.w F ι (gI x v c d).2 h:=
 V.zF (P:=λd i=>∀{c:aS},c.length=i.length->c.Nodup->∃h,stored (c.zip i) x u=(gI x v c d).1.zip h/\(gI x v c d).1.length=h.length/\ax X.prog X.w F ι (gI x v c d).2 h)
  (λ{c} j _=>aaZ.mp j▸dC [u] rfl rfl (.cons r .nil)) λ{a b d i} p q s c j l=>by
  cases c with
  |nil=>exact Nat.noConfusion j
  |cons k c=>
   have l:=TT.mp l;refine wS (λe:k=x=>?_) λe=>cU (s (aa3 j) l.2) λh t w z=>?_
   ·subst e
    have o:gI k v (k::c) (a::d)=(k::c,v::d):=if_pos rfl;rw[o];exact dC (u::i) (KD λm=>aj (FB.mp m) λy C e=>l.1 (e▸(List.of_mem_zip (a:=y.1) (b:=y.2) C).1)) j (.cons r q)
   ·have o:gI x v (k::c) (a::d)=(k::(gI x v c d).1,a::(gI x v c d).2):=if_neg e
    rw[o];exact dC (b::h) ((KC e).trans (v6 _ t)) (v6 (·+1) w) (.cons p z)
def abF(Q:aR->St->Prop)(v u k:af)(g:St):Prop:=∃c x,u=.cell c/\k=.int x/\((∃a j,aB g.cells c=.list a/\a.length<=aL/\j<a.length/\(x=(j:Nat)\/x= -1/\j=a.length-1)/\Q .next ⟨g.aC,g.cells.set c (.list (a.set j v))⟩)\/
 ∃b d,aB g.cells c=.dict b d/\b.length<=aL/\Q .next ⟨g.aC,g.cells.set c (.dict (gI x v b d).1 (gI x v b d).2)⟩)
def KG{Q:aR->St->Prop}(V:i9 e=false)
  (h:aU X S f A E (eval e f) (λv g=>aU X S f A E (eval o f) (λu g=>aU X S f A E (eval i f) (abF Q v u) g) g) g):rC X S f A E B (exec (.Assign [.Subscript o i q] e p) f) Q g:=λF H ι D P hB R k=>
 wpAny_Assign_Subscript (h F H ι D _ R λv O G L M a Z eX cz=>cz G H L O _ Z.bu λu J U T Y b s c9 s8=>s8 _ _ _ _ _ s.bu λw zA Iw Vf Vg c m Ay z=>gm z λcc x e0 y z=>ar (Ay.ij y) λt y=>by
  clear s8 cz h;have Vi:=e0▸c9.aT m.le m.jP;have Vj:=(eX.aT s.le s.jP).aT m.le m.jP;have N:=(Z.trans s).trans m;subst y;clear Ay c9 eX Z s
  exact z.elim (λz=>rR z λxs j e1 hL h1 h2 z=>uJ (AX m.bu Vi e1) λl ws ep e ha hc C I=>have r:=I.length
   e▸Cp (j:=j) C (r▸hL) (r▸h1) (r▸h2) (k _ _ _ _ _ .next (N.trans (cN.w8 (tk:=zA.toks) m.bu ha hc C (us:=ws.set j v) (List.setIfInBounds_toArray ws j v) (I.set Vj _))) rfl z))
   λz=>gm z λks vs e1 hL z=>Yl (Kr m.bu Vi e1) λd ws e ha hc hd r I hm=>cU (GY I Vj r (x:=x) (Yo hd λo es ep _ _ _ _ _ V=>List.map_fst_zip (aaM r)▸V)) λF9 e2 y e4=>
    e▸wpAny_setItem_pairs (knd:=intKind X.prog X.w) (acA _ _ _ _) hd (λh' MI AA=>aj (Heap.dictOf_iff.mp MI) λo C hdo=>k _ _ _ _ _ .next (N.trans (cN.sv m.bu ha hc af.noConfusion C AA (.dict (e2▸hdo) y e4))) rfl z)
     (o0 (o0 (aaM List.length_zip) (Nat.min_le_left _ _)) (fo hL))) (AZ V)
def RN{Q:aR->St->Prop}(l:PassesOwn (model X.prog X.w) A f E){I:Nat->St->Prop}{m:Nat}(q:I m g)
  (h:∀m g,I m g->g8 X S f A E (isTrue t f (eval t f)) (λr g=>(r=false->Q .next g)/\
   (r->rC X S f A E B (execs b f) (NB (λg=>∃c,c<m/\I c g) Q) g)) g):
  rC X S f A E B (exec (.While t b [] p) f) Q g:=λF H ι D P u R k=>
 wpAny_While (codeAny_whileLoop (λn s=>∃F' bf aY,cN X S f F H ι D F' bf aY s/\I n aY) (λn s w=>B0 w λG L M N x=>wpAny_passesOwn l (h n M x G H L s _ N.bu λr J U T Y d z=>by
  cases r
  ·exact wpAny_execs_nil (k _ _ _ _ _ .next (N.trans d) rfl (z.1 rfl))
  ·refine wpAny_passesOwn l (z.2 rfl _ _ _ _ _ u d.bu λy C Z Vf Vg a o V z=>?_)
   have e:=(N.trans d).trans o;clear N d o;revert z;refine V.zF ?_ ?_ ?_ λa v V=>?_
   ·exactλz=>aj z λc i j=>ay c i (Kj _ _ _ e j)
   ·exactλz=>k _ _ _ _ _ .next e rfl z
   ·exactλz=>aj z λc i j=>ay c i (Kj _ _ _ e j)
   ·exactλz=>k _ _ _ _ _ (.ret _) e (.ret V) z)) m (Kj F ι g (cN.gP R) q))
end
section
variable{X:Cx}{S:a0}{d:Env}{A:Around}{E:dy}{F Y G cg H B:bj}{D U M bw:aZ}{g aY O bL:St}{σ bh C aP:Shared}{n:Nat}
def ItK(X:Cx)(S:a0)(A:Around)(d:Env)(F H:bj)(D:aZ)(σ:Shared)(c:aD)(Q:ah->af->St->Prop)(P:dy):Prop:=∀I e b a rz Z bh Y U aY,cN X S d F H D σ Y U aY bh->zH X A c I e b rz Z->Hd S d Y H U e->Z 0 bh.heap->(∀f h i,Le Y f->hU U h->eF a b i->rz f h i.cells)->eF a b aY->Q b a aY->P (.ref I) bh
def lG(X:Cx)(S:a0)(d:Env)(A:Around)(E:dy)(a b:aD)(Q:ah->af->St->Prop)(g:St):Prop:=
 ∀F H D σ (P:dy),c6 X S d F H D g σ->
  ItK X S A d F H D σ b Q P->
  wpAny (model X.prog X.w) A (eval a d) (λx s=>wpAny (model X.prog X.w) A (pyIter x) P E s) E σ
def lG.aT(h:lG X S d A E iter c Q g)(k:∀b a s,Q b a s->e b a s):lG X S d A E iter c e g:=λF H D σ P R p=>
 h F H D σ P R λI f b a rz Z bh Y U s N W i j l m q=>p I f b a rz Z bh Y U s N W i j l m (k _ _ _ q)
def Cq(R:c6 X S d F H D g σ)(h:∀b∈wr,σ.heap.objs.size<=b):Hd S d F H D wr:=λb m=>Cn R (h b m)
def GZ(n:Nat):∀b∈[n],n<=b:=λ_ m=>aaM (u8.mp m).symm
def Wc{g:St}(e:aO g.cells a=.list xs):eF a xs g:=by
 unfold eF;cases h:xG a with
 |none=>trivial
 |some n=>exact(v6 (aO g.cells) (wW h)).symm.trans e
def Wd(V:aG X.prog X.w F D a (.ref l))(e:aO cells a=.list f):∀h i (j:St),Le F h->hU D i->eF a f j->xb X l f h i j.cells:=by
 refineλh i j o p r=>wS (λb:∃c,a=.cell c=>ar b λc b=>?_) λb=>?_
 ·subst b
  exact aj V.xQ λs k m=>.inr (ay c (p _ _ (Value.ref.inj k▸m)) r)
 ·have t:a=.list f:=(zM λn q=>b ⟨n,q⟩).symm.trans e
  subst t;exact eV V.jk λs u v k m w=>.inl (j6 u v (o _ _ (Value.ref.inj k▸m)) (w.aT o p))
def RO(p:A.handled=none)(h:aU X S d A E (eval iter d) (λv g=>eZ (aO g.cells v) λc=>Q c v g) g):lG X S d A E iter f Q g:=λF H D σ P R k=>
 h F H D σ _ R λv C G M O a N V z=>aj (cD z) λc j z=>eV (cJ N.bu.r0 V j) λl r s e m t=>
  e▸wpAny_pyIter_list (cV m) (k C.heap.objs.size [C.heap.objs.size] c a (xb X l c) (λi h=>h.IsListIter C.heap.objs.size l i) _ G M O (N.trans (.ext N.bu λb o q=>wT _ q)) (zH.list p f _ l c (LE (KM m)))
   (Cq (σ:=C) N.bu (GZ _)) (dC _ (GM _ rfl) rfl rfl) (Wd (e▸V) j) (Wc j) z)
def Ey{a b:Int}(c:0<=a)(e:a<=aL)(f: -(aL:Int)<=b)(h:b<=aL):Builtin.Range.small a b 1:=
 small_one (acF (by decide:(-(2^62):Int)<=0) c) (Int.lt_of_le_of_lt e (by decide:((aL:Nat):Int)<2^62)) (acF (by decide:(-(2^62):Int)<=-((aL:Nat):Int)) f) (Int.lt_of_le_of_lt h (by decide:((aL:Nat):Int)<2^62))
def Ez(i:A.handled=none){a b:Int}{Q:ah->af->St->Prop}{P:dy}(N:cN X S d F H D σ G M O C)(j:IsRange C.heap r a b 1 t u v)(f:0<=a)(h:a<=aL)(l: -(aL:Int)<=b)(c:b<=aL)(q:Q (cB a b) .none O)
  (k:ItK X S A d F H D σ e Q P):
  wpAny (model X.prog X.w) A (pyIter (.ref r)) P E C:=by
 refine wpAny_pyIter_range j (Ey f h l c) (k C.heap.objs.size [C.heap.objs.size] _ .none _ _ _ G M O (N.trans (.ext N.bu λb o c=>wT _ c)) (zH.range i e _ a b) (Cq (σ:=C) N.bu (GZ _)) ?_ (λ_ _ _ _ _ _=>trivial) trivial q);show IsRangeIter _ _ (a+((0:Nat):Int)*1) (((b-a).toNat:Int)-((0:Nat):Int)) 1;rw[vQ c f h,show a+((0:Nat):Int)*1=a from Int.add_zero a,show((b-a).toNat:Int)-((0:Nat):Int)=((b-a).toNat:Int)from Int.sub_zero _];exact GM _ rfl
def Bb(R:c6 X S d F H D g σ)(j:gZ X.K S x u)(k:(∃T,u=.type T)\/∃i,u=.builtin i)(b:aK a=false)(h:aU X S d A E (eval a d) Z g)
  (l:∀v C G M O c,cN X S d F H D σ G M O C->aG X.prog X.w G M c v->Z c O->wpAny (model X.prog X.w) A (call u [v]) P E C):
  wpAny (model X.prog X.w) A (eval (.Call (.Name x p) [a] [] q) d) P E σ:=
 dL (sD R j (el k (bD (tw b)) (cL (bD (tw b)) (lI (Q:=λf g=>∃v,f=[v]/\Z v g) b (h.aT λv g z=>(ay v rfl z)) F H D σ _ R λm C G M O f N V z=>aj z λv e z=>
  aj (ax.j9 (a:=v) (us:=m) (e▸V)) λr e o=>e▸l _ _ _ _ _ _ N o z))))
def Bc{Z:af->af->St->Prop}{P:dy}(R:c6 X S d F H D g σ)(o:gZ X.K S x u)(r:(∃T,u=.type T)\/∃i,u=.builtin i)(j:aK a=false)(f:aK b=false)
  (h:aU X S d A E (eval a d) (λv g=>aU X S d A E (eval b d) (λu g=>Z v u g) g) g)
  (s:∀v k C G M O c l,cN X S d F H D σ G M O C->aG X.prog X.w G M c v->aG X.prog X.w G M l k->Z c l O->wpAny (model X.prog X.w) A (call u [v,k]) P E C):
  wpAny (model X.prog X.w) A (eval (.Call (.Name x p) [a,b] [] q) d) P E σ:=
 dL (sD R o (el r (bD (IW j f)) (cL (bD (IW j f)) (w6 (Q:=λm g=>∃v u,m=[v,u]/\Z v u g) j f (h.aT λv g z=>z.aT λu g z=>(j6 v u rfl z)) F H D σ _ R λt C G M O m N V z=>dm z λv u e z=>
  gm (ax.IV (a:=v) (b:=u) (us:=t) (e▸V)) λI k e w y=>e▸s _ _ _ _ _ _ _ _ N w y z))))
def KH(f:A.handled=none)(i:gZ X.K S x (.type "range"))(j:aK a=false)
  (h:aU X S d A E (eval a d) (λv g=>c7 v λb=> -(aL:Int)<=b/\b<=aL/\Q (cB 0 b) .none g) g):lG X S d A E (.Call (.Name x p) [a] [] q) l Q g:=λF H D σ P R k=>
 Bb R i (.inl ⟨_,rfl⟩) j h λv C G M O c N V z=>dm (V.c7 z) λb t e z=>e▸call_range_1
  (Ez f (N.trans (.ext N.bu λb o m=>wT _ m)) (IsRange.new _ _ _ _ _ _ _) (Int.le_refl _) (IR aL) z.1 z.2.1 z.2.2 k)
def KJ(l:A.handled=none){Q:ah->af->St->Prop}(m:gZ X.K S x (.type "range"))(r:aK a=false)(f:aK b=false)
  (h:aU X S d A E (eval a d) (λv g=>aU X S d A E (eval b d) (λu g=>c7 v λa=>c7 u λb=>0<=a/\a<=aL/\-(aL:Int)<=b/\b<=aL/\Q (cB a b) .none g) g) g):lG X S d A E (.Call (.Name x p) [a,b] [] q) s Q g:=λF H D σ P R k=>
 Bc (Z:=λv u g=>c7 v λa=>c7 u λb=>0<=a/\a<=aL/\-(aL:Int)<=b/\b<=aL/\Q (cB a b) .none g) R m (.inl ⟨_,rfl⟩) r f h λv J C G M O c L N V w z=>dm (V.c7 z) λi t e z=>dm (w.c7 z) λj u y z=>e▸y▸call_range_2
  (Ez l (N.trans (.ext N.bu λb o I=>wT _ I)) (IsRange.new _ _ _ _ _ _ _) z.1 z.2.1 z.2.2.1 z.2.2.2.1 z.2.2.2.2 k)
noncomputable def mB(e:aD):Bool:=Nat.beq e.ctorIdx 25
def I0(h:mB e):∃f k p,e=.Tuple f k p:=Expr.Tuple.elim (motive_1:=λe=>∃f k p,e=.Tuple f k p) e (aal h) λa b c=>(VA a b c rfl)
def RQ(w:A.handled=none)(y:gZ X.K S x (.type "enumerate"))(I:aK a=false)(J:mB j)
  (h:aU X S d A E (eval a d) (λv g=>eZ v λb=>b.length<=aL/\Q (qo b) .none g) g):lG X S d A E (.Call (.Name x p) [a] [] q) j Q g:=λF H D σ P R k=>
 Bb R y (.inl ⟨_,rfl⟩) I h λv C G M O c N V z=>MJ (I0 J) λf L m e=>aj (cD z) λb T z=>eV (V.B9 T) λl Z ep e2 r hv=>
  have s:=N.bu.r0.fz _ _ r;have i: @LT.lt Nat _ l C.heap.objs.size:=KM s
  e2▸call_enumerate_list (cV s) λh' t o hsz hk=>wpAny_pyIter_enum t (k (C.heap.objs.size+1) [C.heap.objs.size+1,C.heap.objs.size] (qo b) .none _ _ {C with heap:=h'} G M O (N.trans (.ext N.bu hk))
   (e▸zH.V7 w f L m (C.heap.objs.size+1) C.heap.objs.size l (Nat.succ_ne_self _) (LE (aaQ i)) (LE i) b) (Cq (σ:=C) N.bu (fm (aaU _) (GZ _))) ⟨⟨_,t⟩,o⟩
   (λIz s9 Ga u gj _=>j6 Z ep (u _ _ r) (hv.aT u gj)) trivial z.2)
def ak(h:a≠b):n+a≠n+b:=λe=>h (Nat.add_left_cancel e)
def EA(c: @LT.lt Nat _ f n)(e: @LT.lt Nat _ h n):ZipApart (n+4) (n+2) (n+3) n (n+1) f h:=by
 constructor<;>first|exact ak (by decide)|exact ak (n:=n) (a:=0) (by decide)|exact ak (n:=n) (b:=0) (by decide)|exact LE (Nat.lt_add_right _ c)|exact LE (Nat.lt_add_right _ e)|exact LE c|exact LE e
def We(hA:A.handled=none){Q:ah->af->St->Prop}(hx:gZ X.K S x (.type "zip"))(hs:aK a=false)(r:aK b=false)(ht:mB s)
  (h:aU X S d A E (eval a d) (λv g=>aU X S d A E (eval b d) (λu g=>eZ v λf=>eZ u λi=>f.length<=aL/\i.length=f.length/\Q (xK f i) .none g) g) g):
  lG X S d A E (.Call (.Name x p) [a,b] [] q) s Q g:=λF H D σ P R k=>
 Bc (Z:=λv u g=>eZ v λf=>eZ u λi=>f.length<=aL/\i.length=f.length/\Q (xK f i) .none g) R hx (.inl ⟨_,rfl⟩) hs r h λv v' C G M O c c' N V V' z=>
  MJ (I0 ht) λj kk t e=>aj (cD z) λf e1 z=>aj (cD z) λi e2 z=>eV (V.B9 e1) λl1 ws ep e3 J hv=>eV (V'.B9 e2) λl2 w y e4 l I=>
  have L:=N.bu.r0.fz _ _ J;have m:=N.bu.r0.fz _ _ l
  e3▸e4▸call_zip_2 (cV L) (cV m) λh' a1 a2 a3 a4 a5 hsz hk=>wpAny_pyIter_zip a1 (k (C.heap.objs.size+4) [C.heap.objs.size+4,C.heap.objs.size+2,C.heap.objs.size+3,C.heap.objs.size,C.heap.objs.size+1] (xK f i) .none _ _ {C with heap:=h'} G M O (N.trans (.ext N.bu hk))
   (e▸zH.zip hA j kk t _ _ _ _ _ l1 l2 (EA (KM L) (KM m)) f i z.2.1) (Cq (σ:=C) N.bu (fm (T0 _ _) (fm (T0 _ _) (fm (T0 _ _) (fm (v0 _) (fm (aaU _) XU)))))) (DU a1 a2 (DV _ _ a3) a4 a5)
   (λIz s9 Ga o T _=>⟨j6 ws ep (o _ _ J) (hv.aT o T),j6 w y (o _ _ l) (I.aT o T)⟩) trivial z.2.2)
def NJ(b:A.handled=none){Q:St->Prop}{P:Unit->Shared->Prop}(a:uN S t e)(R:c6 X S d F H D g σ)(V:aG X.prog X.w F D x u)(h:gy t x g Q)
  (k:∀bh aY,cN X S d F H D σ F D aY bh->Q aY->P () bh):wpAny (model X.prog X.w) A (assign e d u) P E σ:=by
 cases t with
 |dA i=>exact xN a λy p c=>xc c R V λbh N=>k _ _ N h
 |dU m=>
  refine AL a λo r p f=>bJ f λj s=>?_;cases x with
  |tuple v=>exact aX h λl q=>IZ b j R V l λbh N=>k _ _ N q
  |_=>exact h.elim
def uS(h:jO e=false) x:foldedSetIterable e d x=pure x:=by cases e<;>first|rfl|exact Bool.noConfusion h
def YW{P:Flow->Shared->Prop}(c:PassesOwn (model a w) A d E)(I:Nat->Shared->Prop)
  (turn:∀n s,I n s->∀b:Flow->Shared->Prop,(∀m s,m<n->I m s->b .next s/\b .cont s)->(∀s,P .next s->b .brk s)->(∀v s,P (.ret v) s->b (.ret v) s)->wpAny (model a w) A (pyNext it) (λr k=>r.elim (P .next k)
   λv=>wpAny (model a w) A (letOwnedTupleGo target it v) (λ_ i=>wpAny (model a w) A (assign target d v) (λ_ p=>wpAny (model a w) A (execs body d) b E p) E i) E k) E s)
  (n:Nat) (h:I n s):codeAny (model a w) A (.forLoop target it body [] d) (λr s=>match r with| .ok f=>P f s| .error e=>cameBackBy (model a w) A d E e s) s:=
 codeAny_forLoop_any I (λn s h=>wpAny_passesOwn c (ab6 (turn n s h (λf j=>match f with
   | .next| .cont=>∃m,m<n/\I m j
   | .brk=>P .next j
   | .ret v=>P (.ret v) j) (λm s l o=>⟨⟨m,l,o⟩,⟨m,l,o⟩⟩) (λ_ h=>h) λ_ _ h=>h) (λr _ h=>by
    cases r with
    |none=>exact wpAny_execs_nil h
    |some v=>exact wpAny_passesOwn c (ab6 h (λ_ _ h=>wpAny_passesOwn c (ab6 h (λ_ _ h=>wpAny_passesOwn c h) λ_ _ h=>h)) λ_ _ h=>h)) λ_ _ h=>h)) n h
structure abG(X:Cx)(S:a0)(d:Env)(F H:bj)(D:List Addr)(σ:Shared)(G:bj)(M wr:List Addr)(N:Nat)(Z:Nat->Heap->Prop)(J:Nat->St->Prop)(i n:Nat)(Y:bj)(U:List Addr)(aY:St)(s:Shared):Prop where
 n:i+n=N
 nx:cN X S d F H D σ Y U aY s
 le:Le G Y
 jP:hU M U
 hw:Hd S d Y H U wr
 z:Z i s.heap
 j:J i aY
def YX(hA:A.handled=none)(hP:PassesOwn (model X.prog X.w) A d E)(hc:uN S t j)(hs:jO iter=false)
  (h:lG X S d A E iter j (λc l g=>∃I:Nat->St->Prop,I 0 g/\
   (∀k g x,c[k]?=some x->I k g->eF l c g/\gy t x g λg=>rC X S d A E B (execs b d) (NB (I (k+1)) Q) g)/\
   (∀g,I c.length g->eF l c g/\Q .next g)) g):
  rC X S d A E B (exec (.For j iter b [] p) d) Q g:=λF H D σ P hB R k=>
 wpAny_For (h F H D σ _ R λI wr c l rz Z C G M O N W hd hz f _ zz=>cU zz λJ j0 js jd=>
  YW hP (λn s=>∃i Y U aY,abG X S d F H D σ G M wr c.length Z J i n Y U aY s) (λn s hI PQ p1 p2 p3=>ML hI λi cg bw bL L=>by
   clear hI zz h;cases u:c[i]? with
   |none=>
    have hi:c.length=i:=acE (acf.mp u) (L.n▸T0 i n);exact aX (jd bL (hi▸L.j)) λh1 w=>W.done cg H bw bL.cells s _ E (hi▸L.z) L.nx.bu.r0 (f _ _ bL L.le L.jP h1) (λb m=>(L.hw b m).1) λh' tk hk=>k _ _ _ _ _ .next (L.nx.trans (cN.Cm (tk:=tk) L.nx.bu L.hw hk)) rfl w
   |some x=>
    refine aX (js i bL x u L.j) λh1 w=>ab6 (W.next (E:=E) (Q:=λr s=>r.elim True λv=>wpAny (model X.prog X.w) A (assign j d v) (λ_ DQ=>wpAny (model X.prog X.w) A (execs b d) PQ E DQ) E s) L.nx.bu L.hw u L.z (f _ _ bL L.le L.jP h1) λv zA Iw y V Gb T=>
     NJ hA hc (y.bu.zN T) V w λzy aaj nU hb=>hb Iw _ bw zy _ (hB.trans (Ck λb m=>(T b m).2.1)) nU.bu λfl zB Uj Gd Kg a o Uk z=>?_) (λr s' hr=>by
      cases r with
      |none=>exact hr.elim
      |some v=>exact hr) λ_ _ e=>e
    clear w;refine cY (o.bu.n8 (λb m=>⟨(T b m).2.1,(T b m).2.2.2⟩) (W.ex _ _ Gb)) λUl Vk Vl=>?_;have N':cN X S d F H D σ Uj Gd Kg zB:=⟨(L.nx.le.trans y.le).trans o.le,λn x e=>o.jP n x (L.nx.jP n x e),Ul⟩
    have q:J (i+1) Kg->PQ .next zB/\PQ .cont zB:=λz=>by
     have hn:=L.n;cases n with
     |zero=>exact absurd (wP.mp u).1 (aaG.mpr (aaM hn.symm))
     |succ n=>exact p1 n _ (W1 n) ⟨i+1,Uj,Gd,Kg,(acG i n).trans hn,N',(L.le.trans y.le).trans o.le,λn x e=>o.jP n x (L.jP n x e),Vk,W.frame _ _ _ Gb Vl,z⟩
    clear Vl Ul Vk o y;revert z;refine Uk.zF ?_ ?_ ?_ λa v V=>?_
    ·exactλz=>(q z).1
    ·exactλz=>p2 _ (k _ _ _ _ _ .next N' rfl z)
    ·exactλz=>(q z).2
    ·exactλz=>p3 _ _ (k _ _ _ _ _ (.ret _) N' (.ret V) z)) c.length ⟨0,G,M,O,Nat.zero_add _,N,Le.refl _,hU.refl _,hd,hz,j0⟩) (uS hs)
end
def I1 g target iter(f:List aD)(a:List Comprehension) scope pos it e b d(h:a[d]?=some ⟨target,iter,f,0⟩)(i:a[d+1]?=none):
  compTurn (.ListComp g a scope pos) d it e b=(do
   standAt iter.pos
   match<-pyNext it with
   |none=>pure (.done .next)
   |some v=>
    letOwnedTupleGo target it v
    assign target b v
    let mut ok:=true
    for c in f do
     if ok then ok<-isTrue c b (eval c b)
    if ok then
     (do let _<-call (.builtin "list.append") [e,<-eval g b])
    again (.compLoop (.ListComp g a scope pos) d it e b)):=by
 unfold compTurn;dsimp only;simp only[h,i];rfl
def RS i target iter k j(h l:List aD)(b:List Comprehension) e f it g a d(m:b[d]?=some ⟨target,iter,h,0⟩)(n:b[d+1]?=some ⟨k,j,l,0⟩):
  compTurn (.ListComp i b e f) d it g a=(do
   standAt iter.pos
   match<-pyNext it with
   |none=>pure (.done .next)
   |some v=>
    letOwnedTupleGo target it v
    assign target a v
    let mut ok:=true
    for c in h do
     if ok then ok<-isTrue c a (eval c a)
    if ok then
     let x<-eval j a
     standAt j.pos
     let x<-foldedSetIterable j a x;let _<-runOwn (.compStart (.ListComp i b e f) (d+1) (<-holding [x] (pyIter x)) g a) a
     again (.compLoop (.ListComp i b e f) d it g a)
    else again (.compLoop (.ListComp i b e f) d it g a)):=by
 unfold compTurn;dsimp only;simp only[m,n,show((0:Nat) !=0)=false from rfl,ac8,if_false];rfl
def RT e d target iter(b:List aD) scope pos it D a:compTurn (.DictComp e d [⟨target,iter,b,0⟩] scope pos) 0 it (.ref D) a=(do
   standAt iter.pos
   match<-pyNext it with
   |none=>pure (.done .next)
   |some v=>
    letOwnedTupleGo target it v
    assign target a v
    let mut ok:=true
    for c in b do
     if ok then ok<-isTrue c a (eval c a)
    if ok then
     (do
      let kv<-eval e a;let f<-holding [kv] (eval d a)
      standAt {e.pos with endLine:=d.pos.endLine,endCol:=d.pos.endCol}
      holding [kv,f] (dictSet D kv f))
    again (.compLoop (.DictComp e d [⟨target,iter,b,0⟩] scope pos) 0 it (.ref D) a)):=by rfl
section
variable{X:Cx}{S:a0}{p:Env}{A:Around}{E:dy}{F C aF cg H B:bj}{y L au U:aZ}{G aY aA bL:St}{O T Y aP:Shared}{n:Nat}
abbrev NE:dy:=λ_ _=>False
def WK(G sx:St):Prop:=sx.cells=G.cells/\sx.aC.length=G.aC.length/\∀(i:Nat) v,G.aC[i]?=some v->v≠ .ae->sx.aC[i]?=some v
def c6.abH(R:c6 X S p F H y aY O)(h:WK G aY):c6 X S p F H y G O:=cY h λb c d=>⟨b▸R.r0,R.a8.chg c.symm (λi v e n=>dC v (d i v e n) n λu f=>f) λa k1 k2 _=>⟨k1,k2⟩⟩
def G0(h:i∉b):∀(l a:ah),l[i]?=some v->(fN l b a)[i]?=some v:=by
 induction b with
 |nil=>intro l a e;cases a<;>exact e
 |cons j b c=>
  intro l a e;cases a with
  |nil=>exact e
  |cons u a=>exact c (λm=>h (.tail _ m)) _ a ((List.getElem?_set_ne λq:j=i=>h (q▸ .head _)).trans e)
def dZ{l:ah}(e:l[i]?=some v):aB l i=v:=v6 (·.getD .ae) e
def NK{G:St}(a:wB t G)(h:gy t x G Q):gy t x G (λsx=>Q sx/\WK G sx):=by
 cases t with
 |dA i=>exact⟨h,rfl,abX,λj v e n=>(List.getElem?_set_ne λq:i=j=>n ((dZ e).symm.trans (q▸a))).trans e⟩
 |dU d=>
  cases x with
  |tuple f=>exact aX h λb c=>DU b c rfl (GS _ _ _) λj v e n=>G0 (λm=>n ((dZ e).symm.trans (a j m))) _ _ e
  |_=>exact h.elim
def lJ{P:Addr->Prop}(h:P D):∀b∈[D],P b:=λb m=>u8.mp m▸h
def Hd.lE(a:Hd S p F H y wr)(c:∀b∈wr,b∉l):Hd S p F (Et H l h) y wr:=λb m=>(bH ((a b m).1) ((qt (c b m)).trans (a b m).2.1) ((a b m).2.2))
def Hd.nv(a:Hd S p F H y wr):∀b∈wr,H b=none/\fO S p b:=λb m=>⟨(a b m).2.1,(a b m).2.2.2⟩
def Hd.zL(a:Hd S p F (Et H wr h) y l)(c:∀b∈wr,H b=none):Hd S p F H y l:=λb m=>(bH ((a b m).1) (GP c (a b m).2.1) ((a b m).2.2))
noncomputable abbrev YY:=ah->bj->aZ->Heap->Prop
def EmG(Ac:YY)(b:ah->Prop)(X:Cx)(S:a0)(p:Env)(A:Around)(D:Addr)(t:Sem Unit)(l:ah)(G:St):Prop:=
 ∀F H y O a (P:Unit->Shared->Prop),c6 X S p F H y G O->Hd S p F H y [D]->Ac a F y O.heap->b (a++l)->
  (∀T C L,cN X S p F H y O C L G T->Hd S p C H L [D]->Ac (a++l) C L T.heap->P () T)->wpAny (model X.prog X.w) A t P NE O
noncomputable def Cr(X:Cx)(D:Addr):YY:=λa F y h=>∃b c,h.get? D=some (listOf (List.toArray b) c)/\ax X.prog X.w F y a b
def LBd(l:ah):Prop:=l.length<=aL
abbrev RU(X:Cx)(S:a0)(p:Env)(A:Around)(D:Addr)(t:Sem Unit)(l:ah)(G:St):Prop:=EmG (Cr X D) LBd X S p A D t l G
def Cr.aT{h b:Heap}(a:Cr X D acc F y h)(c:Le F C)(d:hU y L)(e:∀o,h.get? D=some o->b.get? D=some o):Cr X D acc C L b:=dm a λf g i j=>(j6 f g (e _ i) (j.aT c d))
def Wf(h:aU X S p A NE (eval r p) (λu s=>s=G/\u=v) G):RU X S p A D (do let _<-call (.builtin "list.append") [.ref D,<-eval r p]) [v] G:=λF H y O t P R d w x k=>
 dL (h F _ y O _ (R.zN d) λu Y aF au aA a N V z=>dm w λf Z g i=>cY ((z.1▸N).bu.n8 d.nv (lJ ⟨_,g⟩)) λI j J=>
  have c:=J D (.head _) _ g;have l:f.length+1<=aL:=o0 (aaM ((v6 (·+1) i.length.symm).trans (sK (bs:=[v])).symm)) x
  dL (wpAny_call_entry acW (ay _ c rfl) PySem.F.entry_list_append (show wpAny _ _ (updateSeq D (·.push u)>>=λ_=>ret .none) _ _ Y from
   dL (wpAny_updateSeq c rfl (s4 (ay .none rfl (s4 (ar (xX c (·.push u)) λm M=>k _ aF au ⟨N.le,N.jP,(cN.Cm (tk:=Y.toks) I j λb o Q e=>(Heap.get?_update_ne _ _ _ _ λq=>Q (u8.mpr q)).trans e).bu⟩ j
    (j6 (f++[u]) m (M.trans (v6 (λa=>some (listOf a m)) (List.push_toArray ..))) ((i.aT N.le N.jP).append (.cons (z.2▸V) .nil)))))))
    (o0 (aaM ST) (fo (acq l))) (o0 (aaM ((Array.size_push ..).trans (v6 (·+1) ST))) (Nat.le_succ_of_le (fo l))))) (PySem.F.args_list_append_2 _ _)))
noncomputable abbrev vT(p:Env):aD->Bool->Sem (ForInStep Bool):=λc r=>if r=true then do let ok<-isTrue c p (eval c p);pure (ForInStep.yield ok)else pure (ForInStep.yield r)
def EB{P:Bool->Shared->Prop}(a:List aD)(s:Shared)(h:P false s):wpAny (model X.prog X.w) A (forIn a false (vT p)) P E s:=by
 induction a with
 |nil=>exact s4 h
 |cons c a b=>rw[List.forIn_cons];exact dL (s4 b)
def n9(h:Q true G):g8 X S p A E (forIn [] true (vT p)) Q G:=λF H y O P R k=>s4 (k _ _ _ _ _ (cN.gP R) h)
def zO(h:g8 X S p A E (isTrue c p (eval c p)) (λb G=>(b=false->Q false G)/\(b->g8 X S p A E (forIn cs true (vT p)) Q G)) G):
  g8 X S p A E (forIn (c::cs) true (vT p)) Q G:=λF H y O P R k=>by
 rw[List.forIn_cons];refine dL (dL (h F H y O _ R λb Y aF au aA N z=>s4 ?_));cases b with
 |false=>exact EB cs _ (k _ _ _ _ _ N (z.1 rfl))
 |true=>exact z.2 rfl _ _ _ _ _ N.bu λb aP cg U bL a z=>k _ _ _ _ _ (N.trans a) z
def zH.YZ{a:Type}{h:ah}{rz:bj->aZ->ah->Prop}(W:zH X A b I wr h rz Z)(R:c6 X S p F H y G O)(c:Hd S p F H y wr)(m:h[i]?=some x)(d:Z i O.heap)
  (o:rz F y G.cells) {f:Option Value->Sem a} {g:Value->Sem a} {Q:a->Shared->Prop} (t:∀v,f (some v)=(letOwnedTupleGo b (.ref I) v>>=λ_=>g v)) (k:∀v T C,cN X S p F H y O C y G T->aG X.prog X.w C y x v->Z (i+1) T.heap->Hd S p C H y wr->wpAny (model X.prog X.w) A (g v) Q E T):
  wpAny (model X.prog X.w) A (pyNext (.ref I)>>=f) Q E O:=
 dL (ab6 (W.next (E:=E) (Q:=λr j=>∀v,r=some v->wpAny (model X.prog X.w) A (g v) Q E j) R c m d o λv T C N V d c w e=>BT e▸k v T C N V d c) (λr j l=>by
  cases r with
  |none=>exact l.elim
  |some v=>exact t v▸dL (ab6 l (λ_ s q=>q v rfl) λ_ _ e=>e)) λ_ _ e=>e)
def Wg{M:Model}{c:Code}(b:c.quiet)(I:Nat->Shared->Prop)(turn:∀n s,I n s->∀Q:Fin->Shared->Prop,(∀a,R (.ok .next) a->Q (.done .next) a)->(∀m a,m<n->I m a->Q (.again c) a)->wpAny M (A.under c) (M.den c) Q (λe a=>R (.error e) a) s)
  (n:Nat) (h:I n s):codeAny M A c R s:=codeAny_loop b I (λn s h=>turn n s h _ (λ_ h=>h) λm a d f=>⟨rfl,m,d,f⟩) n h
structure abI(X:Cx)(S:a0)(p:Env)(F H:bj)(y:List Addr)(O:Shared)(G:St)(wr:List Addr)(N:Nat)(Z:Nat->Heap->Prop)(Ac:Nat->List Addr->bj->List Addr->Heap->Prop)(i n:Nat)(C:bj)(L l:List Addr)(s:Shared):Prop where
 n:i+n=N
 nx:cN X S p F H y O C L G s
 hw:Hd S p C H L wr
 hl:Hd S p C H L l
 wl:∀b∈wr,b∉l
 z:Z i s.heap
 a:Ac i l C L s.heap
def I3(Ac:Nat->aZ->bj->aZ->Heap->Prop)(X:Cx)(S:a0)(p:Env)(A:Around)(turn:Sem Fin)(c:Fin)(i:Nat)(sx:St):Prop:=
 ∀F H y O l (P:Fin->Shared->Prop),c6 X S p F H y sx O->Hd S p F H y l->Ac i l F y O.heap->
  (∀T C L a,cN X S p F H y O C L sx T->Hd S p C H L a->(∀b∈a,b∈l\/O.heap.objs.size<=b)->Ac (i+1) a C L T.heap->P c T)->wpAny (model X.prog X.w) A turn P NE O
abbrev x6(a:aD)(d:Nat)(I D:Addr)(b:aD)(c:Pos)(p:Env)(turn:Sem Fin):Prop:=compTurn a d (.ref I) (.ref D) p=(standAt c>>=λ_=>pyNext (.ref I)>>=λr=>match r with
 |none=>pure (.done .next)
 |some v=>letOwnedTupleGo b (.ref I) v>>=λ_=>assign b p v>>=λ_=>turn)
noncomputable abbrev G1(b:List aD)(p:Env)(a:Sem Unit)(c:Code):Sem Fin:=forIn b true (vT p)>>=λok=>if ok=true then a>>=λ_=>again c else again c
def NL(hA:A.handled=none){rz:bj->aZ->ah->Prop}
  (w:A.under (.compLoop comp d (.ref I) (.ref D) p)=A) (c:(model X.prog X.w).den (.compLoop comp d (.ref I) (.ref D) p)=(compTurn comp d (.ref I) (.ref D) p).onRaise (λx=>do noteFrame x p;theTreesLotGoes x)) (hq:(Code.compLoop comp d (.ref I) (.ref D) p).quiet)
  (z:x6 comp d I D f p0 p turn)
  (W:zH X A f I wr a rz Z) (hc:uN S t f) (hu:wB t G)
  (ex:∀i l F y h,Ac i l F y h->∀b∈l,∃o,h.get? b=some o) (aT:∀i l F C y L h M,Ac i l F y h->Le F C->hU y L->(∀b∈l,∀o,h.get? b=some o->M.get? b=some o)->Ac i l C L M)
  (ht:∀i x,a[i]?=some x->gy t x G λsx=>I3 Ac X S p A turn (.again (.compLoop comp d (.ref I) (.ref D) p)) i sx)
  {r:aZ} (N:c6 X S p F H y G O) (P:Hd S p F H y r) (V:Hd S p F H y wr) (hDw:∀b∈wr,b∉r) (hz:Z 0 O.heap) (g:∀Iz s9,Le F Iz->hU y s9->rz Iz s9 G.cells) (ha:Ac 0 r F y O.heap)
  (k:∀T C L l,cN X S p F H y O C L G T->Hd S p C H L l->(∀b∈wr,b∉l)->Ac a.length l C L T.heap->R (.ok .next) T):
  codeAny (model X.prog X.w) A (.compLoop comp d (.ref I) (.ref D) p) R O:=by
 refine Wg hq (λn s=>∃i C L l,abI X S p F H y O G wr a.length Z Ac i n C L l s) (λn s hI Q q1 q2=>?_) a.length ⟨0,F,y,r,Nat.zero_add _,cN.gP N,V,P,hDw,hz,ha⟩;refine ML hI λi cg U l J=>?_;simp only[w,c];refine wpAny_noted (wpAny_noRaise ?_);rw[show _=_ from z];refine dL (aaf ?_);have RD:=J.nx.bu.zN J.hl;have j:=J.hw.lE (h:=s.heap) J.wl;have sr:=g _ _ J.nx.le J.nx.jP;clear hI;cases u:a[i]? with
 |none=>
  haveI hi:i=a.length:=acE (J.n▸T0 i n) (acf.mp u);subst hi
  exact dL (W.done cg _ U G.cells s _ NE J.z RD.r0 sr (λb m=>(j b m).1) λM tk hk=>
   s4 (q1 _ (k _ cg U l (J.nx.trans (cN.Cm (tk:=tk) J.nx.bu J.hw hk)) J.hl J.wl (aT _ _ _ _ _ _ _ _ J.a (Le.refl _) (hU.refl _) λb m o e=>hk b o (λmw=>J.wl b mw m) e))))
 |some x=>
  refine W.YZ RD j u J.z sr (λ_=>rfl) λv vK Iw g9 Ay Gb lD=>dL (NJ hA hc (g9.bu.zN lD) Ay (NK hu (ht i x u)) λzB sx vL hb=>aX hb λhb hw=>?_);refine cY (vL.bu.n8 lD.nv (W.ex _ _ Gb)) λUl XH hkw=>cY (Ul.n8 J.hl.nv (ex _ _ _ _ _ J.a)) λacn XI hkl=>?_;have IA:=XH.zL λb m=>(J.hl b m).2.1;have Q9:=W.frame _ _ _ Gb hkw;have Vm:=g9.le.trans vL.le;refine hb Iw _ U zB l _ (acn.zN IA) (XI.lE λb m mw=>J.wl b mw m) (aT _ _ _ Iw _ U _ zB.heap J.a Vm (hU.refl _) hkl) λaao aco aap l' MB XJ hfr aaq=>?_;have hn:=J.n;refine cY (MB.bu.n8 IA.nv (W.ex _ _ Q9)) λacp XK XM=>?_;cases n with
  |zero=>exact absurd (wP.mp u).1 (aaG.mpr (aaM hn.symm))
  |succ n=>exact q2 n _ (W1 n) ⟨i+1,aco,aap,l',(acG i n).trans hn,⟨(J.nx.le.trans Vm).trans MB.le,λn x e=>MB.jP n x (J.nx.jP n x e),acp.abH hw⟩,XK,XJ.zL λb m=>(IA b m).2.1,
   λb m m'=>(hfr b m').elim (J.wl b m) λq=>ar (W.ex _ _ Q9 b m) λo e=>absurd (KM e) (aaG.mpr q),W.frame _ _ _ Q9 XM,aaq⟩
def Cs{Ac:YY}{Bd:ah->Prop}{D:Addr}{j:List aD}{d:Sem Unit}{c:Code}{h:af->ah}{a f:ah}{i:Nat}{x:af}{sx:St}(M:∀a F y h,Ac a F y h->∃o,h.get? D=some o)
  (Q:∀a F C y L h t,Ac a F y h->Le F C->hU y L->(∀o,h.get? D=some o->t.get? D=some o)->Ac a C L t) (V:f[i]?=some x) (u:Bd (a++(f.take (i+1)).flatMap h))
  (v:g8 X S p A NE (forIn j true (vT p)) (λb Z=>Z=sx/\(b=false->h x=[])/\(b->EmG Ac Bd X S p A D d (h x) sx)) sx):
  I3 (λi l F y hp=>l=[D]/\Ac (a++(f.take i).flatMap h) F y hp) X S p A (G1 j p d c) (.again c) i sx:=λF H y O l P R r g k=>by
 obtain⟨rfl,g⟩:=g
 have q:a++(f.take (i+1)).flatMap h=(a++(f.take i).flatMap h)++h x:=by
  rw[aaE,V,abM,<-aaX];exact v6 _ (aa1 (h x))
 rw[q]at u;haveI k:∀T C L,cN X S p F H y O C L sx T->Hd S p C H L [D]->Ac ((a++(f.take i).flatMap h)++h x) C L T.heap->P (.again c) T:=λT C L N r g=>k T C L [D] N r (λb m=>.inl m) ⟨rfl,q▸g⟩;refine dL (v _ _ _ _ _ (R.zN r) λb Y aF au aA N z=>cY z λe z1 z2=>cY (N.bu.n8 r.nv (lJ (M _ _ _ _ g))) λw I wx=>?_);clear R;clear v;clear z;subst e;haveI J:=Q _ _ aF _ au _ Y.heap g N.le N.jP (wx D (.head _));cases b with
 |false=>
  rw[z1 rfl,aa1]at k;exact s4 (k Y aF au ⟨N.le,N.jP,w⟩ I J)
 |true=>exact dL (z2 rfl aF H au Y _ _ w I J u λaP cg U s BW zD=>s4 (k aP cg U ⟨N.le.trans s.le,λn x e=>s.jP n x (N.jP n x e),s.bu⟩ BW zD))
end
def x7{a:Type}{d:a}{r:List (Str×a)}(q:x=y):((y,d)::r).lookup x=some d:=(v6 (λb:Bool=>match b with|true=>some d|false=>r.lookup x) (aae.mpr q:(x==y)))
def x8{a:Type}{d:a}{r:List (Str×a)}(q:¬x=y):((y,d)::r).lookup x=r.lookup x:=(v6 (λb:Bool=>match b with|true=>some d|false=>r.lookup x) (beq_eq_false_iff_ne.mpr q:(x==y)=false))
def kn{k j:NameKind}(h:¬k=j):(k==j)=false:=beq_eq_false_iff_ne.mpr h
def RV(d:Env)(b:List (Str×NameKind)):∀(a:List (Str×Addr)),(∀x∈b,x.2=.free->∃c,d.cells.lookup x.1=some c)->
  ∃cl,(forIn b a (λ(x:Str×NameKind) (l:List (Str×Addr))=>if x.2==.free then do let __do_lift<-cellOf d x.1;pure (ForInStep.yield ((x.1,__do_lift)::l))else pure (ForInStep.yield l)):Sem (List (Str×Addr)))=pure cl/\
   ∀y,y∈cl↔y∈a\/((y.1,NameKind.free)∈b/\d.cells.lookup y.1=some y.2):=by
 induction b with
 |nil=>exactλa _=>ay a rfl λy=>⟨.inl,λh=>h.elim id λh=>nl h.1⟩
 |cons p r s=>
  intro a h;obtain⟨x,k⟩:=p;have n:=λa=>s a (λy m=>h y (.tail _ m));rw[List.forIn_cons];refine wS (λf:k=.free=>?_) λf=>aj (n a) λcl g i=>ay cl ?_ λy=>(i y).trans ⟨λh=>h.imp id λh=>⟨.tail _ h.1,h.2⟩,λh=>h.imp id λh=>⟨(EQ.mp h.1).elim (λe=>absurd (v6 Prod.snd e).symm f) id,h.2⟩⟩
  ·subst f
   refine ar (h (x,.free) (.head _) rfl) λc j=>aj (n ((x,c)::a)) λcl g i=>ay cl ?_ λy=>(i y).trans ⟨λh=>h.elim (λm=>(EQ.mp m).elim (λe=>.inr (e▸⟨.head _,j⟩)) .inl) λh=>.inr ⟨.tail _ h.1,h.2⟩,
    λh=>h.elim (λm=>.inl (.tail _ m)) λh=>(EQ.mp h.1).elim (λe=>.inl (EQ.mpr (.inl ?_))) λm=>.inr ⟨m,h.2⟩⟩
   ·have e:cellOf d x=pure c:=by unfold cellOf;rw[j]
    show(cellOf d x>>=λc=>pure (ForInStep.yield ((x,c)::a)))>>=_=_;rw[e];exact g
   ·obtain⟨o,t⟩:=y
    have q:o=x:=v6 Prod.fst e;exact q▸v6 (Prod.mk o) (se h.2 (q▸j))
  ·rw[show((x,k).2==NameKind.free)=false from kn f];exact g
def kM{b:Type}{l:List (Str×b)}{c:b}(m:(x,c)∈l):∃a,l.lookup x=some a/\(x,a)∈l:=by
 induction l with
 |nil=>exact nl m
 |cons p r f=>
  obtain⟨y,d⟩:=p;exact wS (λq:x=y=>ay d (x7 q) (q▸ .head _)) λq=>aj (f ((EQ.mp m).elim (λe=>absurd (v6 Prod.fst e) q) id)) λa g h=>ay a ((x8 q).trans g) (.tail _ h)
def RW{scope:Scope}{env:Env}(h:∀x∈scope.names,x.2=.free->∃c,env.cells.lookup x.1=some c):
  ∃cl,closureFor scope env=pure cl/\(∀x c,cl.lookup x=some c->env.cells.lookup x=some c/\(x,NameKind.free)∈scope.names)/\∀x,(x,NameKind.free)∈scope.names->cl.lookup x=env.cells.lookup x:=
 aj (RV env scope.names [] h) λcl g a=>
  have b:∀{x c},(x,c)∈cl->(x,NameKind.free)∈scope.names/\env.cells.lookup x=some c:=λ{x c} m=>((a (x,c)).mp m).elim (λm=>nl m) id
  dC cl (by
   unfold closureFor
   have e:∀(f:List (Str×Addr)->Sem (List (Str×Addr))),f=pure->(forIn scope.names ([]:List (Str×Addr)) (λ(x:Str×NameKind) (d:List (Str×Addr))=>if x.2==.free then do let __do_lift<-cellOf env x.1;pure (ForInStep.yield ((x.1,__do_lift)::d))else pure (ForInStep.yield d))>>=f)=pure cl:=by
    rintro f rfl;refine g.symm▸?_;rfl
   exact e _ rfl) (λx c e=>(b (mem_of_lookup e)).symm) λx m=>ar (h (x,.free) m rfl) λc i=>aj (kM ((a (x,c)).mpr (.inr ⟨m,i⟩))) λl j k=>j.trans (b k).2.symm
def zP(c:List (Str×NameKind)):∀(n:Nat) (a b:List (Str×Addr)),cellsFrom n c (a++b)=cellsFrom n c a++b:=by
 induction c with
 |nil=>exactλn a b=>rfl
 |cons p r d=>
  intro n a b;obtain⟨x,k⟩:=p;show(if(k==NameKind.cell)=true then cellsFrom (n+1) r ((x,n)::(a++b))else cellsFrom n r (a++b))=(if(k==NameKind.cell)=true then cellsFrom (n+1) r ((x,n)::a)else cellsFrom n r a)++b;cases k==NameKind.cell
  ·exact d n a b
  ·exact d (n+1) ((x,n)::a) b
def mC(b:List (Str×NameKind)):∀(n:Nat) (a:List (Str×Addr)),(∀y∈cellsFrom n b a,y∈a\/(y.1,NameKind.cell)∈b)/\(∀y∈a,y∈cellsFrom n b a)/\∀x,(x,NameKind.cell)∈b->∃c,(x,c)∈cellsFrom n b a:=by
 induction b with
 |nil=>exactλn a=>bH (λy m=>.inl m) (λy m=>m) λx m=>nl m
 |cons p r i=>
  intro n a;obtain⟨x,k⟩:=p;refine wS (λd:k=.cell=>?_) λd=>?_
  ·subst d
   have e:cellsFrom n ((x,.cell)::r) a=cellsFrom (n+1) r ((x,n)::a):=rfl;rw[e]
   exact cY (i (n+1) ((x,n)::a)) λg f h=>bH (λy m=>(g y m).elim (λm=>(EQ.mp m).elim (λe=>.inr (e▸ .head _)) .inl) λm=>.inr (.tail _ m)) (λy m=>f y (.tail _ m))
    λy m=>(EQ.mp m).elim (λe=>have e:y=x:=v6 Prod.fst e;⟨n,e▸f _ (.head _)⟩) (h y)
  ·have e:cellsFrom n ((x,k)::r) a=cellsFrom n r a:=if_neg λe=>d (aae.mp e)
   rw[e];exact cY (i n a) λg f h=>bH (λy m=>(g y m).imp id (.tail _)) f λy m=>(EQ.mp m).elim (λe=>absurd (v6 Prod.snd e).symm d) (h y)
def G3{c:Type}(a b:List (Str×c)) x:(a++b).lookup x=(a.lookup x).or (b.lookup x):=by
 induction a with
 |nil=>rfl
 |cons p a e=>
  obtain⟨y,d⟩:=p;exact wS (λq:x=y=>(x7 q).trans (v6 (Option.or · (b.lookup x)) (x7 q)).symm) λq=>(x8 q).trans (e.trans (v6 (Option.or · (b.lookup x)) (x8 q)).symm)
def G4{a b:Type}{g:Str×a->Str×b}(c:∀p,(g p).1=p.1){k:a}{l:List (Str×a)}(h:l.lookup x=some k):(l.map g).lookup x=some (g (x,k)).2:=by
 induction l with
 |nil=>exact nx h
 |cons p r d=>
  obtain⟨y,j⟩:=p;have e:g (y,j)=(y,(g (y,j)).2):=v6 (Prod.mk · _) (c (y,j));show(g (y,j)::r.map g).lookup x=_;rw[e];refine wS (λq:x=y=>?_) λq=>(x8 q).trans (d ((x8 q).symm.trans h));subst q;exact(x7 rfl).trans (v6 (λk=>some (g (x,k)).2) (se (x7 rfl) h))
def tC{scope:Scope}{env:Env}{x:Str}{k:NameKind}(a:List (Str×NameKind))(h:a.lookup x=some k):
  (a.map λ(n,k)=>if(k==NameKind.free&&env.scope.kind==.function&&env.kindOf n==some .cell)then(n,NameKind.cell)else(n,k)).lookup x=some k\/
  (k=.free/\(a.map λ(n,k)=>if(k==NameKind.free&&env.scope.kind==.function&&env.kindOf n==some .cell)then(n,NameKind.cell)else(n,k)).lookup x=some .cell):=by
 have e:=G4 (g:=λp=>if(p.2==NameKind.free&&env.scope.kind==.function&&env.kindOf p.1==some .cell)then(p.1,NameKind.cell)else(p.1,p.2)) (λp=>(apply_ite Prod.fst ..).trans (ite_self _)) h;cases c:(k==NameKind.free&&env.scope.kind==.function&&env.kindOf x==some .cell)with
 |false=>exact .inl (e.trans (v6 some (v6 (λb:Bool=>(if b=true then(x,NameKind.cell)else(x,k)).2) c)))
 |true=>exact .inr ⟨bJ c λh _=>bJ h λh _=>aae.mp h,e.trans (v6 some (v6 (λb:Bool=>(if b=true then(x,NameKind.cell)else(x,k)).2) c))⟩
def gb(a:List (Str×NameKind)):∀(sl:Nat) y,y∈cZ a sl->sl<=y.2.1/\y.2.1<sl+(cZ a sl).length/\((y.1,NameKind.local)∈a/\y.2.2=false\/(y.1,NameKind.cell)∈a/\y.2.2):=by
 induction a with
 |nil=>exactλsl y m=>nl m
 |cons p r c=>
  obtain⟨x,k⟩:=p
  have t:∀{sl:Nat} {y:Str×Nat×Bool},(sl<=y.2.1/\y.2.1<sl+(cZ r sl).length/\((y.1,NameKind.local)∈r/\y.2.2=false\/(y.1,NameKind.cell)∈r/\y.2.2))->((y.1,NameKind.local)∈(x,k)::r/\y.2.2=false\/(y.1,NameKind.cell)∈(x,k)::r/\y.2.2):=
   λh=>h.2.2.imp (λh=>⟨.tail _ h.1,h.2⟩) λh=>⟨.tail _ h.1,h.2⟩
  have d:∀{sl:Nat} {y:Str×Nat×Bool} {b:Bool},y∈(x,sl,b)::cZ r (sl+1)->((x,NameKind.local)∈(x,k)::r/\b=false\/(x,NameKind.cell)∈(x,k)::r/\b)->
    sl<=y.2.1/\y.2.1<sl+((x,sl,b)::cZ r (sl+1)).length/\((y.1,NameKind.local)∈(x,k)::r/\y.2.2=false\/(y.1,NameKind.cell)∈(x,k)::r/\y.2.2):=λ{sl y b} m f=>
   (EQ.mp m).elim (λe=>by subst e;exact bH (v0 _) (Nat.lt_add_of_pos_right (Nat.succ_pos _)) f) λm=>have h:=c (sl+1) y m
    bH (acq h.1) (Nat.lt_of_lt_of_eq h.2.1 (acG ..)) (t h)
  intro sl y m;cases k with
  |«local»=>exact d m (.inl ⟨.head _,rfl⟩)
  |cell=>exact d m (.inr ⟨.head _,rfl⟩)
  |_=>exact have h:=c sl y m;bH h.1 h.2.1 (t h)
def G5(l:ah) sl k:(ic l sl k).length=l.length:=by
 induction k with
 |zero=>rfl
 |succ k a=>exact abX.trans a
def sL{l:ah}{sl k i:Nat}(n:v≠ .ae):(ic l sl k)[i]?=some v->l[i]?=some v/\¬(sl<=i/\i<sl+k):=by
 induction k with
 |zero=>exactλe=>⟨e,λh=>Nat.not_le.mpr h.2 h.1⟩
 |succ k a=>exactλe=>(wX e).elim (λe=>absurd e.2 n) λe=>⟨(a e.2).1,λh=>(a e.2).2 ⟨h.1,Nat.lt_of_le_of_ne (aca h.2) (acQ e.1)⟩⟩
def eA{a:Type}[BEq a][LawfulBEq a]{l:List a}(h:jN l):l.Nodup:=by
 induction l with
 |nil=>exact .nil
 |cons x r b=>exact bJ h λc d=>TT.mpr ⟨λm=>bx (List.contains_iff_mem.mpr m) (nt c),b d⟩
def gz{a d:Type}{f:a->d}{l:List a}(h:(l.map f).Nodup){x y:a}(g:x∈l)(k:y∈l)(e:f x=f y):x=y:=
 ar (aaH.mp g) λi b=>ar (aaH.mp k) λj c=>have q:i=j:=AJ h (FS.trans (v6 (Option.map f) b)) ((FS.trans (v6 (Option.map f) c)).trans (v6 some e.symm))
  se (q▸b) c
def sM{S:a0}(h:fi S):(∀x y i b a,(x,i,b)∈S.a8->(y,i,a)∈S.a8->x=y)/\(∀x i j b a,(x,i,b)∈S.a8->(x,j,a)∈S.a8->i=j/\b=a)/\
  (∀x i b,(x,i,b)∈S.a8->(x==("__classdict__":Str))=false)/\∀x i b,(x,i,b)∈S.wr->(x,i,b)∈S.a8/\i<S.N:=
 bJ h λh g=>bJ h λh k=>bJ h λc d=>fL (λx y i b a m f=>v6 Prod.fst (gz (eA d) m f rfl)) (λx i j b a m f=>have e:=gz (eA c) m f rfl;⟨v6 (·.2.1) e,v6 (·.2.2) e⟩)
  (λx i b m=>bJ (WP.mp k _ m) λ_ h=>nt h) λx i b m=>bJ (WP.mp g _ m) λc d=>⟨List.contains_iff_mem.mp c,s5 d⟩
section
section
variable{X:Cx}{S:a0}{g:Env}{A:Around}{E:dy}{F D M U H B:bj}{l z Y J:aZ}{t aY I bL:St}{j w N T:Shared}{n:Nat}
open Classical in
noncomputable def r7(F:bj)(l:aZ)(h:Heap)(a:aZ):bj:=λb=>if b∈a then none else rest F l h b
def kN{h:Heap}:r7 F l h wr b=some o↔b∉wr/\F b=none/\b∉l/\h.get? b=some o:=by
 unfold r7;refine wS (p:=b∈wr) (λm=>?_) (λm=>?_)
 ·simp[m]
 ·rw[if_neg m,bY];exact Iff.symm ((λ{a b}=>and_iff_right_iff_imp.mpr) λa=>m)
def kO{h:Heap}(e:b∈i\/F b≠none\/b∈l\/h.get? b=none):r7 F l h i b=none:=by
 cases q:r7 F l h i b with
 |none=>rfl
 |some o=>
  refine mr (kN.mp q) λa c d f=>?_;rcases e with e|e|e|e
  ·exact absurd e a
  ·exact absurd c e
  ·exact absurd e d
  ·exact sn f (e)
noncomputable def sN(a:Scope)(g:Env)(L:Addr)(b:List (Str×Addr)):Env:=
 {scope:=relabel a g,locals:=L,globals:=g.globals,cells:=b,qual:=g.qual,func:=none,code:=g.code,frame:=g.frame,builtins:=g.builtins}
def KL(S:a0)(a:Scope)(sl:Nat):Prop:=a.kind=.function/\fi (dq S a.names sl)/\jN (a.names.map (·.1))/\∀x,(x,NameKind.free)∈a.names->∃i,(x,i,true)∈S.a8
def NM{f:Scope}{cl:List (Str×Addr)}{wr:aZ}{sl:Nat}{P:Env->Shared->Prop}(R:c6 X S g F H l t j)(hd:Hd S g F H l wr)(hex:∀b∈wr,∃o,j.heap.get? b=some o)(G:KL S f sl)(h1:∀x c,cl.lookup x=some c->g.cells.lookup x=some c/\(x,NameKind.free)∈f.names)(h2:∀x,(x,NameKind.free)∈f.names->cl.lookup x=g.cells.lookup x)
  (k:∀L cells w,(∀b o,j.heap.get? b=some o->w.heap.get? b=some o)->j.heap.get? L=none->c6 X (dq S f.names sl) (sN f g L cells) F (r7 F l j.heap wr) l ⟨ic t.aC sl (cZ f.names sl).length,t.cells⟩ w->Hd (dq S f.names sl) (sN f g L cells) F (r7 F l j.heap wr) l wr->
   (∃tk,w={j with heap:=w.heap,toks:=tk})->P {(sN f g L cells)with scope:=f} w):
  wpAny (model X.prog X.w) A (newFunctionEnv f g.globals cl [] g.qual none .none (some g)) P E j:=by
 refine mr G λhk hS hnn hfree=>?_;simp only[newFunctionEnv,Option.isSome_some,if_true];refine dL (wpAny_alloc ?_);refine dL (wpAny_layCells _ (λname kind cells=>by cases hkc:kind==NameKind.cell<;>exact Bool.cond_eq_ite_iff.mp rfl) _ _ _ _ ?_);refine dL (s4 (s4 ?_));haveI hz:(j.heap.push {cls:=.type "dict",data:=.dict #[]}).objs.size=j.heap.objs.size+1:=acz ..;have Z:∀b o,j.heap.get? b=some o->(pushCells (j.heap.push {cls:=.type "dict",data:=.dict #[]}) f.names).get? b=some o:=λb o e=>pushCells_keeps _ _ b o (wT _ e);haveI nn:=eA hnn;have lt:∀{b o},j.heap.get? b=some o->b<j.heap.objs.size:=λe=>KM e;have fresh:∀{b:Nat},j.heap.objs.size<=b->j.heap.get? b=none:=λh=>nf λo q=>absurd (lt q) (aaG.mpr h);haveI isNs:(pushCells (j.heap.push {cls:=.type "dict",data:=.dict #[]}) f.names).Ns j.heap.objs.size (λ_=>none):=(Heap.Ns.new j.heap (.type "dict")).keeps (pushCells_keeps _ _);have ok:=cellsFrom_ok f.names (j.heap.push {cls:=.type "dict",data:=.dict #[]}) (j.heap.objs.size+1) [] ⟨λ_ _ hm=>nl hm,List.Pairwise.nil⟩ (aaM hz.symm);rw[hz]at ok⊢;haveI hO:=mC f.names (j.heap.objs.size+1) [];have lk:∀x,(cellsFrom (j.heap.objs.size+1) f.names cl).lookup x=((cellsFrom (j.heap.objs.size+1) f.names []).lookup x).or (cl.lookup x):=λx=>(v6 (List.lookup x) (zP _ _ [] cl)).trans (G3 _ cl x);generalize cellsFrom (j.heap.objs.size+1) f.names []=O at ok hO lk;generalize cellsFrom (j.heap.objs.size+1) f.names cl=C at lk⊢;generalize pushCells (j.heap.push {cls:=.type "dict",data:=.dict #[]}) f.names=h' at Z isNs ok⊢;have Q:∀{x:Str} {kk:NameKind},(x,kk)∈f.names->f.names.lookup x=some kk:=λ{x kk} m=>aj (kM m) λk' e1 e2=>e1.trans (v6 some (v6 Prod.snd (gz nn m e2 rfl):kk=k').symm);have mO:∀{x c},O.lookup x=some c->(x,NameKind.cell)∈f.names:=λe=>(hO.1 _ (mem_of_lookup e)).elim (λm=>nl m) id
 have cF:∀{x c},C.lookup x=some c->((x,c)∈O/\(x,NameKind.cell)∈f.names)\/(g.cells.lookup x=some c/\(x,NameKind.free)∈f.names):=λ{x c} e=>by
  rw[lk]at e;cases q:O.lookup x with
  |some d=>rw[q]at e;obtain rfl:=BT e;exact .inl ⟨mem_of_lookup q,mO q⟩
  |none=>rw[q]at e;exact .inr (h1 x c e)
 haveI cC:∀{x},(x,NameKind.cell)∈f.names->∃c,C.lookup x=some c/\(x,c)∈O:=λ{x} m=>ar (hO.2.2 x m) λc hc=>aj (kM hc) λc' e m'=>⟨c',by rw[lk,e];rfl,m'⟩
 have cR:∀{x},(x,NameKind.free)∈f.names->C.lookup x=g.cells.lookup x:=λ{x} m=>by
  rw[lk,(nf λc q=>NameKind.noConfusion (BT ((Q m).symm.trans (Q (mO q)))):O.lookup x=none)];exact h2 x m
 haveI old:∀{x c},g.cells.lookup x=some c->(x,NameKind.free)∈f.names->c<j.heap.objs.size:=λe m=>ar (hfree _ m) λi hi=>ar (R.Ei (.cell hi e)) λo ho=>lt ho
 have memV:∀{x i b},(x,i,b)∈(dq S f.names sl).a8->((sl<=i/\i<sl+(cZ f.names sl).length)/\((x,NameKind.local)∈f.names/\b=false\/(x,NameKind.cell)∈f.names/\b))\/(b/\(x,i,true)∈S.a8/\(x,NameKind.free)∈f.names):=λ{x i b} m=>
  (AC.mp m).elim (λm=>cY (gb _ _ _ m) λa b c=>.inl ⟨⟨a,b⟩,c⟩) λm=>aX (IO.mp m) λm1 m2=>bJ m2 λ(q:b) m2=>.inr (bH q (q▸m1) (mem_of_lookup (aae.mp m2)))
 have clr:∀{i u},(sl<=i/\i<sl+(cZ f.names sl).length)->gv X F l (ic t.aC sl (cZ f.names sl).length) i u:=λr v e n=>absurd r (sL n e).2;refine mr (sM hS) λsp1 sp2 sp3 sp4=>?_;haveI kd:=λ{x k} (m:(x,k)∈f.names)=>tC (scope:=f) (env:=g) _ (Q m)
 haveI V:bR X (dq S f.names sl) (sN f g j.heap.objs.size C) F (r7 F l j.heap wr) l (ic t.aC sl (cZ f.names sl).length) h':=by
  have free:∀a,AH (dq S f.names sl) (sN f g j.heap.objs.size C) a->F a=none/\a∉l:=λa q=>by
   cases q with
   |aC=>exact⟨R.r0.hW (v0 _),R.r0.su (v0 _)⟩
   |cell hm e=>exact(cF e).elim (λq=>haveI h:=acq (ok.empty _ _ q.1).2;⟨R.r0.hW h,R.r0.su h⟩) λq=>ar (hfree _ q.2) λi hi=>R.a8.free _ (.cell hi q.1)
  refine⟨⟨hk,λx hx=>(tC (scope:=f) (env:=g) f.names hx).elim id λh=>NameKind.noConfusion h.1,R.a8.globals,R.a8.builtins,λx i m=>?_,λx i m=>(bH ?_ (sp3 _ _ _ m) ?_),λx i b m=>(bH ((sp4 x i b m).1) ((sp4 x i b m).2) (λhb=>?_)),λx y c ex ey=>?_,sp1,sp2⟩,(G5 _ _ _).trans R.a8.cS,(ay _ isNs (λx i m=>?_)),λx i c m e=>?_,free,kO (.inr (.inr (.inr (fresh (v0 _))))),λx i c m e=>?_⟩
  ·exact(memV m).elim (λq=>q.2.elim (λq=>lookup_relabel_local (Q q.1)) λq=>Bool.noConfusion q.2) λq=>Bool.noConfusion q.1
  ·exact(memV m).elim (λq=>q.2.elim (λq=>Bool.noConfusion q.2) λq=>.inl ((kd q.1).elim id λh=>NameKind.noConfusion h.1)) λq=>(kd q.2.2).elim .inr λh=>.inl h.2
  ·exact(memV m).elim (λq=>q.2.elim (λq=>Bool.noConfusion q.2) λq=>aj (cC q.1) λc e m=>(ay c e (ab8 (ok.empty _ _ m).2))) λq=>aj (cY (R.a8.es.kc _ _ q.2.1) λ_ _ h=>h) λc e _=>(ay c ((cR q.2.2).trans e) (LE (old e q.2.2)))
  ·subst hb
   exact cY (gb _ _ _ m) λ_ _ c=>c.elim (λq=>Bool.noConfusion q.2) λq=>(kd q.1).elim id λh=>NameKind.noConfusion h.1
  ·exact(cF ex).elim (λp=>(cF ey).elim (λq=>name_of_addr ok.apart p.1 q.1) λq=>absurd (old q.1 q.2) (aaG.mpr (acq (ok.empty _ _ p.1).2))) λp=>(cF ey).elim (λq=>absurd (old p.1 p.2) (aaG.mpr (acq (ok.empty _ _ q.1).2))) λq=>R.a8.es.inj _ _ c p.1 q.1
  ·exact(memV m).elim (λq=>clr q.1) λq=>Bool.noConfusion q.1
  ·exact(memV m).elim (λq=>(cF e).elim (λp=>(ay none ((ok.empty _ _ p.1).1) (clr q.1))) λp=>q.2.elim (λq=>Bool.noConfusion q.2) λq=>NameKind.noConfusion (BT ((Q q.1).symm.trans (Q p.2))))
    λq=>aj (R.a8.cl x i c q.2.1 ((cR q.2.2).symm.trans e)) λu hu s=>(ay u (aj hu λo ho hd=>⟨o,Z _ _ ho,hd⟩) (λv ev n=>s v (sL n ev).1 n))
  ·exact cY (gb _ _ _ m) λ_ _ q=>q.elim (λq=>Bool.noConfusion q.2) λq=>(cF e).elim (λp=>kO (.inr (.inr (.inr (fresh (acq (ok.empty _ _ p.1).2)))))) λp=>NameKind.noConfusion (BT ((Q q.1).symm.trans (Q p.2)))
 refine k j.heap.objs.size C _ Z (fresh (v0 _)) ⟨⟨R.r0.r6,R.r0.de,λb o e=>Z b o (R.r0.fz b o e),λb o e=>Z b o (kN.mp e).2.2.2,λb o e=>kO (.inr (.inl (e▸ace o))),λn c e hc=>gH (R.r0.xD n c e hc) λa o q1 q2 q3 q4=>(lF a o q1 (Z a o q2) q3 q4),R.r0.cS,R.r0.fD,
   λa m=>(bH (kO (.inr (.inr (.inl m)))) (ar (R.r0.nV a m).2.1 λo e=>⟨o,Z a o e⟩) ((R.r0.nV a m).2.2)),R.r0.gens,R.r0.os⟩,V⟩ (λb m=>ar (hex b m) λo ho=>(fL ((hd b m).1) (kO (.inl m)) ((hd b m).2.2.1) (rn λq=>?_))) ⟨j.toks,rfl⟩
 cases q with
 |aC=>exact ac6 _ (lt ho)
 |cell hm e=>exact(cF e).elim (λp=>absurd (lt ho) (aaG.mpr (acq (ok.empty _ _ p.1).2))) λp=>ar (hfree _ p.2) λi hi=>(hd b m).2.2.2.no (.cell hi p.1)
def c6.absent(R:c6 X S g F H l t j)(h:j.heap.get? b=none):H b=none/\fO S g b:=⟨nf λo e=>sn (R.r0.lE b o e) h,rn λq=>ar (R.Ei q) λo e=>sn e h⟩
def KO{d:St}(R:c6 X S g F H l t j)(r:Hd S g F H l k)(f:c6 X G s D (r7 F l j.heap k) z d w)(v:Le F D)(y:hU l z)(C:d.cells=t.cells):c6 X S g D H z t w:=
 have c:∀b o,H b=some o->r7 F l j.heap k b=some o:=λb o e=>kN.mpr (fL (λm=>sn e (r b m).2.1) (R.r0.Yy e) (λm=>sn e (R.r0.nV b m).1) (R.r0.lE b o e));have p:∀a o,AH S g a->j.heap.get? a=some o->r7 F l j.heap k a=some o:=λa o q e=>kN.mpr (fL (λm=>(r a m).2.2.2.no q) ((R.a8.free a q).1) ((R.a8.free a q).2) e)
 ⟨(C▸f.r0).Nx (λb o e=>f.r0.lE b o (c b o e)) λb e _=>nf λo q=>sn (c b o q) e,
  R.a8.to (λa o q e=>f.r0.lE a o (p a o q e)) rfl (λi u h=>h.aT v y) (λa q=>ar (R.Ei q) λo e=>⟨nf λx h=>sn (p a o q e) (f.r0.gn a x h),λm=>sn (p a o q e) (f.r0.nV a m).1⟩) λ_ _ e=>e⟩
end
end
section
variable{X:Cx}{S:a0}{g:Env}{A:Around}{E:dy}{F M Y cg H B:bj}{u J au bw:aZ}{j U V bL:St}{y T O aP:Shared}{n:Nat}
structure EC(X:Cx)(A:Around)(comp:PySem.Expr):Prop where
 u1:∀d it acc g,A.under (.compLoop comp d it acc g)=A
 u2:∀d it acc g,A.under (.compStart comp d it acc g)=A
 d1:∀d it acc g,(model X.prog X.w).den (.compLoop comp d it acc g)=(compTurn comp d it acc g).onRaise (λx=>do noteFrame x g;theTreesLotGoes x)
 d2:∀d it acc g,(model X.prog X.w).den (.compStart comp d it acc g)=(compStart comp d it acc g).onRaise (λx=>do noteFrame x g;standAt theWindowsPlace)
 q:∀d it acc g,(Code.compLoop comp d it acc g).quiet=true
def xd:EC X A (.ListComp a gens scope pos):=⟨λ_ _ _ _=>rfl,λ_ _ _ _=>rfl,λ_ _ _ _=>rfl,λ_ _ _ _=>rfl,λ_ _ _ _=>rfl⟩
def RX:EC X A (.DictComp k v gens scope pos):=⟨λ_ _ _ _=>rfl,λ_ _ _ _=>rfl,λ_ _ _ _=>rfl,λ_ _ _ _=>rfl,λ_ _ _ _=>rfl⟩
def tD(K:EC X A comp)(i:(clausesOf comp)[d]?=some ⟨target,b,ifs,0⟩)
  (f:codeAny (model X.prog X.w) A (.compLoop comp d it acc g) R s)
  (h:wpAny (model X.prog X.w) A (pyIter it) (λa c=>codeAny (model X.prog X.w) A (.compLoop comp d a acc g) R c) NE s):
  codeAny (model X.prog X.w) A (.compStart comp d it acc g) R s:=by
 refine codeAny_of_tree ?_;rw[K.u2,K.d2];refine wpAny_notedAt (wpAny_noRaise ?_);unfold compStart;refine i▸?_;refine dL (ab7 (wpAny_ite ?_));split
 ·first
   |exact dL (s4 (s4 (And.intro rfl f)))
   |exact s4 (And.intro rfl f)
 ·first
   |exact dL (wpAny_rule (dL (aaf (dL (ab6 h (λa c e=>s4 (And.intro rfl e)) λ_ _ x=>x)))))
   |(refine dL (wpAny_rule ?_);show wpAny _ _ (standAt b.pos>>=_) _ _ s;exact dL (aaf (dL (ab6 h (λa c e=>s4 (And.intro rfl e)) λ_ _ x=>x))))
def Uz(Ac:YY)(d:ah->Prop)(X:Cx)(S:a0)(g:Env)(A:Around)(D:Addr)(c:List aD)(a:Sem Unit)(l:ah)(sx:St):Prop:=
 g8 X S g A NE (forIn c true (vT g)) (λb e=>e=sx/\(b=false->l=[])/\(b->EmG Ac d X S g A D a l sx)) sx
abbrev G6(X:Cx)(S:a0)(g:Env)(A:Around)(D:Addr)(b:List aD)(a:Sem Unit)(l:ah)(sx:St):Prop:=Uz (Cr X D) LBd X S g A D b a l sx
def dH{j:St}(h:gy t x j P)(k:∀s,P s->Q s):gy t x j Q:=by
 cases t with
 |dA i=>exact k _ h
 |dU a=>cases x with
  |tuple b=>exact⟨h.1,k _ h.2⟩
  |_=>exact h.elim
def Cr.ex{h:Heap}(a:Cr X D acc F u h):∃o,h.get? D=some o:=dm a λ_ _ h _=>⟨_,h⟩
def Ct{acc a:ah}(b:(acc++a.flatMap h).length<=aL):(acc++(a.take i).flatMap h).length<=aL:=o0 (by
 simp only[sK,sK];refine acw ?_ _
 conv=>rhs;rw[<-acg i a,abM,sK]
 exact T0 _ _) b
def Wh(hA:A.handled=none){G target iter Un C:aD}{ifs Q8:List aD}{p:List Comprehension}{c:Scope}{q:Pos}{d:Nat}{D:Addr}{t:D3}{l:ah}{emit:Sem Unit}(hg:p[d+1]?=some ⟨Un,C,Q8,0⟩)(hc:uN S t Un)(hs:jO C=false)
  (hct:∀I,x6 (.ListComp G p c q) (d+1) I D Un C.pos g (G1 Q8 g emit (.compLoop (.ListComp G p c q) (d+1) (.ref I) (.ref D) g)))
  (h:lG X S g A NE C Un (λxs src s'=>s'=j/\wB t j/\∃h:af->ah,(∀x∈xs,gy t x j λsx=>G6 X S g A D Q8 emit (h x) sx)/\l=xs.flatMap h) j):
  RU X S g A D (do
   let x<-eval C g
   standAt C.pos
   let x<-foldedSetIterable C g x;let _<-runOwn (.compStart (.ListComp G p c q) (d+1) (<-holding [x] (pyIter x)) (.ref D) g) g
   pure ()) l j:=λF H u y acc P R hd ha hl k=>by
 refine dL (ab6 (h F _ u y (λv s=>wpAny (model X.prog X.w) A (do
   let _<-runOwn (.compStart (.ListComp G p c q) (d+1) v (.ref D) g) g
   pure ()) P NE s) (R.zN hd) λI wr xs src rz Z O Y au V N W hw hz L hso hq=>?_) (λx s hx=>?_) λ_ _ e=>e)
 ·refine cY hq λe hu hq=>aj hq λh' ht e'=>?_
  clear R;clear hq;subst e e';refine cY (N.bu.n8 hd.nv (lJ ha.ex)) λMA zC wx=>?_;haveI hDw:∀b∈wr,b∉[D]:=λb m m'=>ar ha.ex λo ho=>sn ((tB (u8.mp m'▸ .head _)).trans (u8.mp m'▸ho)) (hw b m).2.1;refine dL (wpAny_runOwn ?_)
  haveI z:∀s,s=O->codeAny (model X.prog X.w) A (.compLoop (.ListComp G p c q) (d+1) (.ref I) (.ref D) g) (λr s'=>match r with
    | .ok f=>wpAny (model X.prog X.w) A (pure ()) P NE s'
    | .error e=>cameBackBy (model X.prog X.w) A g NE e s') s:=λs e=>by
   subst e;have K:EC X A (.ListComp G p c q):=xd
   refine NL hA (K.u1 _ _ _ _) (K.d1 _ _ _ _) (K.q _ _ _ _) (hct I) W hc hu (Ac:=λi l F u hp=>l=[D]/\Cr X D (acc++(xs.take i).flatMap h') F u hp)
    (λi l F u h a=>a.1▸lJ a.2.ex) (λi l F M u J h h' a Q gj hk=>⟨a.1,a.2.aT Q gj (hk D (a.1▸ .head _))⟩)
    (λi x hx=>dH (ht x (wE hx)) λsx w=>Cs (Bd:=LBd) (λ_ _ _ _ a=>a.ex) (λ_ _ _ _ _ _ _ a Q gj hk=>a.aT Q gj hk) hx (Ct hl) w)
    MA zC (hw.zL (lJ (hd D (.head _)).2.1)) hDw hz (λIz s9 Q gj=>L Iz s9 V Q gj hso) ⟨rfl,by simp only[List.take_zero,List.flatMap_nil,aa1];exact ha.aT N.le N.jP (wx D (.head _))⟩ λaP cg bw l aW BW _ zD=>?_
   obtain⟨rfl,zD⟩:=zD;replace zD:=List.take_length▸zD;exact s4 (k aP cg bw ⟨N.le.trans aW.le,λn x e=>aW.jP n x (N.jP n x e),aW.bu⟩ BW zD)
  exact tD xd hg (z _ rfl) (W.self 0 _ _ _ hz (z _ rfl))
 ·refine dL (aaf ?_)
  rw[uS hs];exact dL (s4 (dL (KB hx)))
structure abJ(X:Cx)(S:a0)(g:Env)(H:bj)(F:bj)(u:List Addr)(D C:Addr)(l:List Addr)(y:Shared):Prop where
 hl:Hd S g F H u l
 hc:Hd S g F H u [C]
 ne:∀b∈l,b≠C
 m:(D==sysModules)=false
 ns:∃m,y.heap.Ns C m
def NN(hA:A.handled=none){ifs:List aD}{sl:Nat}{z:Option (Value->Sem Unit)}{P:dy}{new:Sem Value}{turn:Env->Addr->Addr->Sem Fin}{Ac:Addr->ah->(af->ah)->Nat->aZ->bj->aZ->Heap->Prop}{Z:ah->(af->ah)->St->Prop}
  (K:EC X A f) (hcl:clausesOf f=⟨tgt,iter,ifs,0⟩::gs) (G:KL S a sl) (hs:jO iter=false) (hc:uN (dq S a.names sl) t tgt)
  (hnew:∀y (P:dy),P (.ref y.heap.objs.size) {y with heap:=y.heap.push AD}->wpAny (model X.prog X.w) A new P E y) (hf0:AD.isFreed=false)
  (hct:∀d I D,x6 f 0 I D tgt iter.pos d (turn d I D))
  (ex:∀D r h i l F u hp,Ac D r h i l F u hp->∀b∈l,∃o,hp.get? b=some o) (aT:∀D r h i l F M u J hp hp',Ac D r h i l F u hp->Le F M->hU u J->(∀b∈l,∀o,hp.get? b=some o->hp'.get? b=some o)->Ac D r h i l M J hp')
  (h:lG X S g A E iter tgt (λr src j=>wB t ⟨ic j.aC sl (cZ a.names sl).length,j.cells⟩/\(∀v,eF src r j->eF src r ⟨v,j.cells⟩)/\∃h:af->ah,
   (∀(d:Env) (I D:Addr) i x,r[i]?=some x->gy t x ⟨ic j.aC sl (cZ a.names sl).length,j.cells⟩ λsx=>I3 (Ac D r h) X (dq S a.names sl) d A (turn d I D) (.again (.compLoop f 0 (.ref I) (.ref D) d)) i sx)/\
   (∀D F u hp,hp.get? D=some AD->Ac D r h 0 [D] F u hp)/\Z r h j) j)
  (R:c6 X S g F H u j y)
  (k:∀D C r h l T M J U,cN X S g F H u y M J U T->Ac D r h r.length l M J T.heap->Z r h U->abJ X S g H M J D C l T->compPost (model X.prog X.w) A E z P (.ref D) C (.ok .next) T):
  wpAny (model X.prog X.w) A (comprehension f a g p0 new false (eval iter g) z) P E y:=by
 refine mr G λhk hS hnn hfree=>?_;refine cU (RW (scope:=a) (env:=g) λx m hx=>ar (hfree x.1 (hx▸m)) λi hi=>cY (R.a8.es.kc _ i hi) λ_ _ h=>ar h λc h=>⟨c,h.1⟩) λcl c1 c2 c3=>?_;haveI nn:=eA hnn;refine wpAny_comprehension_free (use:=z) hcl (uS hs) c1 hk (λx m hx=>aj (kM (x:=x.1) (c:=x.2) m) λk' e1 e2=>e1.trans (v6 some ((v6 Prod.snd (gz nn m e2 rfl):x.2=k').symm.trans hx))) ?_
 refine h F H u y (λit DQ=>wpAny (model X.prog X.w) A new (λacc vK=>wpAny (model X.prog X.w) A (newFunctionEnv a g.globals cl [] g.qual none .none (some g)) (λd acr=>
  codeAny (model X.prog X.w) A (.compStart f 0 it acc {d with scope:=relabel a g}) (compPost (model X.prog X.w) A E z P acc d.locals) acr) E vK) E DQ) R λI wr r src rz Zi O Y au V N W hw hz hsrc hso hq=>?_
 refine cY hq λhu hsl hq=>cU hq λh' ht ha0 hz0=>hnew _ _ ?_;have N2:cN X S g Y H au O Y au V {O with heap:=O.heap.push AD,toks:=O.toks}:=cN.ext N.bu λb o hb=>wT _ hb;have w:=Cn N.bu (v0 O.heap.objs.size);have Q:=N.bu.r0.uP (v0 O.heap.objs.size);haveI gD:=GM O.heap hf0;haveI hexw:∀b∈wr,∃o,(O.heap.push AD).get? b=some o:=λb m=>ar (W.ex _ _ hz b m) λo e=>⟨o,wT _ e⟩;have hDw:∀b∈wr,b∉[O.heap.objs.size]:=λb m m'=>ar (W.ex _ _ hz b m) λo e=>absurd (KM e) (u8.mp m'▸ac6 _);have hz2:=W.frame _ _ (O.heap.push AD) hz λb m o e=>wT _ e;generalize O.heap.push AD=s8 at N2 gD hexw hz2;generalize O.heap.objs.size=D at w Q gD hDw;have hw2:Hd S g Y H au (D::wr):=λb m=>(EQ.mp m).elim (λe=>e▸w) (hw b);refine NM N2.bu hw2 (λb m=>(EQ.mp m).elim (λe=>⟨AD,e▸gD⟩) (hexw b)) G c2 c3 λL cells zA keep frL AE lD heq=>?_
 haveI loop:∀s,s=zA->codeAny (model X.prog X.w) A (.compLoop f 0 (.ref I) (.ref D) (sN a g L cells)) (compPost (model X.prog X.w) A E z P (.ref D) L) s:=λs e=>by
  clear heq;subst e
  refine NL hA (K.u1 _ _ _ _) (K.d1 _ _ _ _) (K.q _ _ _ _) (hct (sN a g L cells) I D) W hc hu (Ac:=Ac D r h') (ex D r h') (aT D r h') (ht _ I D) AE (lJ (lD D (.head _))) (λb m=>lD b (.tail _ m)) hDw (W.frame _ _ _ hz2 λb m o e=>keep b o e)
   (λIz s9 hF gj=>hsrc Iz s9 ⟨_,V.cells⟩ hF gj (hsl _ hso)) (ha0 D _ _ _ (keep _ _ gD)) λzy aai Ve l nU wy wl Vp=>?_
  haveI acs:=KO N2.bu hw2 nU.bu nU.le nU.jP rfl;refine k D L r h' l zy aai Ve V ⟨N.le.trans nU.le,λn x e=>nU.jP n x (N.jP n x e),acs⟩ Vp hz0 ⟨λb m=>?_,lJ ?_,λb m=>(wy b m).2.2.2.1,Q,ar nU.bu.a8.ns λm h=>(wz m h.1)⟩
  ·refine wS (p:=b=D) (λq=>?_) (λq=>?_)
   ·clear AE
    clear gD;clear hDw;clear Vp;clear lD;clear Q;clear hw2;subst q;exact(fL ((wy _ m).1) w.2.1 ((wy _ m).2.2.1) w.2.2.2)
   ·haveI ab:s8.get? b=none:=nf λo e=>sn (kN.mpr (fL (λm'=>(EQ.mp m').elim q λm'=>wl b m' m) (nf λx h=>sn (nU.le _ _ h) (wy b m).1) (λm'=>ar (aaH.mp m') λi hi=>(wy b m).2.2.1 (wE (nU.jP _ _ hi))) e)) (wy b m).2.1
    exact(fL ((wy b m).1) ((N2.bu.absent ab).1) ((wy b m).2.2.1) ((N2.bu.absent ab).2))
  ·exact(fL ((nU.bu.a8.free _ .aC).1) ((N2.bu.absent frL).1) ((nU.bu.a8.free _ .aC).2) ((N2.bu.absent frL).2))
 exact tD K (by rw[hcl];rfl) (loop _ rfl) (W.self 0 _ _ _ (W.frame _ _ _ hz2 λb m o e=>keep b o e) (loop _ rfl))
def Cu(X:Cx)(S:a0)(g:Env)(A:Around)(E:dy)(F H:bj)(u:aZ)(y:Shared)(a:Option (Value->Sem Unit))(P:dy)(Q:af->St->Prop):Prop:=∀D o C T M J U c,cN X S g F H u y M J U T->T.heap.get? D=some o->Hd S g M H J [D]->cM X.prog X.w M J c o->Q c U->Hd S g M H J [C]->D≠C->(D==sysModules)=false->(∃m,T.heap.Ns C m)->compPost (model X.prog X.w) A E a P (.ref D) C (.ok .next) T
def NO(hA:A.handled=none){kL m d:aD}{o:List aD}{gs:List Comprehension}{b:Scope}{r p0:Pos}{t:D3}{sl:Nat}{L:Option (Value->Sem Unit)}{Q:af->St->Prop}{P:dy}(p:Env->Addr->Sem Unit)
  (G:KL S b sl) (hs:jO d=false) (hc:uN (dq S b.names sl) t m)
  (hct:∀c I D,x6 (.ListComp kL (⟨m,d,o,0⟩::gs) b r) 0 I D m d.pos c (G1 o c (p c D) (.compLoop (.ListComp kL (⟨m,d,o,0⟩::gs) b r) 0 (.ref I) (.ref D) c)))
  (h:lG X S g A E d m (λf s j=>wB t ⟨ic j.aC sl (cZ b.names sl).length,j.cells⟩/\∃h:af->ah,(∀(c:Env) (D:Addr),∀x∈f,gy t x ⟨ic j.aC sl (cZ b.names sl).length,j.cells⟩ λsx=>G6 X (dq S b.names sl) c A D o (p c D) (h x) sx)/\
   (∀v,eF s f j->eF s f ⟨v,j.cells⟩)/\(f.flatMap h).length<=aL/\Q (.list (f.flatMap h)) j) j)
  (R:c6 X S g F H u j y)
  (k:Cu X S g A E F H u y L P Q):
  wpAny (model X.prog X.w) A (comprehension (.ListComp kL (⟨m,d,o,0⟩::gs) b r) b g p0 (newList []) false (eval d g) L) P E y:=
 NN hA xd rfl G hs hc (AD:={cls:=.type "list",dict:=none,data:=.seq ([]:aQ).toArray}) (λy P h=>by exact wpAny_newObj_type h) rfl
  hct
  (Ac:=λD f h i l F u hp=>l=[D]/\Cr X D ([]++(f.take i).flatMap h) F u hp) (Z:=λf h j=>Q (.list (f.flatMap h)) j)
  (λD f h i l F u hp a=>a.1▸lJ a.2.ex) (λD f h i l F M u J hp hp' a hF gj hk=>⟨a.1,a.2.aT hF gj (hk D (a.1▸ .head _))⟩)
  (h.aT λf s j q=>aX q λhu q=>zJ q λh ht hsl hl q=>⟨hu,hsl,h,λc I D i x hx=>dH (ht c D x (wE hx)) λsx w=>Cs (Bd:=LBd) (λ_ _ _ _ a=>a.ex) (λ_ _ _ _ _ _ _ a hF gj hk=>a.aT hF gj hk) hx (Ct (acc:=[]) hl) w,λD F u hp e=>⟨rfl,[],_,e,.nil⟩,q⟩)
  R λD C f h l T M J U N a z dn=>by
   obtain⟨rfl,a⟩:=a;rw[List.take_length,List.nil_append]at a;exact dm a λus ep ho hv=>k D _ C T M J U (.list (f.flatMap h)) N ho dn.hl (.list hv) z dn.hc (dn.ne D (.head _)) dn.m dn.ns
end
section
variable{X:Cx}{S:a0}{env:Env}{A:Around}{E:dy}{F y L T H B:bj}{t w U J:aZ}{f j I V:St}{r G M O:Shared}{n:Nat}
noncomputable def ED(e:aD)(env:Env)(d:Option (Value->Sem Unit)):Sem Value:=match e with
 | .ListComp g a b c=>comprehension (.ListComp g a b c) b env (firstIterPos a c) (newList []) (firstAsync a) (firstIter a env) d
 | .DictComp k v a b c=>comprehension (.DictComp k v a b c) b env (firstIterPos a c) newDict (firstAsync a) (firstIter a env) d
 |_=>unsupported "no comprehension"
noncomputable def G7:aD->Bool
 | .ListComp .. =>true
 | .DictComp .. =>true
 |_=>false
def Wi{P:aD->Prop}(h:G7 e)(l:∀a g s p,P (.ListComp a g s p))(d:∀a b g s p,P (.DictComp a b g s p)):P e:=by cases e<;>first|exact l _ _ _ _|exact d _ _ _ _ _|exact Bool.noConfusion h
def ya(h:G7 e):eval e env=ED e env none:=Wi (P:=λe=>eval e env=ED e env none) h (λ_ _ _ _=>rfl) λ_ _ _ _ _=>rfl
def KP(h:G7 e)(u:Value->Sem Unit):evalThenUse e env u=(ED e env (some u)>>=λ_=>pure ()):=Wi (P:=λe=>evalThenUse e env u=(ED e env (some u)>>=λ_=>pure ())) h (λ_ _ _ _=>rfl) λ_ _ _ _ _=>rfl
def uT(X:Cx)(S:a0)(env:Env)(A:Around)(E:dy)(e:aD)(Q:af->St->Prop)(f:St):Prop:=
 ∀(a:Option (Value->Sem Unit)) F H t r (P:dy),c6 X S env F H t f r->
  Cu X S env A E F H t r a P Q->
  wpAny (model X.prog X.w) A (ED e env a) P E r
def uT.aT(h:uT X S env A E e Q f)(k:∀a s,Q a s->d a s):uT X S env A E e d f:=λb F H t r P R p=>h b F H t r P R λD o C G y w j c N g i l q=>p D o C G y w j c N g i l (k _ _ q)
def NP(i:G7 e)(h:uT X S env A E e Q f):j8 X S env A E (eval e env) Q f:=λF H t r P R k=>(ya i)▸h none F H t r P R λD o C G y w j c N l p s q u a v d=>ar d λm z=>⟨m,z,λY g=>
 mr (p D (.head _)) λa1 a2 Z a4=>k D o _ y w j c (N.trans (cN.Cm (tk:=G.toks) (h':=Y) N.bu u λb x hb e=>(g.2 b λq=>hb (u8.mpr q)).trans e)) ((g.2 D a).trans l) a1 a2 Z a4 v s q⟩
def G8{p:Pos}(a:G7 e):∃b:Bool,swapsWithSole [.Name x q] e p.line env=pure b:=Wi (P:=λe=>∃b:Bool,swapsWithSole [.Name x q] e p.line env=pure b) a (λ_ _ _ _=>⟨_,rfl⟩) λ_ _ _ _ _=>⟨_,rfl⟩
def HY(X:Cx)(S:a0)(env:Env)(Y:af->St->af->St->Prop):Prop:=∀F H t f r D o c,c6 X S env F H t f r->r.heap.get? D=some o->Hd S env F H t [D]->(D==sysModules)=false->cM X.prog X.w F t c o->∃y w v j,cN X S env F H t r y w j r/\aG X.prog X.w y w v (.ref D)/\Y c f v j/\∀b,b≠D->y b=F b/\(b∈w->b∈t)
def r8{i:Nat}{Q:aR->St->Prop}{Z:af->St->Prop}{Y:af->St->af->St->Prop}(he:G7 e)(hx:Gz S x i)(h:uT X S env A E e Z f)(hY:HY X S env Y)
  (hQ:∀c f v j,Z c f->Y c f v j->Q .next ⟨j.aC.set i v,j.cells⟩):rC X S env A E B (exec (.Assign [.Name x q] e p) env) Q f:=λF H t r P hB R k=>by
 rw[exec_Assign_arm];refine dL (aaf (ar (G8 (env:=env) (x:=x) (q:=q) (p:=p) he) λb g=>g▸dL (s4 (wpAny_ite_split (λ_=>?_) λ_=>?_))))
 ·refine(KP he _).symm▸dL (dL (h (some _) F H t r (λ_ s=>wpAny (model X.prog X.w) A (pure ()) (λ_ s=>wpAny (model X.prog X.w) A (pure Flow.next) P E s) E s) R λD o C G y w j c N ho hD hc z hC a hm d=>?_))
  refine ar d λm h=>B0 h λoC es ep l hr=>?_;show wpAny _ A (assign (.Name x q) env (.ref D)) _ E _;refine VD (hY y H w j _ D o c N.bu ho hD hm hc) λF3 u v st3 N3 V3 hy hout=>?_;have hC3:Hd S env F3 H u [C]:=lJ (mr (hC C (.head _)) λa1 a2 a3 a4=>aX (hout C a.symm) λb1 b2=>fL (b1.trans a1) a2 (λm=>a3 (b2 m)) a4);refine xc hx (N3.bu.zN hC3) V3 λσ4 N4=>cY (N4.bu.n8 hC3.nv (lJ ⟨_,l⟩)) λR4 hd4 hk4=>⟨m,⟨oC,es,ep,hk4 C (.head _) _ l,hr⟩,λh' hs=>s4 (s4 ?_)⟩;exact k _ _ _ _ _ .next (((N.trans N3).Ny N4 R4).trans (cN.Cm (tk:=σ4.toks) (h':=h') R4 hd4 λb x g e=>(hs.2 b λq=>g (u8.mpr q)).trans e)) rfl (hQ _ _ _ _ z hy)
 ·refine(ya he).symm▸dL (h none F H t r _ R λD o C G y w j c N ho hD hc z hC a hm d=>ar d λm MI=>⟨m,MI,λh' hs=>?_⟩)
  have N2:=cN.Cm (tk:=G.toks) (h':=h') N.bu hC λb x g e=>(hs.2 b λq=>g (u8.mpr q)).trans e;refine VD (hY y H w j _ D o c N2.bu ((hs.2 D a).trans ho) hD hm hc) λF3 u v st3 N3 V3 hy _=>?_;refine(show swappedStores [.Name x q] e env=pure none from rfl).symm▸dL (s4 ?_);show wpAny _ A (assign (.Name x q) env (.ref D)>>=λ_=>pure Flow.next) _ E _;exact dL (xc hx N3.bu V3 λσ4 N4=>s4 (k _ _ _ _ _ .next (((N.trans N2).trans N3).trans N4) rfl (hQ _ _ _ _ z hy)))
def RY:HY X S env λc f v j=>v=c/\j=f:=λF H t f r D o c R a d e g=>mr (d D (.head _)) λa1 a2 h i=>
 have N:=cN.Gl R a a1 a2 h i
 ⟨_,_,c,f,N,.xC (Gk e) hX (g.aT N.le N.jP),⟨rfl,rfl⟩,λb k=>⟨fM k,id⟩⟩
def RZ:HY X S env λc f v j=>v=.cell f.cells.length/\j=⟨f.aC,f.cells++[c]⟩:=λF H t f r D o c R a d e g=>mr (d D (.head _)) λa1 a2 h i=>
 ⟨_,_,_,_,cN.Gm R a a1 a2 h i e g,.cell (R.r0.cS▸List.getElem?_concat_length),⟨rfl,rfl⟩,λb k=>⟨rfl,λm=>(AC.mp m).elim id λm=>absurd (u8.mp m) k⟩⟩
end
section
variable{X:Cx}{S:a0}{c:Env}{A:Around}{E:dy}{F x L O H B:bj}{j s T J:aZ}{g G U Y:St}{y C M I:Shared}{n:Nat}
noncomputable def lK(k:Int)(v:af):af:=.tuple [.int k,v]
noncomputable def EE(X:Cx)(D:Addr):YY:=λa F j h=>∃b e d,a=List.zipWith lK b e/\h.DictOf (intKind X.prog X.w) D (b.zip d)/\b.length=d.length/\ax X.prog X.w F j e d
def EE.ex{h:Heap}(a:EE X D acc F j h):∃o,h.get? D=some o:=zK a λ_ _ _ _ d _ _=>ar d λo d=>ar d λ_ d=>ar d λ_ d=>⟨o,d.1⟩
def EE.aT{h b:Heap}(a:EE X D acc F j h)(f:Le F x)(i:hU j s)(k:∀o,h.get? D=some o->b.get? D=some o):EE X D acc x s b:=
 zK a λl m p e d q t=>B0 d λo u v w r=>⟨l,m,p,e,(Kj o u v (k o w) r),q,t.aT f i⟩
noncomputable def R3(v:af):Int:=match v with
 | .tuple l=>(match l with| .int k::_=>k|_=>0)
 |_=>0
def KN(l:ah):Prop:=(l.map R3).Nodup
def XW(l:ah):Prop:=l.length<=aL/\KN l
def tE{a:aS}:∀{b:ah},a.length=b.length->(List.zipWith lK a b).map R3=a:=by
 induction a with
 |nil=>exactλ_=>rfl
 |cons k a d=>
  refineλh=>pU (KF h.symm) λv b e=>?_
  subst e;exact v6 (k:: ·) (d (aa3 h))
abbrev Y0(X:Cx)(S:a0)(c:Env)(A:Around)(D:Addr)(t:Sem Unit)(l:ah)(g:St):Prop:=EmG (EE X D) XW X S c A D t l g
def aU.go(h:aU X S c A NE m (λu b=>b=G/\u=v/\Z) g)(R:c6 X S c F H j g y)(k:∀u C x s,cN X S c F H j y x s G C->aG X.prog X.w x s v u->Z->P u C):wpAny (model X.prog X.w) A m P NE y:=
 h F H j y P R λu C x s G a N V z=>cY z λd e=>by subst d e;exact k u C x s N V
def G9{a:aS}{b:aQ}(d:a.length=b.length)(h:i∉a):stored (a.zip b) i w=(a++[i]).zip (b++[w]):=
 ((if_neg λq=>aj (aak.mp q) λ(p:Int×Value) m e=>h ((s5 (p:=p.1=i) e)▸(List.of_mem_zip m).1)):stored (a.zip b) i w=_).trans (by rw[List.zip_append d];rfl)
def R5(h:aU X S c A NE (eval kx c) (λu s'=>s'=g/\u=.int i/\aU X S c A NE (eval vx c) (λw IB=>IB=g/\w=v) g) g):
  Y0 X S c A D (do
   let kv<-eval kx c;let vv<-holding [kv] (eval vx c)
   standAt pp
   holding [kv,vv] (dictSet D kv vv)) [lK i v] g:=λF H j y acc P R hd ha Q k=>by
 refine dL (h.go (R.zN hd) λu M L T N V z=>ar V.i8 λt e=>dL (KB ((z.aT λ_ _ h=>bH h.1 h.2 trivial).go N.bu λw I O J aW c9 _=>dL (aaf (KB ?_)))));refine cY (aW.bu.n8 hd.nv (lJ ha.ex)) λp BW Ra=>?_;have N:=N.Ny aW p;refine zK (ha.aT N.le N.jP (Ra D (.head _))) λl Z ws q hD a hv=>?_;have d:l.length=Z.length:=a.trans hv.length.symm;have Q:XW (List.zipWith lK l Z++[lK i v]):=q▸Q;have r:(List.zipWith lK l Z).length=l.length:=(v4 (f:=R3)).symm.trans (v6 _ (tE d));have hki:i∉l:=λm=>(acb.mp (Eq.mp (v6 List.Nodup aaL) Q.2)).2.2 i ((tE d).symm▸m) i (.head _) rfl;refine e▸wpAny_dictSet_pairs (knd:=intKind X.prog X.w) (acA _ _ _ _) hD (λh' MI AA=>?_) ?_
 ·have N3:=cN.Cm (tk:=I.toks+1) (h':=h') p BW λb o hb e=>(AA.2 b λq=>hb (u8.mpr q)).trans e
  exact k _ _ _ (N.trans N3) BW (DX (l++[i]) _ (ws++[w]) (q▸by rw[List.zipWith_append d];rfl) (G9 a hki▸MI) (by rw[sK,sK,a];rfl) (hv.append (.cons c9 .nil)))
 ·rw[List.length_zip,a,Nat.min_self,<-a,<-r]
  exact fo (KK (Eq.mp (v6 (·<=aL) sK) Q.1))
end
section
variable{X:Cx}{S:a0}{b:Env}{A:Around}{E:dy}{F j u L H B:bj}{d g M s:aZ}{c p r O:St}{f o y J:Shared}{n:Nat}
abbrev R6(X:Cx)(S:a0)(b:Env)(A:Around)(D:Addr)(e:List aD)(a:Sem Unit)(l:ah)(sx:St):Prop:=Uz (EE X D) XW X S b A D e a l sx
def I4{a:aS}:∀{i:ah},a.length=i.length->(List.zipWith lK a i).map (λv=>match v with| .tuple [_,w]=>w|v=>v)=i:=by
 induction a with
 |nil=>exactλh=>(aaZ.mp h.symm).symm
 |cons k a l=>
  refineλh=>pU (KF h.symm) λv i e=>?_
  subst e;exact v6 (v:: ·) (l (aa3 h))
def EF{i a:aS}{k l:ah}(h:i.length=k.length)(m:a.length=l.length)(e:List.zipWith lK i k=List.zipWith lK a l):i=a/\k=l:=
 ⟨(tE h).symm.trans ((v6 (List.map R3) e).trans (tE m)),(I4 h).symm.trans ((v6 (List.map _) e).trans (I4 m))⟩
def R7{a:ah}(k:XW (a.flatMap h)):XW ([]++(a.take i).flatMap h):=⟨Ct (acc:=[]) k.1,by
 haveI e:a.flatMap h=(a.take i).flatMap h++(a.drop i).flatMap h:=by rw[<-abM,acg]
 haveI:=k.2;unfold KN at this⊢;rw[e,aaL]at this;exact(acb.mp this).1⟩
def KQ(hA:A.handled=none){kx vx Y V:aD}{ifs:List aD}{gs:List Comprehension}{T:Scope}{pos p0:Pos}{t:D3}{sl:Nat}{use:Option (Value->Sem Unit)}{Q:af->St->Prop}{P:dy}(emit:Env->Addr->Sem Unit)
  (G:KL S T sl) (hs:jO V=false) (hc:uN (dq S T.names sl) t Y)
  (hct:∀U I D,x6 (.DictComp kx vx (⟨Y,V,ifs,0⟩::gs) T pos) 0 I D Y V.pos U (G1 ifs U (emit U D) (.compLoop (.DictComp kx vx (⟨Y,V,ifs,0⟩::gs) T pos) 0 (.ref I) (.ref D) U)))
  (h:lG X S b A E V Y (λxs src c=>wB t ⟨ic c.aC sl (cZ T.names sl).length,c.cells⟩/\∃h:af->ah,(∀(U:Env) (D:Addr),∀x∈xs,gy t x ⟨ic c.aC sl (cZ T.names sl).length,c.cells⟩ λsx=>R6 X (dq S T.names sl) U A D ifs (emit U D) (h x) sx)/\
   (∀v,eF src xs c->eF src xs ⟨v,c.cells⟩)/\(xs.flatMap h).length<=aL/\∃ks vs,ks.length=vs.length/\ks.Nodup/\xs.flatMap h=List.zipWith lK ks vs/\Q (.dict ks vs) c) c)
  (R:c6 X S b F H d c f)
  (k:Cu X S b A E F H d f use P Q):
  wpAny (model X.prog X.w) A (comprehension (.DictComp kx vx (⟨Y,V,ifs,0⟩::gs) T pos) T b p0 newDict false (eval V b) use) P E f:=
 NN hA RX rfl G hs hc (AD:={cls:=.type "dict",data:=.dict #[]}) (λf P h=>by exact dL (wpAny_alloc (s4 h))) rfl
  hct
  (Ac:=λD xs h i l F d hp=>l=[D]/\EE X D ([]++(xs.take i).flatMap h) F d hp) (Z:=λxs h c=>∃ks vs,ks.length=vs.length/\xs.flatMap h=List.zipWith lK ks vs/\Q (.dict ks vs) c)
  (λD xs h i l F d hp a=>a.1▸lJ a.2.ex) (λD xs h i l F j d g hp hp' a hF gj hk=>⟨a.1,a.2.aT hF gj (hk D (a.1▸ .head _))⟩)
  (h.aT λxs src c q=>aX q λhu q=>zJ q λh ht hsl hl q=>gH q λks vs hkv Gg hzp q=>⟨hu,hsl,h,λU I D i x hx=>dH (ht U D x (wE hx)) λsx w=>Cs (Bd:=XW) (λ_ _ _ _ a=>a.ex) (λ_ _ _ _ _ _ _ a hF gj hk=>a.aT hF gj hk) hx (R7 ⟨hl,by unfold KN;simp only[hzp,tE hkv];exact Gg⟩) w,
   λD F d hp e=>⟨rfl,[],[],[],rfl,(Yn _ (#[]) 0 e ⟨rfl,rfl,rfl⟩ rfl (λe m=>by simp at m) .nil .nil),rfl,.nil⟩,ks,vs,hkv,hzp,q⟩)
  R λD C xs h l o j g p N a z dn=>gm z λks vs hkv hzp q=>by
   obtain⟨rfl,a⟩:=a;rw[List.take_length,List.nil_append,hzp]at a;refine zK a λks' AB us XF hdo hkl hv=>aX (EF hkv (hkl.trans hv.length.symm) XF) λe1 e2=>?_;subst e1 e2;exact aj (Heap.dictOf_iff.mp hdo) λoD ho hdo=>k D _ C o j g p (.dict ks vs) N ho dn.hl (.dict hdo hkl hv) q dn.hc (dn.ne D (.head _)) dn.m dn.ns
end
section
variable{X:Cx}{S:a0}{d:Env}{A:Around}{E:dy}{F w T Y H B:bj}{j s au O:aZ}{g L M bL:St}{f J U V:Shared}{n:Nat}
structure KR(D:Addr)(as:List Addr)(h:Heap):Prop where
 nd:(D::as).Nodup
 list:∃ep,h.get? D=some (listOf (as.map Value.ref).toArray ep)
 R8:∀a∈as,h.get? a=some (listOf #[] 0)
 Wj:∀a∈as,(a==sysModules)=false
def KR.aT{h c:Heap}(a:KR D as h)(i:∀b∈D::as,∀o,h.get? b=some o->c.get? b=some o):KR D as c:=
 ⟨a.nd,ar a.list λk e=>⟨k,i D (.head _) _ e⟩,λb m=>i b (.tail _ m) _ (a.R8 b m),a.Wj⟩
def KR.ex{h:Heap}(a:KR D as h):∀b∈D::as,∃o,h.get? b=some o:=fm (ar a.list λc e=>⟨_,e⟩) λb m=>⟨_,a.R8 b m⟩
def I5{b:Type}{P:b->Prop}{l:List b}{a:b}(h:∀x∈l,P x)(k:P a):∀x∈l++[a],P x:=λx m=>(AC.mp m).elim (h x) λm=>u8.mp m▸k
def NQ b x a iter scope pos I D d:
  x6 (.ListComp (.List [] b) [⟨.Name x a,iter,[],0⟩] scope pos) 0 I D (.Name x a) iter.pos d (eval (.List [] b) d>>=λu=>call (.builtin "list.append") [.ref D,u]>>=λ_=>again (.compLoop (.ListComp (.List [] b) [⟨.Name x a,iter,[],0⟩] scope pos) 0 (.ref I) (.ref D) d)):=by
 refine(I1 (.List [] b) (.Name x a) iter [] [⟨.Name x a,iter,[],0⟩] scope pos (.ref I) (.ref D) d 0 rfl rfl).trans ?_;congr 1;funext _;congr 1;funext r;cases r with
 |none=>rfl
 |some v=>simp only[List.forIn_nil,pure_bind,if_true,bind_assoc]
abbrev EAc(D:Addr)(b:ah)(_:af->ah)(i:Nat)(l:aZ)(F:bj)(j:aZ)(a:Heap):Prop:=∃as,l=D::as/\as.length=i/\KR D as a
def R9{b:Type}(a:b):[a].Nodup:=TT.mpr ⟨acS,List.nodup_nil⟩
def Wk{c:Code}{x:ah}{h:af->ah}{i:Nat}{sx:St}(Q:i<x.length)(Z:x.length<=aL):
  I3 (EAc D x h) X S d A (eval (.List [] p1) d>>=λu=>call (.builtin "list.append") [.ref D,u]>>=λ_=>again c) (.again c) i sx:=λF H j f l P R y ha k=>by
 refine cU ha λas e r t=>ar t.list λep ho=>?_;subst e;have I:as.length+1<=aL:=o0 (r▸Q) Z;refine dL (wpAny_List (wpAny_items_nil ⟨SC _,?_⟩));haveI v:=Cn R (v0 f.heap.objs.size);haveI z:=wT {cls:=.type "list",data:=.seq ([]:aQ).toArray} ho;refine dL (wpAny_call_entry acW (ay _ z rfl) PySem.F.entry_list_append ?_ (PySem.F.args_list_append_2 _ _));show wpAny _ _ (updateSeq D (·.push (.ref f.heap.objs.size))>>=λ_=>ret .none) _ _ {f with heap:=f.heap.push {cls:=.type "list",data:=.seq ([]:aQ).toArray}};refine dL (wpAny_updateSeq z rfl (s4 (ay .none rfl (s4 ?_))) (by simp only[ST,v4,sizeLine_eq];rw[IX]at I;lia) (by simp only[Array.size_push,ST,v4,sizeLine_eq];rw[IX]at I;exact o0 (by assumption) (by decide)));have N:∀b∈D::as,b≠f.heap.objs.size:=λb m=>ar (t.ex b m) λo e=>LE (KM e);haveI C:∀b∈as,b≠D:=λb m q=>(TT.mp t.nd).1 (q▸m);have p:∀b o,b≠D->f.heap.get? b=some o->((f.heap.push {cls:=.type "list",data:=.seq ([]:aQ).toArray}).update D (Obj.mapSeq (·.push (.ref f.heap.objs.size)))).get? b=some o:=λb o G e=>(Heap.get?_update_ne _ _ _ _ G).trans (wT _ e);haveI N7:=cN.Cm (tk:=f.toks) R y (λb o G e=>p b o (λq=>G (q▸ .head _)) e);refine ar (xX z (·.push (.ref f.heap.objs.size))) λn' h1=>k _ F j (D::(as++[f.heap.objs.size])) N7 (fm (y D (.head _)) (I5 (λb m=>y b (.tail _ m)) v)) (fm (.inl (.head _)) (I5 (λb m=>.inl (.tail _ m)) (.inr (v0 _)))) ⟨as++[f.heap.objs.size],rfl,?_,?_,⟨n',?_⟩,I5 (λa m=>p a _ (C a m) (t.R8 a m)) ?_,I5 t.Wj (R.r0.uP (v0 _))⟩
 ·simp only[sK,r];rfl
 ·rw[<-List.cons_append,acb]
  exact(bH t.nd (R9 _) (λa m b m'=>u8.mp m'▸N a m))
 ·simp only[h1,List.push_toArray,aaL];rfl
 ·exact(Heap.get?_update_ne _ _ _ _ (acQ (N D (.head _)))).trans (GM _ rfl)
def Wl{as:aZ}:∀{j:aZ} {g:St},c6 X S d F H j g f->as.Nodup->(∀a∈as,f.heap.get? a=some (listOf #[] 0))->Hd S d F H j as->(∀a∈as,(a==sysModules)=false)->
  cN X S d F H j f F (j++as) ⟨g.aC,g.cells++List.replicate as.length (.list [])⟩ f:=by
 induction as with
 |nil=>intro j g R _ _ _ _;simp only[aa1,List.length_nil,List.replicate_zero,aa1];exact cN.gP R
 |cons a as l=>
  intro j g R e h i k;haveI c:=i a (.head _);have N:=cN.Gm R (h a (.head _)) c.1 c.2.1 c.2.2.1 c.2.2.2 (k a (.head _)) (.list (ws:=[]) .nil);haveI o:=l N.bu (TT.mp e).2 (λb m=>h b (.tail _ m)) (λb m=>haveI h2:=i b (.tail _ m);(fL h2.1 h2.2.1 (λp=>(AC.mp p).elim h2.2.2.1 λq=>(TT.mp e).1 (u8.mp q▸m)) h2.2.2.2)) λb m=>k b (.tail _ m);haveI:=N.trans o;rw[aaX,aaX]at this;exact this
def KU{c:aZ}{l:aZ}:∀(p:Nat),(∀(i:Nat) a,l[i]?=some a->c[p+i]?=some a)->ax X.prog X.w F c ((List.range l.length).map λi=>.cell (p+i)) (l.map Value.ref):=by
 induction l with
 |nil=>exactλp _=>.nil
 |cons a l k=>
  intro p h;simp only[WF,List.range_succ_eq_map,aaT,aac];refine .cons (.cell (h 0 a rfl)) ?_;haveI e:((λi=>af.cell (p+i))∘Nat.succ)=λi=>af.cell (p+1+i):=funext λi=>v6 af.cell (acG p i).symm;refine e▸?_;exact k (p+1) λi b q=>(acG p i)▸h (i+1) b q
def KW(hA:A.handled=none){uF:Nat}{sl:Nat}{use:Option (Value->Sem Unit)}{Q:af->St->Prop}{P:dy}
  (G:KL S scope sl) (hs:jO iter=false) (hc:Gz (dq S scope.names sl) x uF)
  (hu:∀l:ah,aB (ic l sl (cZ scope.names sl).length) uF=.ae)
  (h:lG X S d A E iter (.Name x p2) (λo src g=>(∀v,eF src o g->eF src o ⟨v,g.cells⟩)/\o.length<=aL/\Q (.list ((List.range o.length).map λi=>.cell (g.cells.length+i))) ⟨g.aC,g.cells++List.replicate o.length (.list [])⟩) g)
  (R:c6 X S d F H j g f)
  (k:Cu X S d A E F H j f use P Q):
  wpAny (model X.prog X.w) A (comprehension (.ListComp (.List [] p1) [⟨.Name x p2,iter,[],0⟩] scope pos) scope d p0 (newList []) false (eval iter d) use) P E f:=
 NN hA xd rfl G hs hc (t:=.dA uF) (AD:={cls:=.type "list",dict:=none,data:=.seq ([]:aQ).toArray}) (λf P h=>by exact wpAny_newObj_type h) rfl
  (turn:=λc I D=>eval (.List [] p1) c>>=λu=>call (.builtin "list.append") [.ref D,u]>>=λ_=>again (.compLoop (.ListComp (.List [] p1) [⟨.Name x p2,iter,[],0⟩] scope pos) 0 (.ref I) (.ref D) c)) (λc I D=>NQ _ _ _ _ _ _ _ _ _)
  (Ac:=EAc) (Z:=λo h g=>Q (.list ((List.range o.length).map λi=>.cell (g.cells.length+i))) ⟨g.aC,g.cells++List.replicate o.length (.list [])⟩)
  (λD o h i l F j hp a=>cU a λas e _ a=>e▸a.ex) (λD o h i l F w j s hp hp' a hF gj hk=>cU a λas e hl a=>(dC as e hl (a.aT (e▸hk))))
  (h.aT λo src g q=>cY q λhsl hl q=>⟨hu _,hsl,λ_=>[],λc I D i y hx=>Wk (wP.mp hx).1 hl,λD F j hp e=>⟨[],rfl,rfl,R9 _,⟨_,e⟩,XU,XU⟩,q⟩)
  R λD C o h l J w s L N a z p=>cU a λas e r ea=>ar ea.list λep ho=>by
   subst e;have nd:=TT.mp ea.nd;haveI N5:=Wl N.bu nd.2 ea.R8 (λb m=>p.hl b (.tail _ m)) ea.Wj;haveI hl4:=N.bu.r0.cS;rw[r]at N5;refine k D _ C J w (s++as) _ (.list ((List.range o.length).map λi=>.cell (L.cells.length+i))) (N.trans N5) ho (lJ ?_) (.list ?_) z (lJ ?_) (p.ne D (.head _)) p.m p.ns
   ·exact(fL ((p.hl D (.head _)).1) ((p.hl D (.head _)).2.1) (λm=>(AC.mp m).elim (p.hl D (.head _)).2.2.1 nd.1) ((p.hl D (.head _)).2.2.2))
   ·refine hl4▸?_
    refine r▸?_;exact KU s.length λi b e=>by rw[GE (T0 _ _),Nat.add_sub_cancel_left];exact e
   ·exact(fL ((p.hc C (.head _)).1) ((p.hc C (.head _)).2.1) (λm=>(AC.mp m).elim (p.hc C (.head _)).2.2.1 λm=>p.ne C (.tail _ m) rfl) ((p.hc C (.head _)).2.2.2))
end
def EG(p:Array Nat):Prop:=∀(i j a b:Nat),i<j->p[i]?=some a->p[j]?=some b->a<b
def NR(h:Array Nat) v k(m:∀i,i<k->h.getD i 0<v)(o:∀i,k<=i->i<h.size->¬h.getD i 0<v):
  ∀(f lo g:Nat),lo<=k->k<=g->g<=h.size->g-lo<=f->SetTable.below.go h v f lo g=k:=by
 intro f;induction f with
 |zero=>intro lo g a b c d;unfold SetTable.below.go;lia
 |succ n l=>
  intro lo g a b c d;unfold SetTable.below.go;by_cases j:lo<g
  ·skip
   simp only[j,if_true];refine wS (p:=h.getD ((lo+g)/2) 0<v) (λq=>?_) (λq=>?_)
   ·have e:h.getD ((lo+g)/2) v<v:=by rw[Array.getD_eq_getD_getElem?]at q⊢;rw[aaC (by lia)]at q⊢;exact q
    rw[if_pos e];refine l _ _ ?_ b c (by lia);rcases P3 ((lo+g)/2) k with w|w
    ·assumption
    ·exact absurd q (o _ w (by lia))
   ·have e:¬h.getD ((lo+g)/2) v<v:=by rw[Array.getD_eq_getD_getElem?]at q⊢;rw[aaC (by lia)]at q⊢;exact q
    rw[if_neg e];refine l _ _ a ?_ (by lia) (by lia);rcases P3 ((lo+g)/2) k with w|w
    ·exact absurd (m _ w) q
    ·exact w
  ·refine(if_neg j)▸?_;lia
def yb{a:Array Nat}(b:∀i,i<k->a.getD i 0<v)(c:∀i,k<=i->i<a.size->¬a.getD i 0<v)(d:k<=a.size):SetTable.below a v=k:=
 NR a v k b c _ _ _ (SC _) d (v0 _) (by exact Nat.sub_le _ _)
def uU{b:Array Nat}(h:b[i]?=some a):b.getD i 0=a:=by refine Array.getD_eq_getD_getElem?▸?_;refine h▸?_;rfl
def gc{a:Array Nat}(h:i<a.size):a[i]?=some (a.getD i 0):=by refine Array.getD_eq_getD_getElem?▸?_;refine(aaC h)▸?_;rfl
def Ha{d:Array Nat}(R:EG d) v:∃k,k<=d.size/\SetTable.below d v=k/\(∀i,i<k->d.getD i 0<v)/\∀i,k<=i->i<d.size->v<=d.getD i 0:=by
 suffices h:∀n,n<=d.size->∃k,k<=n/\(∀i,i<k->d.getD i 0<v)/\∀i,k<=i->i<n->v<=d.getD i 0 by
  refine cU (h d.size (v0 _)) λk a b c=>?_;exact(BX k a (yb b (λi p q=>aaG.mpr (c i p q)) a) b c)
 intro n;induction n with
 |zero=>intro _;exact(dC 0 (v0 _) (λi h=>absurd h (acM _)) (λi _ h=>absurd h (acM _)))
 |succ n f=>
  intro e;refine cU (f (acq e)) λk a b c=>?_;refine wS (p:=d.getD n 0<v) (λq=>?_) (λq=>?_)
  ·refine(dC (n+1) (v0 _) (λi g=>?_) (λi p q=>absurd q (aaG.mpr p)))
   rcases Nat.lt_or_eq_of_le (aca g)with w|rfl
   ·exact abV (R i n _ _ w (gc (abV w e)) (gc e)) q
   ·exact q
  ·refine(dC k (Nat.le_succ_of_le a) b (λi p w=>?_))
   clear a;rcases Nat.lt_or_eq_of_le (aca w)with w|rfl
   ·exact c i p w
   ·exact aaG.mp q
def Hb n:EG (Array.range n):=λi j a b c d g=>by
 haveI f:∀{i a:Nat},(Array.range n)[i]?=some a->a=i:=λ{i a} h=>by
  refine ar (aaP.mp h) λq e=>?_;simpa using e.symm
 simp only[f d,f g];exact c
def EH{f:Array Nat}(R:EG f)(u:∀i:Nat,f[i]?≠some v):EG (SetTable.insertAt f (SetTable.below f v) v):=by
 refine zJ (Ha R v) λk C e b c=>?_;refine e▸?_;intro i j a B r x y;rw[<-KE,SetTable.toList_insertAt]at x y;have l:(f.toList.take k).length=k:=by simp;lia
 have m:∀i a,(f.toList.take k++v::f.toList.drop k)[i]?=some a->(i<k/\f[i]?=some a)\/(i=k/\a=v)\/(k<i/\f[i-1]?=some a):=by
  intro i a h;rcases acN i k with w|w|w
  ·rw[aar (by simp only[l];exact w)]at h
   rw[List.getElem?_take_of_lt w,KE]at h;exact .inl ⟨w,h⟩
  ·subst w
   rw[GE (l.symm▸v0 _),l]at h;simp at h;exact .inr (.inl ⟨rfl,h.symm⟩)
  ·rw[GE (by rw[l];exact KK (by assumption)),l]at h
   obtain⟨d,rfl⟩:∃d,i=k+d+1:=⟨i-k-1,by lia⟩;rw[show k+d+1-k=d+1 by lia,List.getElem?_cons_succ,List.getElem?_drop,KE]at h;exact .inr (.inr ⟨by assumption,by rw[show k+d+1-1=k+d by lia];exact h⟩)
 haveI g:∀{i a},f[i]?=some a->i<f.size:=λh=>(aaP.mp h).1
 have z:∀{i a},k<=i->f[i]?=some a->v<a:=λ{i a} s h=>by
  haveI:=c i s (g h);rw[uU h]at this;exact Nat.lt_of_le_of_ne this λq=>u i (by simp only[h,q])
 haveI A:∀{i a},i<k->f[i]?=some a->a<v:=λ{i a} s h=>by haveI:=b i s;rwa[uU h]at this
 clear b;clear c;clear u;rcases m i a x with⟨p,n⟩|⟨p,rfl⟩|⟨p,n⟩<;>rcases m j B y with⟨t,o⟩|⟨t,rfl⟩|⟨t,o⟩
 ·exact R _ _ _ _ r n o
 ·exact A p n
 ·exact abV (A p n) (z (Nat.le_sub_one_of_lt t) o)
 ·lia
 ·lia
 ·exact z (by lia) o
 ·lia
 ·lia
 ·exact R _ _ _ _ (by lia) n o
structure mZ(w:World)(t:SetTable):Prop where
 led:w.params.followText "set-order"\/t.led=true
 Km:EG t.place
 DY:t.dummies= #[]
def He{t:SetTable}(R:EG t.place)(h:t.slot j=.empty):∀i:Nat,t.place[i]?≠some j:=by
 intro i a
 have:SetTable.below t.place j=i:=by
  refine yb (λk b=>?_) (λk b c=>?_) (KK (aaP.mp a).1)
  ·exact R k i _ _ b (gc (abV b (aaP.mp a).1)) a
  ·rcases Nat.lt_or_eq_of_le b with w|rfl
   ·exact aaG.mpr (KK (R i k _ _ w a (gc c)))
   ·refine(uU a).symm▸?_;exact ac6 _
 unfold SetTable.slot at h;replace h:=this▸h;simp only[a]at h;cases(if_pos (beq_self_eq_true _)).symm.trans h
def Hf{t:SetTable}(h:t.dummies= #[]) j:t.slot j≠ .dummy:=by
 unfold SetTable.slot;have:SetTable.has t.dummies j=false:=by rw[h];exact Bool.eq_false_of_le_false λa=>a
 refine this▸?_;dsimp only;split<;>exact not_eq_of_beq_eq_false rfl
def NS{t:SetTable}(l:t.dummies= #[])(f:Nat->Int) h:∀(a:Nat) (p:SetTable.Probe),p.dummy=none->∀j d,SetTable.probe.go t f h a p=some (.empty j d)->d=none/\t.slot j=.empty:=by
 intro a;induction a with
 |zero=>intro p _ j d e;cases e
 |succ n m=>
  intro p g j d e
  haveI b:∀q:SetTable.Probe,q.dummy=none->(t.advance q).dummy=none:=λq k=>by
   unfold SetTable.advance;split
   ·exact k
   ·exact k
  unfold SetTable.probe.go at e;cases c:t.slot p.j with
  |empty=>rw[c]at e;simp only[Option.some.injEq,SetTable.Met.empty.injEq]at e;obtain⟨rfl,rfl⟩:=e;exact⟨g,c⟩
  |dummy=>exact absurd c (Hf l _)
  |live i=>
   replace e:=c▸e;dsimp only at e;split at e
   ·cases e
   ·exact m _ (b _ g) j d e
set_option tactic.hygienic true in
def KY{t:SetTable}(f:t.dummies= #[])(R:EG t.place)(e:t.freeSlot h=some (j,b)):∀i:Nat,t.place[i]?≠some j:=by
 unfold SetTable.freeSlot at e;split at e
 ·rename_i k d c
  refine aX (NS f _ _ _ _ (by rfl) _ _ c) λa g=>?_;clear c;subst a;simp at e;obtain⟨rfl,_⟩:=e;exact He R g
 ·exact nx e
def lL{t:SetTable}(T:mZ w t) n:mZ w (t.standIn n):=⟨T.led,Hb n,rfl⟩
set_option tactic.hygienic true in
def Hg(T:mZ w t)(c:Array (Int×Value)) h x:mZ w (layNew t c h x).2.1:=by
 unfold layNew;split
 ·rename_i a f e
  haveI d:=KY T.DY T.Km e
  haveI b:mZ w (t.put a).1:=by
   refine⟨T.led,EH T.Km d,?_⟩;show(if SetTable.has t.dummies a then _ else t.dummies)= #[];refine T.DY.symm▸?_;exact rfl
  show mZ w (SetTable.orStandIn _ _);unfold SetTable.orStandIn;split
  ·exact b
  ·exact lL b _
 ·exact lL T _
def EI{c:Type}(f:Nat->Option c):∀(n:Nat) (l:List (Nat×c)),l=(List.range n).filterMap (λj=>(f j).map (j,·))->l.Pairwise (λa b=>a.1<b.1):=by
 intro n l e;subst e;refine List.Pairwise.filterMap (R:=λa b:Nat=>a<b) (S:=λa b:Nat×c=>a.1<b.1) _ ?_ acL;intro a i h b d k g;simp at d g;obtain⟨_,_,rfl⟩:=d;obtain⟨_,_,rfl⟩:=g;exact h
set_option tactic.hygienic true in
def Cv(T:mZ w t)(k:Array (Int×Value)) n:mZ w (relayAll t k n).2.1:=by
 unfold relayAll;split
 ·rename_i q g e
  dsimp only;split
  ·unfold SetTable.relaid SetTable.laid at e
   simp only[Option.bind_eq_bind,TD,Option.pure_def,Option.some.injEq,Prod.mk.injEq]at e;obtain⟨c,_,rfl,_⟩:=e;refine⟨T.led,λi j a b h d f=>?_,rfl⟩;haveI P:=EI (λj=>c.getD j none) (SetTable.sizeAbove n-1+1) _ rfl;dsimp only at d f;simp only[ach]at d f;rw[FS,TW]at d f;obtain⟨r,d,rfl⟩:=d;obtain⟨s,f,rfl⟩:=f;obtain⟨l,m⟩:=wP.mp d;obtain⟨o,p⟩:=wP.mp f;haveI:=(List.pairwise_iff_getElem.mp P) i j l o h;rw[m,p]at this;exact this
  ·exact lL T _
 ·exact lL T _
noncomputable def qu(e:Int×Value):Int:=match e.2 with| .int x _=>x|_=>0
def Wm(e:Int×Value):Prop:=∃tk,e=(hashInt (qu e),.int (qu e) tk)
def eY.list{a:Array (Int×Value)}(I:eY w a t xs):xs=a.toList.map qu/\∀e∈a.toList,Wm e:=by
 refine⟨List.ext_getElem? λi=>?_,λe d=>?_⟩
 ·simp only[FS]
  cases h:a[i]? with
  |none=>
   have:a.size<=i:=by simpa using h
   simp only[KE (xs:=a),h,Option.map_none];rw[I.size]at this;exact aaI this
  |some e=>refine dm (I.MN i e h) λx tk f b=>?_;subst b;simp only[f,KE (xs:=a),h];rfl
 ·refine ar (aaH.mp d) λi c=>?_
  rw[KE]at c;refine dm (I.MN i e c) λx tk _ b=>?_;subst b;exact⟨tk,rfl⟩
def yc{a:Array (Int×Value)}{t:SetTable}(h:∀e∈a.toList,Wm e)(c:(a.toList.map qu).Nodup)(d:a.size<scanBound)(f:t.fits a.size)(T:mZ w t):eY w a t (a.toList.map qu):=by
 refine⟨λi e b=>?_,by simp,c,d,f,T.led,T.Km,T.DY⟩;haveI m:e∈a.toList:=by rw[<-KE]at b;exact wE b
 refine ar (h e m) λtk q=>?_;exact⟨qu e,tk,by simp only[FS,KE,b];rfl,q⟩
def eY.tab(I:eY w a t xs):mZ w t:=⟨I.led,I.Km,I.DY⟩
def Hh{a b:Array (Int×Value)}{c:SetTable}(h:∀e∈a.toList,Wm e)(f:(a.toList.map qu).Nodup)(g:a.size<scanBound)(p:b.toList.Perm a.toList)(i:c.fits b.size)(T:mZ w c):
  eY w b c (b.toList.map qu)/\b.size=a.size:=by
 haveI d:b.size=a.size:=by rw[<-aaN,p.length_eq,aaN]
 exact⟨yc (λe j=>h e (p.mem_iff.mp j)) ((p.map qu).nodup_iff.mpr f) (by refine d▸?_;exact g) i T,d⟩
noncomputable abbrev eW(a:Array (Int×Value))(b:Nat)(t:SetTable):Obj:={cls:=.type "set",data:=.set a b t}
def yd{w:World}(c:Bool)(h:w.params.followText "set-order"\/c):eY w #[] (.fresh 0 0 c) []:=
 yc (λe d=>by exact nl d) List.nodup_nil (by decide) (by rfl) ⟨h,λi j a b _ q=>by simp[SetTable.fresh]at q,rfl⟩
section
variable{c:Program}{w:World}{A:Around}{E:dy}{s:Shared}
def Be{g b:Array (Int×Value)}(f:s.heap.get? a=some (eW g i t))(j:b.size<scanBound)
  (h:∀d,Heap.SameBut a s.heap d->d.get? a=some (eW b (i+1) e)->Q () {s with heap:=d}):wpAny (model c w) A (storeSet a b e) Q E s:=
 wpAny_storeSet_of f rfl (h _ (acC s.heap a (Obj.putSet b e)) (UV (Obj.putSet b e) f rfl)) (fits_of_scanBound j)
def EJ{g:Bool->Sem Unit}(H:∀(b:Bool) (u:Shared) (v:Unit->Shared->Prop),v () u->wpAny (model c w) A (g b) v E u)
  {a:Addr} {J:Array (Int×Value)} {L:Nat} {t:SetTable} (M:s.heap.get? a=some (eW J L t)) {f:Array (Int×Value)} {i:SetTable}
  (x:∀e∈f.toList,Wm e) (y:(f.toList.map qu).Nodup) (k:f.size<scanBound) (N:i.fits f.size) (T:mZ w i) {d:Bool} {R:Option Bool->Shared->Prop}
  (h:∀m z O B C,Heap.SameBut a s.heap m->m.get? a=some (eW z O B)->eY w z B C->C.Perm (f.toList.map qu)->R (some true) {s with heap:=m}):
  wpAny (model c w) A (do
    storeSet a f i
    if(!d&&i.tooFull)=true then do
      g (relayAll i f (SetTable.grown f.size)).2.2
      storeSet a (relayAll i f (SetTable.grown f.size)).1 (relayAll i f (SetTable.grown f.size)).2.1
      pure (some true)
     else pure (some true)) R E s:=by
 refine dL (Be M k λD F G=>?_);split
 ·haveI l:=relayAll_perm i f (SetTable.grown f.size)
  haveI j:=relayAll_fits i f (SetTable.grown f.size);haveI n:=Cv T f (SetTable.grown f.size);generalize relayAll i f (SetTable.grown f.size)=P at l j n⊢;obtain⟨Q,U,o⟩:=P;dsimp only at l j n⊢;refine aX (Hh x y k l j n) λI p=>?_;refine dL (H _ _ _ ?_);exact dL (Be (s:={s with heap:=D}) G (by refine p▸?_;exact k) λS q r=>s4 (h S _ _ _ _ (F.trans q) r I (l.map _)))
 ·exact s4 (h D _ _ _ _ F G (yc x y k N T) (ac7 _))
def NT{C:aS}(x:s.heap.get? a=some (eW y ep t))(I:eY w y t C)(hl:C.length<4000)
  (h:∀b g l u n p,Heap.SameBut a s.heap g->g.get? a=some (eW l u n)->eY w l n p->(∀z,z∈p↔z∈C\/z=i)->Q b {s with heap:=g}):
  wpAny (model c w) A (setAddHashed a (.int i tk) (hashInt i)) Q E s:=by
 refine abi (GG (prog:=c) I x) λo acZ ac0 t₀ S hex hd D v T hf hn=>?_;obtain rfl:=se (x) S;simp only[Data.set.injEq]at hd;obtain⟨rfl,rfl,rfl⟩:=hd;obtain⟨ex,hE⟩:=I.list;haveI F:=acA c w i tk;refine KB (dL (wpAny_setState_of x rfl hf ?_));dsimp only;rw[byScan_of (knd:=intKind c w) rfl T D];refine dL ?_;refine dL (wpAny_rule ?_);refine dL (wpAny_setScan_of (knd:=intKind c w) (k:=i) F x rfl hf D ?_);cases hr:List.findIdx? (λe=>(intKind c w).is i e.2) y.toList with
 |some j=>
  dsimp only;refine aj (List.findIdx?_eq_some_iff_getElem.mp hr) λhj U _=>?_;have V:i∈C:=by simpa using(v i).mpr (ay (y.toList[j]) (List.getElem_mem hj) U)
  refine s4 (s4 (h false s.heap _ _ _ _ (Heap.SameBut.refl a s.heap) x I λz=>⟨.inl,λq=>q.elim id λq=>q▸V⟩))
 |none=>
  dsimp only
  have V:i∉C:=λm=>by
   refine aj ((v i).mp (by simpa using m)) λe X hp=>?_;haveI:=List.findIdx?_eq_none_iff.mp hr e X;exact bx (hp) this
  have B:∀(b:Bool) (Y:Shared) (Z:Unit->Shared->Prop),Z () Y->wpAny (model c w) A (match b with|true=>rule "set.scan.the-table-gave-way"|false=>pure ()) Z E Y:=
   λb Y Z hq=>by cases b<;>first|exact s4 hq|exact wpAny_rule hq
  haveI d:=layNew_perm t y (hashInt i) (.int i tk);haveI f:=layNew_fits t y (hashInt i) (.int i tk);haveI R:=Hg I.tab y (hashInt i) (.int i tk);generalize layNew t y (hashInt i) (.int i tk)=L at d f R⊢;obtain⟨r,t1,wd,gave⟩:=L;dsimp only at d f R⊢;rw[Array.toList_push]at d
  have G:∀e∈r.toList,Wm e:=λe X=>by
   rcases AC.mp (d.mem_iff.mp X)with m|m
   ·exact hE e m
   ·refine(u8.mp m)▸?_;exact⟨tk,rfl⟩
  have H:(r.toList.map qu).Perm (C++[i]):=by
   haveI:=d.map qu;rw[aaL]at this;refine ex▸?_;exact this
  haveI R9:(r.toList.map qu).Nodup:=H.nodup_iff.mpr (by
   rw[acb];exact(bH I.fD (by simp) (λa ha b T q=>V (by rw[u8.mp T]at q;exact q▸ha))))
  have J:r.size<scanBound:=by
   have:=d.length_eq;haveI e1:=I.size;simp at this;have:scanBound=4096:=rfl;lia
  refine dL (B _ _ _ ?_)
  haveI iJ:∀g l u n p,Heap.SameBut a s.heap g->g.get? a=some (eW l u n)->eY w l n p->p.Perm (r.toList.map qu)->Q true {s with heap:=g}:=
   λg l u n p M N O P=>h true g l u n p M N O λz=>by
    rw[(P.trans H).mem_iff,AC,u8]
  split
  ·refine dL ?_
   simp only[hashByValue_scannable 8 ((rfl:(Value.int i tk).scannable))];refine s4 ?_;refine EJ B x G R9 J f R λg l u n p M N O P=>?_;exact s4 (iJ g l u n p M N O P)
  ·refine dL (s4 ?_)
   refine EJ B x G R9 J f R λg l u n p M N O P=>?_;exact s4 (iJ g l u n p M N O P)
end
section
variable{f:Program}{w:World}{A:Around}{E:dy}{s:Shared}
def Sa(h:∀a:Bool,(w.params.followText "set-order"\/a)->Q (.ref s.heap.objs.size) {s with heap:=s.heap.push (eW #[] 0 (.fresh 0 0 a))}):
  wpAny (model f w) A (newSet (.type "set")) Q E s:=by
 refine dL (dL (ab7 (s4 ?_)));dsimp only;refine dL (wpAny_alloc (s4 (h _ ?_)));show w.params.followText "set-order"\/(!w.params.followText "set-order")=true;cases w.params.followText "set-order"<;>simp
def NU pos(c:checkBuiltinCall "set.__new__" ⟨.type "set"::pos,[]⟩=pure ())
  (h:∀a:Bool,(w.params.followText "set-order"\/a)->Q₁ (.ref s.heap.objs.size) {s with heap:=s.heap.push (eW #[] 0 (.fresh 0 0 a))}):
  codeAny (model f w) A (.call (.builtin "set.__new__") ⟨.type "set"::pos,[]⟩) (wants Q₁ E) s:=by
 refine codeAny_of_tree ?_;refine dL (wpAny_of_eq c (s4 ⟨plainId_quiet PySem.F.plain_set_new _,codeAny_builtin PySem.F.entry_set_new ?_⟩));refine(Around.under_plainId PySem.F.plain_set_new _)▸?_;delta Builtin.«set.__new__» Builtin.Frozenset.newClass;haveI b:=sub_set_self;obtain⟨e,g,d,tk,os⟩:=s;dsimp only;wp_walk;refine ab7 (s4 ?_);dsimp only;refine dL (wpAny_alloc (s4 ?_));refine s4 (h _ ?_);show w.params.followText "set-order"\/(!w.params.followText "set-order")=true;cases w.params.followText "set-order"<;>simp
set_option maxHeartbeats 1000000 in
set_option maxRecDepth 100000 in
def EK(y:checkTypeCall "set" ⟨pos,[]⟩=pure ())(z:checkBuiltinCall "set.__new__" ⟨.type "set"::pos,[]⟩=pure ())
  (g:∀(M:Model) (A:Around) (s:Shared) (b:Value) (E:dy) (Q:Unit->Shared->Prop),s.TypeIs b "set"->Q () s->wpAny M A (checkBuiltinCall "set.__init__" ⟨b::pos,[]⟩) Q E s)
  (d:∀a:Bool,(w.params.followText "set-order"\/a)->wpAny (model f w) A.in1.in1 (Builtin.«set.__init__» ⟨.ref s.heap.objs.size::pos,[]⟩)
   (λiJ q=>iJ=.done (.ret .none)/\Q (.ref s.heap.objs.size) q) E {s with heap:=s.heap.push (eW #[] 0 (.fresh 0 0 a))}):
  wpAny (model f w) A (call (.type "set") pos) Q E s:=by
 refine pU acj.mro λc I t=>?_;haveI k:=acj.made;haveI u:=acj.sub;refine wpAny_call (codeAny_of_tree ?_);refine s4 ⟨Code.quiet_builtin _ (by decide+kernel),codeAny_builtin PySem.F.entry_type_call ?_⟩;rw[Around.under_plain (weight_type_call_type "set" pos []) rfl];haveI J:=acj.notType;haveI L:=acj.canCreate
 repeat (any_goals (first|assumption|wp_step))
 refine aaS (NU pos z (E:=E) (Q₁:=λi v=>∃a:Bool,(w.params.followText "set-order"\/a)/\i=.ref s.heap.objs.size/\v={s with heap:=s.heap.push (eW #[] 0 (.fresh 0 0 a))}) λa B=>(dC a B rfl rfl)) λr v l=>?_;cases r with
 |error e=>exact l
 |ok C=>
  cases C with
  |ret i=>
   refine cU l λa j m n=>?_;subst m;subst n;haveI hS:(s.heap.push (eW #[] 0 (.fresh 0 0 a))).get? s.heap.objs.size=some (eW #[] 0 (.fresh 0 0 a)):=GM _ rfl;haveI D:Shared.TypeIs {s with heap:=s.heap.push (eW #[] 0 (.fresh 0 0 a))} (.ref s.heap.objs.size) "set":=(ay _ hS rfl);haveI F:=acj.init.lookup;haveI G:=acj.init.bind (.ref s.heap.objs.size)
   repeat (any_goals (first|assumption|wp_step))
   refine aaS (codeAny_call_builtin (R:=wants (λr x=>r=.none/\Q (.ref s.heap.objs.size) x) E) acj.init.plain PySem.F.entry_set_init (g _ _ _ _ _ _ D ?_)) λH x o=>?_
   ·refine ab6 (d a j) (λiJ q h=>?_) λ_ _ h=>h
    obtain⟨rfl,h⟩:=h;exact⟨rfl,h⟩
   ·cases H with
    |error e=>exact o
    |ok p=>
     cases p with
     |ret r=>
      obtain⟨rfl,N⟩:=o
      repeat (any_goals (first|assumption|wp_step))
     |_=>exact o.elim
  |_=>exact l.elim
def KZ(h:∀a:Bool,(w.params.followText "set-order"\/a)->Q (.ref s.heap.objs.size) {s with heap:=s.heap.push (eW #[] 0 (.fresh 0 0 a))}):
  wpAny (model f w) A (call (.type "set") []) Q E s:=
 EK PySem.F.typeCall_set_0 PySem.F.newCall_set_0 (λM A s b E Q c d=>check_set_init c d) λa e=>by
  delta Builtin.«set.__init__» noKeywords;wp_walk;exact⟨rfl,h a e⟩
def NV(h:Q (hashInt i) {s with toks:=s.toks+1}):wpAny (model f w) A (pyHash (.int i tk)) Q E s:=
 (intKind f w).pyHash (k:=i) (acA _ _ _ _) h
def Cw{c:aS}(k:s.heap.get? a=some (eW l o t))(I:eY w l t c)(m:c.length<4000)
  (h:∀b d e n g j,Heap.SameBut a s.heap d->d.get? a=some (eW e n g)->eY w e g j->(∀z,z∈j↔z∈c\/z=i)->Q b {s with heap:=d,toks:=s.toks+1}):
  wpAny (model f w) A (setAdd a (.int i tk)) Q E s:=by
 exact KB (dL (NV (NT (s:={s with toks:=s.toks+1}) k I m h)))
def NW{j:aS}(l:s.heap.get? a=some (eW m u t))(I:eY w m t j)(n:j.length<4000)
  (h:∀c d k e g,Heap.SameBut a s.heap c->c.get? a=some (eW d k e)->eY w d e g->(∀z,z∈g↔z∈j\/z=i)->Q .none {s with heap:=c,toks:=s.toks+1}):
  wpAny (model f w) A (call (.builtin "set.add") [.ref a,.int i tk]) Q E s:=by
 refine wpAny_call_entry PySem.F.slot_set_add (ay _ l rfl) PySem.F.entry_set_add ?_ (PySem.F.args_set_add_2 _ _);delta Builtin.«set.add» Builtin.Frozenset.oneOther;simp only[List.isEmpty_nil,bind_assoc];refine dL (s4 ?_)
 try dsimp only
 refine dL (s4 ?_)
 try dsimp only
 refine dL (Cw l I n λb c d k e g o p q r=>?_);show wpAny _ _ (ret Value.none) _ _ _;exact s4 (ay _ rfl (h c d k e g o p q r))
end
section
variable{X:Cx}{S:a0}{d:Env}{A:Around}{E:dy}{F J m M H:bj}{j G B D:aZ}{f U C T:St}{g O l L:Shared}{n:Nat}
def Y1(Q:af->St->Prop)(v u:af)(f:St):Prop:=∃c i a,v=.cell c/\u=.int i/\aB f.cells c=.set a/\a.length<64/\∀b:aS,b.Nodup->(∀z,z∈b↔z∈a\/z=i)->Q .none ⟨f.aC,f.cells.set c (.set b)⟩
def Wn(Y:eK o)(s:aK a=false)(hp:ig q p)
  (h:aU X S d A E (eval o d) (λv f=>xM (aO f.cells v)/\aU X S d A E (eval a d) (Y1 Q v) f) f):aU X S d A E (eval (.Call (.Attribute o "add" q) [a] [] p) d) Q f:=
 kK (Z:=λr t f=>∃u,t=[u]/\Y1 Q r u f) (K:=λr f=>xM (aO f.cells r)) PySem.F.slot_set_add PySem.F.plainAttrs_set PySem.F.type_set_add Y (by simp[s]) (by simp) hp
  (h.aT λv f z=>⟨z.1,lI s (z.2.aT λu f z=>(ay u rfl z))⟩)
  (λF H j g r u f R V h=>RJ R V h)
  λF H j g u us r t f P R V Vs z k=>by
   obtain⟨x,rfl,c,i,xs,rfl,rfl,e,hL,q⟩:=z;refine aj Vs.j9 λv b hx=>?_;subst b;refine ar hx.i8 λtk b=>?_;subst b;refine aj V.xQ λa b w=>?_;subst b;have y:f.cells[c]?=some (.set xs):=by refine e▸?_;exact ej (by refine e▸?_;simp)
   refine gH (R.r0.xD c _ y (by simp)) λa' o' h1 h2 h3 _=>?_;obtain rfl:=(se (w) h1).symm;cases h3 with
   |set I=>exact NW h2 I (abV hL (by decide)) λh' mR wU t' ys q1 q2 N q4=>k _ _ _ _ _ _ (cN.sv R w y (af.noConfusion) q2 q1 (.set N)) .none (q ys N.fD q4)
def K0(i:gZ X.K S x (.type "set"))(h:Q (.set []) f):j8 X S d A E (eval (.Call (.Name x p) [] [] q) d) Q f:=n7 λF H j g P R k=>by
 refine dL (sD R i ?_);refine el (.inl ⟨_,rfl⟩) (bD rfl) (cL (bD rfl) ?_);refine rv (Q:=λc s=>c=[]/\s=f) ⟨rfl,rfl⟩ F H j g _ R λr l m B C c N V z=>?_;obtain⟨rfl,rfl⟩:=z;cases V;exact KZ λa o=>k _ l m B _ (.set []) l.toks _ _ N (λb x e=>wT _ e) (v0 _) (GM _ rfl) (.set (yd a o)) h
def Sb(R:c6 X S d F H j f g)(a:kdsCode X.K d.code)(h:∀b,Q b g):wpAny (model X.prog X.w) A (inMainModule d) Q E g:=kds_main R.r0.k a h
def K1{b:Bool}{t:Sem Value}{i:Int}{Q:dy}(I:∀(s:Shared) Q,(∀tk k,Q (.int i tk) {s with toks:=k})->wpAny (model prog w) A t Q E s)
  (k:∀a q N t tk,(∀b x,s.heap.get? b=some x->a.get? b=some x)->a.get? s.heap.objs.size=some (eW q N t)->eY w q t [i]->Q (.ref s.heap.objs.size) {s with heap:=a,toks:=tk}):
  wpAny (model prog w) A (setDisplay .oneByOne b [(false,t)]) Q E s:=by
 unfold setDisplay;dsimp only;rw[if_neg (by decide)];refine dL (Sa λc P=>?_);dsimp only;haveI R:(if[(false,t)].length>30 then 0 else(([(false,t)]:List (Bool×Sem Value)).findIdx? (·.1)).getD [(false,t)].length)=1:=rfl;rw[R];refine dL (KB ?_)
 have o:∀(s:Shared) (Q:aQ->Shared->Prop),(∀tk k,Q [.int i tk] {s with toks:=k})->wpAny (model prog w) A (evalAll [t]) Q E s:=λs Q h=>
  dL (I _ _ λtk k=>dL (KB (s4 (s4 (h tk k)))))
 refine dL (o _ _ λtk kk=>?_);refine dL (KB ?_);rw[List.forIn_cons];refine dL (dL (dL (Cw (GM _ rfl) (yd c P) (by decide) λb a mR wU t' u V Y v p=>?_)))
 have Z:u=[i]:=by
  cases u with
  |nil=>exact absurd ((p i).mpr (.inr rfl)) (λh=>nl h)
  |cons y r=>
   haveI e1:y=i:=by simpa using(p y).mp (.head _)
   subst e1;cases r with
   |nil=>rfl
   |cons z r=>
    have e2:z=y:=by simpa using(p z).mp (.tail _ (.head _))
    haveI:=v.fD;rw[e2]at this;simp at this
 subst Z;refine s4 ?_;dsimp only;simp only[List.forIn_nil];refine s4 ?_;rw[if_neg (by decide)];refine s4 ?_;simp only[show List.drop 1 [(false,t)]=[]from rfl,List.forIn_nil];refine dL (s4 (s4 (s4 ?_)));exact k a _ _ _ _ (λb x e=>(V.2 b (LE (KM e))).trans (wT _ e)) Y v
def Sd(a:kdsCode X.K d.code)(h:Q (.set [i]) f):j8 X S d A E (eval (.Set [.Constant (.int i) c e] 0 p) d) Q f:=n7 λF H j g P R k=>by
 simp only[arm_eval_Set];refine dL (aaf ?_);refine dL (Sb R a λb=>?_);refine K1 (t:=do let v<-eval (.Constant (.int i) c e) d;standAt p;pure v) (λs Q h=>dL (wpAny_Constant_int (dL (aaf (s4 (h _ _)))))) λo w x t tk q r u=>?_;exact k _ g F j f (.set [i]) tk o _ (cN.gP R) q (v0 _) r (.set u) h
end
section
variable{c:Program}{w:World}{A:Around}{E:dy}{s:Shared}
def EM{St:Nat->Heap->Prop}(W:Walks c w A.in1 I fp V n P St) a(q:a∉fp)
  (d:Nat->Int) (r:∀i v,P i v->∃t,v=.int (d i) t) (X:n<64):
  ∀(k i:Nat) (s:Shared) (u:Array (Int×Value)) (B:Nat) (t:SetTable) (p:aS),n-i=k->i<=n->St i s.heap->s.heap.get? a=some (eW u B t)->eY w u t p->p.length<=i->
   (∀z,z∈p↔∃j,j<i/\d j=z)->
   (∀f tk C H D g,(∀b o,b∉V->b≠a->s.heap.get? b=some o->f.get? b=some o)->f.get? a=some (eW C H D)->eY w C D g->(∀z,z∈g↔∃j,j<n/\d j=z)->R (.ok (.ret .none)) {s with heap:=f,toks:=tk})->
   codeAny (model c w) A (.builtin "set.update.loop" ⟨[.ref a,.ref I],[]⟩) R s:=by
 haveI x:a∉V:=λh=>q (W.sub _ h);intro k;induction k with
 |zero=>
  intro i s u B t p F hi l J L hl M N;obtain rfl:i=n:=by lia
  refine codeAny_builtin PyProof.Rows.F.entry_set_update_loop ?_;refine(Around.under_plainId acU _)▸?_;refine dL (W.done s _ _ l λf tk F=>?_);exact s4 (N f tk u B t p (λb o G _ e=>F b o G e) (F a _ x J) L M)
 |succ k ih=>
  intro i s u B t p F hi l J L hl M N;have y:i<n:=by lia
  refine codeAny_builtin PyProof.Rows.F.entry_set_update_loop ?_;refine(Around.under_plainId acU _)▸?_;refine dL (W.item i s _ _ y l λv cz O hP XN Y=>?_);obtain⟨tv,rfl⟩:=r i v hP;refine dL (KB (Cw (s:={s with heap:=cz,toks:=O}) (Y a _ x J) L (by lia) λb s8 Q S T g Z q2 q3 q4=>?_))
  have hy:∀z,z∈g↔∃j,j<i+1/\d j=z:=λz=>by
   simp only[q4 z,M z];constructor
   ·rintro(⟨j,h,e⟩|rfl)
    ·exact(ay j (by lia) e)
    ·exact(ay i (by lia) rfl)
   ·rintro⟨j,h,e⟩
    rcases Nat.lt_or_eq_of_le (aca h)with h|rfl
    ·exact .inl (ay j h e)
    ·exact .inr e.symm
  haveI U:g.length<=i+1:=by
   haveI sub:g⊆(List.range (i+1)).map d:=λz m=>by
    refine aj ((hy z).mp m) λj h e=>?_;exact FB.mpr (ay j (AT.mpr h) e)
   simpa using q3.fD.length_le_of_subset sub
  refine s4 ⟨plainId_quiet acU _,ih (i+1) _ Q S T g (by lia) y ?_ q2 q3 U hy λf tk C H D zs r1 r2 r3 r4=>?_⟩
  ·exact W.frame _ _ _ XN λb X o e=>(Z.2 b (λh:b=a=>q (h▸X))).trans e
  ·exact N f tk C H D zs (λb o G h2 e=>r1 b o G h2 ((Z.2 b h2).trans (Y b o G e))) r2 r3 r4
set_option maxHeartbeats 800000 in
set_option maxRecDepth 100000 in
def K2{items:Array Value}(V:A.handled=none)(X:s.heap.IsList l items)(O:IntsAre items.toList y)(B:items.size<64)
  (h:∀g tk C F t D,(∀b o,s.heap.get? b=some o->g.get? b=some o)->g.get? s.heap.objs.size=some (eW C F t)->eY w C t D->(∀z,z∈D↔z∈y)->Q (.ref s.heap.objs.size) {s with heap:=g,toks:=tk}):
  wpAny (model c w) A (call (.type "set") [.ref l]) Q E s:=
 EK (PySem.F.typeCall_set_1 _) (PySem.F.newCall_set_1 _) (λM A s P E Q Y Z=>check_set_init_1 Y Z) λa k=>by
  obtain⟨ol,m,n,nl,p⟩:=id X;obtain⟨R,f,G,d⟩:=ol;simp only at n p;subst n;subst p;haveI H:(s.heap.push (eW #[] 0 (.fresh 0 0 a))).get? l=some {cls:=.type "list",dict:=f,data:=.seq items nl,slots:=d}:=wT _ m;haveI S:=PySem.F.sub_list_set;haveI T:=PySem.F.sub_list_frozenset;haveI hne:(Value.type "list"==Value.type "dict")=false:=by decide
  have q:(s.heap.push (eW #[] 0 (.fresh 0 0 a))).IsList l items:=⟨_,H,rfl,nl,rfl⟩;delta Builtin.«set.__init__» noKeywords Builtin.Frozenset.updateFrom;generalize I:pyIter=PI;wp_walk;subst I;refine wpAny_pyIter_list q ?_;refine dL (wpAny_runValue ?_);have r:l<s.heap.objs.size:=KM m;have J:A.in1.in1.in1.handled=none:=V;have u:l≠(s.heap.push (eW #[] 0 (.fresh 0 0 a))).objs.size:=by simp only[acz];exact LE (aaQ r)
  have L:s.heap.objs.size∉[(s.heap.push (eW #[] 0 (.fresh 0 0 a))).objs.size,l]:=by
   rw[acz];simp only[EQ,u8,acS,or_false,not_or];exact⟨LE (W1 _),ab8 r⟩
  have x:∀(i:Nat) (v:Value),items[i]?=some v->∃t,v=.int ((λi=>y.getD i 0) i) t:=λi v hv=>IntsAre.int_at O i v ((KE).trans hv)
  refine EM (Walks.list J _ l u items) s.heap.objs.size L (λi=>y.getD i 0) x B (items.size-0) 0 _ #[] 0 (.fresh 0 0 a) [] (by lia) (SC _)
   ⟨(dC _ (GM _ rfl) rfl rfl),(q.push _)⟩ (wT _ (GM _ rfl)) (yd a k) (SC _) (λz=>by simp) λg tk C F t D q1 q2 q3 q4=>?_
  refine s4 ?_;refine s4 ⟨rfl,h g tk C F t D (λb o e=>?_) q2 q3 λz=>?_⟩
  ·haveI B:=KM e
   haveI N:b≠(s.heap.push (eW #[] 0 (.fresh 0 0 a))).objs.size:=by simp only[acz];exact LE (aaQ B)
   exact q1 b o (by simpa using N) (LE B) (wT _ (wT _ e))
  ·have U:items.size=y.length:=(aaN).trans O.length
   rw[q4 z,aaH];constructor
   ·rintro⟨j,hj,e⟩
    refine⟨j,?_⟩;rw[List.getD_eq_getElem?_getD,f0 (by lia)]at e;rw[f0 (by lia)];simpa using e
   ·rintro⟨j,e⟩
    haveI hj:=(wP.mp e).1;exact⟨j,by lia,by rw[List.getD_eq_getElem?_getD,e];rfl⟩
end
section
variable{X:Cx}{S:a0}{b:Env}{A:Around}{E:dy}{F m o u H:bj}{f j y i:aZ}{d C g B:St}{e w r s:Shared}{n:Nat}
def abK(Q:af->St->Prop)(v:af)(d:St):Prop:=∃a:aS,v=.list (a.map .int)/\a.length<64/\∀c:aS,c.Nodup->(∀z,z∈c↔z∈a)->Q (.set c) d
def NX(N:gZ X.K S x (.type "set"))(O:aK a=false)(T:A.handled=none)
  (h:aU X S b A E (eval a b) (abK Q) d):j8 X S b A E (eval (.Call (.Name x p) [a] [] q) b) Q d:=
 xa N (.inl ⟨_,rfl⟩) O h λF H f e P v d c R V z k=>by
  obtain⟨U,rfl,hl,z⟩:=z;refine eV (cJ (cells:=d.cells) R.r0 V rfl) λl G Y D Z hv=>?_;subst D;haveI I:=tx hv;haveI J:G.length=U.length:=I.length;exact K2 (items:=G.toArray) T (cV Z) I (by simp;lia) λh' tk es Y t L q1 q2 M q4=>k _ (.set L) tk h' _ q1 (v0 _) q2 (.set M) (z L M.fD q4)
end
section
variable{c:Program}{w:World}{A:Around}{E:dy}{s:Shared}
noncomputable abbrev Gh(first:Value)(i:Nat)(a:Addr)(n b:Nat):Obj:={cls:=.type "set_iterator",data:=.fields #[first,.int i 0,.ref a,.int n 0,.int b 0]}
def ja:Slot "set_iterator" "__next__" "set_iterator.__next__":=
 .of (owner:="set_iterator") (n:="__next__") (by rw[typeLookup_type,aa0];kernel_rfl) (by decide+kernel) (by decide+kernel) (by decide+kernel)
  (by first|exact .inl (by decide+kernel)|exact .inr (by decide+kernel)) (by rw[isSubtype_type];kernel_rfl)
def I6:Slot "set_iterator" "__iter__" "set_iterator.__iter__":=
 .of (owner:="set_iterator") (n:="__iter__") (by rw[typeLookup_type,aa0];kernel_rfl) (by decide+kernel) (by decide+kernel) (by decide+kernel)
  (by first|exact .inl (by decide+kernel)|exact .inr (by decide+kernel)) (by rw[isSubtype_type];kernel_rfl)
def EN:Manifest.owners.lookup (String.ofList ['r', 'o', 't', 'a', 'r', 'e', 't', 'i', '_', 't', 'e', 's'].reverse)=some Manifest.sig_set_iterator:=by kernel_rfl
def ka a:argsOk "set_iterator.__next__" ⟨[a],[]⟩:=by
 unfold argsOk;rw[signature?_of (id:="set_iterator.__next__") (n:=['_', '_', 't', 'x', 'e', 'n', '_', '_']) (o:=['r', 'o', 't', 'a', 'r', 'e', 't', 'i', '_', 't', 'e', 's']) (by kernel_rfl) EN];kernel_rfl
def Cy a:argsOk "set_iterator.__iter__" ⟨[a],[]⟩:=by
 unfold argsOk;rw[signature?_of (id:="set_iterator.__iter__") (n:=['_', '_', 'r', 'e', 't', 'i', '_', '_']) (o:=['r', 'o', 't', 'a', 'r', 'e', 't', 'i', '_', 't', 'e', 's']) (by kernel_rfl) EN];kernel_rfl
def jc:entryFor table "set_iterator.__next__"=some Builtin.«set_iterator.__next__»:=entryFor_of_tree (by kernel_rfl)
def zQ:entryFor table "set_iterator.__iter__"=some Builtin.«dict_keyiterator.__iter__»:=entryFor_alias (id':="dict_keyiterator.__iter__") (by kernel_rfl) rfl (by decide+kernel) (by kernel_rfl)
def yf:entryFor table "set.__iter__"=some Builtin.«frozenset.__iter__»:=entryFor_alias (id':="frozenset.__iter__") (by kernel_rfl) rfl (by decide+kernel) (by kernel_rfl)
def Cz{o:Obj}(b:s.heap.get? I=some o)(d:o.cls=.type "set_iterator")(h:Q (.ref I) s):wpAny (model c w) A (pyIter (.ref I)) Q E s:=by
 haveI a:s.TypeIs (.ref I) "set_iterator":=(ay o b d);refine wpAny_pyIter_slot a I6 (wpAny_call_entry I6 a zQ ?_ (Cy _));exact s4 ⟨_,rfl,"set_iterator",_,a,ja.lookup,h⟩
def NY{h:Heap}(d:h.get? I=some (Gh first i a n b))(e:(#[first,.int i 0,.ref a,.int n 0,.int b 0]:Array Value).setIfInBounds j v= #[x,.int i 0,.ref a,.int n 0,.int b 0]):
  (h.update I (Obj.mapFields (·.setIfInBounds j v))).get? I=some (Gh x i a n b):=by
 refine(UV _ d rfl).trans ?_;show some ({cls:=.type "set_iterator",data:=.fields ((#[first,.int i 0,.ref a,.int n 0,.int b 0]:Array Value).setIfInBounds j v)}:Obj)=_;rw[e]
def I7{h:Heap}(b:h.get? I=some (Gh x i a n d)):(h.update I (Obj.mapFields (·.setIfInBounds 1 (rawInt ((i:Int)+1))))).get? I=some (Gh x (i+1) a n d):=by
 refine(UV _ b rfl).trans ?_;simp[rawInt];rfl
def I8{sl nx i n b:Nat}{e:Array (Int×Value)}{t:SetTable}(d:s.heap.get? I=some (Gh (.int sl 0) i a n b))(l:s.heap.get? a=some (eW e b t))(m:t.fits e.size)(o:e.size=n)
  (p:∀(A:Around) (E:dy) (Q:Option (Value×Nat)->Shared->Prop),Q (some (v,nx)) s->wpAny (model c w) A (setNext a sl i b) Q E s)
  (h:∀f,Heap.SameBut I s.heap f->f.get? I=some (Gh (.int nx 0) (i+1) a n b)->Q (some v) {s with heap:=f}):wpAny (model c w) A (pyNext (.ref I)) Q E s:=by
 haveI g:s.TypeIs (.ref I) "set_iterator":=(ay _ d rfl);refine dL (wpAny_attempt (wpAny_callSpecial?_slot (name:=Str.ofString "__next__") g ja (wpAny_call_entry ja g jc ?_ (ka _))));refine dL (s4 ?_);refine dL (wpAny_fieldsOf d rfl ?_);dsimp only;refine dL (wpAny_setEntries_of l rfl m ?_);rw[if_neg (by simp[o])];refine dL (p _ _ _ ?_);dsimp only;haveI k:=NY (x:=.int nx 0) (j:=0) (v:=rawInt nx) d rfl;refine dL (wpAny_setField d rfl (ack _) ?_);refine dL (wpAny_setField (s:={s with heap:=s.heap.update I (Obj.mapFields (·.setIfInBounds 0 (rawInt nx)))}) k rfl (by simp) ?_);exact s4 (ay _ rfl (s4 (h _ ((acC ..).trans (acC ..)) (I7 k))))
def I9{s₀:Shared}(g:Heap.SameBut I s₀.heap s.heap)(i:A.handled=none)
  (h:∀f,(∀b o,b≠I->s₀.heap.get? b=some o->f.get? b=some o)->Q none {s with heap:=f}):
  wpAny (model c w) A.in1 (newExc (.type "StopIteration") []>>=raiseNew) (λiJ d=>∃v,iJ=Fin.done (Flow.ret v)/\wpAny (model c w) A (pure (some v)) Q E d)
   (λe d=>wpAny (model c w) A (isInstance e (Value.type "StopIteration")>>=λb=>if b=true then pure none else throw e) Q E d) s:=by
 refine dL ?_;refine dL (wpAny_newObj_type ?_ (by size_fits));refine dL (m:=firstArgMember _ _) (wpAny_of_eq (a:=Value.none) (by first|rfl|(simp only[firstArgMember];rfl)) ?_);refine wpAny_newObj_type ?_ (by size_fits);refine dL (wpAny_handled ?_);refine(show A.in1.handled=none from i).symm▸?_;refine dL (s4 (wpAny_throw ?_));refine dL (wpAny_isInstance (T:="StopIteration") (b:=true) (ay _ (GM _ rfl) rfl) isSubtype_stop ?_);refine s4 (h _ λb o j e=>?_);exact wT _ (wT _ ((g.2 b j).trans e))
def NZ{sl i n d:Nat}{e:Array (Int×Value)}{t:SetTable}(k:A.handled=none)(f:s.heap.get? I=some (Gh (.int sl 0) i a n d))(l:s.heap.get? a=some (eW e d t))(m:t.fits e.size)(p:e.size=n)
  (q:∀(A:Around) (E:dy) (Q:Option (Value×Nat)->Shared->Prop),Q none s->wpAny (model c w) A (setNext a sl i d) Q E s)
  (h:∀g,(∀b o,b≠I->s.heap.get? b=some o->g.get? b=some o)->Q none {s with heap:=g}):wpAny (model c w) A (pyNext (.ref I)) Q E s:=by
 haveI j:s.TypeIs (.ref I) "set_iterator":=(ay _ f rfl);refine dL (wpAny_attempt (wpAny_callSpecial?_slot (name:=Str.ofString "__next__") j ja (wpAny_call_entry ja j jc ?_ (ka _))));refine dL (s4 ?_);refine dL (wpAny_fieldsOf f rfl ?_);dsimp only;refine dL (wpAny_setEntries_of l rfl m ?_);rw[if_neg (by simp[p])];refine dL (q _ _ _ ?_);dsimp only;refine dL (wpAny_setField f rfl (by simp) ?_);exact I9 (s₀:=s) (acC ..) k h
def Se{b:Array Value}{i k n g m:Nat}{e:Array (Int×Value)}{t:SetTable}{oT:Obj}{v:Int×Value}{Q:Option Value->Shared->Prop}(f:s.heap.get? I=some (Gh (.ref T) i a n g))(l:s.heap.get? a=some (eW e g t))(o:t.fits e.size)(p:e.size=n)
  (q:s.heap.get? T=some oT) (r:oT.data=.seq b m) (u:b[i]?=some (.int k 0)) (x:e[k]?=some v)
  (h:∀j,Heap.SameBut I s.heap j->j.get? I=some (Gh (.ref T) (i+1) a n g)->Q (some v.2) {s with heap:=j}):wpAny (model c w) A (pyNext (.ref I)) Q E s:=by
 haveI d:s.TypeIs (.ref I) "set_iterator":=(ay _ f rfl);refine dL (wpAny_attempt (wpAny_callSpecial?_slot (name:=Str.ofString "__next__") d ja (wpAny_call_entry ja d jc ?_ (ka _))));refine dL (s4 ?_);refine dL (wpAny_fieldsOf f rfl ?_);dsimp only;refine dL (wpAny_setEntries_of l rfl o ?_);rw[if_neg (by simp[p])];refine dL (wpAny_seqItems q r ?_);dsimp only;simp only[ac5,u];refine dL ?_;refine dL (wpAny_setState_of l rfl o ?_);dsimp only;rw[if_neg (by simp)];simp only[x];refine s4 ?_;refine dL (wpAny_setField f rfl (by simp) ?_);exact s4 (ay _ rfl (s4 (h _ (acC ..) (I7 f))))
def Wo{f:Array (Int×Value)}{t:SetTable}{oT:Obj}(k:A.handled=none)(e:s.heap.get? I=some (Gh (.ref T) i a n l))(p:s.heap.get? a=some (eW f l t))(q:t.fits f.size)(r:f.size=n)
  (u:s.heap.get? T=some oT) (y:oT.data=.seq places m) (z:places[i]?=none)
  (h:∀g,(∀b o,b≠I->s.heap.get? b=some o->g.get? b=some o)->Q none {s with heap:=g}):wpAny (model c w) A (pyNext (.ref I)) Q E s:=by
 haveI d:s.TypeIs (.ref I) "set_iterator":=(ay _ e rfl);refine dL (wpAny_attempt (wpAny_callSpecial?_slot (name:=Str.ofString "__next__") d ja (wpAny_call_entry ja d jc ?_ (ka _))));refine dL (s4 ?_);refine dL (wpAny_fieldsOf e rfl ?_);dsimp only;refine dL (wpAny_setEntries_of p rfl q ?_);rw[if_neg (by simp[r])];refine dL (wpAny_seqItems u y ?_);dsimp only;simp only[ac5,z];haveI B:=NY (x:=.int 0 0) (j:=0) (v:=rawInt 0) e rfl;refine dL (wpAny_setField e rfl (ack _) ?_);refine dL (wpAny_setField (s:={s with heap:=s.heap.update I (Obj.mapFields (·.setIfInBounds 0 (rawInt 0)))}) B rfl (by simp) ?_);exact I9 (s₀:=s) ((acC ..).trans (acC ..)) k h
end
def yg{a:Type}{l:List a}(h:i<l.length):(l[i]::l.eraseIdx i).Perm l:=by
 simp only[List.eraseIdx_eq_take_drop_succ];haveI e:l.take i++l[i]::l.drop (i+1)=l:=by simp only[List.getElem_cons_drop,acg]
 exact(List.perm_middle.symm).trans (by rw[e])
def Sf{c:Type}(f:Nat->Nat):∀(a k:Nat) (l:List c) (b:Array c),l.length<=a->(pickOrder.go f a k l b).toList.Perm (b.toList++l):=by
 intro a;induction a with
 |zero=>
  intro k l b h;have:l=[]:=aaZ.mp (Nat.le_zero.mp h);subst this;unfold pickOrder.go;simp
 |succ n i=>
  intro k l b h;unfold pickOrder.go;cases d:l[f k %l.length]? with
  |none=>
   have j:l.length=0:=by
    rcases Nat.eq_zero_or_pos l.length with z|z
    ·exact z
    ·exact sn (f0 (Nat.mod_lt _ z)) d
   have:l=[]:=aaZ.mp j;subst this;simp
  |some x=>
   refine ar (wP.mp d) λg e=>?_;dsimp only;haveI m:(l.eraseIdx (f k %l.length)).length<=n:=by refine(List.length_eraseIdx_of_lt g)▸?_;lia
   refine(i _ _ _ m).trans ?_;simp only[Array.toList_push,aaX];refine List.Perm.append_left _ ?_;rw[<-e];exact(yg g)
def uV{b:Type}(f:Nat->Nat)(a:Array b):(pickOrder f a).toList.Perm a.toList:=by
 haveI:=Sf f a.size 0 a.toList #[] (by simp);exact this
section
variable{prog:Program}{w:World}{A c:Around}{E:dy}{s:Shared}
def Hi{f:Type}:∀(a:Nat) (l:List f) (s:Shared) (Q:List f->Shared->Prop),l.length<=a->(∀e d,e.Perm l->Q e {s with drawn:=d})->wpAny (model prog w) A (drawOrder a l) Q E s:=by
 intro a;induction a with
 |zero=>
  intro l s Q h k;have:l=[]:=aaZ.mp (Nat.le_zero.mp h);subst this;exact s4 (k [] s.drawn (ac7 _))
 |succ n g=>
  intro l s Q h k;cases l with
  |nil=>exact s4 (k [] s.drawn (ac7 _))
  |cons x l=>
   haveI j:∀(Q:Nat->Shared->Prop),(∀i d,i<(x::l).length->Q i {s with drawn:=d})->wpAny (model prog w) A (choose .order (x::l).length) Q E s:=λQ h r p m=>by
    refine⟨Nat.succ_ne_zero _,?_⟩;exact h _ _ (Nat.mod_lt _ (Nat.succ_pos _))
   refine dL (j _ λi d b=>?_);rw[f0 b];dsimp only;refine dL (g _ _ _ (by rw[List.length_eraseIdx_of_lt b];simp only[WF]at h b⊢;lia) λe o q=>s4 ?_);exact k _ o ((q.cons _).trans (yg b))
def Sg(a:List (Int×Value))(j:Nat)(v:Value):Prop:=∃e,a[j]?=some e/\e.2=v
def uW{a d:List (Int×Value)}(f:a.Perm d)(h:∀e∈d,Wm e){b:Array Value}(g:ItemsOf (Sg a) b a.length):∃j,IntsAre b.toList j/\j.Perm (d.map qu):=by
 haveI e:b.toList=a.map (·.2):=by
  apply List.ext_getElem?;intro i;simp only[FS];cases q:b[i]? with
  |none=>
   have:b.size<=i:=by simpa using q
   rw[g.1]at this;simp only[KE (xs:=b),q,aaI this];rfl
  |some v=>
   refine aj (g.2 i v q) λe k l=>?_;simp only[KE (xs:=b),q,k,<-l];rfl
 refine(ay (a.map qu) ?_ (f.map _));rw[e];have:∀e∈a,Wm e:=λe m=>h e (f.mem_iff.mp m);clear e g f;induction a with
 |nil=>exact .nil
 |cons e r n=>
  refine ar (this e (.head _)) λtk q=>?_;haveI:=n λe m=>this e (.tail _ m);simp only[aaT,aaT];refine q▸?_;exact .cons _ _ this
def K3{f:Array (Int×Value)}{t:SetTable}(B:A.handled=none)(g:w.params.followText "set-order")(r:a≠I)(m:t.fits f.size):
  Walks prog w A I [I,a] [I] f.size (Sg (pickOrder (w.params.setOrder a ep) f).toList) (λi h=>h.get? I=some (Gh (.int (0:Nat) 0) i a f.size ep)/\h.get? a=some (eW f ep t)):=by
 have x:(pickOrder (w.params.setOrder a ep) f).size=f.size:=by rw[<-aaN,(uV _ _).length_eq,aaN]
 have j:∀(i:Nat) (s:Shared) (u:s.heap.get? a=some (eW f ep t)) (A:Around) (E:dy) (Q:Option (Value×Nat)->Shared->Prop),
   Q ((pickOrder (w.params.setOrder a ep) f)[i]?.map λe=>(e.2,0)) s->wpAny (model prog w) A (setNext a 0 i ep) Q E s:=λi s u A E Q k=>by
  refine dL (wpAny_setState_of u rfl m ?_);dsimp only;refine dL (dL (ab7 (s4 ?_)));refine(show(model prog w).w.params.followText "set-order"=true from g).symm▸?_;rw[if_pos rfl,if_neg (by simp)];refine dL (dL (wpAny_setState_of u rfl m ?_));dsimp only;refine dL (dL (ab7 (s4 ?_)));refine(show(model prog w).w.params.followText "set-order"=true from g).symm▸?_;refine(if_pos rfl)▸?_;refine dL (ab7 (s4 (s4 ?_)));exact k
 refine⟨λb g=>by simp at g;simp[g],λi h n d p=>⟨p I (by simp) _ d.1,p a (by simp) _ d.2⟩,λi s Q E C d l=>?_,λs Q E d l=>?_,λi s Q E d l=>Cz d.1 rfl l⟩
 ·have y:i<(pickOrder (w.params.setOrder a ep) f).size:=by simp only[x];exact C
  refine I8 (nx:=0) (v:=(pickOrder (w.params.setOrder a ep) f)[i].2) d.1 d.2 m rfl (λA E Q k=>j i s d.2 A E Q (by rw[aaC y];exact k)) λn z D=>?_;exact l _ n s.toks ⟨_,by simp only[KE,aaC y],rfl⟩ ⟨D,(z.2 a r).trans d.2⟩ λb o g e=>(z.2 b (λq=>g (by simp[q]))).trans e
 ·exact NZ B d.1 d.2 m rfl (λA E Q k=>j f.size s d.2 A E Q ((Array.getElem?_eq_none (by rw[x];exact v0 _))▸k)) λn p=>l n s.toks λb o g e=>p b o (λq=>g (by simp[q])) e
noncomputable def Hj(p:Array Nat):Nat->Nat
 |0=>0
 |i+1=>p.getD i 0+1
def Hk{p:Array Nat}(R:EG p)(h:i<=p.size):SetTable.below p (Hj p i)=i:=by
 refine yb (λj a=>?_) (λj a b=>?_) h
 ·cases i with
  |zero=>exact absurd a (acM _)
  |succ i=>
   rcases Nat.lt_or_eq_of_le (aca a)with q|rfl
   ·exact aaQ (R j i _ _ q (gc (abV q h)) (gc h))
   ·exact W1 _
 ·cases i with
  |zero=>exact acM _
  |succ i=>exact aaG.mpr (R i j _ _ a (gc h) (gc b))
def Hl{d:Array (Int×Value)}{t:SetTable}(G:A.handled=none)(g:w.params.followText "set-order"=false)(H:(!t.plain&&decide (d.size>1))=false)(T:mZ w t)(z:a≠I)(k:t.fits d.size):
  Walks prog w A I [I,a] [I] d.size (Sg d.toList) (λi h=>h.get? I=some (Gh (.int (Hj t.place i:Nat) 0) i a d.size ep)/\h.get? a=some (eW d ep t)):=by
 haveI n:t.led:=T.led.resolve_left (by rw[g];simp)
 have p:t.place.size=d.size:=by
  unfold SetTable.fits at k;simp at k;exact k.1
 have r:∀(i:Nat) (s:Shared) (D:s.heap.get? a=some (eW d ep t)) (A:Around) (E:dy) (Q:Option (Value×Nat)->Shared->Prop),i<=d.size->
   Q (match d[i]?,t.place[i]? with|some e,some j=>some (e.2,j+1)|_,_=>none) s->wpAny (model prog w) A (setNext a (Hj t.place i) i ep) Q E s:=λi s D A E Q l m=>by
  refine dL (wpAny_setState_of D rfl k ?_);dsimp only;refine dL (dL (ab7 (s4 ?_)));refine(show(model prog w).w.params.followText "set-order"=false from g)▸?_;refine(if_neg acX)▸?_;refine wpAny_ite_split (λq=>?_) λ_=>?_
  ·exact absurd (show(!t.plain&&decide (d.size>1))=true from q) (by refine H▸?_;simp)
  refine dL ?_;show wpAny _ _ (if(!t.led&& !d.isEmpty)=true then _ else _) _ _ _;rw[if_neg (by rw[n];simp)];refine s4 ?_;rw[Hk T.Km (p▸l)];refine s4 ?_;cases B:d[i]?<;>cases C:t.place[i]?<;>rw[B,C]at m<;>exact m
 refine⟨λb g=>by simp at g;simp[g],λi h x f y=>⟨y I (by simp) _ f.1,y a (by simp) _ f.2⟩,λi s Q E l f u=>?_,λs Q E f u=>?_,λi s Q E f u=>Cz f.1 rfl u⟩
 ·haveI C:t.place[i]?=some (t.place.getD i 0):=gc (by simp only[p];exact l)
  refine I8 (nx:=t.place.getD i 0+1) (v:=d[i].2) f.1 f.2 k rfl (λA E Q m=>r i s f.2 A E Q (KK l) (by refine(aaC l)▸?_;refine C▸?_;exact m)) λx F B=>?_;exact u _ x s.toks ⟨d[i],by simp only[KE,aaC l],rfl⟩ ⟨B,(F.2 a z).trans f.2⟩ λb o g e=>(F.2 b (λq=>g (by simp[q]))).trans e
 ·exact NZ G f.1 f.2 k rfl (λA E Q m=>r d.size s f.2 A E Q (v0 _) (by refine(Array.getElem?_eq_none (v0 _)).symm▸?_;exact m)) λx y=>u x s.toks λb o g e=>y b o (λq=>g (by simp[q])) e
def Hm{g:Array (Int×Value)}{t:SetTable}{d:aH}{oT:Obj}(F:A.handled=none)(v:a≠I)(G:T≠I)(B:oT.data=.seq (d.map λi=>rawInt (i:Nat)).toArray m)(j:∀k∈d,k<g.size)(C:d.length=g.size)(D:t.fits g.size):
  Walks prog w A I [I,a,T] [I] g.size (Sg (d.filterMap (g[·]?))) (λi h=>h.get? I=some (Gh (.ref T) i a g.size ep)/\h.get? a=some (eW g ep t)/\h.get? T=some oT):=by
 haveI H:∀(i:Nat) (k:Nat),d[i]?=some k->((d.map λi=>rawInt (i:Nat)).toArray)[i]?=some (.int k 0):=λi k e=>by
  simp only[ach,FS,e];rfl
 haveI J:∀(d:aH),(∀k∈d,k<g.size)->∀(i k:Nat) (e:k<g.size),d[i]?=some k->(d.filterMap (g[·]?))[i]?=some g[k]:=by
  intro d;induction d with
  |nil=>intro _ i k _ e;exact nx e
  |cons x r L=>
   intro j i k y e;refine(List.filterMap_cons_some (aaC (j x (.head _))))▸?_;cases i with
   |zero=>obtain rfl:=BT e;rfl
   |succ i=>simp at e;simpa using L (λk m=>j k (.tail _ m)) i k y e
 refine⟨λb l=>by simp at l;simp[l],λi h u f j=>(bH (j I (by simp) _ f.1) (j a (by simp) _ f.2.1) (j T (by simp) _ f.2.2)),λi s Q E M f n=>?_,λs Q E f n=>?_,λi s Q E f n=>Cz f.1 rfl n⟩
 ·haveI e:d[i]?=some d[i]:=f0 (by simp only[C];exact M)
  haveI p:=j d[i] (List.getElem_mem _);refine Se f.1 f.2.1 D rfl f.2.2 B (H i _ e) (aaC p) λu z N=>?_;exact n _ u s.toks (ay (g[d[i]]) (J d j i _ p e) rfl) (bH N ((z.2 a v).trans f.2.1) ((z.2 T G).trans f.2.2)) λb o l e=>(z.2 b (λq=>l (by simp[q]))).trans e
 ·exact Wo F f.1 f.2.1 D rfl f.2.2 B (by rw[ach,FS,aaI (C▸v0 _)];rfl) λu j=>n u s.toks λb o l e=>j b o (λq=>l (by simp[q])) e
def N0(G:c.handled=none)(I:eY w f t H)(l:s.heap.get? a=some (eW f u t))
  (k:∀y R n P St B d',Walks prog w c y R [y] n P St->(∀b o,s.heap.get? b=some o->B.get? b=some o)->s.heap.objs.size<=y->(∀b∈R,b=a\/s.heap.objs.size<=b)->St 0 B->n=H.length->
   (∀g,ItemsOf P g n->∃S,IntsAre g.toList S/\S.Perm H)->(∃T,B.get? y=some T/\T.cls=.type "set_iterator")->Q (.ref y) {s with heap:=B,drawn:=d'}):wpAny (model prog w) A (pyIter (.ref a)) Q E s:=by
 have U:s.TypeIs (.ref a) "set":=(ay _ l rfl);have x:=KM l;refine aX I.list λJ L=>?_;refine wpAny_pyIter_slot U PySem.F.slot_set_iter (wpAny_call_entry PySem.F.slot_set_iter U yf ?_ (PySem.F.args_set_iter_1 _));delta Builtin.«frozenset.__iter__» Builtin.Frozenset.slot0 slotArgs;simp only[List.isEmpty_nil,Bool.not_true,ac8,↓reduceIte,bind_assoc,List.length_nil,bne_self_eq_false];refine dL (s4 ?_)
 try dsimp only
 refine dL (s4 ?_);refine dL (dL (wpAny_setEntries_of l rfl I.fits (s4 ?_)));refine dL (dL (wpAny_setState_of l rfl I.fits ?_));dsimp only
 have iJ:∀(first:Value) (h:Heap) (d:Drawn),(∀b o,s.heap.get? b=some o->h.get? b=some o)->
   (h.get? a=some (eW f u t)->Q (.ref h.objs.size) {s with heap:=h.push (Gh first 0 a f.size u),drawn:=d})->
   wpAny (model prog w) A.in1 (setEpoch a>>=λe=>newFields "set_iterator" [first,rawInt 0,.ref a,rawInt (f.size:Nat),rawInt (e:Nat)]>>=λv=>ret v)
    (λiJ V=>∃v,iJ=Fin.done (Flow.ret v)/\∃X r,V.TypeIs v X/\typeLookup (Value.type X) (Str.ofString "__next__")=pure (some r)/\Q v V) E {s with heap:=h,drawn:=d}:=λfirst h d C hq=>by
  refine dL (wpAny_setEpoch_of (C a _ l) rfl I.fits ?_);refine dL (wpAny_newObj_type (s4 ⟨_,rfl,"set_iterator",_,(ay _ (GM _ rfl) rfl),ja.lookup,?_⟩));exact hq (C a _ l)
 refine dL (dL (ab7 (s4 ?_)));haveI M:f.size=H.length:=I.size;cases D:w.params.followText "set-order" with
 |true=>
  refine s4 ?_;rw[show(model prog w).w.params.followText "set-order"=true from D];refine dL (s4 ?_);refine iJ (rawInt 0) s.heap s.drawn (λ_ _ e=>e) λN=>?_;haveI W:=K3 (prog:=prog) (w:=w) (A:=c) (I:=s.heap.objs.size) (a:=a) (ep:=u) (t:=t) G D (LE x) I.fits;refine k _ _ _ _ _ _ _ W (λb o e=>wT _ e) (v0 _) (λb p=>?_) ⟨GM _ rfl,wT _ l⟩ M (λg z=>?_) (ay _ (GM _ rfl) rfl)
  ·simp at p;rcases p with rfl|rfl
   ·exact .inr (v0 _)
   ·exact .inl rfl
  ·refine J▸?_
   exact uW (uV _ _) L (by simp only[(uV _ _).length_eq,aaN];exact z)
 |false=>
  refine s4 ?_;rw[show(model prog w).w.params.followText "set-order"=false from D];cases O:(!t.plain&&decide (f.size>1))with
  |false=>
   rw[if_neg (λq=>by
    haveI:(!t.plain&&decide (f.size>1)):=q;exact bx this (O))]
   refine dL (s4 ?_);refine iJ (rawInt 0) s.heap s.drawn (λ_ _ e=>e) λN=>?_;haveI W:=Hl (prog:=prog) (w:=w) (A:=c) (I:=s.heap.objs.size) (a:=a) (ep:=u) (t:=t) G D O I.tab (LE x) I.fits;refine k _ _ _ _ _ _ _ W (λb o e=>wT _ e) (v0 _) (λb p=>?_) ⟨GM _ rfl,wT _ l⟩ M (λg z=>?_) (ay _ (GM _ rfl) rfl)
   ·simp at p;rcases p with rfl|rfl
    ·exact .inr (v0 _)
    ·exact .inl rfl
   ·refine J▸?_
    exact uW (ac7 _) L (by simp only[aaN];exact z)
  |true=>
   refine wpAny_ite_split (λ_=>?_) (λq=>absurd (O) q);refine dL (Hi _ _ _ _ (by simp) λj d F=>?_);refine dL (wpAny_newTuple (hsz:=by simp only[v4,F.length_eq,x0];exact fits_of_scanBound I.small) ?_);haveI C:∀k∈j,k<f.size:=λk m=>AT.mp (F.mem_iff.mp m);haveI hl:j.length=f.size:=by simp only[F.length_eq,x0]
   haveI Y:(s.heap.push {cls:=.type "tuple",data:=.seq (j.map λi=>rawInt (i:Nat)).toArray 0}).objs.size=s.heap.objs.size+1:=acz ..;refine iJ (.ref s.heap.objs.size) (s.heap.push {cls:=.type "tuple",data:=.seq (j.map λi=>rawInt (i:Nat)).toArray 0}) d (λ_ _ e=>wT _ e) λN=>?_;have W:=Hm (prog:=prog) (w:=w) (A:=c) (I:=s.heap.objs.size+1) (a:=a) (T:=s.heap.objs.size) (ep:=u) (t:=t) (m:=0) (oT:={cls:=.type "tuple",data:=.seq (j.map λi=>rawInt (i:Nat)).toArray 0}) G (LE (aaQ x)) (LE (W1 _)) rfl C hl I.fits;refine Y▸?_;haveI g0:(s.heap.push {cls:=.type "tuple",data:=.seq (j.map λi=>rawInt (i:Nat)).toArray 0}).get? s.heap.objs.size=some {cls:=.type "tuple",data:=.seq (j.map λi=>rawInt (i:Nat)).toArray 0}:=GM _ rfl
   have Z:((s.heap.push {cls:=.type "tuple",data:=.seq (j.map λi=>rawInt (i:Nat)).toArray 0}).push (Gh (.ref s.heap.objs.size) 0 a f.size u)).get? (s.heap.objs.size+1)=some (Gh (.ref s.heap.objs.size) 0 a f.size u):=by
    refine Y▸?_;exact GM _ rfl
   refine k _ _ _ _ _ _ _ W (λb o e=>wT _ (wT _ e)) (aaU _) (λb p=>?_) (bH Z (wT _ N) (wT _ g0)) M (λg z=>?_) (ay _ Z rfl)
   ·simp at p;rcases p with rfl|rfl|rfl
    ·exact .inr (aaU _)
    ·exact .inl rfl
    ·exact .inr (v0 _)
   ·haveI pp:(j.filterMap (f[·]?)).Perm f.toList:=(F.filterMap _).trans (by rw[filterMap_getElem?_range])
    refine J▸?_;exact uW pp L (by simp only[pp.length_eq,aaN];exact z)
end
section
variable{c:Program}{w:World}{A f:Around}{E:dy}{s:Shared}
def N6(d:s.TypeIs (.ref r) "set")(h:Q false s):wpAny (model c w) A (Builtin.List.listLengthHint (.ref r)) Q E s:=by
 refine dL (wpAny_specialOf d PySem.F.slot_set_len.lookup ?_);generalize g:("set.__len__":String)=e
 wp_delta
 rw[show splitId e=some ("set","__len__")from by subst g;decide+kernel];subst g;refine dL (wpAny_isInstance (T:="set") (b:=true) d (by rw[isSubtype_type];kernel_rfl) ?_);refine wpAny_ite_split (λa=>absurd a (by decide)) (λ_=>?_);refine wpAny_ite_split (λ_=>?_) (λa=>absurd (by decide+kernel) a);refine dL (wpAny_typeOf d ?_);exact s4 h
structure rz(c:Program)(w:World)(T:String)(r:Addr)(xs:List Int)(s:Shared):Prop where
 type:s.TypeIs (.ref r) T
 nl:(Value.type T==Value.type "list")=false
 nt:(Value.type T==Value.type "tuple")=false
 small:xs.length<64
 hint:∀(A:Around) (E:Value->Shared->Prop) (s':Shared) (Q:Bool->Shared->Prop),(∀b o,s.heap.get? b=some o->s'.heap.get? b=some o)->Q false s'->wpAny (model c w) A (Builtin.List.listLengthHint (.ref r)) Q E s'
 iter:∀(A f:Around) (E:Value->Shared->Prop) (s':Shared) (Q:Value->Shared->Prop),f.handled=none->(∀b o,s.heap.get? b=some o->s'.heap.get? b=some o)->
  (∀It fp n P St h' d',Walks c w f It fp [It] n P St->(∀b o,s'.heap.get? b=some o->h'.get? b=some o)->s'.heap.objs.size<=It->(∀b∈fp,b=r\/s'.heap.objs.size<=b)->St 0 h'->n=xs.length->
   (∀acc,ItemsOf P acc n->∃ns,IntsAre acc.toList ns/\ns.Perm xs)->Q (.ref It) {s' with heap:=h',drawn:=d'})->wpAny (model c w) A (pyIter (.ref r)) Q E s'
def Si{b:aS}(I:eY w i t b)(d:s.heap.get? a=some (eW i C t))(e:b.length<64):rz c w "set" a b s where
 type:=(ay _ d rfl)
 nl:=by decide
 nt:=by decide
 small:=e
 hint:=λA E j Q g h=>N6 (ay _ (g _ _ d) rfl) h
 iter:=λA f E j Q l g k=>N0 l I (g _ _ d) λm o n P St p q r u v x y z B _=>k m o n P St p q r u v x y z B
def N8{d:aS}{g:aQ}(N:s.heap.DictOf (intKind c w) a (d.zip g))(G:d.length=g.length)(lo:(a==sysModules)=false)(z:d.length<64):rz c w "dict" a d s:=by
 refine ar N.dictAt λB q=>?_;haveI K:=kdl_dict (knd:=intKind c w) (kvs:=d.zip g) (ep:=B) lo;have H:∀l:Shared,(∀b o,s.heap.get? b=some o->l.heap.get? b=some o)->l.heap.DictAt (intKind c w) a (d.zip g) B:=λl r=>K.keep _ _ q λb _ o e=>r b o e;refine⟨K.type s q,by decide,by decide,z,λA E l Q r h=>K.hint _ _ _ _ (H l r) h,λA f E l Q O r k=>?_⟩;have I:(d.zip g).length=d.length:=by simp only[List.length_zip,G,Nat.min_self]
 haveI p:=H l r;refine wpAny_pyIter_dict lo p ?_;refine k _ _ _ _ _ _ l.drawn (Walks.dictKeys O _ a (LE p.lt_size) (d.zip g) B) (λb o e=>wT _ e) (v0 _) (λb p=>?_) ⟨(dC _ (GM _ rfl) rfl rfl),p.push _⟩ I λC P=>(ay d ?_ (ac7 _))
 ·simp at p;rcases p with rfl|rfl
  ·exact .inr (v0 _)
  ·exact .inl rfl
 ·refine aX P λn1 n2=>?_
  haveI D:∀(d:aS) (g m:aQ),d.length=g.length->m.length=d.length->(∀(j:Nat) v,m[j]?=some v->∃k x,(d.zip g)[j]?=some (k,x)/\(intKind c w).is k v)->IntsAre m d:=by
   intro d;induction d with
   |nil=>intro g m _ e _;obtain rfl:=aaZ.mp e;exact .nil
   |cons i d R=>
    intro g m J L h;refine pU (KF J.symm) λx g n=>?_;subst n;refine pU (KF L) λv m n=>?_;subst n;refine dm (h 0 v rfl) λk y M S=>?_;simp at M;obtain⟨rfl,rfl⟩:=M;refine ar (Value.isInt_shape S) λt F=>?_;subst F;exact .cons _ _ (R g m (aa3 J) (aa3 L) λj u T=>h (j+1) u T)
  exact D d g C.toList G (by simp only[aaN,n1,I]) λj v e=>n2 j v ((KE).symm.trans e)
set_option backward.match.sparseCases true in
def EO(C:rz c w T r H s)(hh:A.handled=none)
  (h:∀X B Y tk d,IntsAre X B->B.Perm H->(∀b o,s.heap.get? b=some o->Y.get? b=some o)->Q X {s with heap:=Y,toks:=tk,drawn:=d}):wpAny (model c w) A (collect (.ref r)) Q E s:=by
 refine aj C.type λor j I=>?_;haveI k:=KM j;refine dL (wpAny_runValue (codeAny_builtin entry_proto_collect' ?_));refine dL (wpAny_newList (s4 ⟨Code.quiet_builtin _ (by decide+kernel),codeAny_builtin entry_list_iadd' ?_⟩));show wpAny _ _ (Builtin.List.listExtendWith (.ref s.heap.objs.size) (.ref r) (.ref s.heap.objs.size)) _ _ {s with heap:=s.heap.push (seqObj "list" #[] 0)};haveI D:∀b o,s.heap.get? b=some o->(s.heap.push (seqObj "list" #[] 0)).get? b=some o:=λb o e=>wT _ e;haveI hS:(s.heap.push (seqObj "list" #[] 0)).get? s.heap.objs.size=some (seqObj "list" #[] 0):=GM _ rfl;haveI J:(s.heap.push (seqObj "list" #[] 0)).objs.size=s.heap.objs.size+1:=acz ..;refine dL (wpAny_typeOf (T:=T) (ay or (D _ _ j) I) ?_);haveI h1:Builtin.List.listSameRef (.ref s.heap.objs.size) (.ref r)=false:=by simp[Builtin.List.listSameRef];exact ab8 k
 simp only[h1,C.nl,C.nt,Bool.or_false,ac8,if_false];refine dL (C.iter _ A.in1 _ {s with heap:=s.heap.push (seqObj "list" #[] 0)} _ hh D λZ fp n P St L l W M F N st hn hg=>?_);haveI hIs:s.heap.objs.size≠Z:=λe=>by rw[J,<-e]at F;exact absurd F (Nat.not_succ_le_self _)
 have p:s.heap.objs.size∉fp:=λm=>by
  rcases N _ m with e|e
  ·exact absurd e.symm (LE k)
  ·rw[J]at e;exact absurd e (Nat.not_succ_le_self _)
 have t:∀(u:Heap) (g tk:Nat),St 0 u->(∀b o,b≠s.heap.objs.size->L.get? b=some o->u.get? b=some o)->u.get? s.heap.objs.size=some {cls:=.type "list",data:=.seq #[] g}->
   codeAny (model c w) A (.builtin "list.extend.loop" ⟨[.ref s.heap.objs.size,.ref Z,.ref s.heap.objs.size],[]⟩) (λr x=>match r with
    | .ok (.ret v)=>wpAny (model c w) A (match v with
      | .ref a=>load a>>=λo=>match o.data with
       | .seq H _=>pure H.toList
       |_=>unsupported "internal:collect"
      |_=>unsupported "internal:collect") Q E x
    | .ok _=>False
    | .error e=>E e x) {s with heap:=u,toks:=tk,drawn:=l}:=λu g tk O Ra G=>by
  refine codeAny_extend_loopS W.toS (by rw[hn];exact o0 (KK C.small) (by simp only[sizeLine_eq];decide)) _ p _ n 0 _ #[] g rfl (SC _) O G (ItemsOf.nil _) λx R c' hm S y=>?_;refine dL (wpAny_load S ?_);show wpAny _ _ (pure R.toList) _ _ _;refine aj (hg R y) λB i1 i2=>?_;rw[Moved.eq_with hm];refine s4 (h R.toList B x.heap x.toks l i1 i2 λb o e=>?_);have i:=LE (KM e);refine hm.heap b o (λm=>?_) (Ra b o i (M b o (D b o e)));rcases EQ.mp m with q|q
  ·exact i q
  ·haveI q1:=u8.mp q
   haveI q2:=KM e;rw[J]at F;rw[q1]at q2;exact absurd (abV q2 F) (ac6 _)
 haveI U:=M _ _ hS;refine dL (KB (C.hint _ _ _ _ (λb o e=>M b o (D b o e)) ?_));refine wpAny_ite_split (λ_=>?_) (λ_=>s4 ⟨plainId_quiet PySem.F.plain_extend_loop _,t _ _ _ st (λb o _ e=>e) U⟩);refine dL (wpAny_rule ?_);refine dL ?_;refine dL (wpAny_updateSeq U rfl ?_);haveI G:=UV (Obj.mapSeq (·.push Value.none)) U rfl;refine wpAny_updateSeq (hz:=by seq_fits) G rfl ?_;have V:=UV (Obj.mapSeq (·.pop)) G rfl
 have z:∀b o,b≠s.heap.objs.size->L.get? b=some o->((L.update s.heap.objs.size (Obj.mapSeq (·.push Value.none))).update s.heap.objs.size (Obj.mapSeq (·.pop))).get? b=some o:=λb o i e=>
  (SB _ _ (acQ i)).trans ((SB _ _ (acQ i)).trans e)
 exact s4 ⟨plainId_quiet PySem.F.plain_extend_loop _,t _ _ _ (W.frame 0 _ _ st λb i o e=>z b o (λq=>p (q▸i)) e) z V⟩
def Hn(C:rz c w T r xs s)(x:A.handled=none)
  (h:∀(b:Addr) (a:aQ) (j:aS) (g l:Heap) (tk:Nat) (d:Drawn) (m:Nat),IntsAre a j->j.Perm xs->j.Pairwise (·<= ·)->(∀b o,s.heap.get? b=some o->g.get? b=some o)->(∀b o,g.get? b=some o->l.get? b=some o)->g.objs.size<=b->l.get? b=some (listOf a.toArray m)->Q (.ref b) {s with heap:=l,toks:=tk,drawn:=d}):
  wpAny (model c w) A (call (.builtin "sorted") [.ref r]) Q E s:=by
 refine Calls.call_function_entry kind_sorted plain_sorted entry_sorted (args_sorted1 _) ?_;refine dL (m:=checkCount "sorted" 1 1 _) (s4 ?_);refine dL (EO C x λk j g tk d p t y=>?_)
 have u:k.length<64:=by
  haveI D:k.length=j.length:=p.length;haveI F:=t.length_eq;haveI:=C.small;lia
 refine dL (wpAny_newList (hsz:=o0 (KK u) (by simp only[sizeLine_eq];decide)) ?_);haveI i:(g.push (seqObj "list" k.toArray 0)).get? g.objs.size=some (seqObj "list" k.toArray 0):=GM _ rfl;refine dL (KB (wpAny_call_entry slot_list_sort (ay _ i rfl) entry_list_sort (list_sort_tree i p u λa n a1 a2 z=>(ay _ rfl ?_)) (args_list_sort _)));refine s4 (ay _ rfl ?_);refine ar (sortedHeap_at (out:=a) i) λe B=>?_;refine h g.objs.size a.toList n g _ tk d e a1 (a2.trans t) z y (λb o q=>?_) (v0 _) (B);haveI v:=KM q;exact((sortedHeap_old (LE v) (by rw[size_push'];exact aaQ v))).trans (wT _ q)
end
def EP{e d:aS}(p:e.Perm d)(o:e.Pairwise (·<= ·)):e=dg d:=by
 refine ksm_same (p.trans (acV d _).symm) o ?_;haveI:=List.pairwise_mergeSort (le:=λa b:Int=>decide (a<=b)) (λa b c f g=>by simp at f g⊢;lia) (λa b=>by simp;lia) d;exact this.imp λh=>by simpa using h
section
variable{X:Cx}{S:a0}{c:Env}{A:Around}{E:dy}{F G w L H:bj}{j D y B:aZ}{f U s O:St}{i M g J:Shared}{n:Nat}
def cN.abL(R:c6 X S c F H j f i){a:Heap}(h:∀b o,i.heap.get? b=some o->a.get? b=some o):cN X S c F H j i F j f {i with heap:=a,toks:=tk,drawn:=d}:=
 ⟨Le.refl _,hU.refl _,⟨R.r0.to (λb o _ e=>h b o e) rfl rfl,R.a8.ext h⟩⟩
def Y2(Q:af->St->Prop)(v:af)(f:St):Prop:=∃a:aS,(aO f.cells v=.list (a.map .int)\/aO f.cells v=.set a\/∃b,aO f.cells v=.dict a b)/\a.length<64/\Q (.list ((dg a).map .int)) f
def K4(hx:gZ X.K S x (.builtin "sorted"))(hs:aK a=false)(hA:A.handled=none)
  (h:aU X S c A E (eval a c) (Y2 Q) f):j8 X S c A E (eval (.Call (.Name x p) [a] [] q) c) Q f:=n7 λF H j i P R k=>by
 refine dL (sD R hx ?_);haveI AA:[a].any aK=false:=by simp only[List.any_cons,hs];rfl
 refine el (.inr ⟨_,rfl⟩) (bD AA) (cL (bD AA) ?_);refine lI (Q:=λvs f=>∃v,vs=[v]/\Y2 Q v f) hs (h.aT λv f z=>(ay v rfl z)) F H j i _ R λus g w y s vs N V z=>?_;obtain⟨v,rfl,z⟩:=z;refine aj V.j9 λu rf1 hv=>?_;subst rf1
 have Y:∀{T:String} {r:Addr} {Z:aS},rz X.prog X.w T r Z g->Q (.list ((dg Z).map .int)) s->wpAny (model X.prog X.w) A (call (.builtin "sorted") [.ref r]) P E g:=λ{T r Z} C q=>
  Hn C hA λb o ns cz h' tk d m i1 i2 i3 k1 k2 hb ho=>by
   rw[EP i2 i3]at i1;exact k _ {g with heap:=cz,toks:=tk,drawn:=d} w y s _ tk h' b (N.trans (cN.abL N.bu k1)) k2 hb ho (.list (xW i1)) q
 obtain⟨Z,e|e|⟨vs,e⟩,hl,q⟩:=z
 ·refine eV (cJ N.bu.r0 hv e) λl ws ep rf3 ho hw=>?_
  subst rf3;have hi:=tx hw;refine sorted_ints (cV ho) hi (hi.length▸hl) λY ns' a1 a2 a3=>?_;obtain⟨m,hm⟩:=sortedAll_at g.heap ws Y;rw[EP a2 a3]at a1;exact k _ g w y s (.list ((dg Z).map .int)) g.toks _ _ N (λb o e=>sortedAll_old e) (aaU _) (by simpa using hm) (.list (xW a1)) q
 ·refine VC (uO N.bu.r0 hv e) λa es ep t rf4 ho I=>?_
  subst rf4;exact Y (Si I ho hl) q
 ·refine rR (kJ N.bu.r0 hv e) λa ws rf2 hd Iy Yf hm=>?_
  subst rf2;exact Y (N8 hd Iy hm hl) q
end
section
variable{X:Cx}{S:a0}{d:Env}{A:Around}{E:dy}{F C D J H:bj}{l B M s:aZ}{f O m N:St}{g L G I:Shared}{n:Nat}
def ax.Wq{a:ah}:∀{b:aQ},a.length=b.length->(∀(j:Nat) x v,a[j]?=some x->b[j]?=some v->aG X.prog X.w F l x v)->ax X.prog X.w F l a b:=by
 induction a with
 |nil=>exactλe _=>aaJ e.symm▸ .nil
 |cons x a c=>exactλe h=>pU (KF e.symm) λv b q=>by subst q;exact .cons (h 0 x v rfl rfl) (c (aa3 e) λj x v p q=>h (j+1) x v p q)
def N9{a:Array Value}(h:ItemsOf (λi v=>∃t,v=.int (0+i*1) t) a (b-0).toNat):ax X.prog X.w F l (cB 0 b) a.toList:=
 .Wq ((v4 _).trans (x0.trans (h.1.symm.trans aaN.symm))) λj x v p q=>ar (wP.mp p) λ_ p=>ar (h.2 j v (KE.symm.trans q)) λt e=>
  (show x=.int (0+(j:Int)*1)from p.symm.trans ((List.getElem_map _).trans (v6 af.int (v6 (0+ ·) ((v6 Nat.cast (ab0 _)).trans (Int.mul_one _).symm)))))▸e▸ .int _ _
def cM.K5(h:cM X.prog X.w F l c o):c=.range a b->∃t u v,o={cls:=.type "range",data:=.fields #[.int a t,.int b u,.int 1 v]}:=
 cM.casesOn (motive_3:=λc o _=>c=.range a b->∃t u v,o={cls:=.type "range",data:=.fields #[.int a t,.int b u,.int 1 v]}) h (λ_ e=>af.noConfusion e) (λ_ _ _ e=>af.noConfusion e) (λe=>af.noConfusion e λi j=>i▸j▸VA _ _ _ rfl) (λ_ _ _ e=>af.noConfusion e) (λ_ e=>af.noConfusion e) (λ_ e=>af.noConfusion e) λ_ _ e=>af.noConfusion e
def CA(r:A.handled=none)(T:gZ X.K S x (.type "list"))(U:gZ X.K S y (.type "range"))(Y:aK a=false)
  (h:aU X S d A E (eval a d) (λv f=>c7 v λb=> -(aL:Int)<=b/\b<=aL/\(cB 0 b).length<=aL/\Q (.list (cB 0 b)) f) f):
  j8 X S d A E (eval (.Call (.Name x p) [.Call (.Name y p') [a] [] q'] [] q) d) Q f:=
 xa (Z:=λv f=>∃b:Int,v=.range 0 b/\-(aL:Int)<=b/\b<=aL/\(cB 0 b).length<=aL/\Q (.list (cB 0 b)) f) T (.inl ⟨_,rfl⟩) rfl
  (aU.B7 (xa U (.inl ⟨_,rfl⟩) Y h λF H l g P v f c R V z k=>dm (V.c7 z) λb t e z=>
   e▸call_range_1 (k _ (.range 0 b) _ _ _ (λb o e=>wT _ e) (v0 _) (GM _ rfl) .range (ay b rfl z))))
  λF H l g P v f c R V z k=>Vz z λb e z1 j z3 z4=>gH (e▸V:aG X.prog X.w F l (.range 0 b) v).AG λa o e hF hc _=>MJ (hc.K5 rfl) λt u w ho=>
   e▸call_list_range r (ho▸R.r0.fz _ _ hF) (Ey (Int.le_refl _) (IR aL) z1 j) (vQ j (Int.le_refl _) (IR aL)) (o0 (aaM (x0.symm.trans (v4 _).symm)) (o0 z3 (by decide)))
    λh' tk Rd c' hk hD i=>k _ (.list (cB 0 b)) tk h' _ hk (v0 _) hD (.list (ws:=Rd.toList) (N9 i)) z4
def Ho(h:Q (.dict [] []) f):j8 X S d A E (eval (.Dict [] [] p) d) Q f:=n7 λF H l g P R k=>by
 refine aj (Heap.dictOf_iff.mp (Heap.DictOf.new (knd:=intKind X.prog X.w) g.heap)) λo a c=>?_;exact wpAny_Dict_empty (k o g F l f (.dict [] []) g.toks _ _ (cN.gP R) (λb o e=>wT _ e) (v0 _) a (.dict (ws:=[]) c rfl .nil) h)
def Oa(hS:fi S)(c:rT S x i)(h:∃a,aB f.aC i=.int a/\Q (.dict [a] [.int v]) f):
  j8 X S d A E (eval (.Dict [some (.Name x q)] [.Constant (.int v) w r] p) d) Q f:=n7 λF H l g P R k=>by
 refine aj h λa e z=>?_;refine wpAny_Dict_any rfl rfl (by simp) (Nat.le_of_ble_eq_true rfl) ?_;show wpAny _ _ (evalPairs [(eval (.Name x q) d,do let y<-eval (.Constant (.int v) w r) d;standAt p;pure y)]) _ _ _;haveI T:c6 X S d F H l f {g with heap:=g.heap.push {cls:=.type "dict",data:=.dict #[]}}:=R.ext (tk:=g.toks) λb o e=>wT _ e;haveI U:f.aC[i]?=some (.int a):=by refine e▸?_;exact ej (by refine e▸?_;simp)
 refine evalPairs_cons ?_;refine ar (xO c) λcb c=>?_;refine wpAny_Name (tj T c U (af.noConfusion) λu V=>?_) (qr hS c);refine ar V.i8 λtk j=>?_;subst j;refine dL (wpAny_Constant_int (dL (aaf (s4 ?_))));refine evalPairs_nil ?_;unfold storeAll;rw[List.forIn_cons];refine dL (dL (wpAny_dictSet_pairs (knd:=intKind X.prog X.w) (k:=a) (acA _ _ _ _) (Heap.DictOf.new (knd:=intKind X.prog X.w) g.heap) λh' t Y=>s4 ?_));dsimp only;simp only[List.forIn_nil];refine s4 ?_;refine aj (Heap.dictOf_iff.mp t) λo Z t=>?_;exact k o g F l f (.dict [a] [.int v]) _ _ _ (cN.gP R) (λb o e=>(Y.2 b (LE (KM e))).trans (wT _ e)) (v0 _) Z (.dict (ws:=[.int v _]) t rfl (.cons (.int _ _) .nil)) z
end
inductive Or where
 |a|p|b (b:Bool)|v (v:af)|q (P:af->Prop)|c (P:af->List af->Prop)|d (v:af) (cs:List af)
 |h (h:af->List af)|k (hk:af->Int) (hv:af->af)|w (l:List af) (u:af)|i (is:List Int)|t (P:Prop)|x (u:af)|go|stop
 |y (u:af)|n (N:Nat)|e (b:Bool)|m (h:af->List af) (r:List af)|l (N:Nat) (fs:List Nat) (S:Nat->St)|z
def rU{b:Type}{o:Option b}{p c:Prop}{q d:b->Prop}(h:o.elim p q)(k:p->c)(l:∀a,q a->d a):o.elim c d:=by
 cases o with
 |none=>exact k h
 |some a=>exact l a h
def Sj(h:dP b p q)(k:p->a)(l:q->c):dP b a c:=by
 cases b with
 |true=>exact k h
 |false=>exact l h
noncomputable def Y3(n:Nat)(o:List Or):Bool:=o.head?.any λx=>Nat.beq x.ctorIdx n
noncomputable def Gi{a:Type}(n:Nat)(o:List Or)(f:∀x:Or,x.ctorIdx=n->a):Option a:=o.head?.bind λx=>if h:x.ctorIdx=n then some (f x h)else none
noncomputable def Wr(o:List Or):List Or:=bif Y3 0 o then o.tail else o
noncomputable def oB(o:List Or):Option Bool:=Gi 2 o λx h=>Or.b.elim (motive:=λ_=>Bool) x h id
noncomputable def oVo(o:List Or):Option af:=Gi 3 o λx h=>Or.v.elim (motive:=λ_=>af) x h id
noncomputable def oXv(o:List Or):Option af:=Gi 12 o λx h=>Or.x.elim (motive:=λ_=>af) x h id
def vU(o:List Or)(p:Prop)[Decidable p](K:List Or->Prop):Prop:=dP (Y3 1 o) (p/\K o.tail) (dP (decide p) (K (Wr o)) False)
def Y4(o:List Or)(r:Bool)(K:Bool->List Or->Prop):Prop:=(oB o).elim (dP r (K true (Wr o)) (K false (Wr o))) λc=>r=c/\K c o.tail
def vV(o:List Or)(P:(af->Prop)->Prop)(K:af->List Or->Prop):Prop:=(oVo o).elim ((Gi 4 o λx h=>Or.q.elim (motive:=λ_=>af->Prop) x h id).elim False λa=>P a/\∀w,a w->K w o.tail) λu=>P (λw=>w=u)/\K u o.tail
def Ob(o:List Or)(P:(af->ah->Prop)->Prop)(K:af->ah->List Or->Prop):Prop:=(Gi 6 o λx h=>Or.d.elim (motive:=λ_=>af×ah) x h Prod.mk).elim
 ((Gi 5 o λx h=>Or.c.elim (motive:=λ_=>af->ah->Prop) x h id).elim False λa=>P a/\∀w b,a w b->K w b o.tail) λu=>P (λw c=>w=u.1/\c=u.2)/\K u.1 u.2 o.tail
def d9[Decidable p]{K:List Or->Prop}(h:vU o p K):p/\∃a,K a:=dF h (λ_ h=>⟨h.1,_,h.2⟩) λ_ h=>dF h (λq h=>⟨s5 q,_,h⟩) λ_ h=>h.elim
def CC{K:Bool->List Or->Prop}(h:Y4 o r K):∃a,K r a:=gw h (λh=>dF h (λq h=>wz _ (q▸h)) λq h=>wz _ (q▸h)) λc _ h=>wz _ (h.1▸h.2)
def yh{K:af->List Or->Prop}(h:vV o P K):∃a,P a/\∀w,a w->∃b,K w b:=
 gw h (λh=>cU (oP h) λa _ c d=>ay a c λw e=>wz _ (d w e)) λu _ h=>ay _ h.1 λw e=>wz _ (e▸h.2)
def ER{K:af->ah->List Or->Prop}(h:Ob o P K):∃b,P b/\∀w a,b w a->∃c,K w a c:=
 gw h (λh=>cU (oP h) λb _ d f=>ay b d λw a e=>wz _ (f w a e)) λu _ h=>ay _ h.1 λw a e=>wz _ (e.1▸e.2▸h.2)
def gS(o:List Or)(a:ah)(c:Nat)(K:af->List Or->Prop):Prop:=(oXv o).elim (K (aB a c) o) λu=>aB a c=u/\K u o.tail
def dS(o:List Or)(a:ah)(v:af)(K:af->List Or->Prop):Prop:=(xG v).elim (K v o) λc=>gS o a c K
def ES{K:af->List Or->Prop}(h:gS o cells c K):∃a,K (aB cells c) a:=gw h (λh=>wz _ h) λu _ h=>wz _ (h.1▸h.2)
set_option tactic.hygienic true in
def oX{K:af->List Or->Prop}(h:dS o cells v K):∃a,K (aO cells v) a:=by
 cases v
 case cell c=>exact ES h
 all_goals exact wz _ h
def eqS(a b:af)(K:Bool->Prop):Prop:=(λD:Prop=>(xF a).elim ((Gn a).elim D λs=>(Gn b).elim D λt=>dP (PyData.strOk s&&PyData.strOk t) (K (s==t)) D) λi=>(xF b).elim D λj=>K (decide (i=j))) (bC 8 a/\bC 8 b/\K (zG a b))
def Y5(op:CmpOp)(a b:af)(K:Bool->Prop):Prop:=match op with
 | .Eq=>eqS a b K
 | .NotEq=>eqS a b λr=>K (!r)
 |op=>xJ op a b K
def Ja(X:Cx)(a:ah)(x:Str)(v:af)(K:af->Prop):Prop:=
 (AK a v).elim False λp=>p.1∈ff X.K/\(mT x p.2.1 p.2.2).elim False K
def itS(o:List Or)(p:Prop)[Decidable p](x:af)(K:af->List Or->Prop):Prop:=(oVo o).elim (vU o p (K x)) λu=>p/\x=u/\K u o.tail
def At(a:ah)(i:Int)(u:af):Prop:=(0<=i/\i<a.length/\a.length<=aL)/\aB a i.toNat=u
def UA(o:List Or)(c k:af)(K:af->List Or->Prop):Prop:=c7 k λi=>(ql c).elim ((D4 c).elim ((vM c).elim False λp=>(oVo o).elim False λu=>dQ i p.1 p.2=some u/\K u o.tail)
 λa=>itS o (0<=i/\i<a.length/\a.length<=aL) (aB a i.toNat) K) λa=>dP (decide (i= -1)) (itS o (0<a.length) (aB a (a.length-1)) K) (itS o (0<=i/\i<a.length/\a.length<=aL) (aB a i.toNat) K)
def gR(c k:af)(u:af):Prop:=c7 k λi=>(ql c).elim ((D4 c).elim ((vM c).elim False λp=>dQ i p.1 p.2=some u) λa=>At a i u) λa=>At a i u
noncomputable def oY(o:List Or):Option af:=Gi 15 o λx h=>Or.y.elim (motive:=λ_=>af) x h id
def ET(o:List Or)(c k:af)(K:af->List Or->Prop):Prop:=(oY o).elim (UA o c k K) λu=>gR c k u/\K u o.tail
def Oc(v:af)(K:af->Prop):Prop:=(Gn v).elim False λs=>dP (decide (s.length<=100)) (K (.str (Txt.strip s))) False
def Y6(v:af)(i j:Int)(K:af->Prop):Prop:=(Gn v).elim False λs=>dP (decide (s.length<=100)) (K (.str (Txt.slice s (some i) (some j)))) False
noncomputable def zR(op:Operator)(a b:Int):Bool:=match op with
 | .Mult=>(decide (-(2^63)<=a)&&decide (a<=2^63))||(decide (-(2^63)<=b)&&decide (b<=2^63))
 | .FloorDiv=>decide (0<b)&&decide (b<=2^63)
 | .Mod=>decide (0<b)
 | .Pow=>decide (0<=b)&&(decide (b<=20)&&decide (a.natAbs<2^400))
 | .LShift=>decide (0<=b)&&(decide (b<=64)&&decide (a.natAbs<2^400))
 | .RShift=>decide (0<=b)&&decide (b<=64)
 | .BitAnd=>decide (0<=a)&&decide (0<=b)
 |_=>false
noncomputable def yi(op:Operator)(a b:Int):Int:=match op with
 | .Mult=>a*b
 | .FloorDiv=>a/b
 | .Mod=>a %b
 | .Pow=>a^b.toNat
 | .LShift=>a*2^b.toNat
 | .RShift=>a/2^b.toNat
 | .BitAnd=>((a.toNat&&&b.toNat:Nat):Int)
 |_=>0
def XX(o:List Or)(r:Int)(K:Int->List Or->Prop):Prop:=((oXv o).bind xF).elim (K r o) λs=>r=s/\K s o.tail
def Sk(o:List Or)(op:Operator)(a b:Int)(K:Int->List Or->Prop):Prop:=match op with
 | .Add=>XX o (a+b) K
 | .Sub=>XX o (a-b) K
 |op=>vU o (zR op a b) λo=>XX o (yi op a b) K
def K6(v:af)(K:af->Prop):Prop:=dP (Gq 0 v) False (K v)
def Od(c:Const)(K:af->Prop):Prop:=(Gr c).elim False K
noncomputable def nv(l:aH):ah:=l.map λi:Nat=>af.int (i:Int)
noncomputable def oN(o:List Or):Option Nat:=Gi 16 o λx h=>Or.n.elim (motive:=λ_=>Nat) x h id
noncomputable def oE(o:List Or):Option Bool:=Gi 17 o λx h=>Or.e.elim (motive:=λ_=>Bool) x h id
noncomputable def oM(o:List Or):Option ((af->ah)×ah):=Gi 18 o λx h=>Or.m.elim (motive:=λ_=>(af->ah)×ah) x h Prod.mk
def K7(o:List Or)(v:af)(K:af->List Or->Prop):Prop:=(oY o).elim (K v o) λu=>v=u/\K u o.tail
def qv(a:ah)(N:Nat):Prop:=a.length=N/\N<=aL
def Y7(o:List Or)(a:ah)(K:af->List Or->Prop):Prop:=(oN o).elim (vU o (a.length<=aL) (K (.int a.length))) λN=>qv a N/\K (.int N) o.tail
def jm(b:Int)(N:Nat):Prop:=b=(N:Int)/\N<=aL
def Y8(o:List Or)(b:Int)(K:ah->List Or->Prop):Prop:=(oN o).elim (vU o (-(aL:Int)<=b/\b<=aL) (K (cB 0 b))) λN=>jm b N/\K (nv (List.range N)) o.tail
def fF(op:CmpOp)(a b:af)(c:Bool):Prop:=xJ op a b λr=>r=c
def Oe(o:List Or)(op:CmpOp)(a b:af)(K:Bool->List Or->Prop):Prop:=(oE o).elim (Y5 op a b λr=>K r o) λc=>fF op a b c/\K c o.tail
def UB(b:ah)(k:Int)(i:Nat):Prop:=∃a:aS,b=a.map .int/\a.length<=aL/\a.findIdx? (·==k)=some i
def UC(b:ah)(m:Int):Prop:=∃a:aS,b=a.map .int/\a.length<=aL/\a.max?=some m
def Jb(o:List Or)(a:ah)(v:af)(K:Nat->ah->List Or->Prop):Prop:=(xG v).elim False λc=>gS o a c λu o=>eZ u λb=>K c b o
noncomputable def oV(o:List Or):af:=(oVo o).getD .ae
noncomputable def Y9(o:List Or):Int:=(xF (oV o)).getD 0
def Za(o:List Or)(K:Nat->List Or->Prop):Prop:=K (Y9 o).toNat o.tail
def Zb(o:List Or)(K:Int->List Or->Prop):Prop:=K (Y9 o) o.tail
def Zc(o:List Or)(K:af->List Or->Prop):Prop:=K (oV o) o.tail
noncomputable def oW(o:List Or):ah×af:=(Gi 9 o λx h=>Or.w.elim (motive:=λ_=>ah×af) x h Prod.mk).getD ([],.ae)
def Zd(o:List Or)(a:ah)(K:ah->af->List Or->Prop):Prop:=a=(oW o).1++[(oW o).2]/\a.length<=aL/\K (oW o).1 (oW o).2 o.tail
def Ze(v:af)(K:aS->Prop):Prop:=(stO v).elim False K
def UD(v:af)(K:aS->ah->Prop):Prop:=(vM v).elim False λp=>K p.1 p.2
noncomputable def oI(o:List Or):aS:=(Gi 10 o λx h=>Or.i.elim (motive:=λ_=>aS) x h id).getD []
def isS(o:List Or)(a:ah)(K:aS->List Or->Prop):Prop:=a=(oI o).map .int/\(oI o).length<64/\K (oI o) o.tail
noncomputable def oH(o:List Or):af->ah:=(Gi 7 o λx h=>Or.h.elim (motive:=λ_=>af->ah) x h id).getD λ_=>[]
def hS(o:List Or)(K:(af->ah)->List Or->Prop):Prop:=K (oH o) o.tail
noncomputable def oK(o:List Or):(af->Int)×(af->af):=(Gi 8 o λx h=>Or.k.elim (motive:=λ_=>(af->Int)×(af->af)) x h Prod.mk).getD (λ_=>0,id)
def kS(o:List Or)(K:(af->Int)->(af->af)->List Or->Prop):Prop:=K (oK o).1 (oK o).2 o.tail
def UE(o:List Or)(v:af)(K:af->List Or->Prop):Prop:=(ql v).elim ((stO v).elim ((vM v).elim False λp=>vU o (p.1.length<64) (K (.list ((dg p.1).map .int)))) λa=>vU o (a.length<64) (K (.list ((dg a).map .int)))) λb=>isS o b λa o=>K (.list ((dg a).map .int)) o
def Sl(X:Cx)(x:Str)(v:af)(K:Prop):Prop:=(VG v).elim False λp=>Gf X x=some p.1/\K
def Sm(v:af)(k:Nat)(K:ah->Prop):Prop:=(D4 v).elim False λa=>dP (decide (a.length=k)) (K a) False
section
variable{X:Cx}{n:Nat}
def eM(k:∀i,Q i->a i)(h:c7 v Q):c7 v a:=rU h id k
def kA(k:∀i,Q i->a i)(h:vN v Q):vN v a:=rU h id k
def Of(k:∀i,Q i->a i)(h:Rr v Q):Rr v a:=rU h (kA λ_=>k _) k
def Bf(k:∀i,Q i->a i)(h:D7 v Q):D7 v a:=Sj h (k _) λh=>Sj h (k _) id
def yj(k:∀i,Q i->a i)(h:uL v Q):uL v a:=rU h (λh=>rU h (λh=>rU h (λh=>Sj h (k _) id) λ_ h=>⟨h.1,k _ h.2⟩) λ_=>k _) k
def Jc(k:∀i,Q i->c i)(h:YA a b Q):YA a b c:=
 rU h (λh=>rU h (λh=>bH h.1 h.2.1 (rU h.2.2 (λh=>rU h id λ_=>k _) λ_=>k _)) λ_=>eM λ_=>k _) λ_=>eM λ_=>k _
def Jd(k:Q->a)(h:Yz v Q):Yz v a:=Sj h k id
def EU(k:∀i,Q i->c i)(h:xJ op a b Q):xJ op a b c:=by
 cases op
 case Eq=>exact⟨h.1,h.2.1,k _ h.2.2⟩
 case NotEq=>exact⟨h.1,h.2.1,k _ h.2.2⟩
 case Is=>exact Jd (Bf k) h
 case IsNot=>exact Jd (Bf λr=>k _) h
 case In=>exact Jc k h
 case NotIn=>exact Jc (λr=>k _) h
 all_goals exact eM (λi=>eM λj=>k _) h
def Og{K:Bool->Prop}(h:eqS a b K):bC 8 a/\bC 8 b/\K (zG a b):=
 gw h (λh=>gw h id λs e h=>gw h id λt c h=>dF h (λq h=>uK e▸uK c▸bJ q λd f=>bH d f h) λ_=>id) λi e h=>gw h id λj c h=>sy e▸sy c▸bH rfl rfl h
def Sn(k:∀i,Q i->c i)(h:Y5 op a b Q):xJ op a b c:=EU k (by
 cases op
 case Eq=>exact Og h
 case NotEq=>exact Og (K:=λr=>Q (!r)) h
 all_goals exact h)
def Oh{K a:af->Prop}(k:∀u,K u->a u)(h:Ja X cells x v K):∃p u,AK cells v=some p/\p.1∈ff X.K/\mT x p.2.1 p.2.2=some u/\a u:=
 cU (oP h) λp e b h=>aj (oP h) λu c h=>lF p u e b c (k _ h)
def Hp[Decidable p]{K:af->List Or->Prop}(h:itS o p x K):p/\∃a,K x a:=gw h d9 λu _ h=>cY h λb c d=>⟨b,_,c▸d⟩
def Oi{K:af->List Or->Prop}(k:∀u b,K u b->Q u)(h:UA o c v K):IH c v Q:=
 eM (λi h=>rU h (λh=>rU h (λh=>rU h id λp h=>cU (oP h) λu _ a h=>ay u a (k _ _ h)) λd h=>aX (Hp h) λa h=>ar h λ_ h=>fL a.1 a.2.1 a.2.2 (k _ _ h))
  λd h=>dF h (λq h=>aX (Hp h) λa h=>ar h λ_ h=>.inr (bH (s5 q) a (k _ _ h))) λ_ h=>aX (Hp h) λa h=>ar h λ_ h=>.inl (fL a.1 a.2.1 a.2.2 (k _ _ h))) h
def Oj{K:af->List Or->Prop}(k:∀u d,K u d->Q u)(h:ET o c v K):IH c v Q:=gw h (Oi k) λu _ e=>aX e λf a=>
 eM (λi h=>rU h (λh=>rU h (λh=>rU h id λp h=>ay u h (k _ _ a)) λb (h:At b i u)=>fL h.1.1 h.1.2.1 h.1.2.2 (h.2▸k _ _ a)) λb (h:At b i u)=>.inl (fL h.1.1 h.1.2.1 h.1.2.2 (h.2▸k _ _ a))) f
def oa{K:af->List Or->Prop}{G:Prop}(h:K7 o v K)(k:∀a,K v a->G):G:=gw h (k _) λu _ h=>aX h λb h=>k _ (b▸h)
def Je{a:ah}{K:af->List Or->Prop}(h:Y7 o a K):a.length<=aL/\∃c,K (.int a.length) c:=gw h d9 λN _ h=>aX h λb h=>aX b λb d=>by
 subst b;exact⟨d,_,h⟩
def Ws{N:Nat}:cB 0 (N:Int)=nv (List.range N):=(v6 (λm:Nat=>(List.range m).map λi:Nat=>af.int (0+i)) (v6 Int.toNat (Int.sub_zero (N:Int)))).trans (TE λi _=>v6 af.int (Int.zero_add _))
def So{K:ah->List Or->Prop}(h:Y8 o b K):(-(aL:Int)<=b/\b<=aL)/\∃a,K (cB 0 b) a:=gw h d9 λN _ c=>aX c λd e=>aX d λf g=>by
 subst f;exact⟨⟨acF (by decide:(-((aL:Nat):Int))<=0) (IR N),acd.mpr g⟩,o.tail,Ws▸e⟩
def xe{K:Bool->List Or->Prop}(k:∀r d,K r d->Q r)(h:Oe o op a b K):xJ op a b Q:=
 gw h (Sn λr=>k r _) λc _ h=>aX h λf h=>EU (Q:=λr=>r=c) (λr e=>e▸k _ _ h) f
def nW.imp(k:∀v,Q v->b v)(h:nW X n f args Q):nW X n f args b:=λA F H c d E a1 a2 g=>aaS (h A F H c d E a1 a2 g) λr o z=>by
 rcases r with e|(_|_|_|v)<;>first|exact z|exact z.elim|skip
 refine gH z λi a j l m q=>?_;exact(lF i a j l m (k _ q))
def mz.imp(k:∀v b,Q v b->c v b)(h:mz X n f args cells Q):mz X n f args cells c:=λA F H d g i E a1 a2 j=>aaS (h A F H d g i E a1 a2 j) λr u z=>by
 rcases r with e|(_|_|_|v)<;>first|exact z|exact z.elim|skip
 refine tc z λl m b a o p s t q=>?_;exact(Kk l m b a o p s t (k _ _ q))
def ba.imp(k:∀v,Q v->a v)(h:ba X n x args Q):ba X n x args a:=cU h λf b c d=>(dC f b c (d.imp k))
def mU.imp(k:∀v,Q v->a v)(h:mU X n C x args Q):mU X n C x args a:=cU h λf b c d=>(dC f b c (d.imp k))
def Ea.imp(k:∀v,Q v->b v)(h:Ea X n f args Q):Ea X n f args b:=λA F H L c d E a1 a2 g i j l=>aaS (h A F H L c d E a1 a2 g i j l) λr w z=>by
 rcases r with e|(_|_|_|v)<;>first|exact z|exact z.elim|skip
 refine BY z λm a o p s t u q=>?_;exact(Ki m a o p s t u (k _ q))
def qm.imp(k:∀v,Q v->a v)(h:qm X n x args Q):qm X n x args a:=cU h λf b c d=>(dC f b c (d.imp k))
def qn.imp(k:∀v a,Q v a->b v a)(h:qn X n C x args cells Q):qn X n C x args cells b:=aj h λf c d=>(ay f c (d.imp k))
def ie.imp(k:∀v a,Q v a->b v a)(h:ie X n x args cells Q):ie X n x args cells b:=aj h λf c d=>(ay f c (d.imp k))
def Hq{r:Int}{K:Int->List Or->Prop}{Q:Int->Prop}(k:∀r a,K r a->Q r)(h:XX o r K):Q r:=gw h (k _ _) λs _ h=>aX h λb c=>k _ _ (b▸c)
def Hr{p:Bool}{r:Int}{G:Prop}{K:Int->List Or->Prop}{Q:Int->Prop}(k:∀r a,K r a->Q r)(h:vU o (p) λo=>XX o r K)(l:p->Q r->G):G:=aX (d9 h) λb h=>ar h λ_ h=>l b (Hq k h)
def Sp{K:Int->List Or->Prop}(k:∀r f,K r f->Q r)(h:Sk o op a b K):VH op a b Q:=by
 cases op
 case Add=>exact Hq k h
 case Sub=>exact Hq k h
 case Mult=>exact Hr k h λc h=>⟨(aaV.mp c).imp (λh=>(a2 h).imp s5 s5) λh=>(a2 h).imp s5 s5,h⟩
 case FloorDiv=>exact Hr k h λc h=>bJ c λc d=>bH (s5 c) (s5 d) h
 case Mod=>exact Hr k h λc h=>⟨s5 c,h⟩
 case Pow=>exact Hr k h λc h=>bJ c λc d=>bJ d λd e=>fL (s5 c) (s5 d) (s5 e) h
 case LShift=>exact Hr k h λc h=>bJ c λc d=>bJ d λd e=>fL (s5 c) (s5 d) (s5 e) h
 case RShift=>exact Hr k h λc h=>bJ c λc d=>bH (s5 c) (s5 d) h
 case BitAnd=>exact Hr k h λc h=>bJ c λc d=>bH (s5 c) (s5 d) h
 all_goals exact Bool.noConfusion (d9 (p:=false) (K:=λo=>XX o 0 K) h).1
def CD{K:af->Prop}(h:K6 v K):v≠ .ae/\K v:=dF h (λ_=>False.elim) λe h=>⟨λq=>Bool.noConfusion ((v6 (Gq 0) q).symm.trans e),h⟩
def K8{K:af->Prop}(h:Od c K):∃v,Gr c=some v/\K v:=oP h
def K9{K:af->Prop}(h:Oc v K):∃s,v=.str s/\s.length<=100/\K (.str (Txt.strip s)):=aj (oP h) λs e h=>dF h (λq h=>dC s (uK e) (s5 q) h) λ_=>False.elim
def Sq{K:af->Prop}(h:Y6 v i j K):∃s,v=.str s/\s.length<=100/\K (.str (Txt.slice s (some i) (some j))):=aj (oP h) λs e h=>dF h (λq h=>dC s (uK e) (s5 q) h) λ_=>False.elim
def Sr{K:aS->Prop}(h:Ze v K):∃a,v=.set a/\K a:=aj (oP h) λs e h=>ay s (MV e) h
def Ol{K:aS->ah->Prop}(h:UD v K):∃a b,v=.dict a b/\K a b:=aj (oP h) λs e h=>j6 _ _ (te e) h
def yl{K:Nat->ah->List Or->Prop}(h:Jb o cells v K):∃c a b,v=.cell c/\aB cells c=.list a/\K c a b:=aj (oP h) λc e h=>ar (ES h) λ_ h=>aj (cD h) λa d h=>uI c a _ (wW e) d h
def Ss{K:Nat->List Or->Prop}(h:Za o K):∃i a,K i a:=DV _ _ h
def Su{K:Int->List Or->Prop}(h:Zb o K):∃i a,K i a:=DV _ _ h
def Sv{K:af->List Or->Prop}(h:Zc o K):∃i a,K i a:=DV _ _ h
def Zf{K:(af->ah)->List Or->Prop}(h:hS o K):∃i a,K i a:=DV _ _ h
def Zg{K:(af->Int)->(af->af)->List Or->Prop}(h:kS o K):∃i j a,K i j a:=VA _ _ _ h
def Sw{a:ah}{K:ah->af->List Or->Prop}(h:Zd o a K):∃l u b,a=l++[u]/\a.length<=aL/\K l u b:=uI _ _ _ h.1 h.2.1 h.2.2
def Om{K:aS->List Or->Prop}(h:isS o xs K):∃a b,xs=a.map .int/\a.length<64/\K a b:=uH _ _ h.1 h.2.1 h.2.2
def Jf(h:dP b P False):b/\P:=dF h (λq h=>⟨q,h⟩) λ_=>False.elim
def Sy{K:ah->Prop}(h:Sm v k K):∃a,v=.tuple a/\a.length=k/\K a:=aj (oP h) λs e h=>dF h (λq h=>dC s (sA e) (s5 q) h) λ_=>False.elim
end
noncomputable def Zh(K:Frag)(S:a0)(x:Str)(v:af):Bool:=(mV K S x).any (IJ v)
def Ht(h:dP b p q)(e:b):p:=by subst e;exact h
def La(h:dP b p q)(e:b=false):q:=by subst e;exact h
noncomputable def noStar(as:List aD):Bool:= !as.any aK
def PcH(X:Cx)(A:Around)(n:Nat)(a:Env):Prop:=∀(S:a0) (E:dy) (x:Str) (p q:Pos) (as:List aD) (Q:af->St->Prop) (b:St),Rh X.K S x->noStar as->
 fE X S a A E (spliced (backTo q (starEach as a))) (λc b=>qm X n x c (λv=>Q v b)) b->aU X S a A E (eval (.Call (.Name x p) as [] q) a) Q b
def abO(X:Cx)(A:Around)(n:Nat)(a:Env):Prop:=100<=n->PcH X A n a
structure Cf where
 X:Cx
 A:Around
 n:Nat
 S:a0
 env:Env
 E:Value->Shared->Prop
 ok:fi S=true
 lv:Lv A n
 abP:abO X A n env
noncomputable abbrev oZ:=List Or
noncomputable abbrev KV:=af->St->oZ->Prop
abbrev Cf.Ev(c:Cf)(t:Sem Value)(Q:af->St->Prop)(a:St):Prop:=aU c.X c.S c.env c.A c.E t Q a
abbrev Cf.Ts(c:Cf)(t:Sem Bool)(Q:Bool->St->Prop)(a:St):Prop:=g8 c.X c.S c.env c.A c.E t Q a
def Lb:Lean.Syntax:=(Lean.Unhygienic.run `(tactic|kernel_rfl)).raw
def Oo:Lean.Syntax:=(Lean.Unhygienic.run `(tactic|rfl)).raw
def tDc:Lean.Syntax:=(Lean.Unhygienic.run `(tactic|decide)).raw
structure DE where
 bl:a0->PySem.Expr->PySem.Expr
 bQ:Frag->a0->PySem.Expr->Bool
 e:Cx->Nat->St->oZ->KV->Prop
 b:Cx->Nat->St->oZ->(Bool->St->oZ->Prop)->Prop:=λ_ _ _ _ _=>False
 oe:∀(c:Cf) x,bQ c.X.K c.S x->∀st o K,e c.X c.n st o K->c.Ev (eval (bl c.S x) c.env) (λv st=>∃o,K v st o) st
 ob:∀(c:Cf) x,bQ c.X.K c.S x->∀st o K,b c.X c.n st o K->c.Ts (isTrue (bl c.S x) c.env (eval (bl c.S x) c.env)) (λv st=>∃o,K v st o) st
section
variable{c:Cf}{b:St}{o:oZ}{x:aD}
def DE.m(a:DE)(h:a.bQ c.X.K c.S x){K:KV}(w:a.e c.X c.n b o K)(k:∀v b o,K v b o->Q v b):c.Ev (eval (a.bl c.S x) c.env) Q b:=(a.oe c x h b o K w).aT λv b z=>z.elim (k v b)
def DE.t(a:DE)(h:a.bQ c.X.K c.S x){K:Bool->St->oZ->Prop}(w:a.b c.X c.n b o K)(k:∀v b o,K v b o->Q v b):c.Ts (isTrue (a.bl c.S x) c.env (eval (a.bl c.S x) c.env)) Q b:=(a.ob c x h b o K w).aT λv b z=>z.elim (k v b)
abbrev DE.E(a:DE)(X:Cx)(n:Nat)(b:St)(Q:af->St->Prop):Prop:=∃o K,a.e X n b o K/\∀v b d,K v b d->Q v b
abbrev DE.B(a:DE)(X:Cx)(n:Nat)(b:St)(Q:Bool->St->Prop):Prop:=∃o K,a.b X n b o K/\∀v b d,K v b d->Q v b
def DE.oE(a:DE)(h:a.bQ c.X.K c.S x)(w:a.E c.X c.n b Q):c.Ev (eval (a.bl c.S x) c.env) Q b:=dm w λ_ _ w k=>a.m h w k
def DE.oB(a:DE)(h:a.bQ c.X.K c.S x)(w:a.B c.X c.n b Q):c.Ts (isTrue (a.bl c.S x) c.env (eval (a.bl c.S x) c.env)) Q b:=dm w λ_ _ w k=>a.t h w k
end
noncomputable def DE.tv(a:DE)(g:autoParam ((λS x f w=>isTrue (a.bl S x) f w)=λS x f w=>(do let v<-w;standAt (a.bl S x).pos;holding [v] (truthy v))) Oo):DE:=
 ⟨a.bl,a.bQ,a.e,λX n d o K=>a.e X n d o λv d o=>uL (aO d.cells v) λb=>K b d o,a.oe,λc x h d o K w=>Nh (a.m h w λv d o=>yj λb h=>⟨o,h⟩) (congrFun (congrFun (congrFun (congrFun g _) _) _) _)⟩
noncomputable def DE.aC(i:Nat):DE where
 bl S x:=.Name (sC S i) x.pos
 bQ _ S _:=rT S (sC S i) i
 e _ _ st o K:=K6 (aB st.aC i) λv=>K v st o
 b _ _ st o K:=K6 (aB st.aC i) λv=>dS o st.cells v λu o=>uL u λb=>K b st o
 oe c x h st o K w:=aX (CD w) λa w=>qs c.ok h ⟨a,o,w⟩
 ob c x h st o K w:=aX (CD w) λa w=>ar (oX w) λo w=>Nh (qs c.ok h ⟨a,yj (λb h=>⟨o,h⟩) w⟩) rfl
noncomputable def DE.frz(i:Nat):DE where
 bl S x:=.Name (sC S i) x.pos
 bQ _ S _:=rT S (sC S i) i
 e _ _ st o K:=K6 (aB (st.aC.map (iI st.cells)) i) λv=>K v ⟨st.aC.map (iI st.cells),st.cells.map λ_=>.ae⟩ o
 ob _ _ _ _ _ _ w:=w.elim
 oe c x h st o K w:=aX (CD w) λa w=>VK c.ok h ⟨a,o,w⟩
noncomputable def DE.cj(k:Const):DE where
 bl S x:=.Constant k (VJ x) x.pos
 bQ _ _ _:=true
 e _ _ st o K:=Od k λv=>K v st o
 ob _ _ _ _ _ _ w:=w.elim
 oe c x h st o K w:=Nd (aj (K8 w) λv h w=>ay v h ⟨o,w⟩)
noncomputable def DE.kP(x:Str)(v:af):DE where
 bl _ e:=.Name x e.pos
 bQ K S _:=Zh K S x v
 e _ _ st o K:=K v st o
 ob _ _ _ _ _ _ w:=w.elim
 oe c _ h st o K w:=aj (AM h) λu q h=>Rv q h ⟨o,w⟩
noncomputable def DE.neg(a:DE):DE where
 bl S x:=.UnaryOp .USub (a.bl S (cx x 0)) x.pos
 bQ K S x:=a.bQ K S (cx x 0)
 e X n d o K:=a.e X n d o λv d o=>c7 v λi=>K (.int (-i)) d o
 ob _ _ _ _ _ _ w:=w.elim
 oe c x h d o K w:=VL (a.m h w λv d o=>eM λi h=>⟨o,h⟩)
noncomputable def DE.not(a:DE):DE where
 bl S x:=.UnaryOp .Not (a.bl S (cx x 0)) x.pos
 bQ K S x:=a.bQ K S (cx x 0)
 e X n d o K:=a.e X n d o λv d o=>vN v λi=>K (.bool (!i)) d o
 b X n d o K:=a.b X n d o λb d o=>K (!b) d o
 oe c x h d o K w:=VM (a.m h w λv d o=>kA λi h=>⟨o,h⟩)
 ob c x h d o K w:=VO (a.t h w λv d o h=>⟨o,h⟩)
noncomputable def DE.dB(op:Operator)(a b:DE):DE:=.tv {
 bl:=λS x=>.BinOp (a.bl S (cx x 0)) op (b.bl S (cx x 1)) x.pos
 bQ:=λK S x=>a.bQ K S (cx x 0)&&b.bQ K S (cx x 1)
 e:=λX n d o K=>a.e X n d o λf d o=>b.e X n d o λg d o=>c7 f λi=>c7 g λj=>Sk o op i j λr o=>K (.int r) d o
 ob:=λ_ _ _ _ _ _ w=>w.elim
 oe:=λc x h d o K w=>bJ h λk l=>VN (a.m k w λv d o w=>b.m l w λu d o=>eM λi=>eM λj=>Sp λr o h=>⟨o,h⟩)}
noncomputable def DE.cO(op:CmpOp)(a b:DE):DE where
 bl S x:=.Compare (a.bl S (cx x 0)) [op] [b.bl S (cx x 1)] x.pos
 bQ K S x:= !behindInMarks op (b.bl S (cx x 1))&&(a.bQ K S (cx x 0)&&b.bQ K S (cx x 1))
 e X n d o K:=a.e X n d o λf d o=>b.e X n d o λg d o=>dS o d.cells f λx o=>dS o d.cells g λy o=>Oe o op x y λr o=>K (.bool r) d o
 b X n d o K:=a.e X n d o λf d o=>b.e X n d o λg d o=>dS o d.cells f λx o=>dS o d.cells g λy o=>Oe o op x y λr o=>K r d o
 oe c x h d o K w:=bJ h λj h=>bJ h λk l=>VQ c.lv (nt j) (a.m k w λv d o w=>b.m l w λu d o w=>ar (oX w) λo w=>ar (oX w) λo w=>xe (λr o h=>⟨o,h⟩) w)
 ob c x h d o K w:=bJ h λj h=>bJ h λk l=>VR c.lv (nt j) (a.m k w λv d o w=>b.m l w λu d o w=>ar (oX w) λo w=>ar (oX w) λo w=>xe (λr o h=>⟨o,h⟩) w)
noncomputable def DE.Zj(p q:CmpOp)(a b d:DE):DE where
 bl S x:=.Compare (a.bl S (cx x 0)) [p,q] [b.bl S (cx x 1),d.bl S (cx x 2)] x.pos
 bQ K S x:= !behindInMarks q (d.bl S (cx x 2))&&(a.bQ K S (cx x 0)&&(b.bQ K S (cx x 1)&&d.bQ K S (cx x 2)))
 e _ _ _ _ _:=False
 b X n f o K:=a.e X n f o λj f o=>b.e X n f o λg f o=>Oe o p (aO f.cells j) (aO f.cells g) λr o=>Y4 o r λr o=>dP r (d.e X n f o λk f o=>Oe o q (aO f.cells g) (aO f.cells k) λr o=>K r f o) (K false f o)
 oe c x h f o K w:=w.elim
 ob c x h f o K w:=bJ h λl h=>bJ h λy h=>bJ h λz A=>Ry c.lv (nt l) (a.m y w λv f o w=>b.m z w λu f o w=>xe (λr o w=>ar (CC w) λo w=>⟨λe=>⟨o,La w e⟩,λe=>d.m A (Ht w e) λv f o w=>xe (λr o h=>⟨o,h⟩) w⟩) w)
noncomputable def DE.ite(t a b:DE):DE where
 bl S x:=.IfExp (t.bl S (cx x 0)) (a.bl S (cx x 1)) (b.bl S (cx x 2)) x.pos
 bQ K S x:=t.bQ K S (cx x 0)&&(a.bQ K S (cx x 1)&&b.bQ K S (cx x 2))
 e X n d o K:=t.b X n d o λr d o=>Y4 o r λr o=>dP r (a.e X n d o K) (b.e X n d o K)
 ob _ _ _ _ _ _ w:=w.elim
 oe c x h d o K w:=bJ h λf h=>bJ h λg j=>VP (t.t f w λr d o w=>ar (CC w) λo w=>⟨λe=>a.oe c _ g _ _ _ (Ht w e),λe=>b.oe c _ j _ _ _ (La w e)⟩)
noncomputable def DE.cK(a:DE)(y:Str):DE:=.tv {
 bl:=λS x=>.Attribute (a.bl S (cx x 0)) y x.pos
 bQ:=λK S x=>eK (a.bl S (cx x 0))&&(Na K y&&a.bQ K S (cx x 0))
 e:=λX n d o K=>a.e X n d o λv d o=>Ja X d.cells y v λu=>K u d o
 ob:=λ_ _ _ _ _ _ w=>w.elim
 oe:=λc x h d o K w=>bJ h λf h=>bJ h λg j=>RB f g (a.m j w λv d o=>Oh λu h=>⟨o,h⟩)}
noncomputable def DE.item(a i:DE):DE:=.tv {
 bl:=λS x=>.Subscript (a.bl S (cx x 0)) (i.bl S (cx x 1)) x.pos
 bQ:=λK S x=> !th (i.bl S (cx x 1))&&(a.bQ K S (cx x 0)&&i.bQ K S (cx x 1))
 e:=λX n d o K=>a.e X n d o λv d o=>i.e X n d o λk d o=>dS o d.cells v λc o=>ET o c k λu o=>K u d o
 ob:=λ_ _ _ _ _ _ w=>w.elim
 oe:=λc x h d o K w=>bJ h λf h=>bJ h λg j=>RI (nt f) (a.m g w λv d o w=>i.m j w λk d o w=>ar (oX w) λo w=>Oj (λu o h=>⟨o,h⟩) w)}
noncomputable def DE.Wt(a i j:DE):DE where
 bl S x:=.Subscript (a.bl S (cx x 0)) (.Slice (some (i.bl S (cx (cx x 1) 0))) (some (j.bl S (cx (cx x 1) 1))) none (cx x 1).pos) x.pos
 bQ K S x:=a.bQ K S (cx x 0)&&(i.bQ K S (cx (cx x 1) 0)&&j.bQ K S (cx (cx x 1) 1))
 e X n d o K:=a.e X n d o λv d o=>i.e X n d o λi d o=>j.e X n d o λj d o=>c7 i λi=>c7 j λj=>Y6 v i j λu=>K u d o
 ob _ _ _ _ _ _ w:=w.elim
 oe c x h d o K w:=bJ h λf h=>bJ h λg r=>Ku (a.m f w λv d o w=>i.m g w λk d o w=>j.m r w λl d o w=>aj (fk w) λp y w=>aj (fk w) λq z w=>cU (Sq w) λs A C w=>BZ s p q A y z C ⟨o,w⟩)
noncomputable def Wu(op:Bool):BoolOp:=match op with|true=>.And|false=>.Or
structure je where
 bl:a0->List PySem.Expr->List PySem.Expr
 bQ:Frag->a0->List PySem.Expr->Bool
 z:Bool
 hn:z->∀S x,bl S x=[]
 hc:z=false->∀S x,∃a l,bl S x=a::l
 es:Cx->Nat->St->oZ->(List af->St->oZ->Prop)->Prop
 an:Bool->Cx->Nat->St->oZ->(Bool->St->oZ->Prop)->Prop
 av:Bool->Cx->Nat->St->oZ->(Bool->St->oZ->Prop)->Prop
 oes:∀(c:Cf) x,bQ c.X.K c.S x->noStar (bl c.S x)->∀p st o K,es c.X c.n st o K->fE c.X c.S c.env c.A c.E (spliced (backTo p (starEach (bl c.S x) c.env))) (λv st=>∃o,K v st o) st
 XY:∀(c:Cf) x,bQ c.X.K c.S x->∀op st o K,an op c.X c.n st o K->c.Ts (allTrue (Wu op) (bl c.S x) c.env) (λv st=>∃o,K v st o) st
 Zk:∀(c:Cf) x,bQ c.X.K c.S x->z=false->∀op p st o K,av op c.X c.n st o K->c.Ev (boolOp p (Wu op) (evalEach (bl c.S x) c.env)) (bP λb st=>∃o,K b st o) st
 ots:∀(c:Cf) x,bQ c.X.K c.S x->∀st o K,an true c.X c.n st o K->c.Ts (forIn (bl c.S x) true (vT c.env)) (λv st=>∃o,K v st o) st
noncomputable def je.nil:je where
 bl _ _:=[]
 bQ _ _ x:=Ef x
 z:=true
 hn _ _ _:=rfl
 hc h:=Bool.noConfusion h
 es _ _ st o K:=K [] st o
 an op _ _ st o K:=K op st o
 av op _ _ st o K:=K op st o
 oes c x h _ p st o K w:=rv ⟨o,w⟩
 XY c x h op st o K w:=by
  cases op with
  |true=>exact GI ⟨o,w⟩
  |false=>exact Ko ⟨o,w⟩
 Zk c x h q:=Bool.noConfusion q
 ots c x h st o K w:=n9 ⟨o,w⟩
def vW(h:noStar (a::as)):aK a=false/\noStar as:=aX (ab2.mp (nt h:(aK a||as.any aK)=false)) λb c=>⟨b,v6 (!·) c⟩
def anS(op nil:Bool)(o:oZ)(b:Bool)(k:Bool->oZ->Prop)(K:oZ->Prop):Prop:=dP nil (k b o) (Y4 o b λb o=>dP (b==op) (K o) (k b o))
def Sz{c:Cf}{a:St}(h:c.Ts (isTrue e c.env (eval e c.env)) (λb a=>(b= !op->Q b a)/\(b=op->c.Ts (allTrue (Wu op) l c.env) Q a)) a):c.Ts (allTrue (Wu op) (e::l) c.env) Q a:=by
 cases op with
 |true=>exact Em (h.aT λb a w=>⟨λq=>q▸w.1 q,w.2⟩)
 |false=>exact GJ (h.aT λb a w=>⟨λq=>q▸w.1 q,w.2⟩)
def Oq{c:Cf}{a:St}(b:l=[])(h:c.Ev (eval e c.env) Q a):c.Ev (boolOp p (Wu op) (evalEach (e::l) c.env)) Q a:=by subst b;exact h
def Ld{c:Cf}{d:St}(f:∃a r,l=a::r)(h:c.Ev (eval e c.env) (bP λb d=>(b= !op->Q b d)/\(b=op->c.Ev (boolOp p (Wu op) (evalEach l c.env)) (bP Q) d)) d):
  c.Ev (boolOp p (Wu op) (evalEach (e::l) c.env)) (bP Q) d:=pU f λa r e=>by
 subst e;cases op with
 |true=>exact En (h.aT λv d=>kA λb w=>⟨λq=>q▸w.1 q,w.2⟩)
 |false=>exact GK (h.aT λv d=>kA λb w=>⟨λq=>q▸w.1 q,w.2⟩)
def Hu{a:St}{K:Bool->St->oZ->Prop}(w:anS op nil o b (λb o=>K b a o) R)(c:nil->(∃o,K op a o)->G)(d:nil=false->∀o,R o->G):(b= !op->∃o,K b a o)/\(b=op->G):=
 dF w (λq w=>⟨λ_=>⟨o,w⟩,λe=>c q ⟨o,e▸w⟩⟩) λq w=>ar (CC w) λo w=>⟨λe=>⟨o,La w (e▸by cases op<;>rfl)⟩,λe=>d q o (Ht w (e▸by cases b<;>rfl))⟩
noncomputable def je.cons(a:DE)(l:je):je where
 bl S x:=a.bl S (x.headD default)::l.bl S x.tail
 bQ K S x:=a.bQ K S (x.headD default)&&l.bQ K S x.tail
 z:=false
 hn h:=Bool.noConfusion h
 hc _ _ _:=⟨_,_,rfl⟩
 es X n d o K:=a.e X n d o λv d o=>l.es X n d o λg d o=>K (v::g) d o
 an op X n d o K:=a.b X n d o λb d o=>anS op l.z o b (λb o=>K b d o) λo=>l.an op X n d o K
 av op X n d o K:=a.e X n d o λv d o=>vN v λb=>anS op l.z o b (λb o=>K b d o) λo=>l.av op X n d o K
 oes c x h hs p d o K w:=bJ h λe f=>tp (vW hs).1 (a.m e w λv d o w=>l.oes c _ f (vW hs).2 p _ _ _ w)
 XY c x h op d o K w:=bJ h λe f=>Sz (a.t e w λb d o w=>Hu w (λq z=>l.hn q c.S x.tail▸z.elim λo z=>je.nil.XY c [] rfl op d o K z) λ_ o w=>l.XY c _ f op _ o K w)
 Zk c x h _ op p d o K w:=bJ h λe f=>(Bool.eq_false_or_eq_true l.z).elim (λq=>Oq (l.hn q _ _) (a.m e w λv d o=>kA λb w=>⟨o,Ht w q⟩))
  λq=>Ld (l.hc q _ _) (a.m e w λv d o=>kA λb w=>Hu w (λz=>bx z q) λ_ o w=>l.Zk c _ f q op p _ o K w)
 ots c x h d o K w:=bJ h λe f=>zO ((a.t e w λb d o w=>Hu w (λq z=>l.hn q c.S x.tail▸n9 z) λ_ o w=>l.ots c _ f _ o K w).aT λb d w=>⟨λq=>q▸w.1 q,w.2⟩)
abbrev je.An(l:je)(X:Cx)(n:Nat)(a:St)(Q:Bool->St->Prop):Prop:=∃o K,l.an true X n a o K/\∀v a b,K v a b->Q v a
noncomputable def DE.and(l:je):DE where
 bl S x:=.BoolOp .And (l.bl S (j7 x)) x.pos
 bQ K S x:= !l.z&&l.bQ K S (j7 x)
 e X n a o K:=l.av true X n a o λb a o=>K (.bool b) a o
 b X n a o K:=l.an true X n a o K
 oe c x h a o K w:=bJ h λf d=>(l.Zk c _ d (nt f) true x.pos _ _ _ w).aT λv a z=>aj (kq z) λb e z=>e▸z
 ob c x h a o K w:=bJ h λf d=>VS (l.XY c _ d true _ _ _ w)
noncomputable def DE.or(l:je):DE where
 bl S x:=.BoolOp .Or (l.bl S (j7 x)) x.pos
 bQ K S x:= !l.z&&l.bQ K S (j7 x)
 e X n a o K:=l.av false X n a o λb a o=>K (.bool b) a o
 b X n a o K:=l.an false X n a o K
 oe c x h a o K w:=bJ h λf d=>(l.Zk c _ d (nt f) false x.pos _ _ _ w).aT λv a z=>aj (kq z) λb e z=>e▸z
 ob c x h a o K w:=bJ h λf d=>YK (l.XY c _ d false _ _ _ w)
def Jg{o:Option Value}(h:(o.bind MZ).any p):∃f,o=some (.ref f)/\p f:=aj (AM h) λf e h=>aj (TD.mp e) λu a b=>ay f (M0 b▸a) h
def Bg{X:Cx}(h:Rh X.K S x):∃f,mV X.K S x=some (.ref f)/\keepIn X.K (.ref f):=aj (Jg h) λf e h=>ay f e (a2 h).1
def ym{X:Cx}(h:Eg X.K S x):∃f,mV X.K S x=some (.ref f)/\keepIn X.K (.ref f):=aj (Jg h) λf e h=>ay f e (a2 h).1
noncomputable def DE.nc(x:Str)(l:je)(g:Frag->a0->Str->Bool)(e:Cx->Nat->St->oZ->KV->Prop)
  (oe:∀(c:Cf) y,g c.X.K c.S x->noStar (l.bl c.S y)->l.bQ c.X.K c.S y->∀p q a o K,e c.X c.n a o K->c.Ev (eval (.Call (.Name x p) (l.bl c.S y) [] q) c.env) (λv a=>∃o,K v a o) a):DE where
 bl S y:=.Call (.Name x (cx y 0).pos) (l.bl S (j7 y).tail) [] y.pos
 bQ K S y:=g K S x&&(noStar (l.bl S (j7 y).tail)&&l.bQ K S (j7 y).tail)
 e:=e
 ob _ _ _ _ _ _ w:=w.elim
 oe c y h a o K w:=bJ h λd h=>bJ h λf j=>oe c _ d f j _ _ a o K w
section
variable{c:Cf}{a:St}{o:oZ}{x:List aD}
def je.m(l:je)(h:l.bQ c.X.K c.S x)(b:noStar (l.bl c.S x)){K:ah->St->oZ->Prop}(w:l.es c.X c.n a o K)(k:∀v a o,K v a o->Q v a):
  fE c.X c.S c.env c.A c.E (spliced (backTo p (starEach (l.bl c.S x) c.env))) Q a:=(l.oes c x h b p a o K w).aT λv a z=>z.elim (k v a)
end
def pf{K:af->oZ->Prop}(w:vV o (ba X n x a) K):ba X n x a λv=>∃o,K v o:=aj (yh w) λP p q=>ba.imp q p
noncomputable def DE.call(x:Str)(l:je):DE:=.tv (.nc x l Rh (λX n a o K=>l.es X n a o λd a o=>vV o (ba X n x d) λv o=>K v a o)
 λc y g f h p q a o K w=>Cb c.lv (Bg g) (nt f) (l.m h f w λd a o w=>pf w))
noncomputable def DE.new(x:Str)(l:je):DE:=.nc x l Eg (λX n a o K=>l.es X n a o λd a o=>vV o (ba X n x d) λv o=>K v a o)
 λc y g f h p q a o K w=>Cb c.lv (ym g) (nt f) (l.m h f w λd a o w=>pf w)
noncomputable def DE.fb(x:Str)(l:je):DE:=.nc x l Rh (λX n a o K=>l.es X n a o λd a o=>Ob o (ie X n x d a.cells) λv g o=>K v ⟨a.aC,g⟩ o)
 λc y h f j p q a o K w=>Ni c.lv (Bg h) (nt f) (l.m j f w λd a o w=>aj (ER w) λP p q=>ie.imp q p)
noncomputable def DE.UG(x:Str)(l:je):DE:=.nc x l Rh (λX n a o K=>l.es X n a o λf a o=>100<=n/\vV o (qm X n x f) λv o=>K v a o)
 λc y g d h p q a o K w=>Decidable.byCases (λz:100<=c.n=>c.abP z _ _ _ _ _ _ _ _ g d (l.m h d w λf a o w=>aj (yh w.2) λP p q=>qm.imp q p))
  λz=>Cb c.lv (Bg g) (nt d) (l.m h d w λf a o w=>absurd w.1 z)
def Wv(X:Cx)(n:Nat)(a:ah)(m:Str)(b:af)(K:Addr->Prop):Prop:=
 (AK a b).elim False λp=>p.1∈ff X.K/\(mT m p.2.1 p.2.2).elim (VI X p.1 m/\K p.1) λ_=>False
def abR{b:Type}{o:Option b}(h:o.elim p λ_=>False):o=none/\p:=by
 cases o with
 |none=>exact⟨rfl,h⟩
 |some a=>exact h.elim
def Jh{a:St}{K:Addr->Prop}(k:∀C,K C->Q C b a)(h:Wv X n a.cells m b K):RC X m Q b a:=
 cU (oP h) λp e c h=>cY (abR h) λd f h=>aa8 p e c d f (k _ h)
noncomputable abbrev abS(a:DE)(m:Str)(l:a0->List aD->List aD)(S:a0)(x:aD):aD:=.Call (.Attribute (a.bl S (cx (cx x 0) 0)) m (cx x 0).pos) (l S (j7 x).tail) [] x.pos
noncomputable abbrev abT(a:DE)(f:Frag->a0->List aD->Bool)(K:Frag)(S:a0)(x:aD):Bool:=eK (a.bl S (cx (cx x 0) 0))&&(ig (cx x 0).pos x.pos&&(a.bQ K S (cx (cx x 0) 0)&&f K S (j7 x).tail))
noncomputable def DE.mc(a:DE)(m:Str)(l:a0->List aD->List aD)(f:Frag->a0->List aD->Bool)(e:Cx->Nat->St->oZ->KV->Prop)
  (oe:∀(c:Cf) x y q p,eK (a.bl c.S x)->ig q p->a.bQ c.X.K c.S x->f c.X.K c.S y->∀d o K,e c.X c.n d o K->c.Ev (eval (.Call (.Attribute (a.bl c.S x) m q) (l c.S y) [] p) c.env) (λv d=>∃o,K v d o) d):DE where
 bl:=abS a m l
 bQ:=abT a f
 e:=e
 ob _ _ _ _ _ _ w:=w.elim
 oe c x h d o K w:=bJ h λg h=>bJ h λj h=>bJ h λk n=>oe c _ _ _ _ g j k n d o K w
noncomputable def DE.gd(a:DE)(m:Str)(l:je):DE:=.mc a m l.bl (λK S y=>Eh K m&&(noStar (l.bl S y)&&(decide ((l.bl S y).length<20)&&l.bQ K S y)))
 (λX n d o K=>a.e X n d o λf d o=>Wv X n d.cells m f λC=>l.es X n d o λg d o=>vV o (mU X n C m (f::g)) λv o=>K v d o)
 λc x y q p k r u z d o K w=>bJ z λA h=>bJ h λj h=>bJ h λD F=>RE c.lv k A (nt j) (s5 D) r (a.m u w λf d o=>Jh λC w=>l.m F j w λg d o w=>aj (yh w) λP p q=>mU.imp q p)
noncomputable def DE.Ot(a:DE)(m:Str)(l:je):DE:=.mc a m l.bl (λK S y=>Eh K m&&(noStar (l.bl S y)&&(decide ((l.bl S y).length<20)&&l.bQ K S y)))
 (λX n d o K=>a.e X n d o λf d o=>Wv X n d.cells m f λC=>l.es X n d o λg d o=>Ob o (qn X n C m (f::g) d.cells) λv k o=>K v ⟨d.aC,k⟩ o)
 λc x y q p r u z A d o K w=>bJ A λD h=>bJ h λj h=>bJ h λF G=>Nk c.lv r D (nt j) (s5 F) u (a.m z w λf d o=>Jh λC w=>l.m G j w λg d o w=>aj (ER w) λP p q=>qn.imp q p)
noncomputable abbrev c1(a:DE)(K:Frag)(S:a0)(l:List aD):Bool:= !aK (a.bl S (l.headD default))&&a.bQ K S (l.headD default)
noncomputable abbrev a1(a:DE)(S:a0)(l:List aD):List aD:=[a.bl S (l.headD default)]
noncomputable def DE.b1(f:Str)(u:Value)(a:DE)(e:Cx->Nat->St->oZ->KV->Prop)
  (oe:∀(c:Cf) x,gZ c.X.K c.S f u->aK (a.bl c.S x)=false->a.bQ c.X.K c.S x->∀p q d o K,e c.X c.n d o K->c.Ev (eval (.Call (.Name f p) [a.bl c.S x] [] q) c.env) (λv d=>∃o,K v d o) d):DE where
 bl S x:=.Call (.Name f (cx x 0).pos) [a.bl S (cx x 1)] [] x.pos
 bQ K S x:=gZ K S f u&&(!aK (a.bl S (cx x 1))&&a.bQ K S (cx x 1))
 e:=e
 ob _ _ _ _ _ _ w:=w.elim
 oe c x h d o K w:=bJ h λg h=>bJ h λj k=>oe c _ g (nt j) k _ _ d o K w
def abU(v:af)(K:ah->Prop):Prop:=(ql v).elim ((D4 v).elim False K) K
noncomputable def DE.cS(a:DE):DE:=.b1 "len" (.builtin "len") a (λX n d o K=>a.e X n d o λv d o=>dS o d.cells v λx o=>abU x λf=>Y7 o f λv o=>K v d o)
 λc x g j k p q d o K w=>VU g j (a.m k w λv d o w=>ar (oX w) λo w=>gw w (λw=>aj (oP w) λf e w=>aX (Je (K:=λu o=>K u d o) w) λh w=>dC f (.inr (sA e)) h w) λf e w=>aX (Je (K:=λu o=>K u d o) w) λh w=>dC f (.inl (hZ e)) h w)
noncomputable def DE.abs(a:DE):DE:=.b1 "abs" (.builtin "abs") a (λX n d o K=>a.e X n d o λv d o=>c7 v λi=>K (.int i.natAbs) d o)
 λc x f g h p q d o K w=>VX f g (a.m h w λv d o w=>aj (fk w) λi e w=>ay i e ⟨o,w⟩)
noncomputable def DE.o3(a:DE):DE:=.b1 "int" (.type "int") a (λX n d o K=>a.e X n d o λv d o=>Rr v λi=>K (.int i) d o)
 λc x f g h p q d o K w=>Np f g (a.m h w λv d o=>Of λi w=>⟨o,w⟩)
noncomputable def DE.Zl(a:DE):DE:=.b1 "max" (.builtin "max") a (λX n d o K=>a.e X n d o λv d o=>eZ (aO d.cells v) λf=>Zb o λm o=>UC f m/\K (.int m) d o)
 λc x g h j p q d o K w=>VZ c.lv g h (a.m j w λv d o w=>aj (cD w) λf e w=>dm (Su w) λm o z w=>cU z λk l r u=>lF k m (l▸e) r u ⟨o,w⟩)
noncomputable def DE.Ww(a:DE)(y:Str):DE where
 bl S x:=.Call (.Name "isinstance" (cx x 0).pos) [a.bl S (cx x 1),.Name y (cx x 2).pos] [] x.pos
 bQ K S x:=gZ K S "isinstance" (.builtin "isinstance")&&(Eg K S y&&(!aK (a.bl S (cx x 1))&&a.bQ K S (cx x 1)))
 e X n d o K:=a.e X n d o λv d o=>Sl X y v (K (.bool true) d o)
 ob _ _ _ _ _ _ w:=w.elim
 oe c x h d o K w:=bJ h λf h=>bJ h λg h=>bJ h λj k=>aj (ym g) λC q _=>Kq f (nt j) q (a.m k w λv d o w=>cU (oP w) λp e l r=>uI p.1 p.2.1 p.2.2 (MX e) l ⟨o,r⟩)
noncomputable def m0(_:a0)(_:List aD):List aD:=[]
noncomputable def DE.strip(a:DE):DE:=.mc a "strip" m0 (λ_ _ _=>true) (λX n d o K=>a.e X n d o λv d o=>Oc v λu=>K u d o)
 λc x y q p f g h _ d o K w=>Nr f g (a.m h w λv d o w=>cU (K9 w) λs e j w=>dC s e j ⟨o,w⟩)
def bS(b:Bool)(P:Prop):Prop:=dP b P False
noncomputable def DE.Ji(a b:DE):DE:=.mc a "index" (a1 b) (c1 b) (λX n d o K=>a.e X n d o λv d o=>bS (fZ (aO d.cells v)) (b.e X n d o λk d o=>eZ (aO d.cells v) λf=>c7 k λk=>Za o λi o=>UB f k i/\K (.int i) d o))
 λc x y q p g h l r d o K w=>bJ r λu A=>Nt g (nt u) h (a.m l w λv d o w=>aX (Jf w) λe w=>⟨e,b.m A w λk d o w=>aj (cD w) λf e w=>aj (fk w) λj q w=>dm (Ss w) λi o z w=>cU z λC D F G=>BZ C j i (D▸e) q F G ⟨o,w⟩⟩)
noncomputable def DE.getD(a b d:DE):DE:=.mc a "get" (λS l=>[b.bl S (l.getD 0 default),d.bl S (l.getD 1 default)]) (λK S l=> !aK (b.bl S (l.getD 0 default))&&(!aK (d.bl S (l.getD 1 default))&&(b.bQ K S (l.getD 0 default)&&d.bQ K S (l.getD 1 default))))
 (λX n f o K=>a.e X n f o λv f o=>bS (tf (aO f.cells v)) (b.e X n f o λk f o=>d.e X n f o λd f o=>UD (aO f.cells v) λg r=>c7 k λk=>Zc o λu o=>(dQ k g r).getD d=u/\K u f o))
 λc x y q p A C D F f o K w=>bJ F λG h=>bJ h λH h=>bJ h λI J=>RK A (nt G) (nt H) C (a.m D w λv f o w=>aX (Jf w) λe w=>⟨e,b.m I w λk f o w=>d.m J w λd f o w=>dm (Ol w) λg r e w=>aj (fk w) λj q w=>dm (Sv w) λu o z w=>uI g r j e q ⟨o,z.symm▸w⟩⟩)
noncomputable def DE.pop(a:DE):DE:=.mc a "pop" m0 (λ_ _ _=>true) (λX n d o K=>a.e X n d o λv d o=>Jb o d.cells v λc f o=>Zd o f λl u o=>K u ⟨d.aC,d.cells.set c (.list l)⟩ o)
 λc x y q p h j r _ d o K w=>V5 h j (a.m r w λv d o w=>eV (yl w) λk f o z A w=>eV (Sw w) λl u o g C D=>DW k f z A C (g▸List.append_ne_nil_of_right_ne_nil _ (List.cons_ne_nil _ _)) (by
  subst g;rw[List.dropLast_concat,sK,H1,Nat.add_sub_cancel,show aB (l++[u]) l.length=u from v6 (·.getD af.ae) List.getElem?_concat_length];exact⟨o,D⟩))
noncomputable def DE.append(a b:DE):DE:=.mc a "append" (a1 b) (c1 b) (λX n d o K=>a.e X n d o λv d o=>Jb o d.cells v λc _ o=>b.e X n d o λu d o=>gS o d.cells c λw o=>eZ w λf=>vU o (f.length<=aL) λo=>K7 o (.list (f++[u])) λw o=>K .none ⟨d.aC,d.cells.set c w⟩ o)
 λc x y q p j l r z d o K w=>bJ z λA C=>Ks j (nt A) l (a.m r w λv d o w=>eV (yl w) λk f o g D F=>⟨g▸Es D,b.m C F λu d o w=>ar (ES w) λo w=>aj (cD w) λf e w=>aX (d9 w) λh w=>ar w λo w=>lF k f g e h (oa w λo w=>⟨o,w⟩)⟩)
noncomputable def DE.Ou(a b:DE):DE:=.mc a "extend" (a1 b) (c1 b) (λX n d o K=>a.e X n d o λv d o=>dS o d.cells v λw o=>bS (fZ w) (b.e X n d o λu d o=>Jb o d.cells v λc f o=>dS o d.cells u λu o=>eZ u λg=>vU o (f.length+g.length<=aL) λo=>K7 o (.list (f++g)) λw o=>K .none ⟨d.aC,d.cells.set c w⟩ o))
 λc x y q p j l r z d o K w=>bJ z λA C=>Kt j (nt A) l (a.m r w λv d o w=>ar (oX w) λo w=>aX (Jf w) λe w=>⟨e,b.m C w λu d o w=>eV (yl w) λk f o D F w=>ar (oX w) λo w=>aj (cD w) λg G w=>aX (d9 w) λh w=>ar w λo H=>BZ k f g D F G h (oa H λo w=>⟨o,w⟩)⟩)
def SA(v:af)(K:Nat->Prop):Prop:=(xG v).elim False K
def CE{K:Nat->Prop}(h:SA v K):∃c,v=.cell c/\K c:=aj (oP h) λc e h=>ay c (wW e) h
noncomputable def DE.add(a b:DE):DE:=.mc a "add" (a1 b) (c1 b) (λX n d o K=>a.e X n d o λv d o=>dS o d.cells v λw o=>bS (xM w) (b.e X n d o λu d o=>SA v λc=>c7 u λi=>gS o d.cells c λw o=>Ze w λg=>vU o (g.length<64) λo=>∀f:aS,f.Nodup->(∀z,z∈f↔z∈g\/z=i)->K .none ⟨d.aC,d.cells.set c (.set f)⟩ o))
 λc x y q p j l r A d o K w=>bJ A λC D=>Wn j (nt C) l (a.m r w λv d o w=>ar (oX w) λo w=>aX (Jf w) λe w=>⟨e,b.m D w λu d o w=>aj (CE w) λk F w=>aj (fk w) λi G w=>ar (ES w) λo w=>aj (Sr w) λg H w=>aX (d9 w) λh w=>ar w λo I=>BZ k i g F G H h λf J L=>⟨o,I f J L⟩⟩)
noncomputable abbrev KI:=ah->af->St->oZ->Prop
structure vX where
 bl:a0->PySem.Expr->PySem.Expr
 bQ:Frag->a0->Bool->PySem.Expr->Bool
 it:Cx->Nat->St->oZ->KI->Prop
 oi:∀(c:Cf) x tgt,bQ c.X.K c.S (mB tgt) x->∀st o K,it c.X c.n st o K->lG c.X c.S c.env c.A c.E (bl c.S x) tgt (λxs v st=>∃o,K xs v st o) st
section
variable{c:Cf}{b:St}{o:oZ}{x tgt:aD}
def vX.m(a:vX)(h:a.bQ c.X.K c.S (mB tgt) x){K:KI}(w:a.it c.X c.n b o K)(k:∀d v b o,K d v b o->Q d v b):lG c.X c.S c.env c.A c.E (a.bl c.S x) tgt Q b:=
 (a.oi c x tgt h b o K w).aT λd v b z=>z.elim (k d v b)
abbrev vX.It(a:vX)(X:Cx)(n:Nat)(b:St)(Q:ah->af->St->Prop):Prop:=∃o K,a.it X n b o K/\∀d v b f,K d v b f->Q d v b
def vX.oI(a:vX)(h:a.bQ c.X.K c.S (mB tgt) x)(w:a.It c.X c.n b Q):lG c.X c.S c.env c.A c.E (a.bl c.S x) tgt Q b:=dm w λ_ _ w k=>a.m h w k
end
noncomputable abbrev n1(b:Str)(a:DE)(S:a0)(x:aD):aD:=.Call (.Name b (cx x 0).pos) [a.bl S (cx x 1)] [] x.pos
noncomputable abbrev n2(c:Str)(a b:DE)(S:a0)(x:aD):aD:=.Call (.Name c (cx x 0).pos) [a.bl S (cx x 1),b.bl S (cx x 2)] [] x.pos
noncomputable abbrev k1(b:Str)(u:Value)(a:DE)(K:Frag)(S:a0)(x:aD):Bool:=gZ K S b u&&(!aK (a.bl S (cx x 1))&&a.bQ K S (cx x 1))
noncomputable abbrev k2(c:Str)(u:Value)(a b:DE)(K:Frag)(S:a0)(x:aD):Bool:=gZ K S c u&&(!aK (a.bl S (cx x 1))&&(!aK (b.bl S (cx x 2))&&(a.bQ K S (cx x 1)&&b.bQ K S (cx x 2))))
noncomputable def vX.e(a:DE):vX where
 bl S x:=a.bl S x
 bQ K S _ x:=a.bQ K S x
 it X n b o K:=a.e X n b o λv b o=>eZ (aO b.cells v) λd=>K d v b o
 oi c x tgt h b o K w:=RO c.lv.1 (a.m h w λv b o w=>aj (cD w) λd e w=>e▸⟨o,w⟩)
noncomputable def vX.bz(a:DE):vX where
 bl:=n1 "range" a
 bQ K S _ x:=k1 "range" (.type "range") a K S x
 it X n d o K:=a.e X n d o λv d o=>c7 v λb=>Y8 o b λf o=>K f .none d o
 oi c x tgt h d o K w:=bJ h λg h=>bJ h λi j=>KH c.lv.1 g (nt i) (a.m j w λv d o=>eM λb w=>aX (So w) λh w=>bH h.1 h.2 w)
noncomputable def vX.yn(a b:DE):vX where
 bl:=n2 "range" a b
 bQ K S _ x:=k2 "range" (.type "range") a b K S x
 it X n d o K:=a.e X n d o λv d o=>b.e X n d o λu d o=>c7 v λa=>c7 u λb=>vU o (0<=a/\a<=aL/\-(aL:Int)<=b/\b<=aL) λo=>K (cB a b) .none d o
 oi c x tgt h d o K w:=bJ h λf h=>bJ h λg h=>bJ h λi h=>bJ h λj k=>KJ c.lv.1 f (nt g) (nt i) (a.m j w λv d o w=>b.m k w λu d o=>eM λa=>eM λb w=>aX (d9 w) λh w=>DU h.1 h.2.1 h.2.2.1 h.2.2.2 w)
noncomputable def vX.V7(a:DE):vX where
 bl:=n1 "enumerate" a
 bQ K S t x:=t&&k1 "enumerate" (.type "enumerate") a K S x
 it X n b o K:=a.e X n b o λv b o=>eZ v λd=>vU o (d.length<=aL) λo=>K (qo d) .none b o
 oi c x tgt h b o K w:=bJ h λf h=>bJ h λg h=>bJ h λi j=>RQ c.lv.1 g (nt i) f (a.m j w λv b o w=>aj (cD w) λd e w=>aX (d9 w) λh w=>e▸⟨h,w⟩)
noncomputable def vX.zip(a b:DE):vX where
 bl:=n2 "zip" a b
 bQ K S t x:=t&&k2 "zip" (.type "zip") a b K S x
 it X n d o K:=a.e X n d o λv d o=>b.e X n d o λu d o=>eZ v λf=>eZ u λg=>vU o (f.length<=aL/\g.length=f.length) λo=>K (xK f g) .none d o
 oi c x tgt h d o K w:=bJ h λi h=>bJ h λj h=>bJ h λk h=>bJ h λl h=>bJ h λp q=>We c.lv.1 j (nt k) (nt l) i (a.m p w λv d o w=>b.m q w λu d o w=>aj (cD w) λf r w=>aj (cD w) λg s w=>aX (d9 w) λh y=>by
  subst r s;exact bH h.1 h.2 y)
abbrev Cf.Fr(c:Cf)(t:Sem Value)(Q:af->St->Prop)(a:St):Prop:=j8 c.X c.S c.env c.A c.E t Q a
structure DF where
 bl:a0->PySem.Expr->PySem.Expr
 bQ:Frag->a0->PySem.Expr->Bool
 f:Cx->Nat->St->oZ->KV->Prop
 of:∀(c:Cf) x,bQ c.X.K c.S x->∀st o K,f c.X c.n st o K->c.Fr (eval (bl c.S x) c.env) (λv st=>∃o,K v st o) st
def j8.m{c:Cf}{K:KV}{a:St}(h:c.Fr t (λv a=>∃o,K v a o) a)(k:∀v a o,K v a o->Q v a):c.Fr t Q a:=h.aT λv a z=>z.elim (k v a)
noncomputable def DE.fr(a:DF):DE where
 bl:=a.bl
 bQ:=a.bQ
 e X n d o K:=a.f X n d o λv d o=>K7 o v λv o=>K v d o
 ob _ _ _ _ _ _ w:=w.elim
 oe c x h d o K w:=aU.B7 ((a.of c x h d o _ w).m λv d o w=>oa w λo w=>⟨o,w⟩)
noncomputable def DE.fP(a:DF):DE where
 bl:=a.bl
 bQ:=a.bQ
 e X n d o K:=a.f X n d o λv d o=>K7 o v λv o=>K (.cell d.cells.length) ⟨d.aC,d.cells++[v]⟩ o
 ob _ _ _ _ _ _ w:=w.elim
 oe c x h d o K w:=aU.IK ((a.of c x h d o _ w).m λv d o w=>oa w λo w=>⟨o,w⟩)
def ltS(l:ah)(P:Prop):Prop:=dP (decide (l.length<=100)) P False
def Ov{l:ah}(h:ltS l P):l.length<=100/\P:=dF h (λq h=>⟨s5 q,h⟩) λ_=>False.elim
noncomputable def DF.list(l:je):DF where
 bl S x:=.List (l.bl S (j7 x)) x.pos
 bQ K S x:=noStar (l.bl S (j7 x))&&l.bQ K S (j7 x)
 f X n a o K:=l.es X n a o λb a o=>ltS b (K (.list b) a o)
 of c x h a o K w:=bJ h λd e=>RA (l.m e d w λb a o w=>aX (Ov w) λh w=>⟨h,o,w⟩)
noncomputable def DF.tuple(l:je):DF where
 bl S x:=.Tuple (l.bl S (j7 x)) (VJ x) x.pos
 bQ K S x:=noStar (l.bl S (j7 x))&&l.bQ K S (j7 x)
 f X n a o K:=l.es X n a o λb a o=>ltS b (K (.tuple b) a o)
 of c x h a o K w:=bJ h λd e=>Eo (l.m e d w λb a o w=>aX (Ov w) λh w=>⟨h,o,w⟩)
noncomputable def DF.listOf(a:DE):DF where
 bl:=n1 "list" a
 bQ:=k1 "list" (.type "list") a
 f X n b o K:=a.e X n b o λv b o=>eZ (aO b.cells v) λd=>vU o (d.length<=aL) λo=>K (.list d) b o
 of c x h b o K w:=bJ h λg h=>bJ h λi j=>Kv g (nt i) (a.m j w λv b o w=>aj (cD w) λd e w=>ay d e (d9 w))
noncomputable def DF.Lg(a:DE):DF where
 bl S x:=.Call (.Name "list" (cx x 0).pos) [n1 "range" a S (cx x 1)] [] x.pos
 bQ K S x:=gZ K S "list" (.type "list")&&k1 "range" (.type "range") a K S (cx x 1)
 f X n d o K:=a.e X n d o λv d o=>c7 v λb=>vU o (-(aL:Int)<=b/\b<=aL/\(cB 0 b).length<=aL) λo=>K (.list (cB 0 b)) d o
 of c x h d o K w:=bJ h λe h=>bJ h λg h=>bJ h λi j=>CA c.lv.1 e g (nt i) (a.m j w λv d o=>eM λb w=>aX (d9 w) λh w=>fL h.1 h.2.1 h.2.2 w)
noncomputable def DF.sorted(a:DE):DF where
 bl:=n1 "sorted" a
 bQ:=k1 "sorted" (.builtin "sorted") a
 f X n b o K:=a.e X n b o λv b o=>UE o (aO b.cells v) λu o=>K u b o
 of c x h b o K w:=bJ h λg h=>bJ h λi j=>K4 g (nt i) c.lv.1 (a.m j w λv b o w=>gw w (λw=>gw w (λw=>aj (oP w) λp e w=>aX (d9 w) λh w=>dC p.1 (.inr (.inr ⟨p.2,te e⟩)) h w) λd e w=>aX (d9 w) λh w=>dC d (.inr (.inl (MV e))) h w)
  λl e w=>gm (Om (K:=λd o=>K (.list ((dg d).map .int)) b o) w) λd m g i k=>dC d (.inl (g▸hZ e)) i ⟨_,k⟩)
noncomputable def DF.add(a b:DE):DF where
 bl S x:=.BinOp (a.bl S (cx x 0)) .Add (b.bl S (cx x 1)) x.pos
 bQ K S x:=a.bQ K S (cx x 0)&&b.bQ K S (cx x 1)
 f X n d o K:=a.e X n d o λi d o=>b.e X n d o λj d o=>dS o d.cells i λx o=>dS o d.cells j λy o=>eZ x λe=>eZ y λg=>vU o (e.length+g.length<=aL) λo=>K (.list (e++g)) d o
 of c x h d o K w:=bJ h λk l=>V6 (a.m k w λv d o w=>b.m l w λu d o w=>ar (oX w) λo w=>ar (oX w) λo w=>aj (cD w) λe m w=>aj (cD w) λg p w=>uH e g m p (d9 w))
noncomputable def DF.Jj(a b:DE):DF where
 bl S x:=.Subscript (a.bl S (cx x 0)) (.Slice none (some (b.bl S (cx (cx x 1) 0))) none (cx x 1).pos) x.pos
 bQ K S x:=a.bQ K S (cx x 0)&&b.bQ K S (cx (cx x 1) 0)
 f X n d o K:=a.e X n d o λg d o=>b.e X n d o λi d o=>eZ (aO d.cells g) λe=>c7 i λj=>vU o (0<=j/\j<=aL/\e.length<=aL) λo=>K (.list (e.take j.toNat)) d o
 of c x h d o K w:=bJ h λk l=>GO (a.m k w λv d o w=>b.m l w λu d o w=>aj (cD w) λe m w=>aj (fk w) λj p w=>aX (d9 w) λh w=>Ki e j m p h.1 h.2.1 h.2.2 w)
noncomputable def DF.Bh(a b:DE):DF where
 bl S x:=.Subscript (a.bl S (cx x 0)) (.Slice (some (b.bl S (cx (cx x 1) 0))) none none (cx x 1).pos) x.pos
 bQ K S x:=a.bQ K S (cx x 0)&&b.bQ K S (cx (cx x 1) 0)
 f X n d o K:=a.e X n d o λg d o=>b.e X n d o λi d o=>eZ (aO d.cells g) λe=>c7 i λj=>vU o (0<=j/\j<=aL/\e.length<=aL) λo=>K (.list (e.drop j.toNat)) d o
 of c x h d o K w:=bJ h λk l=>Cj (a.m k w λv d o w=>b.m l w λu d o w=>aj (cD w) λe m w=>aj (fk w) λj p w=>aX (d9 w) λh w=>Ki e j m p h.1 h.2.1 h.2.2 w)
noncomputable def DF.Hv:DF where
 bl S x:=.Call (.Name "set" (cx x 0).pos) [] [] x.pos
 bQ K S x:=gZ K S "set" (.type "set")
 f X n st o K:=K (.set []) st o
 of c x h st o K w:=K0 h ⟨o,w⟩
noncomputable def DF.Zm(a:DE):DF where
 bl:=n1 "set" a
 bQ:=k1 "set" (.type "set") a
 f X n d o K:=a.e X n d o λv d o=>eZ v λi=>isS o i λg o=>∀b:aS,b.Nodup->(∀z,z∈b↔z∈g)->K (.set b) d o
 of c x h d o K w:=bJ h λj h=>bJ h λk l=>NX j (nt k) c.lv.1 (a.m l w λv d o w=>aj (cD w) λi e w=>gm (Om (K:=λg o=>∀b:aS,b.Nodup->(∀z,z∈b↔z∈g)->K (.set b) d o) w) λg o q h w=>dC g (q▸e) h λb m p=>⟨o,w b m p⟩)
noncomputable def DF.Jk:DF where
 bl S x:=.Dict [] [] x.pos
 bQ K S x:=true
 f X n st o K:=K (.dict [] []) st o
 of c x h st o K w:=Ho ⟨o,w⟩
noncomputable def DF.Zn(i:Nat)(v:Int):DF where
 bl S x:=.Dict [some (.Name (sC S i) (cx x 0).pos)] [.Constant (.int v) (VJ (cx x 1)) (cx x 1).pos] x.pos
 bQ K S x:=rT S (sC S i) i
 f X n st o K:=c7 (aB st.aC i) λa=>K (.dict [a] [.int v]) st o
 of c x h st o K w:=Oa c.ok h (aj (fk w) λa e w=>ay a e ⟨o,w⟩)
noncomputable def vY(f:aD)(b:List Comprehension)(c:Scope)(e:Pos)(d:Nat)(a:Env)(D:Addr):Sem Unit:=match b[d+1]? with
 |none=>(do let _<-call (.builtin "list.append") [.ref D,<-eval f a])
 |some g=>(do
   let x<-eval g.iter a
   standAt g.iter.pos
   let x<-foldedSetIterable g.iter a x;let _<-runOwn (.compStart (.ListComp f b c e) (d+1) (<-holding [x] (pyIter x)) (.ref D) a) a
   pure ())
def Ow(k b e:aD)(j:List aD)(a:List Comprehension)(c:Scope)(i:Pos)(I D:Addr)(f:Env)(d:Nat)(l:a[d]?=some ⟨b,e,j,0⟩)(m:∀g,a[d+1]?=some g->g.is_async=0):
  x6 (.ListComp k a c i) d I D b e.pos f (G1 j f (vY k a c i d f D) (.compLoop (.ListComp k a c i) d (.ref I) (.ref D) f)):=by
 unfold vY;cases h:a[d+1]? with
 |none=>exact I1 k b e j a c i _ _ f d l h
 |some g=>
  obtain⟨n,o,p,q⟩:=g;obtain rfl:q=0:=m _ h;exact(RS k b e n o j p a c i _ _ f d l h).trans (by simp only[G1,bind_assoc,pure_bind];try rfl)
noncomputable def Cf.inn(c:Cf)(a:c.n<100)(S:a0)(env:Env)(ok:fi S):Cf:=⟨c.X,c.A,c.n,S,env,NE,ok,c.lv,λq=>absurd q (Nat.not_le.mpr a)⟩
structure mQ where
 kL:a0->PySem.Expr->PySem.Expr
 gs:a0->List Comprehension->List Comprehension
 bQ:Frag->a0->PySem.Expr->List Comprehension->Bool
 g:Cx->Nat->St->List af->Prop
 az:∀S l,∀q∈gs S l,q.is_async=0
 og:∀(c:Cf) x l,bQ c.X.K c.S x l->c.n<100->c.E=NE->∀gens scope pos d D r st,gens.drop (d+1)=gs c.S l->g c.X c.n st r->RU c.X c.S c.env c.A D (vY (kL c.S x) gens scope pos d c.env D) r st
def yo(X:Cx)(n:Nat)(t:D3)(a:je)(r:mQ)(c:St)(d:ah)(h:af->ah):Prop:=
 ∀x∈d,gy t x c λsx=>a.An X n sx λb e=>e=sx/\(b=false->h x=[])/\(b->r.g X n sx (h x))
def Zo{c:Cf}{b:St}(h:aU c.X c.S c.env c.A NE (eval d c.env) (λu e=>e=b/\[u]=l) b):RU c.X c.S c.env c.A D (do let _<-call (.builtin "list.append") [.ref D,<-eval d c.env]) l b:=
 Decidable.byCases (λq:l.length=1=>by
  match l,q with
  |[v],_=>exact Wf (h.aT λu s q=>⟨q.1,List.head_eq_of_cons_eq q.2⟩))
 λq F H f g i P R j m n k=>dL (h F _ f g _ (R.zN j) λu o p r t a N V z=>absurd (v6 List.length z.2).symm q)
noncomputable def mQ.done(a:DE):mQ where
 kL:=a.bl
 gs _ _:=[]
 bQ K S x l:=Ef l&&a.bQ K S x
 g X n st r:=a.E X n st λv e=>e=st/\[v]=r
 az _ _ _ m:=nl m
 og c x l h hn hE b scope pos d D r st hd w:=bJ h λj f=>by
  have i:b[d+1]?=none:=aaI (List.drop_eq_nil_iff.mp hd);unfold vY;rw[i];have W:=a.oE f w;unfold Cf.Ev at W;rw[hE]at W;exact Zo W
def Wx{a b:List Comprehension}(h:a.drop d=g::b):a[d]?=some g/\a.drop (d+1)=b:=
 ⟨by rw[<-Nat.add_zero d,<-List.getElem?_drop,h];rfl,by rw[<-List.drop_drop,h];rfl⟩
def Jl{c:Cf}{e:je}{r:mQ}{l a:List Comprehension}(h:a.drop (d+1)=r.gs c.S l)(i:e.bQ c.X.K c.S as)(j:r.bQ c.X.K c.S f l)(m:c.n<100)(g:c.E=NE)
  {v:ah} {sx:St} (w:e.An c.X c.n sx λb n=>n=sx/\(b=false->v=[])/\(b->r.g c.X c.n sx v)):
  G6 c.X c.S c.env c.A D (e.bl c.S as) (vY (r.kL c.S f) a scope pos d c.env D) v sx:=dm w λo K w k=>by
 have W:=e.ots c as i sx o _ w;unfold Cf.Ts at W;rw[g]at W;exact W.aT λb s q=>q.elim λo q=>cY (k b s o q) λp t u=>⟨p,t,λx=>r.og c f l j m g a scope pos d D v sx h (u x)⟩
noncomputable def mQ.cons(t:D3)(b:vX)(a:je)(r:mQ):mQ where
 kL:=r.kL
 gs S l:=⟨(l.headD default).target,b.bl S (l.headD default).iter,a.bl S (l.headD default).ifs,0⟩::r.gs S l.tail
 bQ K S x l:= !jO (b.bl S (l.headD default).iter)&&(uN S t (l.headD default).target&&(b.bQ K S (mB (l.headD default).target) (l.headD default).iter&&(a.bQ K S (l.headD default).ifs&&r.bQ K S x l.tail)))
 g X n st v:=b.It X n st λf _ o=>o=st/\wB t st/\∃h:af->ah,yo X n t a r st f h/\f.flatMap h=v
 az S l q m:=(EQ.mp m).elim (λe=>e▸rfl) (r.az S _ q)
 og c x l h hn hE gens scope pos d D v st hd w:=bJ h λp h=>bJ h λu h=>bJ h λz h=>bJ h λA B=>aX (Wx hd) λj k=>by
  unfold vY;rw[j];refine Wh (target:=default) (iter:=default) (ifs:=[]) (t:=t) (emit:=vY (r.kL c.S x) gens scope pos (d+1) c.env D) c.lv.1 j u (nt p) (λI=>Ow _ _ _ _ gens scope pos I D c.env (d+1) j λg q=>r.az c.S l.tail g (k▸?_)) ?_
  ·exact wE (i:=0) (by rw[List.getElem?_drop];exact q)
  ·have W:=b.oI z w
   rw[hE]at W;exact W.aT λf C s q=>cY q λe E F=>aj F λG H J=>⟨e,E,G,λy m=>dH (H y m) λsx w=>Jl k A B hn hE w,J.symm⟩
noncomputable def Zq(S:a0)(a:List (Str×NameKind)):Bool:=a.all λy=> !(y.2==.free)||S.a8.any (λz=>z.1==y.1&&z.2.2)
noncomputable def Jm(S:a0)(a:Scope)(sl k:Nat):Bool:=decide (a.kind=.function)&&((cZ a.names sl).length==k&&(fi (dq S a.names sl)&&(jN (a.names.map (·.1))&&Zq S a.names)))
def sO{a:Scope}{sl k:Nat}(h:Jm S a sl k):(cZ a.names sl).length=k/\KL S a sl:=
 bJ h λc h=>bJ h λd h=>bJ h λe h=>bJ h λf g=>⟨YD d,s5 c,e,f,λx m=>aj (aak.mp (WP.mp g (x,.free) m)) λy j q=>bJ q λl n=>by
  obtain⟨y,i,b⟩:=y;obtain rfl:y=x:=YD l;obtain rfl:b:=n;exact⟨i,j⟩⟩
structure DC where
 bl:a0->PySem.Expr->PySem.Expr
 bQ:Frag->a0->PySem.Expr->Bool
 f:Cx->Nat->St->oZ->KV->Prop
 ld:∀S x,G7 (bl S x)=true
 oc:∀(c:Cf) x,bQ c.X.K c.S x->∀st o K,f c.X c.n st o K->uT c.X c.S c.env c.A c.E (bl c.S x) (λv st=>∃o,K v st o) st
noncomputable def DF.ofC(a:DC):DF:=⟨a.bl,a.bQ,a.f,λc x h b o K w=>NP (a.ld c.S x) (a.oc c x h b o K w)⟩
def o4(X:Cx)(n:Nat)(t:D3)(a:je)(r:mQ)(b:St)(c:ah)(h:af->ah)(l:ah):Prop:=
 wB t b/\yo X n t a r b c h/\c.flatMap h=l/\l.length<=aL
noncomputable abbrev cl(a:St)(sl k:Nat):St:=⟨ic a.aC sl k,a.cells⟩
noncomputable abbrev xf(x:aD):Comprehension:=(GA x).headD default
noncomputable def DC.comp(t:D3)(j:vX)(e:je)(r:mQ)(sl k:Nat):DC where
 bl S x:=.ListComp (r.kL (dq S (cu x).names sl) (cx x 0)) (⟨(xf x).target,j.bl S (xf x).iter,e.bl (dq S (cu x).names sl) (xf x).ifs,0⟩::r.gs (dq S (cu x).names sl) (GA x).tail) (cu x) x.pos
 bQ K S x:=Jm S (cu x) sl k&&(!jO (j.bl S (xf x).iter)&&(uN (dq S (cu x).names sl) t (xf x).target&&(j.bQ K S (mB (xf x).target) (xf x).iter&&(e.bQ K (dq S (cu x).names sl) (xf x).ifs&&r.bQ K (dq S (cu x).names sl) (cx x 0) (GA x).tail))))
 f X n a o K:=n<100/\(oM o).elim (j.it X n a o λd _ a o=>wB t (cl a sl k)/\hS o λh o=>yo X n t e r (cl a sl k) d h/\(d.flatMap h).length<=aL/\K (.list (d.flatMap h)) a o) λp=>
   j.it X n a o.tail λd _ a o=>o4 X n t e r (cl a sl k) d p.1 p.2/\K (.list p.2) a o
 ld _ _:=rfl
 oc c x h a o K w:=aX w λC w=>bJ h λl h=>bJ h λz h=>bJ h λu h=>bJ h λA h=>bJ h λE J=>aX (sO l) λL G=>by
  have I:lG c.X c.S c.env c.A c.E (j.bl c.S (xf x).iter) (xf x).target (λd v a=>wB t (cl a sl k)/\∃h:af->ah,yo c.X c.n t e r (cl a sl k) d h/\(d.flatMap h).length<=aL/\∃o,K (.list (d.flatMap h)) a o) a:=
   gw w (λw=>j.m A w λd v a o w=>aX w λl w=>gm (Zf w) λB o z u w=>⟨l,B,z,u,o,w⟩) λp _ w=>j.m A w λd v a o w=>aX w λl w=>mr l λl z u A=>⟨l,p.1,z,u.symm▸A,o,u.symm▸w⟩
  intro M F H Y Z P R N;refine NO c.lv.1 (t:=t) (sl:=sl) (p0:=(j.bl c.S (xf x).iter).pos) (λb D=>vY (r.kL (dq c.S (cu x).names sl) (cx x 0)) _ (cu x) x.pos 0 b D) G (nt z) u (λb I D=>Ow _ _ _ _ _ _ _ I D b 0 rfl λg q=>r.az _ _ g (wE (i:=0) q)) (I.aT λd O s q=>aX q λQ T=>cU T λB U V q=>?_) R N;rw[L];exact⟨Q,B,λb D y m=>dH (U y m) λsx w=>Jl (c:=c.inn C _ b G.2.1) rfl E J C rfl w,λv h=>h,V,q⟩
def Ox(X:Cx)(n:Nat)(t:D3)(a b:DE)(c:St)(d:ah)(e:af->Int)(f:af->af):Prop:=
 ∀x∈d,gy t x c λsx=>a.E X n sx λu g=>g=sx/\u=.int (e x)/\b.E X n sx λv h=>h=sx/\v=f x
def Bi(b:af->Int)(c:af->af)(a:ah):a.flatMap (λx=>[lK (b x) (c x)])=List.zipWith lK (a.map b) (a.map c):=by
 induction a with
 |nil=>rfl
 |cons x a d=>rw[abN,d];rfl
noncomputable def DC.Jn(t:D3)(l:vX)(d b:DE)(sl k:Nat):DC where
 bl S x:=.DictComp (d.bl (dq S (cu x).names sl) (cx x 0)) (b.bl (dq S (cu x).names sl) (cx x 1)) [⟨(xf x).target,l.bl S (xf x).iter,[],0⟩] (cu x) x.pos
 bQ K S x:=Jm S (cu x) sl k&&(!jO (l.bl S (xf x).iter)&&(uN (dq S (cu x).names sl) t (xf x).target&&(l.bQ K S (mB (xf x).target) (xf x).iter&&(d.bQ K (dq S (cu x).names sl) (cx x 0)&&b.bQ K (dq S (cu x).names sl) (cx x 1)))))
 f X n i o K:=n<100/\l.it X n i o λg _ i o=>wB t (cl i sl k)/\kS o λj p o=>Ox X n t d b (cl i sl k) g j p/\g.length<=aL/\(g.map j).Nodup/\K (.dict (g.map j) (g.map p)) i o
 ld _ _:=rfl
 oc c x h i o K w:=aX w λr w=>bJ h λz h=>bJ h λA h=>bJ h λB h=>bJ h λC h=>bJ h λE J=>aX (sO z) λL G=>by
  intro M F H Z σ P R N
  refine KQ c.lv.1 (ifs:=[]) (t:=t) (sl:=sl) (p0:=(l.bl c.S (xf x).iter).pos) (λa D=>(do
   let kv<-eval (d.bl (dq c.S (cu x).names sl) (cx x 0)) a;let s<-holding [kv] (eval (b.bl (dq c.S (cu x).names sl) (cx x 1)) a)
   standAt {(d.bl (dq c.S (cu x).names sl) (cx x 0)).pos with endLine:=(b.bl (dq c.S (cu x).names sl) (cx x 1)).pos.endLine,endCol:=(b.bl (dq c.S (cu x).names sl) (cx x 1)).pos.endCol}
   holding [kv,s] (dictSet D kv s))) G (nt A) B (λa I D=>(RT _ _ _ _ _ _ _ _ _ _).trans (by simp only[G1,bind_assoc,pure_bind];try rfl)) (l.m C w λg v i o q=>aX q λO q=>zK (Zg q) λj p o Q T U q=>?_) R N
  rw[L]
  refine⟨O,λx=>[lK (j x) (p x)],λa D y m=>dH (Q y m) λsx w=>n9 (bH rfl (λq=>nomatch q) λ_=>R5 ((d.oE (c:=c.inn r _ a G.2.1) E w).aT λu s' q=>cY q λe V Y=>by
   subst e;exact bH rfl V (b.oE (c:=c.inn r _ a G.2.1) J Y))),λv h=>h,?_,g.map j,g.map p,by rw[v4,v4],U,Bi j p g,o,q⟩
  rw[Bi,List.length_zipWith,v4,v4,Nat.min_self];exact T
noncomputable def DC.CF(d:vX)(sl k a:Nat):DC where
 bl S x:=.ListComp (.List [] (cx x 0).pos) [⟨.Name (sC (dq S (cu x).names sl) a) (xf x).target.pos,d.bl S (xf x).iter,[],0⟩] (cu x) x.pos
 bQ K S x:=Jm S (cu x) sl k&&(!jO (d.bl S (xf x).iter)&&(Gz (dq S (cu x).names sl) (sC (dq S (cu x).names sl) a) a&&(d.bQ K S false (xf x).iter&&(decide (sl<=a)&&decide (a<sl+k)))))
 f X n b o K:=n<100/\d.it X n b o λe _ b o=>vU o (e.length<=aL) λo=>K (.list ((List.range e.length).map λi=>.cell (b.cells.length+i))) ⟨b.aC,b.cells++List.replicate e.length (.list [])⟩ o
 ld _ _:=rfl
 oc c x h b o K w:=aX w λz w=>bJ h λg h=>bJ h λj h=>bJ h λm h=>bJ h λp h=>bJ h λr s=>aX (sO g) λt G=>λu F H A B P R y=>
  KW c.lv.1 (sl:=sl) (uF:=a) (p0:=(d.bl c.S (xf x).iter).pos) G (nt j) m (λl=>acD λq=>absurd ⟨s5 r,t▸s5 s⟩ (sL q (ej q)).2) (d.m (tgt:=.Name (sC (dq c.S (cu x).names sl) a) (xf x).target.pos) p w λe v b o w=>aX (d9 w) λh w=>bH (λv h=>h) h w) R y
noncomputable abbrev DF.comp(t:D3)(b:vX)(a:je)(r:mQ)(sl k:Nat):DF:=.ofC (.comp t b a r sl k)
noncomputable abbrev DF.Jn(t:D3)(c:vX)(a b:DE)(sl k:Nat):DF:=.ofC (.Jn t c a b sl k)
noncomputable abbrev DF.CF(a:vX)(sl k b:Nat):DF:=.ofC (.CF a sl k b)
noncomputable def gA:Stmt->aD
 | .Return (some e) _=>e
 | .Assign _ e _=>e
 | .For _ i _ _ _=>i
 | .While t _ _ _=>t
 | .If t _ _ _=>t
 | .Raise (some e) _ _=>e
 | .Expr e _=>e
 |_=>default
noncomputable def xg:Stmt->aD
 | .Assign (t::_) _ _=>t
 | .For t _ _ _ _=>t
 |_=>default
noncomputable def XZ:Stmt->List Stmt
 | .For _ _ b _ _=>b
 | .While _ b _ _=>b
 | .If _ b _ _=>b
 |_=>[]
noncomputable def sel:Stmt->List Stmt
 | .If _ _ b _=>b
 |_=>[]
structure Sh(A:List Stmt->List Stmt)(k:Bool)(b:List Stmt):Prop where
 bl:A b=b
 bQ:k=true
structure HS(c:Cf)(R:Str->List af->Prop)(B:bj):Prop where
 code:kdsCode c.X.K c.env.code=true
 passes:PassesOwn (model c.X.prog c.X.w) c.A c.env c.E
 jW:∀(x:Str) (as:List PySem.Expr) (p q r:Pos) (Q:aR->St->Prop) (st:St),Eg c.X.K c.S x->noStar as->fE c.X c.S c.env c.A c.E (spliced (backTo q (starEach as c.env))) (λvs _=>Rp R x (D6 vs)) st->
  rC c.X c.S c.env c.A c.E B (exec (.Raise (some (.Call (.Name x p) as [] q)) none r) c.env) Q st
 yp:∀(x:Str) (as:List PySem.Expr) (p q r:Pos) (Q:aR->St->Prop) (st:St),Rh c.X.K c.S x->noStar as->fE c.X c.S c.env c.A c.E (spliced (backTo q (starEach as c.env))) (λvs st=>(∃y ws,R y ws)/\gq c.X c.n x vs (λ_=>Q .next st) (Rp R)) st->
  rC c.X c.S c.env c.A c.E B (exec (.Expr (.Call (.Name x p) as [] q) r) c.env) Q st
noncomputable abbrev Rm:=Str->ah->Prop
noncomputable abbrev KS:=aR->St->oZ->Prop
abbrev SK(c:Cf)(B:bj)(t:Sem Flow)(Q:aR->St->Prop)(a:St):Prop:=rC c.X c.S c.env c.A c.E B t Q a
structure DS where
 bl:a0->Stmt->Stmt
 bQ:Frag->a0->Stmt->Bool
 s:Cx->Nat->Rm->St->oZ->KS->Prop
 os:∀(c:Cf) R B,HS c R B->∀x,bQ c.X.K c.S x->∀st o K,s c.X c.n R st o K->SK c B (exec (bl c.S x) c.env) (λfl st=>∃o,K fl st o) st
structure bt where
 bl:a0->List Stmt->List Stmt
 bQ:Frag->a0->List Stmt->Bool
 raw:Cx->Nat->Rm->St->(aR->St->Prop)->Prop
 ss:Cx->Nat->Rm->St->oZ->KS->Prop
 sr:∀{X n R st o} {K:KS} {Q:aR->St->Prop},ss X n R st o K->(∀fl st o,K fl st o->Q fl st)->raw X n R st Q
 ri:∀{X n R st} {K Q:aR->St->Prop},raw X n R st K->(∀fl st,K fl st->Q fl st)->raw X n R st Q
 ro:∀{c:Cf} {R B st} {K:aR->St->Prop},HS c R B->∀{x},bQ c.X.K c.S x->raw c.X c.n R st K->SK c B (execs (bl c.S x) c.env) K st
abbrev cp(X:Cx)(n:Nat)(R:Rm)(b:bt)(a:St)(K:aR->St->Prop):Prop:=b.raw X n R a K
abbrev exK(K:KS):aR->St->Prop:=λa b=>∃o,K a b o
def bt.os(b:bt){c:Cf}(H:HS c R B)(h:b.bQ c.X.K c.S x){a:St}{K:KS}(w:b.ss c.X c.n R a o K):SK c B (execs (b.bl c.S x) c.env) (exK K) a:=b.ro H h (b.sr w λd a o w=>⟨o,w⟩)
section
variable{X:Cx}{A:Around}{n:Nat}{S:a0}{a:Env}{E:dy}
def Wy{l:ah}{i j:Nat}(e:(l.set i .ae)[j]?=some v)(b:v≠ .ae):l[j]?=some v:=
 wS (λq:i=j=>by subst q;exact ar (wP.mp e) λh e=>absurd (e.symm.trans (List.getElem_set_self ..)) b) λq=>(List.getElem?_set_ne q).symm.trans e
def bR.un{aC:ah}(V:bR X S a F H d aC h) i:bR X S a F H d (aC.set i .ae) h:=
 have b:∀{j u},gv X F d aC j u->gv X F d (aC.set i .ae) j u:=λk v e l=>k v (Wy e l) l
 ⟨V.es,(abX ..).trans V.cS,aj V.ns λm f g=>⟨m,f,λx j q=>b (g x j q)⟩,λx j c q r=>aj (V.cl x j c q r) λu f g=>⟨u,f,b g⟩,V.free,V.Yw,V.noC⟩
def bR.uns(b:aH):∀l:ah,bR X S a F H c l h->bR X S a F H c (b.foldl (λl i=>l.set i .ae) l) h:=b.rec (λ_ V=>V) λi b d l V=>d _ (V.un i)
def c6.fg{b:St}(R:c6 X S a F H d b σ) c:c6 X S a F H d (fg c b) σ:=⟨R.r0,bR.uns c _ R.a8⟩
end
section
variable{c:Cf}{R:Rm}{B:bj}{b:St}{o:oZ}{x:Stmt}{l:List Stmt}
def rC.m{K:KS}(h:SK c B t (λa b=>∃o,K a b o) b)(k:∀a b o,K a b o->Q a b):SK c B t Q b:=h.aT λv b z=>z.elim (k v b)
def rC.jP a(h:SK c B t Q (fg a b)):SK c B t Q b:=λF H d e P f R k=>h F H d e P f (R.fg a) k
def rC.wk(h:SK c B t Q b)(k:∀a s,Q a s->e a s\/∃d,e a (fg d s)):SK c B t e b:=λF H j n P r R p=>h F H j n P r R λv f g i s a N V q=>
 (k a s q).elim (p v f g i s a N V) λz=>ar z λd z=>p v f g i _ a ⟨N.le,N.jP,N.bu.fg d⟩ V z
def lG.wk(h:lG c.X c.S c.env c.A c.E iter e Q b)(k:∀d a s,Q d a s->∃f,g d a (fg f s)):lG c.X c.S c.env c.A c.E iter e g b:=λF H i j P R p=>
 h F H i j P R λI m d a rz Z n r t s N W u v w y q=>ar (k _ _ _ q) λf z=>p I m d a rz Z n r t _ ⟨N.le,N.jP,N.bu.fg f⟩ W u v w y z
end
noncomputable abbrev X0(t:aD)(e:aD)(x:Stmt):Stmt:=.Assign [t] e x.pos
noncomputable def DS.assign(i:Nat)(e:DE):DS where
 bl S x:=X0 (.Name (sC S i) (xg x).pos) (e.bl S (gA x)) x
 bQ K S x:=Gz S (sC S i) i&&(!i9 (e.bl S (gA x))&&e.bQ K S (gA x))
 s X n _ a o K:=e.e X n a o λv a o=>K .next ⟨a.aC.set i v,a.cells⟩ o
 os c R B H x h a o K w:=bJ h λb h=>bJ h λd f=>x2 b (nt d) (e.m f w λv a o w=>⟨o,w⟩)
noncomputable def DS.gB(b:Bool)(i:Nat)(f:DC):DS where
 bl S x:=X0 (.Name (sC S i) (xg x).pos) (f.bl S (gA x)) x
 bQ K S x:=Gz S (sC S i) i&&f.bQ K S (gA x)
 s X n _ a o K:=f.f X n a o λc a o=>K7 o c λc o=>dP b (K .next ⟨a.aC.set i (.cell a.cells.length),a.cells++[c]⟩ o) (K .next ⟨a.aC.set i c,a.cells⟩ o)
 os c R B H x h a o K w:=bJ h λg j=>(Bool.eq_false_or_eq_true b).elim
  (λe=>r8 (f.ld _ _) g ((f.oc c _ j a o _ w).aT λv a z=>z.elim λo z=>oa z λo z=>(⟨o,Ht z e⟩:∃o,K .next ⟨a.aC.set i (.cell a.cells.length),a.cells++[v]⟩ o)) RZ λd a v k z q=>q.1.symm▸q.2.symm▸z)
  λe=>r8 (f.ld _ _) g ((f.oc c _ j a o _ w).aT λv a z=>z.elim λo z=>oa z λo z=>(⟨o,La z e⟩:∃o,K .next ⟨a.aC.set i v,a.cells⟩ o)) RY λd a v k z q=>q.1.symm▸q.2.symm▸z
noncomputable def DS.Lh(i:Nat)(v:Int):DS where
 bl S x:=X0 (.Name (sC S i) (xg x).pos) (.Set [.Constant (.int v) (VJ (cx (gA x) 0)) (cx (gA x) 0).pos] 0 (gA x).pos) x
 bQ K S x:=Gz S (sC S i) i
 s X n _ st o K:=K .next ⟨st.aC.set i (.cell st.cells.length),st.cells++[.set [v]]⟩ o
 os c R B H x h st o K w:=x2 h rfl (aU.IK (Sd H.code ⟨o,w⟩))
noncomputable def DS.gC(b:aH)(e:DE):DS where
 bl S x:=X0 (.Tuple (j7 (xg x)) (VJ (xg x)) (xg x).pos) (e.bl S (gA x)) x
 bQ K S x:=uN S (.dU b) (.Tuple (j7 (xg x)) (VJ (xg x)) (xg x).pos)&&(!i9 (e.bl S (gA x))&&(NH (e.bl S (gA x))&&e.bQ K S (gA x)))
 s X n _ a o K:=e.e X n a o λv a o=>Sm v b.length λd=>K .next ⟨fN a.aC b d,a.cells⟩ o
 os c R B H x h a o K w:=bJ h λf h=>bJ h λg h=>bJ h λi j=>Ky c.lv.1 f (nt g) i (e.m j w λv a o w=>cU (Sy w) λd e h w=>dC d e h ⟨o,w⟩)
def UH(v:af)(K:Addr->Nat->Prop):Prop:=(MW v).elim False λp=>K p.1 p.2
def Oy(v:af)(K:dT->ah->Prop):Prop:=(Gp v).elim False λp=>K p.1 p.2
def Oz{K:Addr->Nat->Prop}(h:UH v K):∃C k,v=.ji C k/\K C k:=aj (oP h) λp e h=>j6 _ _ (IG e) h
def Li{K:dT->ah->Prop}(h:Oy v K):∃a b,v=.attrs a b/\K a b:=aj (oP h) λp e h=>j6 _ _ (D5 e) h
def ltN(n:Nat)(P:Prop):Prop:=dP (decide (n<=100)) P False
def Wz(h:ltN n P):n<=100/\P:=dF h (λq h=>⟨s5 q,h⟩) λ_=>False.elim
def OA(X:Cx)(a:ah)(u:af)(x:Str)(v:af)(K:ah->Prop):Prop:=SA u λc=>UH (aB a c) λC k=>C∈ff X.K/\Oy (aB a k) λb d=>ltN b.length (K (a.set k (.attrs (xH x v b d).1 (xH x v b d).2)))
noncomputable def DS.setAttr(a:DE)(y:Str)(e:DE):DS where
 bl S x:=X0 (.Attribute (a.bl S (cx (xg x) 0)) y (xg x).pos) (e.bl S (gA x)) x
 bQ K S x:=Ut K y&&(!i9 (e.bl S (gA x))&&(a.bQ K S (cx (xg x) 0)&&e.bQ K S (gA x)))
 s X n _ b o K:=e.e X n b o λv b o=>a.e X n b o λu b o=>OA X b.cells u y v λg=>K .next ⟨b.aC,g⟩ o
 os c R B H x h b o K w:=bJ h λi h=>bJ h λf h=>bJ h λj l=>KA i (nt f) (e.m l w λv b o w=>a.m j w λu b o w=>aj (CE w) λk e w=>dm (Oz w) λC d m w=>aX w λh w=>dm (Li w) λp q r w=>aX (Wz w) λf t=>abk k C d p q e m h r f ⟨o,t⟩)
def il(o:oZ)(a:ah)(u k v:af)(K:ah->oZ->Prop):Prop:=SA u λc=>c7 k λk=>gS o a c λu o=>(ql u).elim ((vM u).elim False λp=>vU o (p.1.length<=aL) λo=>K7 o (.dict (gI k v p.1 p.2).1 (gI k v p.1 p.2).2) λw o=>K (a.set c w) o)
 λb=>dP (decide (k= -1)) (vU o (b.length<=aL/\0<b.length) λo=>K7 o (.list (b.set (b.length-1) v)) λw o=>K (a.set c w) o) (vU o (b.length<=aL/\0<=k/\k<b.length) λo=>K7 o (.list (b.set k.toNat v)) λw o=>K (a.set c w) o)
noncomputable def DS.setItem(a i e:DE):DS where
 bl S x:=X0 (.Subscript (a.bl S (cx (xg x) 0)) (i.bl S (cx (xg x) 1)) (xg x).pos) (e.bl S (gA x)) x
 bQ K S x:= !i9 (e.bl S (gA x))&&(a.bQ K S (cx (xg x) 0)&&(i.bQ K S (cx (xg x) 1)&&e.bQ K S (gA x)))
 s X n _ b o K:=e.e X n b o λv b o=>a.e X n b o λu b o=>i.e X n b o λk b o=>il o b.cells u k v λl o=>K .next ⟨b.aC,l⟩ o
 os c R B H x h b o K w:=bJ h λm h=>bJ h λq h=>bJ h λr t=>KG (nt m) (e.m t w λv b o w=>a.m q w λu b o w=>i.m r w λk b o w=>aj (CE w) λd y w=>aj (fk w) λj A w=>ar (ES w) λo f=>uH d j y A (gw f
  (λf=>aj (oP f) λp e w=>.inr (aX (d9 w) λh w=>ar w λo w=>uH p.1 p.2 (te e) h (oa w λo w=>⟨o,w⟩)))
  λg e f=>.inl (dF f (λz w=>aX (d9 w) λh w=>ar w λo w=>DW g (g.length-1) (hZ e) h.1 (Nat.sub_lt h.2 (by decide)) (.inr ⟨s5 z,rfl⟩) (oa w λo w=>⟨o,w⟩))
   λz w=>aX (d9 w) λh w=>ar w λo w=>DW g j.toNat (hZ e) h.1 ((Int.toNat_lt h.2.1).mpr h.2.2) (.inl (Int.toNat_of_nonneg h.2.1).symm) (oa w λo w=>⟨o,w⟩))))
noncomputable def CG(e:aD):Bool:=e.ctorIdx==16
def OB(h:CG e):∃a b c q,e=.Call a b c q:=Expr.Call.elim (motive_1:=λv=>∃a b c q,v=.Call a b c q) e (YD h) λa b c q=>abg a b c q rfl
def SD{c:Cf}{f:St}(h:CG e)(W:c.Ev (eval e c.env) (λ_ f=>Q .next f) f):SK c B (exec (.Expr e p) c.env) Q f:=ML (OB h) λa b d q z=>by subst z;exact ND W
noncomputable def DS.expr(e:DE):DS where
 bl S x:=.Expr (e.bl S (gA x)) x.pos
 bQ K S x:=CG (e.bl S (gA x))&&e.bQ K S (gA x)
 s X n _ a o K:=e.e X n a o λ_ a o=>K .next a o
 os c R B H x h a o K w:=bJ h λb d=>SD b (e.m d w λv a o w=>⟨o,w⟩)
noncomputable def DS.ret(e:DE):DS where
 bl S x:=.Return (some (e.bl S (gA x))) x.pos
 bQ K S x:=e.bQ K S (gA x)
 s X n _ a o K:=e.e X n a o λv a o=>K (.ret v) a o
 os c R B H x h a o K w:=NC (e.m h w λv a o w=>⟨o,w⟩)
noncomputable def DS.Zr:DS where
 bl S x:=.Return none x.pos
 bQ _ _ _:=true
 s X n _ st o K:=K (.ret .none) st o
 os c R B H x h st o K w:=V8 ⟨o,w⟩
noncomputable def DS.brk:DS where
 bl S x:=.Break x.pos
 bQ _ _ _:=true
 s X n _ st o K:=K .brk st o
 os c R B H x h st o K w:=YT ⟨o,w⟩
noncomputable def DS.ite(t:DE)(a b:bt):DS where
 bl S x:=.If (t.bl S (gA x)) (a.bl S (XZ x)) (b.bl S (sel x)) x.pos
 bQ K S x:=t.bQ K S (gA x)&&(a.bQ K S (XZ x)&&b.bQ K S (sel x))
 s X n R d o K:=t.b X n d o λr d o=>Y4 o r λr o=>dP r (a.ss X n R d o K) (b.ss X n R d o K)
 os c R B H x h d o K w:=bJ h λf h=>bJ h λg i=>abC (t.t f w λr d o w=>ar (CC w) λo w=>⟨λe=>a.os H g (Ht w e),λe=>b.os H i (La w e)⟩)
abbrev Lj(a:aH)(J:St->Prop)(K:aR->St->Prop):aR->St->Prop:=NB (λb=>J (fg a b)) K
def UI{K:aR->St->Prop}(z:Lj b J K a s):NB J K a s\/∃b,NB J K a (fg b s):=aR.casesOn (motive:=λa=>Lj b J K a s->NB J K a s\/∃b,NB J K a (fg b s)) a (λz=>.inr ⟨b,z⟩) .inl (λz=>.inr ⟨b,z⟩) (λ_=>.inl) z
def CH{K Q:aR->St->Prop}(k:∀c b,K c b->Q c b) c b(h:Lj fs I K c b):Lj fs I Q c b:=aR.casesOn (motive:=λa=>Lj fs I K a b->Lj fs I Q a b) c id (k _ _) id (λ_=>k _ _) h
noncomputable def DS.EV(t:DE)(b:bt):DS where
 bl S x:=.While (t.bl S (gA x)) (b.bl S (XZ x)) [] x.pos
 bQ K S x:=t.bQ K S (gA x)&&b.bQ K S (XZ x)
 s X n R d o K:=∃(e:aH) (I:Nat->St->Prop) (m:Nat),I m (fg e d)/\∀m d,I m d->t.B X n d λr d=>(r=false->∃o,K .next d o)/\(r->cp X n R b d (Lj e (λs=>∃f,f<m/\I f s) (exK K)))
 os c R B H x h d o K w:=bJ h λg j=>B0 w λe I m k l=>rC.jP e (RN H.passes (I:=I) (m:=m) k λm d i=>(t.oB g (l m d i)).aT λr d w=>⟨w.1,λq=>(b.ro H j (w.2 q)).wk λa s=>UI⟩)
def Zs(a:aH)(s:St):aR->St->Prop:=Lj a (·=s) λ_ _=>False
def zI(X:Cx)(n:Nat)(R:Rm)(a:aH)(b:bt)(s c:St):Prop:=cp X n R b s (Zs a c)
def CJ(X:Cx)(n:Nat)(R:Rm)(t:D3)(b:bt)(a:af)(c:ah)(N:Nat)(d:aH)(S:Nat->St):Prop:=
 c.length=N/\N<=aL/\(∀k x,c[k]?=some x->eF a c (S k)/\gy t x (S k) λs=>zI X n R d b s (S (k+1)))/\eF a c (S N)
def Zt(X:Cx)(n:Nat)(R:Rm)(t:D3)(b:bt)(c:af)(d:ah)(a:St)(K:aR->St->Prop):Prop:=
 d.length<=aL/\∃(e:aH) (I:Nat->St->Prop),I 0 (fg e a)/\(∀k a x,d[k]?=some x->I k a->eF c d a/\gy t x a λa=>cp X n R b a (Lj e (I (k+1)) K))/\∀a,I d.length a->eF c d a/\K .next a
def CJ.li{a:St}{K:aR->St->Prop}(w:CJ X n R t b src xs N c S)(g:fg c a=S 0)(k:K .next (S N)):Zt X n R t b src xs a K:=mr w λe h d i=>
 ⟨e▸h,c,λk a=>a=S k,g,λj s x f q=>by subst q;exact⟨(d j x f).1,dH (d j x f).2 λs w=>b.ri w (CH (fs:=c) (I:=(·=S (j+1))) (K:=λ_ _=>False) λ_ _=>False.elim)⟩,λs q=>by subst q e;exact⟨i,k⟩⟩
noncomputable def oL(o:oZ):Option (Nat×aH×(Nat->St)):=Gi 19 o λx h=>Or.l.elim (motive:=λ_=>Nat×aH×(Nat->St)) x h λN a S=>(N,a,S)
noncomputable def DS.du(t:D3)(f:vX)(b:bt):DS where
 bl S x:=.For (xg x) (f.bl S (gA x)) (b.bl S (XZ x)) [] x.pos
 bQ K S x:= !jO (f.bl S (gA x))&&(uN S t (xg x)&&(f.bQ K S (mB (xg x)) (gA x)&&b.bQ K S (XZ x)))
 s X n R d o K:=(oL o).elim (f.It X n d λg e d=>Zt X n R t b e g d (exK K)) λp=>f.it X n d o.tail λg e d o=>fg p.2.1 d=p.2.2 0/\CJ X n R t b e g p.1 p.2.1 p.2.2/\K .next (p.2.2 p.1) o
 os c R B H x h d o K w:=bJ h λj h=>bJ h λm h=>bJ h λl q=>YX c.lv.1 H.passes m (nt j) (lG.wk (gw w (λw=>f.oI l w) λp _ w=>f.m l w λg e d o w=>cY w λr h k=>h.li (K:=exK K) r ⟨o,k⟩) λg e d w=>aX w λ_ w=>gm w λu I v y z=>
  ⟨u,I,v,λk d x A i=>aX (y k d x A i) λj w=>⟨j,dH w λd w=>(b.ro H q w).wk λa s=>UI⟩,z⟩)
noncomputable def DS.jW(x:Str)(l:je):DS where
 bl S y:=.Raise (some (.Call (.Name x (cx (gA y) 0).pos) (l.bl S (j7 (gA y)).tail) [] (gA y).pos)) none y.pos
 bQ K S y:=Eg K S x&&(noStar (l.bl S (j7 (gA y)).tail)&&l.bQ K S (j7 (gA y)).tail)
 s X n R a o K:=l.es X n a o λb a o=>Rp R x (D6 b)
 os c R B H y h a o K w:=bJ h λe h=>bJ h λd f=>H.jW x _ _ _ _ _ _ e d (l.m f d w λb a o w=>w)
def gq.imp(h:gq X n x args Q R)(k:∀v,Q v->b v):gq X n x args b R:=by
 refine cU h λf c d g=>?_;refine(dC f c d (λA F H L i j a1 a2 l m o p=>aaS (g A F H L i j a1 a2 l m o p) λr y z=>?_));rcases r with e|(_|_|_|v)<;>first|exact z|exact z.elim|skip
 refine gH z λs a t u w q=>?_;exact(lF s a t u w (k _ q))
noncomputable def oT(o:oZ):Option Prop:=Gi 11 o λx h=>Or.t.elim (motive:=λ_=>Prop) x h id
noncomputable def DS.yp(x:Str)(l:je):DS where
 bl S y:=.Expr (.Call (.Name x (cx (gA y) 0).pos) (l.bl S (j7 (gA y)).tail) [] (gA y).pos) y.pos
 bQ K S y:=Rh K S x&&(noStar (l.bl S (j7 (gA y)).tail)&&l.bQ K S (j7 (gA y)).tail)
 s X n R a o K:=l.es X n a o λb a o=>(∃y e,R y e)/\(oT o).elim False λP=>gq X n x b (λ_=>P) (Rp R)/\(P->K .next a o.tail)
 os c R B H y h a o K w:=bJ h λf h=>bJ h λd g=>H.yp x _ _ _ _ _ _ f d (l.m g d w λb a o w=>aX w λh w=>cU (oP w) λP _ i j=>⟨h,gq.imp i λ_ p=>⟨_,j p⟩⟩)
noncomputable def Zu(o:oZ):Bool:=Y3 14 o
noncomputable def abY(o:oZ):oZ:=bif Y3 13 o then o.tail else o
noncomputable def bt.nil:bt where
 bl _ _:=[]
 bQ _ _ x:=Ef x
 raw _ _ _ st K:=K .next st
 ss _ _ _ st o K:=K .next st o
 sr w k:=k _ _ _ w
 ri w k:=k _ _ w
 ro _ _ _ w:=Uy w
def Lk(X:Cx)(n:Nat)(R:Rm)(s:DS)(r:bt)(a:St)(K:aR->St->Prop):Prop:=∃o c,s.s X n R a o c/\∀b a d,c b a d->vS b (r.raw X n R a K) (K b a)
def uX(h:vS e a b)(k:a->c)(q:b->d):vS e c d:=aR.casesOn (motive:=λe=>vS e a b->vS e c d) e k q q (λ_=>q) h
def Lk.imp{a:St}{K Q:aR->St->Prop}(h:Lk X n R s r a K)(k:∀b a,K b a->Q b a):Lk X n R s r a Q:=dm h λo c w z=>j6 o c w λb a d w=>uX (z b a d w) (λw=>r.ri w k) (k _ _)
noncomputable def bt.cons(s:DS)(r:bt):bt where
 bl S x:=s.bl S (x.headD default)::r.bl S x.tail
 bQ K S x:=s.bQ K S (x.headD default)&&r.bQ K S x.tail
 raw X n R a K:=Lk X n R s r a K
 ss X n R a o K:=dP (Zu o) (Lk X n R s r a λb a=>K b a o.tail) (s.s X n R a (abY o) λb a o=>vS b (r.ss X n R a o K) (K b a o))
 sr {X n R a o K Q} w k:=dF w (λ_ w=>w.imp λb a w=>k b a _ w) λ_ w=>j6 _ _ w λb a o w=>uX w (λw=>r.sr w k) (k _ _ _)
 ri w k:=Lk.imp w k
 ro {c R B a K} H {x} h w:=bJ h λd e=>dm w λo f w k=>Co ((s.os c R B H _ d a o _ w).m λb a o w=>uX (k b a o w) (r.ro H e) id)
def Ll:∀(r:List (Str×Value)) (m:Str->Option Value),x∉r.map (·.1)->bindL k r m x=m x:=by
 intro r;induction r with
 |nil=>intro m _;rfl
 |cons y r a=>
  intro m h;obtain⟨n,v⟩:=y;simp only[aaT,EQ,not_or]at h;simp only[bindL,a _ h.2];refine wS (p:=k n=some .local) (λq=>?_) (λq=>?_)
  ·rw[if_pos q];exact if_neg h.1
  ·rw[if_neg q]
def Ln:∀(r:List (Str×Value)) (m:Str->Option Value),x∉r.map (·.1)->bindC k r m x=m x:=by
 intro r;induction r with
 |nil=>intro m _;rfl
 |cons y r a=>
  intro m h;obtain⟨n,v⟩:=y;simp only[aaT,EQ,not_or]at h;simp only[bindC,a _ h.2];refine wS (p:=k n=some .local) (λq=>?_) (λq=>?_)
  ·rw[if_pos q]
  ·rw[if_neg q];exact if_neg h.1
def CK{b:dT}{a:aQ}(c:a.length=b.length):(b.zip a).map (·.1)=b:=by rw[List.map_fst_zip];lia
def EW:∀(b:dT) (a:aQ) (m:Str->Option Value) (j:Nat) (v:Value),b.Nodup->a.length=b.length->b[j]?=some x->a[j]?=some v->k x=some .local->bindL k (b.zip a) m x=some v:=by
 intro b;induction b with
 |nil=>intro a m j v _ _ e;exact nx e
 |cons p b l=>
  intro a m j v n g c d h;refine pU (KF g) λw o f=>?_;subst f;obtain⟨n1,n2⟩:=TT.mp n;haveI i:=aa3 g;simp only[List.zip_cons_cons,bindL];cases j with
  |zero=>
   simp at c d;subst c d;rw[Ll _ _ ((CK i).symm▸n1),if_pos h];exact if_pos rfl
  |succ j=>exact l o _ j v n2 i (by simpa using c) (by simpa using d) h
def OC:∀(b:dT) (a:aQ) (m:Str->Option Value) (j:Nat) (v:Value),b.Nodup->a.length=b.length->b[j]?=some x->a[j]?=some v->k x≠some .local->bindC k (b.zip a) m x=some v:=by
 intro b;induction b with
 |nil=>intro a m j v _ _ e;exact nx e
 |cons p b l=>
  intro a m j v n g c d h;refine pU (KF g) λw o f=>?_;subst f;obtain⟨n1,n2⟩:=TT.mp n;haveI i:=aa3 g;simp only[List.zip_cons_cons,bindC];cases j with
  |zero=>
   simp at c d;subst c d;rw[Ln _ _ ((CK i).symm▸n1),if_neg h];exact if_pos rfl
  |succ j=>exact l o _ j v n2 i (by simpa using c) (by simpa using d) h
structure tF(K:Frag)(f:Addr)(fd:FuncData)(body:List Stmt)(ps:List Str)(N:Nat):Prop where
 at_:∃o,K.lookup f=some o/\o.data=.func fd
 body:fd.body=.stmts body
 code:codeIn K fd.code fd.qualname=true
 OD:kdsCode K fd.code=true
 Zv:fd.closure=[]
 nps:jN ps=true
 globals:fd.globals=mainGlobals
 builtins:fd.builtins=builtinsNs
 kind:fd.scope.kind=.function
 co:fd.scope.isCoroutine=false
 gen:fd.scope.isGenerator=false
 nn:jN (fd.scope.names.map (·.1))=true
 ok:fi (eL N fd.scope.names)=true
 first:∀(j:Nat) x,ps[j]?=some x->∃b,(x,j,b)∈cZ fd.scope.names 0
 few:ps.length<=N
noncomputable def eO(a:ah)(N:Nat):ah:=a++List.replicate (N-a.length) .ae
def Lo{a:ah}{N i:Nat}(h:(eO a N)[i]?=some v)(n:v≠ .ae):a[i]?=some v:=
 (P3 i a.length).elim (λq=>(aar q).symm.trans h) λq=>absurd (List.mem_replicate.mp (wE ((GE q).symm.trans h))).2 n
def Lp{a:ah}(h:a.length<=N):(eO a N).length=N:=(sK ..).trans ((v6 (a.length+ ·) (List.length_replicate ..)).trans (Nat.add_sub_cancel' h))
def xh{a:Type}{l:List (Str×a)}(n:(l.map (·.1)).Nodup){k:a}(m:(x,k)∈l):l.lookup x=some k:=aj (kM m) λd b c=>(Prod.mk.inj (gz n m c rfl)).2▸b
section
variable{X:Cx}{F H:bj}{l:aZ}{g:ah}{d o:Shared}
def EX{s:dT}{N:Nat}(D:tF X.K f r body s N){args:ah}{p:aQ}(R:R0 X F H l g d)(O:p.length=s.length)(V:∀(j:Nat) v,args[j]?=some v->v≠ .ae->∃u,p[j]?=some u/\aG X.prog X.w F l v u)(P:args.length=s.length)
  (C:InCallC d (callEnvC r d.heap.objs.size f).locals (bindL (callEnvC r d.heap.objs.size f).kindOf (s.zip p) λ_=>none) (callEnvC r d.heap.objs.size f).cells (bindC (callEnvC r d.heap.objs.size f).kindOf (s.zip p) λ_=>none) o):
  bR X (eL N r.scope.names) (callEnvC r d.heap.objs.size f) F H l (eO args N) o.heap:=by
 haveI Q:s.Nodup:=eA D.nps;refine mr (sM D.ok) λA L M B=>?_;have E:∀{x:Str} {k:NameKind},(x,k)∈r.scope.names->r.scope.names.lookup x=some k:=xh (eA D.nn)
 have G:∀{x:Str} {i:Nat} {b:Bool} {v:af},(x,i,b)∈cZ r.scope.names 0->(eO args N)[i]?=some v->v≠ .ae->s[i]?=some x/\∃u,p[i]?=some u/\aG X.prog X.w F l v u:=λ{x i b v} m e n=>by
  haveI S:=Lo e n;refine aj (V i v S n) λu I J=>?_;have T:i<s.length:=by refine P▸?_;exact(wP.mp S).1
  haveI w:s[i]?=some s[i]:=f0 T;refine ar (D.first i _ w) λb' U=>?_;haveI:=A _ _ _ _ _ m U;rw[<-this]at w;exact⟨w,u,I,J⟩
 haveI ok:=mC r.scope.names (d.heap.objs.size+1) [];haveI t:∀{x c},(cellsFrom (d.heap.objs.size+1) r.scope.names []).lookup x=some c->d.heap.objs.size<c:=λe=>C.above _ _ (mem_of_lookup e);have z:∀{x i b},(x,i,b)∈cZ r.scope.names 0->((x,NameKind.local)∈r.scope.names/\b=false\/(x,NameKind.cell)∈r.scope.names/\b):=λm=>(gb _ _ _ m).2.2;haveI cl:∀{x},(x,NameKind.cell)∈r.scope.names->∃c,(cellsFrom (d.heap.objs.size+1) r.scope.names []).lookup x=some c/\d.heap.objs.size<c:=λm=>ar (ok.2.2 _ m) λc Y=>aj (kM Y) λZ e _=>(ay Z e (t e))
 refine⟨⟨D.kind,λx h=>h,D.globals,D.builtins,λx i m=>(z m).elim (λq=>E q.1) λq=>Bool.noConfusion q.2,λx i m=>(bH ?_ (M _ _ _ m) ?_),λx i b m=>(bH ((B x i b m).1) ((B x i b m).2) (λhb=>?_)),λx y c e1 e2=>name_of_addr C.apart (mem_of_lookup e1) (mem_of_lookup e2),A,L⟩,
  Lp (by refine P▸?_;exact D.few),(ay _ C.toInCall.ns (λx i m v e n=>?_)),λx i c m e=>(ay _ (C.cell x c e) (λv e n=>?_)),λa q=>?_,R.mu (v0 _),λx i c m e=>R.mu (KK (t e))⟩
 ·exact(z m).elim (λq=>Bool.noConfusion q.2) λq=>.inl (E q.1)
 ·exact(z m).elim (λq=>Bool.noConfusion q.2) λq=>aj (cl q.1) λc e h=>(ay c e (ab8 h))
 ·subst hb;exact(z m).elim (λq=>Bool.noConfusion q.2) λq=>E q.1
 ·exact(z m).elim (λq=>aX (G m e n) λw h=>aj h λu I J=>(ay u (EW s p _ i u Q O w I (E q.1)) J)) λq=>Bool.noConfusion q.2
 ·exact(z m).elim (λq=>Bool.noConfusion q.2) λq=>aX (G m e n) λw h=>aj h λu I J=>(ay u (OC s p _ i u Q O w I (by rw[show(callEnvC r d.heap.objs.size f).kindOf x=some .cell from E q.1];exactλh=>NameKind.noConfusion (BT h))) J)
 ·cases q with
  |aC=>exact⟨R.hW (v0 _),R.su (v0 _)⟩
  |cell _ e=>exact⟨R.hW (KK (t e)),R.su (KK (t e))⟩
end
noncomputable def WA(n:Nat):(Nat->Value)->aQ:=Nat.rec (λ_=>[]) (λ_ b a=>a 0::b λi=>a (i+1)) n
def OE(a:aQ):∃b,WA a.length b=a:=by
 induction a with
 |nil=>exact⟨λ_=>.none,rfl⟩
 |cons v a c=>exact ar c λb e=>⟨λi=>Nat.casesOn (motive:=λ_=>Value) i v b,v6 (v:: ·) e⟩
noncomputable def OF:Value->Option af
 | .none=>some .none
 | .int i _=>some (.int i)
 |_=>none
def Lq(h:OF u=some v):aG prog w F a v u:=by
 cases u<;>first|(exact nx h;done)|skip
 ·exact BT h▸ .none
 ·exact BT h▸ .int _ _
noncomputable def X1(K:Frag)(a:FuncData):Value:=match a.defaults with
 | .ref T=>(match K.lookup T with|some ⟨_,_,.seq b _,_⟩=>b.toList.headD .none|_=>.none)
 |_=>.none
noncomputable def Zw(K:Frag)(S:Setting)(b:Nat->Value)(a:FuncData)(c:dT)(d:Option af):Option (List (Str×Value))×Option (List (Str×Value))×Option af:=
 (peek K S (bindArgs a ⟨WA c.length b,[]⟩),d.elim none λ_=>peek K S (bindArgs a ⟨WA (c.length-1) b,[]⟩),d.elim none λ_=>OF (X1 K a))
noncomputable def Zx(K:Frag)(b:Nat->Value)(c:FuncData)(a:dT)(d:Option af):Option (List (Str×Value))×Option (List (Str×Value))×Option af:=
 (some (a.zip (WA a.length b)),d.elim none λ_=>some (a.zip (WA (a.length-1) b++[X1 K c])),d)
def kQ(K:Frag)(a:FuncData)(b:dT)(d:Option af):Prop:=∀S c,Zw K S c a b d=Zx K c a b d
def Bj{K:Frag}{b:dT}{s:Shared}(B:kQ K fd b d)(X:K.In s.heap){a:aQ}(h:a.length=b.length):BindsTo s fd ⟨a,[]⟩ (b.zip a):=
 ar (OE a) λc e=>(h▸e:WA b.length c=a)▸kp_binds X λS=>v6 Prod.fst (B S c)
def Lr{K:Frag}{b:dT}{s:Shared}(B:kQ K fd b (some v))(X:K.In s.heap){a:aQ}(h:a.length=b.length-1):BindsTo s fd ⟨a,[]⟩ (b.zip (a++[X1 K fd])):=
 ar (OE a) λc e=>(h▸e:WA (b.length-1) c=a)▸kp_binds X λS=>v6 (·.2.1) (B S c)
def kQ.X1{K:Frag}(B:kQ K fd a (some v))(S:Setting):OF (X1 K fd)=some v:=v6 (·.2.2) (B S λ_=>.none)
noncomputable def bZ(d:Option af)(b:Nat)(a:ah):ah:=match d with
 |none=>a
 |some v=>if a.length+1=b then a++[v]else a
section
variable{prog:Program}{w:World}{A:Around}{s:Shared}
def Hw(h:aG prog w F a x v)(V:ax prog w F a xs b):ax prog w F a (xs++[x]) (b++[v]):=V.append (.cons h .nil)
def EY{K:Frag}{b:dT}(B:kQ K fd b d)(X:K.In s.heap)(V:ax prog w F ι a vals)(c:(bZ d b.length a).length=b.length):
  ∃f,ax prog w F ι (bZ d b.length a) f/\BindsTo s fd ⟨vals,[]⟩ (b.zip f):=by
 cases d with
 |none=>exact ay vals V (Bj B X (V.length.symm.trans c))
 |some v=>
  refine wS (p:=a.length+1=b.length) (λq=>?_) (λq=>?_)
  ·have e:bZ (some v) b.length a=a++[v]:=if_pos q
   exact ay _ (e.symm▸Hw (Lq (B.X1 ⟨prog,w.params⟩)) V) (Lr B X (q▸V.length.symm))
  ·have e:bZ (some v) b.length a=a:=if_neg q
   exact ay vals (e.symm▸V) (Bj B X (V.length.symm.trans (e▸c)))
set_option backward.match.sparseCases true in
def vZ
  (b:A.depth<recursionLimit) (t:s.heap.get? a=some o) (c:o.data=.func fd) (j:s.heap.NoLimit) (n:s.heap.CodeRec fd.code fd.qualname)
  (d:fd.body=.stmts body) (g:BindsTo s fd ⟨vals,[]⟩ binds) (k:fd.closure=[])
  (i:∀x∈binds,fd.scope.names.lookup x.1=some .local\/(fd.scope.names.lookup x.1=some .cell/\((cellsFrom (s.heap.objs.size+1) fd.scope.names []).lookup x.1).isSome))
  (h:∀r,InCallC s (callEnvC fd s.heap.objs.size a).locals (bindL (callEnvC fd s.heap.objs.size a).kindOf binds λ_=>none) (callEnvC fd s.heap.objs.size a).cells
    (bindC (callEnvC fd s.heap.objs.size a).kindOf binds λ_=>none) r->
   wpAny (model prog w) (A.deeper (callEnvC fd s.heap.objs.size a)) (execs body (callEnvC fd s.heap.objs.size a)) (λf l=>R (.ok (.ret (match f with| .ret v=>v|_=>.none))) l)
    (λe l=>wpAny (model prog w) (A.deeper (callEnvC fd s.heap.objs.size a)) (leaving (callEnvC fd s.heap.objs.size a) e) (λ_ p=>R (.error e) p) (λu p=>R (.error u) p) l) r)
  (q:fd.scope.isCoroutine=false) (m:fd.scope.isGenerator=false) (y:fd.scope.kind=.function):
  codeAny (model prog w) A (.call (.ref a) ⟨vals,[]⟩) R s:=by
 refine codeAny_call_function b t c q m d n (g _ _ _ _ ?_);refine k▸?_;refine wpAny_newFunctionEnv_cells y i λz B l x=>?_;subst B;exact⟨j.keeps x.toInCall.keep,codeAny_func (h l x)⟩
end
section
variable{X:Cx}{F H:bj}{i:aZ}{g:ah}{l u:Shared}{A:Around}{n:Nat}
def lvl{a b k m t:Nat}(h:a+(t+m)<=b)(c:k<=m):a+k+t<=b:=o0 (aaM (Nat.add_right_comm a k t)) (o0 (acw c _) (o0 (aaM (Nat.add_assoc ..)) h))
def Lv.deeper(h:Lv A (n+1)) env:Lv (A.deeper env) n:=bH h.1 (lvl (t:=2*n) (m:=2) h.2.1 (by decide)) (lvl (t:=10*n) (m:=10) h.2.2 (by decide))
def Jo{c:Cf}(code:kdsCode c.X.K c.env.code)(m:PassesOwn (model c.X.prog c.X.w) c.A c.env c.E):HS c (λ_ _=>False) B where
 code:=code
 passes:=m
 jW:=λx as p q r Q o b d h=>λF H i l P E R k=>aj (ym b) λf e j=>by
  refine dL (aaf ?_);show wpAny _ _ (raiseStmt c.env (some (do let v<-eval (.Call (.Name x p) as [] q) c.env;standAt r;pure v)) none) _ _ _;refine dL (dL ?_);exact lH (Q:=λ_ _=>False) e j (nt d) (λF H i l P R k=>h F H i l _ R λs t w y C D N V z=>z.2.elim) F H i _ _ (R.td _) λv u G I J a N V z=>z.elim
 yp:=λx as p q r Q o b d h=>ND (aj (Bg b) λf e j=>lH e j (nt d) λF H i l P R k=>h F H i l _ R λs t w y C D N V z=>z.1.elim λ_ z=>z.elim λ_ z=>z.elim)
def Bk{K:Frag}{d:dT}(D:tF K f fd body d N){a:aQ}(e:a.length=d.length) m:
  ∀x∈d.zip a,fd.scope.names.lookup x.1=some .local\/(fd.scope.names.lookup x.1=some .cell/\((cellsFrom m fd.scope.names []).lookup x.1).isSome):=λx h=>
 ar (aaH.mp ((CK e▸List.mem_map_of_mem h:x.1∈d))) λj k=>ar (D.first j x.1 k) λb o=>(gb _ _ _ o).2.2.elim (λq=>.inl (xh (eA D.nn) q.1))
  λq=>.inr ⟨xh (eA D.nn) q.1,ar ((mC fd.scope.names m []).2.2 x.1 q.1) λc p=>aj (kM p) λs r _=>r▸rfl⟩
def kR(Q:af->ah->Prop)(b:aR)(a:St):Prop:=aR.casesOn (motive:=λ_=>Prop) b (Q .none a.cells) False False λv=>Q v a.cells
def yq(D:tF X.K f fd body c N)(B:kQ X.K fd c d)
  (k:(bZ d c.length args).length=c.length) (b:A.depth<recursionLimit) (R:R0 X F H i g l) (V:ax X.prog X.w F i args y)
  (w:∀(a:Env) (q:Shared) (m:Flow->Shared->Prop) (p:dy),a.code=fd.code->a.frame=some a.locals->c6 X (eL N fd.scope.names) a F H i ⟨eO (bZ d c.length args) N,g⟩ q->(∀v s,P (.ok (.ret v)) s->m (.ret v) s)->(∀s,P (.ok (.ret .none)) s->m .next s)->
   (∀e s,wpAny (model X.prog X.w) (A.deeper a) (leaving a e) (λ_ s=>P (.error e) s) (λe s=>P (.error e) s) s->p e s)->PassesOwn (model X.prog X.w) (A.deeper a) a p->wpAny (model X.prog X.w) (A.deeper a) (execs body a) m p q):
  codeAny (model X.prog X.w) A (.call (.ref f) ⟨y,[]⟩) P l:=by
 refine aj D.at_ λo z E=>aj (EY B R.k V k) λr t G=>have x:r.length=c.length:=t.length.symm.trans k
  vZ (binds:=c.zip r) b (R.k _ _ z) E (R.r6.MR _ R.Yx).2.2 (codeRec_of R.k D.code) D.body G D.Zv (Bk D x _) (λL C=>dm C.done λM tk e I=>?_) D.co D.gen D.kind
 have J:=EX D R x (λj v e _=>t.get j v e) k C;clear C;subst e;exact w _ _ _ _ rfl rfl ⟨R.ext I,J⟩ (λ_ _ h=>h) (λ_ h=>h) (λ_ _ h=>h) PassesOwn.leaving
def yr{N:Nat}(D:tF X.K f fd body k N)(B:kQ X.K fd k d){Q:af->ah->Prop}{E:dy}
  (p:(bZ d k.length args).length=k.length) (c:A.depth<recursionLimit) (R:R0 X F H i g l) (V:ax X.prog X.w F i args s)
  (w:∀b E,b.code=fd.code->b.frame=some b.locals->PassesOwn (model X.prog X.w) (A.deeper b) b E->rC X (eL N fd.scope.names) b (A.deeper b) E H (execs body b) (kR Q) ⟨eO (bZ d k.length args) N,g⟩):
  codeAny (model X.prog X.w) A (.call (.ref f) ⟨s,[]⟩) (λr u=>match r with
   | .ok (.ret v)=>∃h j m a,Le F h/\hU i j/\R0 X h H j m u/\aG X.prog X.w h j a v/\Q a m
   | .ok _=>False
   | .error e=>E e u) l:=
 yq D B p c R V λb J L t x y z C G _ I=>w b t x y I F H i _ _ (Le.refl _) z λM u h j o a N V q=>by
  revert q;refine V.zF ?_ ?_ ?_ λa v V=>?_
  ·exactλq=>G _ (Kk h j o.cells .none N.le N.jP N.bu.r0 .none q)
  ·exact False.elim
  ·exact False.elim
  ·exactλq=>C _ _ (Kk h j o.cells _ N.le N.jP N.bu.r0 V q)
abbrev WB(K:Frag)(S:a0)(a:bt)(b:List Stmt):Prop:=Sh (a.bl S) (a.bQ K S b) b
def SE{e:FuncData}(D:tF X.K f e body b N)(B:kQ X.K e b d)(j:WB X.K (eL N e.scope.names) m body)
  (o:(bZ d b.length args).length=b.length) (p:n<100) (w:cp X n (λ_ _=>False) m ⟨eO (bZ d b.length args) N,g⟩ (kR Q)):mz X (n+1) (.ref f) args g Q:=by
 exactλA F H i l s E k R V=>yr D B o (IN (o0 (T0 _ _) k.2.1) (abW _ _)) R V λa E q _ r=>
  j.bl▸bt.ro _ (c:=⟨X,A.deeper a,n,_,a,E,D.ok,k.deeper _,λh=>absurd p (aaG.mpr h)⟩) (B:=H) (Jo (q▸D.OD) r) j.bQ w
end
section
variable{X:Cx}{F H:bj}{g:aZ}{b:ah}{d i:Shared}{A:Around}{n:Nat}
def R0.CL(R:R0 X F H g b d):R0 X F H [] [] d:=
 ⟨R.r6,R.de,R.fz,R.lE,R.gn,λn c e=>by exact nx e,rfl,.nil,λa m=>by exact nl m,R.gens,R.os⟩
def SG(h:mz X n f args [] (λv c=>(dz c v).nc/\Q (dz c v))):nW X n f args Q:=λA F H d l E m R V=>
 aaS (h A F H [] d l E m R V) λr i z=>by
  rcases r with e|(_|_|_|v)<;>first|exact z|exact z.elim|skip
  refine Kl z λs t c a o u j p k q=>?_;exact(lF _ _ (o.trans (gJ j)) j.ky.CL (nZ (xR j 6 _ _ p k) k) q)
end
noncomputable def Hx(K:Frag)(f:Addr):FuncData:=(K.lookup f).elim default λo=>match o.data with| .func a=>a|_=>default
noncomputable def yt(a:FuncData):List Stmt:=match a.body with| .stmts b=>b|_=>[]
noncomputable def fnL(K:Frag)(f:Addr)(a:FuncData)(b:dT)(N:Nat):Option Data×FuncBody×Bool×Bool×List (Str×Addr)×Bool×Addr×Addr×ScopeKind×Bool×Bool×Bool×Bool×Bool×Bool:=
 ((K.lookup f).map Obj.data,a.body,codeIn K a.code a.qualname,kdsCode K a.code,a.closure,jN b,a.globals,a.builtins,a.scope.kind,a.scope.isCoroutine,a.scope.isGenerator,jN (a.scope.names.map (·.1)),
  fi (eL N a.scope.names),b.zipIdx.all λy=>(cZ a.scope.names 0).any λz=>z.1==y.1&&z.2.1==y.2,decide (b.length<=N))
noncomputable def fnR(a:FuncData):Option Data×FuncBody×Bool×Bool×List (Str×Addr)×Bool×Addr×Addr×ScopeKind×Bool×Bool×Bool×Bool×Bool×Bool:=
 (some (.func a),.stmts (yt a),true,true,[],true,mainGlobals,builtinsNs,.function,false,false,true,true,true,true)
inductive Ls(K:Frag)(f:Addr)(ps:List Str)(N:Nat)(d:Option af)(ir:bt):Prop
 |mk {fd:FuncData} {b:List Stmt} (at_:tF K f fd b ps N) (bind:kQ K fd ps d) (bQ:WB K (eL N fd.scope.names) ir b)
def tG{K:Frag}{N:Nat}(h:fnL K f fd a N=fnR fd):tF K f fd (yt fd) a N:=
 ⟨TW.mp (v6 (·.1) h),v6 (·.2.1) h,v6 (·.2.2.1) h,v6 (·.2.2.2.1) h,v6 (·.2.2.2.2.1) h,v6 (·.2.2.2.2.2.1) h,v6 (·.2.2.2.2.2.2.1) h,v6 (·.2.2.2.2.2.2.2.1) h,v6 (·.2.2.2.2.2.2.2.2.1) h,
  v6 (·.2.2.2.2.2.2.2.2.2.1) h,v6 (·.2.2.2.2.2.2.2.2.2.2.1) h,v6 (·.2.2.2.2.2.2.2.2.2.2.2.1) h,v6 (·.2.2.2.2.2.2.2.2.2.2.2.2.1) h,λj x e=>by
   refine aj (aak.mp (WP.mp (v6 (·.2.2.2.2.2.2.2.2.2.2.2.2.2.1) h) (x,j) (List.mem_zipIdx_iff_getElem?.mpr e))) λy m q=>?_;refine bJ q λb c=>?_;have d:y.1=x:=YD b;have g:y.2.1=j:=YD c;exact⟨y.2.2,d▸g▸m⟩,s5 (v6 (·.2.2.2.2.2.2.2.2.2.2.2.2.2.2) h)⟩
section
variable{X:Cx}{n:Nat}{f:Addr}{c:dT}{N:Nat}{d:Option af}{e:bt}{a b:ah}
def xi(g:Ls X.K f c N d e)(h:(bZ d c.length a).length=c.length)(i:n<100)
  (w:cp X n (λ_ _=>False) e ⟨eO (bZ d c.length a) N,b⟩ (kR Q)):mz X (n+1) (.ref f) a b Q:=by
 cases g with|mk j k l=>exact SE j k l h i w
def cH(Q:af->Prop):aR->St->Prop:=kR λv g=>(dz g v).nc/\Q (dz g v)
def Jp(g:Ls X.K f c N d e)(h:(bZ d c.length a).length=c.length)(i:n<100)
  (w:cp X n (λ_ _=>False) e ⟨eO (bZ d c.length a) N,[]⟩ (cH Q)):nW X (n+1) (.ref f) a Q:=SG (xi g h i w)
end
noncomputable def WC(K:Frag)(C a:Addr):Bool:=makesIn K C&&(findIn K (.ref C) "__init__"==some (some (.ref a))&&typeIn K (.ref a)==some (.type "function"))
section
variable{X:Cx}{F H:bj}{g:aZ}{d:ah}{b f:Shared}{A:Around}{n:Nat}
def Lv.UJ(h:Lv A (n+1)) C rest:Lv (A.under (.builtin "type.__call__" ⟨.ref C::rest,[]⟩)) n:=bH h.1 (lvl (k:=1) (t:=2*n) (m:=2) h.2.1 (by decide)) (lvl (k:=1) (t:=10*n) (m:=10) h.2.2 (by decide))
def WD(s:WC X.K C t){Q:af->Prop}(u:eJ args)
  (h:mz X n (.ref t) (.cell 1::args) [.attrs [] [],.ji C 0] (λv j=>v=.none/\(dz j (.cell 1)).nc/\Q (dz j (.cell 1)))):nW X (n+1) (.ref C) args Q:=by
 refineλA F H b p E w R V=>bJ s λx k=>bJ k λy B=>make_core (makes_of R.k x) (looks_findIn R.k (aae.mp y)) (λi=>bind_fn R.k i (aae.mp B)) (.inl rfl) ?_
 have D:=(R.push emptyDict).Gm (a:=b.heap.objs.size) (o:=emptyDict) (c:=.attrs [] []) (GM _ rfl) (R.hW (v0 _)) (R.mu (v0 _)) nl (R.uP (v0 _)) (.attrs (es:=[]) (n:=0) .nil .nil);have G:(b.heap.push emptyDict).objs.size=b.heap.objs.size+1:=acz ..;have I:=(D.push (instObj C b.heap.objs.size)).Gm (a:=b.heap.objs.size+1) (o:=instObj C b.heap.objs.size) (c:=.ji C 0) (G▸GM _ rfl) (R.hW (aaU _)) (R.mu (aaU _)) (λm=>Nat.succ_ne_self _ (u8.mp m)) (R.uP (aaU _)) (.ji rfl)
 exact aaS (h _ F H _ _ (.ref (b.heap.objs.size+1)::p) E (w.UJ C p) I (.cons (.cell rfl) (mY V u))) λr f z=>by
  rcases r with e|(_|_|_|v)<;>first|exact z|exact z.elim|skip
  exact VE z λO P j a J L l M e q N=>⟨(e▸M).AG,_,_,J.trans (gJ l),l.ky.CL,nZ (xR l 6 (.cell 1) _ (.cell (L 1 _ rfl)) q) q,N⟩
end
noncomputable def zS(K:Frag)(C:Addr):ClassData:=(clsIn K C).getD default
noncomputable abbrev OG(K:Frag)(C:Addr):aQ:=(zS K C).mro.tail
noncomputable def OH(K:Frag)(C:Addr)(i:Nat):Option Value:=(K.lookup C).elim none λo=>o.slots.toList.getD i none
noncomputable abbrev ab1(K:Frag)(C:Addr):Obj:=
 excClassObj (zS K C).name (zS K C).qualname C (zS K C).ns (zS K C).bases (OG K C) (zS K C).hasDict (zS K C).slotNames (zS K C).subclasses (zS K C).abstract (zS K C).collection ((K.lookup C).elim none Obj.dict) (OH K C 0) (OH K C 1) (OH K C 2) (OH K C 3) (OH K C 5) "Exception.__new__"
structure yu(K:Frag)(C fI:Addr):Prop where
 OI:K.lookup C=some (ab1 K C)
 hcB:(Value.ref C::OG K C).contains (.type "Exception")=true
 Zy:(Value.ref C::OG K C).contains (.type "BaseException")=true
 hcA:(Value.ref C::OG K C).contains (.type "AttributeError")=false
 hcN:(Value.ref C::OG K C).contains (.type "NameError")=false
 init:findIn K (.ref C) "__init__"=some (some (.ref fI))
 fn:typeIn K (.ref fI)=some (.type "function")
 self:mroIn K C (.ref C)=some true
 new:∀S rest,peek K S (checkBuiltinCall "Exception.__new__" ⟨.ref C::rest,[]⟩)=some ()
section
variable{a:Program}{w:World}{A:Around}{R:Result->Shared->Prop}{h:Heap}{g:Array GenState}{d:Drawn}{t:Nat}{os:OsState}{K:Frag}{C c:Addr}
noncomputable abbrev di(C t:Addr)(d:Option Addr):Obj:={cls:=.ref C,dict:=d,data:=.fields #[.ref t,.none,.none,.none,.bool false,.none]}
def SH(Y:yu K C c)(X:K.In h){rest:aQ}(b:rest.length<=10)
  (j:R (.ok (.ret (.ref (h.objs.size+1)))) ⟨(h.push {cls:=.type "tuple",data:=.seq rest.toArray}).push (di C h.objs.size none),g,d,t,os⟩):
  codeAny (model a w) A (.builtin "Exception.__new__" ⟨.ref C::rest,[]⟩) R ⟨h,g,d,t,os⟩:=by
 haveI e:=X _ _ Y.OI;haveI F:=acT;haveI f:=F.ends;haveI k:rest.length<=sizeLine:=o0 b (by simp only[sizeLine_eq];exact Nat.le_of_ble_eq_true rfl);refine codeAny_builtinAt F.entry ?_;refine PySem.wpAt_bind ?_;refine PySem.wpAt_bind (PySem.wpAt_stack λp i=>PySem.wpAt_of_wpAny ?_);wp_walk;refine PySem.wpAt_of_wpAny ?_;refine F.owner▸?_
 repeat (first|with_reducible refine wpAny_madeHere_exc F.canon e ?_|with_reducible refine wpAny_loadPart_at e ?_|(with_reducible refine wpAny_isSubtype_exc e ?_;first|rw[Y.hcB]|rw[Y.hcA]|rw[Y.hcN])|wp_step)
 show R _ _;rw[acz];exact j
def zT(Y:yu K C c)(X:K.In h){rest:aQ}
  (b:Q () ⟨h,g,d,t,os⟩):wpAny M A (checkBuiltinCall "Exception.__new__" ⟨.ref C::rest,[]⟩) Q E ⟨h,g,d,t,os⟩:=
 (Looks.of_peek (M:=M) X (Y.new _ rest)).here b
def OJ(Y:yu K C c)(X:K.In h){rest:aQ}(f:rest.length<=10)
  (m:codeAny (model a w) (A.under (.builtin "type.__call__" ⟨.ref C::rest,[]⟩)) (.call (.ref c) ⟨.ref (h.objs.size+1)::rest,[]⟩) (InitBack (h.objs.size+1) R)
   ⟨(h.push {cls:=.type "tuple",data:=.seq rest.toArray}).push (di C h.objs.size none),g,d,t,os⟩):
  codeAny (model a w) A (.call (.ref C) ⟨rest,[]⟩) R ⟨h,g,d,t,os⟩:=by
 haveI i:=X _ _ Y.OI;haveI n:=tc_lookup;haveI f2:=tc_bind (.ref C);haveI p:(⟨h,g,d,t,os⟩:Shared).TypeIs (.ref C) "type":=(ay _ i rfl);haveI F:=acT;refine codeAny_of_tree ?_;show wpAny _ _ (callAny (.ref C) _) _ _ _
 repeat (any_goals (first|assumption|with_reducible refine wpAny_loadPart_at i ?_|wp_step))
 refine⟨rfl,?_⟩;refine codeAny_call_builtin_at (Code.quiet_builtin _ (by decide+kernel)) entry_typeCall (wpAny_check_type_call_sub i ?_)
 repeat (first|with_reducible refine wpAny_loadPart_at i ?_|with_reducible refine wpAny_madeBy_exc i ?_|wp_step)
 refine codeAny_call_builtin_code (Code.quiet_builtin _ F.quiet) (zT (rest:=rest) Y X ?_);refine SH (rest:=rest) Y X f ?_;haveI k:∀b o,h.get? b=some o->((h.push {cls:=.type "tuple",data:=.seq rest.toArray}).push (di C h.objs.size none)).get? b=some o:=λb o e=>wT _ (wT _ e);haveI j:((h.push {cls:=.type "tuple",data:=.seq rest.toArray}).push (di C h.objs.size none)).get? (h.objs.size+1)=some (di C h.objs.size none):=by heap_get
 have l:K.In ((h.push {cls:=.type "tuple",data:=.seq rest.toArray}).push (di C h.objs.size none)):=λb o e=>k _ _ (X b o e);haveI q:=looks_findIn (M:=model a w) l Y.init;haveI s:=bind_fn (M:=model a w) l (.ref (h.objs.size+1)) Y.fn;haveI u:Looks (model a w) ((h.push {cls:=.type "tuple",data:=.seq rest.toArray}).push (di C h.objs.size none)) (typeOf (.ref (h.objs.size+1))) (.ref C):=(Looks.ld j).andThen .now;haveI x:Looks (model a w) ((h.push {cls:=.type "tuple",data:=.seq rest.toArray}).push (di C h.objs.size none)) (isSubtype (.ref C) (.ref C)) true:=looks_mroIn l Y.self
 repeat (first|with_reducible refine wpAny_call ?_|lk)
 refine aaS m λr y z=>?_;rcases r with e|(v|_|_|_)<;>first|exact z|exact z.elim|skip
 obtain⟨rfl,z⟩:=z;exact s4 (s4 z)
end
section
open PySem PySem.W PyProof.Rows Builtin Builtin.ObjectAttr
noncomputable def xj:aQ->Bool
 | .ref _::r=>xj r
 |l=>l==[.type "Exception",.type "BaseException",.type "object"]
def EZ(a:([.type "Exception",.type "BaseException",.type "object"]:aQ).contains (.type T)):∀{l:aQ},xj l->l.contains (.type T):=by
 intro l;induction l with
 |nil=>intro h;cases h
 |cons v r b=>
  intro h;cases v with
  |ref c=>simp only[List.contains_cons,b h,Bool.or_true]
  |_=>refine(show _::r=_ from aae.mp h)▸?_;exact a
def Hy self:∀{l:aQ},xj l->refuseLoop self "__setattr__" l=pure ():=by
 intro l;induction l with
 |nil=>intro h;cases h
 |cons v r a=>
  intro h;cases v with
  |ref c=>rw[refuseLoop_ref];exact a h
  |_=>refine(show _::r=_ from aae.mp h)▸?_;exact PySem.F.store_Exception.passes self
noncomputable def Jq(K:Frag)(C:Addr):Bool:=(clsIn K C).any λa=>xj a.mro
section
variable{g:Program}{w:World}{A:Around}{E:dy}{s:Shared}{K:Frag}{C x:Addr}{R:Result->Shared->Prop}
def Jr(X:K.In s.heap)(I:InstAt s.heap x B C D)(n:Jq K C)(o:takerIn K C name=some none)
  (h:∀b,wpAny (model g w) A.in1 (storeInOwnDict (.ref x) (.ref C) (.str name tk) name v b)
   (λiJ d=>match iJ with| .done f=>R (.ok f) d| .again k=>k.quiet/\codeAny (model g w) A k R d) (λe d=>R (.error e) d) s):
  codeAny (model g w) A (.call (.builtin "object.__setattr__") ⟨[.ref x,.str name tk,v],[]⟩) R s:=by
 haveI c:=PySem.F.store_object;refine aj (any_some n) λj l i=>?_;haveI p:j.mro.isEmpty=false:=by cases q:j.mro with|nil=>rw[q]at i;exact Bool.noConfusion i|cons _ _=>rfl
 haveI sub:Looks (model g w) s.heap (isInstance (.ref x) (.type "object")) true:=I.type.andThen (looks_mroIn X (by unfold mroIn;rw[l,Option.bind_some,if_neg (by rw[p];decide),EZ rfl i]));refine codeAny_call_builtin c.slot.plain c.entry (@check_slot (model g w) _ _ s "object.__setattr__" "object" "__setattr__" (.ref x) [.str name tk,v] [] _ c.kind c.split sub (c.args (.ref x) (.str name tk) v) ?_);refine aj (TD.mp o) λm r t=>?_;haveI u:Looks (model g w) s.heap (mroOf (.ref C)) j.mro:=(looks_clsIn X l).andThen .now
 haveI y:Looks (model g w) s.heap (storeTaker? m) none:=by
  cases m with
  |none=>exact .now
  |some a=>
   refine aj (TW.mp t) λb z e=>?_;refine(looks_takesIn X z).andThen ?_;cases b<;>first|exact .now|exact sx e
 rw[osa_eq,refuse_eq];refine dL (dL (I.type.here (dL (u.here ?_))));refine(Hy _ i)▸?_;exact s4 (dL (I.type.here (dL ((looks_findIn X r).here (dL (y.here (h _)))))))
def r9{b:List DictEntry}(e:s.heap.get? d=some (dictOf b n))(f:b.any (·.refKey)=false)(j:b.length<=1000)
  (h:Q (.done (.ret .none)) {s with heap:=s.heap.update d (Obj.putName a (PyData.keyHash w.params a) (.str a s.toks) v),toks:=s.toks+1}):
  wpAny (model g w) A (storeInDict d (.str a tk) a v) Q E s:=by
 refine dL (s4 (dL ?_));refine dL (dL (ab7 (s4 (dL (wpAny_mkText (dL (wpAny_loadPart e ?_)))))))
 have c:(!b.toArray.any (·.key.isStr a)&&b.toArray.any (·.refKey))=false:=by
  simp only[List.any_toArray,List.any_toArray,f,ac9]
 dsimp only;rw[aRefKeyMayBeTheName_at,c];refine wpAny_updatePart e ?_
 haveI i:(s.heap.update d (Obj.putName a (PyData.keyHash w.params a) (.str a s.toks) v)).get? d=some (dictOf (putL a (PyData.keyHash w.params a) (.str a s.toks) v b) (putN a b n)):=by
  haveI:=UV (Obj.putName a (PyData.keyHash w.params a) (.str a s.toks) v) e (by rw[putName_dict];rfl);simp only[this,putName_dict]
 refine dL (wpAny_lookBehind i (by exact pastItsLine_dict (by haveI:=x5 a (PyData.keyHash w.params a) (.str a s.toks) v b;simp only[ST,sizeLine_eq];lia)) ?_);exact s4 h
structure OK(K:Frag)(C:Addr):Prop where
 set:findIn K (.ref C) "__setattr__"=some (some (.builtin "object.__setattr__"))
 Zz:Jq K C=true
 dict:hasDictIn K C=true
def OL(Y:OK K C)(X:K.In s.heap)(e:s.heap.get? x=some (di C t (some d)))(f:s.heap.get? d=some (dictOf c n))
  (i:takerIn K C name=some none) (j:c.any (·.refKey)=false) (k:c.length<=1000)
  (h:Q () {s with heap:=s.heap.update d (Obj.putName name (PyData.keyHash w.params name) (.str name (s.toks+1)) v),toks:=s.toks+1+1}):wpAny (model g w) A (setAttr (.ref x) name v) Q E s:=by
 haveI I:InstAt s.heap x (di C t (some d)) C (some (dictOf c n)):=⟨e,rfl,rfl,f⟩;refine set_plain X I Y.set (Jr (s:={s with toks:=s.toks+1}) X I Y.Zz i λb=>?_);refine aj (any_some Y.dict) λo l m=>?_;refine dL (s4 (dL (dL (wpAny_loadPart e (dL ((looks_clsIn X l).at ?_))))));refine m.symm▸?_;exact s4 (a:=some d) (r9 f j k h)
def ON(Y:OK K C)(X:K.In s.heap)(f:s.heap.get? x=some (di C t none))(m:takerIn K C name=some none)
  (h:∀i,i.get? x=some (di C t (some s.heap.objs.size))->i.get? s.heap.objs.size=some (dictOf (putL name (PyData.keyHash w.params name) (.str name (s.toks+1)) v []) (putN name [] 0))->(∀b o,b≠x->s.heap.get? b=some o->i.get? b=some o)->
   Q () {s with heap:=i,toks:=s.toks+1+1}):wpAny (model g w) A (setAttr (.ref x) name v) Q E s:=by
 haveI I:InstAt s.heap x (di C t none) C none:=⟨f,rfl,rfl,trivial⟩;refine set_plain X I Y.set (Jr (s:={s with toks:=s.toks+1}) X I Y.Zz m λb=>?_);refine aj (any_some Y.dict) λz n p=>?_;refine dL (s4 (dL (dL (wpAny_loadPart f (dL ((looks_clsIn X n).at ?_))))));refine p.symm▸?_;haveI q:x<s.heap.objs.size:=KM f;have c:(s.heap.push emptyDict).get? x=some (di C t none):=wT _ f;have j:(s.heap.push emptyDict).get? s.heap.objs.size=some emptyDict:=GM _ rfl;have l:x≠s.heap.objs.size:=LE q;have d:((s.heap.push emptyDict).update x λo=>{o with dict:=some s.heap.objs.size}).get? s.heap.objs.size=some (dictOf [] 0):=(SB _ _ l).trans j;refine dL (wpAny_alloc (dL (wpAny_update c ?_)));refine s4 (a:=some s.heap.objs.size) (r9 d rfl (SC _) (h _ ?_ ?_ ?_))
 ·exact(SB _ _ (acQ l)).trans (UV _ c rfl)
 ·haveI:=UV (Obj.putName name (PyData.keyHash w.params name) (.str name (s.toks+1)) v) d (rfl)
  simp only[this,putName_dict]
 ·intro b o r e
  haveI k:s.heap.objs.size≠b:=ab8 (KM e);haveI u:(s.heap.push emptyDict).get? b=some o:=wT _ e;haveI y:((s.heap.push emptyDict).update x λo=>{o with dict:=some s.heap.objs.size}).get? b=some o:=(SB _ _ (acQ r)).trans u;exact(SB _ _ k).trans y
end
end
section
open PySem PySem.W PyProof.Rows Builtin Builtin.ObjectAttr
structure Bl(K:Frag)(C:Addr):Prop where
 ga:findIn K (.ref C) "__getattribute__"=some (some (.builtin "BaseException.__getattribute__"))
 no:findIn K (.ref C) "__getattr__"=some none
 sub:mroIn K C (.type "BaseException")=some true
def Hz:Manifest.canonical "BaseException.__getattribute__"="object.__getattribute__":=by decide+kernel
def Js:typeLookup (.type "type") "__getattribute__"=pure (some (.builtin "type.__getattribute__")):=by rw[typeLookup_type,aa0];kernel_rfl
def OO:typeLookup (.type "type") "__init__"=pure (some (.builtin "type.__init__")):=by rw[typeLookup_type,aa0];kernel_rfl
def SI:typeLookup (.type "Exception") "__init__"=pure (some (.builtin "Exception.__init__")):=by rw[typeLookup_type,aa0];kernel_rfl
def WE:typeLookup (.type "wrapper_descriptor") "__get__"=pure (some (.builtin "wrapper_descriptor.__get__")):=by rw[typeLookup_type,aa0];kernel_rfl
def WG:typeLookup (.type "wrapper_descriptor") "__set__"=pure none:=by rw[typeLookup_type,aa0];kernel_rfl
def WH:typeLookup (.type "wrapper_descriptor") "__delete__"=pure none:=by rw[typeLookup_type,aa0];kernel_rfl
def oh:typeOf (.type "Exception")=pure (.type "type"):=by kernel_rfl
def Lu:typeOf (.builtin "type.__init__")=pure (.type "wrapper_descriptor"):=by kernel_rfl
def Lw:typeOf (.builtin "Exception.__init__")=pure (.type "wrapper_descriptor"):=by kernel_rfl
def Lx:entryFor table "type.__getattribute__"=some Builtin.«type.__getattribute__»:=entryFor_of_tree (by kernel_rfl)
def yv:Slot "type" "__getattribute__" "type.__getattribute__":=.of (owner:="type") (n:="__getattribute__") (by rw[typeLookup_type,aa0];kernel_rfl) (by decide+kernel) (by decide+kernel) (by decide+kernel)
  (by first|exact .inl (by decide+kernel)|exact .inr (by decide+kernel)) (by rw[isSubtype_type];kernel_rfl)
def OP a b:argsOk "type.__getattribute__" ⟨[a,b],[]⟩:=by kernel_rfl
section
variable{c:Program}{w:World}{A:Around}{E:dy}{s:Shared}{K:Frag}{C x:Addr}
def SJ(Y:Bl K C)(X:K.In s.heap)(I:InstAt s.heap x o C f)(i:findObj K C f name=some (.value v))(j:handedIn v)
  (h:Q v {s with toks:=s.toks+1}):wpAny (model c w) A (getAttr (.ref x) name a) Q E s:=by
 obtain⟨k,g,d,t,os⟩:=s;haveI b:=I.type (M:=model c w);haveI l:=looks_findIn (M:=model c w) X Y.ga;haveI m:=looks_findIn (M:=model c w) X Y.no;haveI n:=looks_find (M:=model c w) X I i;haveI sub:Looks (model c w) k (isInstance (.ref x) (.type "BaseException")) true:=b.andThen (looks_mroIn X Y.sub);haveI e:(a&&onTheHeap (Value.builtin "BaseException.__getattribute__"))=false:=by cases a<;>rfl
 refine dL (wpAny_mkText (KB (dL (b.at (dL (l.at ?_))))));dsimp only;rw[if_neg (by rw[show(Value.builtin "BaseException.__getattribute__"==Value.builtin "object.__getattribute__")=false from by decide+kernel,ac9];decide)];refine dL (m.at (dL (wpAny_attempt (KB ?_))));unfold callGetattribute;rw[e,if_neg (by decide)];unfold boundAndCalled;rw[PySem.F.attr_Exception.ga.bind (.ref x)]
 refine dL (s4 (wpAny_call (codeAny_call_builtin PySem.F.attr_Exception.ga.plain PySem.F.entry_bexc_ga
  (@check_slot (model c w) _ _ _ "BaseException.__getattribute__" "BaseException" "__getattribute__" (.ref x) [.str name t] [] _ (by decide+kernel) (by decide+kernel) sub (PySem.F.args_bexc_ga _ _) ?_))))
 refine dL (s4 (dL (s4 (dL (b.at (dL (n.at (s4 ?_))))))));show wpAny _ _ (handedOut v) _ _ _;refine(handedOut_of j)▸?_;exact s4 h
def WJ(Y:Bl K C)(X:K.In s.heap)(I:InstAt s.heap x i C g)
  (j:findIn K (.ref C) name=some (some (.ref f))) (k:typeIn K (.ref f)=some (.type "function")) (l:shadowIn g name=some false) (h:Q (.ref f,[.ref x]) s):wpAny (model c w) A (getMethod (.ref x) name m) Q E s:=by
 refine dL (dL (I.type.here ((looks_findIn X Y.ga).here ?_)));dsimp only;rw[Hz,if_neg (by decide)];refine dL (dL (I.type.here ((looks_findIn X Y.no).here ?_)));refine dL (dL (I.type.here ((looks_findIn X j).here (dL ((looks_typeIn X k).here ?_)))));rw[if_neg (by decide+kernel)];refine dL (wpAny_loadPart I.at_ ?_);haveI d:=I.dict;cases e:i.dict with
 |none=>exact dL (wpAny_rule (s4 h))
 |some n=>
  cases g with
  |none=>rw[e]at d;exact d.elim
  |some o=>
   rw[e]at d;refine aj (TW.mp l) λr a b=>?_;refine dL (dL (wpAny_loadPart d ?_));refine(nsLook_of a)▸?_;cases r with
   |none=>exact s4 (dL (wpAny_rule (s4 h)))
   |some _=>exact Bool.noConfusion b
def CM(h:∀tk,Q (.builtin "Exception.__init__") {s with toks:=tk}):wpAny (model c w) A (getAttr (.type "Exception") "__init__" a) Q E s:=by
 haveI b:(a&&onTheHeap (Value.builtin "type.__getattribute__"))=false:=by cases a<;>rfl
 refine dL (wpAny_mkText ?_);refine KB ?_;rw[oh];refine dL (s4 (dL (wpAny_of_eq Js ?_)));dsimp only;rw[if_neg (by decide)];refine dL (s4 (dL (wpAny_attempt (KB ?_))));unfold callGetattribute;rw[b,if_neg (by decide)];haveI d:(Shared.TypeIs {s with toks:=s.toks+1} (.type "Exception") "type"):=oh;refine dL (wpAny_of_eq (yv.bind _) (wpAny_call (codeAny_call_builtin yv.plain Lx (yv.check _ _ _ _ _ _ _ _ d (OP _ _) ?_))));haveI e:=oh;haveI f2:=OO;haveI f3:=SI;haveI f4:=WE;haveI f5:=WG;haveI f6:=WH;haveI f7:=Lu;have f:=Lw;have g:=h (s.toks+1);clear h
 repeat (any_goals (first|assumption|wp_step))
end
end
section
open PySem PySem.W PyProof.Rows Builtin Builtin.ObjectAttr
section
variable{c:Program}{w:World}{A:Around}{E:dy}{s:Shared}{K:Frag}{C f x:Addr}{R:Result->Shared->Prop}
def yw(Y:yu K C f)(X:K.In s.heap){i:Obj}{rest:aQ}(k:s.heap.get? x=some i)(l:i.cls=.ref C)(m:Q () s):
  wpAny M A (checkBuiltinCall "Exception.__init__" ⟨.ref x::rest,[]⟩) Q E s:=by
 obtain⟨h,g,d,t,os⟩:=s;haveI j:=X _ _ Y.OI;haveI F:=acT;haveI e:=F.noStar;simp only[checkBuiltinCall,F.initKind,F.initSplit,F.initRow]
 repeat (first|(with_reducible refine wpAny_loadPart_at k ?_;rw[l])|with_reducible refine wpAny_loadPart_at j ?_|(with_reducible refine wpAny_isSubtype_exc j ?_;rw[Y.hcB])|wp_step)
 refine wpAny_onRaise ?_
 rw[show∀(a b:String) (n:Nat),Bind.check ⟨.positional,"*","Exception",.self,[⟨"args",.varPos,false⟩]⟩ a b n (List.map (λx=>x.fst) ({pos:=Value.ref x::rest}:Args).kw)=pure ()from
  λa b n=>check_star_args _ _ _ _ _ _]
 exact s4 m
def zU(Y:yu K C f)(X:K.In s.heap)(i:s.heap.get? x=some (di C t none))
  (h:∀a,a.get? x=some (di C s.heap.objs.size none)->(∀b o,b≠x->s.heap.get? b=some o->a.get? b=some o)->s.heap.objs.size<=a.objs.size->R (.ok (.ret .none)) {s with heap:=a}):
  codeAny (model c w) A (.call (.builtin "Exception.__init__") ⟨[.ref x,v],[]⟩) R s:=by
 haveI F:=acT;refine codeAny_call_builtin F.init.plain F.initEntry (yw Y X i rfl ?_);obtain⟨j,g,d,tk,os⟩:=s;haveI m:=KM i;haveI k:(j.push {cls:=.type "tuple",data:=.seq #[v]}).get? x=some (di C t none):=wT _ i
 haveI l:=h ((j.push {cls:=.type "tuple",data:=.seq #[v]}).update x (Obj.mapFields (·.setIfInBounds 0 (.ref j.objs.size)))) ((UV _ k rfl).trans rfl)
  (λb o n e=>(SB _ _ (acQ n)).trans (wT _ e)) (by simp only[Heap.size_after_update,acz];exact aaU _)
 clear h;wp_walk;exact l
end
end
section
open PySem PySem.W PyProof.Rows Builtin Builtin.ObjectAttr
noncomputable def CN(S:a0)(x:Str)(i:Nat):Bool:=S.a8.contains (x,i,false)
section
variable{X:Cx}{S:a0}{c:Env}{A:Around}{E:dy}{F G H:bj}{y D:aZ}{st J:St}{f I:Shared}{n:Nat}{e:Addr}
def bR.SM{h a:Heap}(V:bR X S c F H y aC h)(d:∀b o,b≠e->h.get? b=some o->a.get? b=some o)(i:fO S c e):bR X S c F H y aC a:=
 V.to (λb o q x=>d b o (λz=>i.no (z▸q)) x) rfl (λ_ _ e=>e) V.free λ_ _ e=>e
def c6.SM(R:c6 X S c F H y st f){d:Heap}(h:∀b o,b≠e->f.heap.get? b=some o->d.get? b=some o)(i:F e=none)(k:H e=none)(l:e∉y)(m:fO S c e):c6 X S c F H y st {f with heap:=d,toks:=tk}:=
 ⟨R.r0.to (λb o a x=>h b o (λq=>by
  subst q;rcases a with a|a|a
  ·exact a i
  ·exact a k
  ·exact l a) x) rfl rfl,R.a8.SM h m⟩
def swN:swapsWith (.Name x p) (some t) l c=pure false:=AZ rfl
structure ip(X:Cx)(S:a0)(c:Env)(F H:bj)(e C:Addr)(g j:af)(v:Option Addr)(f:Shared):Prop where
 bu:c6 X S c F H [] ⟨[.ae,g,j],[]⟩ f
 self:∃m,f.heap.Ns c.locals m/\∀x,(x,0,false)∈S.a8->m x=some (.ref e)
 obj:∃t,f.heap.get? e=some (di C t v)
 hF:F e=none
 hH:H e=none
 hv:fO S c e
section
variable{C:Addr}{g j:af}{v:Option Addr}
def ip.next(M:ip X S c F H e C g j v f){a:Heap}(i:∀b o,b≠e->f.heap.get? b=some o->a.get? b=some o)(k:a.get? e=some (di C t d)):
  ip X S c F H e C g j d {f with heap:=a,toks:=tk}:=by
 refine aj M.self λm R9 l=>?_;obtain⟨oL,p,q,r,s⟩:=R9;exact⟨M.bu.SM i M.hF M.hH (λh=>nl h) M.hv,⟨m,(Kj oL p q (i _ _ (acQ M.hv.1) r) s),l⟩,⟨t,k⟩,M.hF,M.hH,M.hv⟩
def ip.td(M:ip X S c F H e C g j v f) tk:ip X S c F H e C g j v {f with toks:=tk}:=
 ar M.obj λt a=>M.next (λ_ _ _ x=>x) a
def ip.load(hS:fi S)(M:ip X S c F H e C g j v f)(b:CN S x 0)(k:P (.ref e) f):wpAny (model X.prog X.w) A (eval (.Name x p) c) P E f:=by
 haveI a:(x,0,false)∈S.a8:=List.contains_iff_mem.mp b;refine aj M.self λm d h=>?_;exact wpAny_Name (wpAny_loadName_local M.bu.a8.kind (M.bu.a8.es.kl x 0 a) d (h x a) k) (qr hS a)
def ip.get(hS:fi S)(M:ip X S c F H e C g j v f)(d:CN S x i)(h:[af.ae,g,j][i]?=some a)(l:a≠ .ae)
  (k:∀u,aG X.prog X.w F [] a u->P u f):wpAny (model X.prog X.w) A (eval (.Name x p) c) P E f:=by
 haveI b:(x,i,false)∈S.a8:=List.contains_iff_mem.mp d;exact wpAny_Name (tj M.bu b h l k) (qr hS b)
structure CO(K:Frag)(C:Addr):Prop where
 st:OK K C
 gt:Bl K C
 OQ:takerIn K C "what"=some none
 at_:takerIn K C "at"=some none
variable{B:Addr}
noncomputable abbrev tb(b:List Stmt)(i:Nat):Stmt:=b.getD i default
noncomputable def OR(a:Str)(s:Stmt):Stmt:=.Assign [.Attribute (.Name "self" (cx (xg s) 0).pos) a (xg s).pos] (.Name a (gA s).pos) s.pos
noncomputable def OS(b:List Stmt):List Stmt:=[.Expr (.Call (.Attribute (.Name "Exception" (cx (cx (gA (tb b 0)) 0) 0).pos) "__init__" (cx (gA (tb b 0)) 0).pos) [.Name "self" (cx (gA (tb b 0)) 1).pos,.Name "what" (cx (gA (tb b 0)) 2).pos] [] (gA (tb b 0)).pos) (tb b 0).pos,OR "what" (tb b 1),OR "at" (tb b 2)]
noncomputable def OT(K:Frag)(S:a0)(b:List Stmt):Bool:=ig (cx (gA (tb b 0)) 0).pos (gA (tb b 0)).pos&&(gZ K S "Exception" (.type "Exception")&&(CN S "self" 0&&(CN S "what" 1&&CN S "at" 2)))
def Ly(hS:fi S)(Y:yu X.K C B)(i:ig w r)(l:gZ X.K S "Exception" (.type "Exception"))(m:CN S "self" 0)(x:CN S "what" 1)(M:ip X S c F H e C g j none f)(z:g≠ .ae)
  (k:∀a tk,ip X S c F H e C g j none {f with heap:=a,toks:=tk}->(∀b o,b≠e->f.heap.get? b=some o->a.get? b=some o)->f.heap.objs.size<=a.objs.size->P .next {f with heap:=a,toks:=tk}):wpAny (model X.prog X.w) A (exec (.Expr (.Call (.Attribute (.Name "Exception" py) "__init__" w) [.Name "self" p,.Name "what" q] [] r) t) c) P E f:=by
 refine wpAny_Expr_any ?_ (GR M.bu) rfl;rw[tr rfl];refine dL (sD M.bu l (dL (aaf ?_)));delta methodCall calleeOf;refine dL (KB (dL (dL (wpAny_of_eq oh (wpAny_of_eq Js ?_)))));dsimp only;refine dL (CM λtk=>s4 ?_);refine(tu i)▸?_;have d:=M.td tk;refine dL (s4 (el (.inr ⟨_,rfl⟩) rfl (cL rfl (wpAny_items_cons (d.load hS m (wpAny_items_cons (d.get hS x rfl z λu V=>?_) rfl)) rfl))));refine ar d.obj λQ L=>?_;exact wpAny_items_nil (wpAny_call (zU (s:={f with toks:=tk}) Y d.bu.r0.k L λa N h O=>k a tk (d.next h N) h O))
def yx(hS:fi S)(b:CN S "self" 0)(d:CN S x i)(M:ip X S c F H e C g j v f)(h:[af.ae,g,j][i]?=some a)(l:a≠ .ae)
  (k:∀u,aG X.prog X.w F [] a u->wpAny (model X.prog X.w) A (setAttr (.ref e) x u) (λ_=>P .next) E f):wpAny (model X.prog X.w) A (exec (OR x s) c) P E f:=plainObj_wpAny_Assign_Attribute (M.get hS d h l λu V=>M.load hS b (k u V)) swN
def Lz(hS:fi S)(Y:yu X.K C B)(Z:CO X.K C)(h:Sh OS (OT X.K S body) body)(M:ip X S c F H e C g j none f)(r:g≠ .ae)(Q:j≠ .ae)
  {P:Flow->Shared->Prop} (k:∀a tk t d v,(∀b o,b≠e->f.heap.get? b=some o->a.get? b=some o)->a.get? e=some (di C t (some d))->f.heap.objs.size<=d->a.get? d=some v->cM X.prog X.w F [] (.attrs ["what","at"] [g,j]) v->
   P .next {f with heap:=a,toks:=tk}):wpAny (model X.prog X.w) A (execs body c) P E f:=by
 refine h.bl▸?_;refine bJ h.bQ λR T=>bJ T λU V=>bJ V λl h3=>bJ h3 λs g4=>?_;refine wpAny_execs_cons (Ly hS Y R U l s M r λu m i k1 p=>wpAny_execs_cons (yx hS l s i rfl r λv1 V1=>?_));obtain⟨t0,w⟩:=i.obj;refine ON Z.st i.bu.r0.k w Z.OQ λhb q z L=>wpAny_execs_cons ?_;haveI M2:=i.next (tk:=m+1+1) L q;refine yx hS l g4 M2 rfl Q λv2 V2=>?_;refine aj (uR (X:=X) (F:=F) (ι:=[]) (x:="what") (hs:=PyData.keyHash X.w.params "what") (tk:=m+1) .nil V1 .nil) λw1 n1 r1=>?_;refine OL Z.st M2.bu.r0.k q z Z.at_ (x4 n1).2 (o0 (x5 _ _ _ _ _) (Nat.succ_pos _)) (wpAny_execs_nil ?_);refine aj (uR (X:=X) (x:="at") (hs:=PyData.keyHash X.w.params "at") (tk:=m+1+1+1) n1 V2 r1) λw2 n2 r2=>?_;haveI ne:u.objs.size≠e:=ab8 (KM w);refine k _ _ t0 u.objs.size _ (λb o N x=>?_) ((SB _ _ ne).trans q) p ((UV _ z (rfl)).trans (rfl)) (.attrs n2 r2);haveI O:=k1 b o N x;exact(SB _ _ (ab8 (KM O))).trans (L b o N O)
end
end
end
section
open PySem PySem.W PyProof.Rows Builtin Builtin.ObjectAttr
section
variable{X:Cx}{S:a0}{J:Env}{A:Around}{E:dy}{F T H:bj}{I O:aZ}{G:ah}{p M:Shared}{n:Nat}{C B:Addr}{z r:af}
structure SN(K:Frag)(C B:Addr)(fd:FuncData)(body:List Stmt)(ps:List Str):Prop where
 cls:yu K C B
 full:CO K C
 fn:tF K B fd body ps 3
 bind:kQ K fd ps (some .none)
 ab3:Sh OS (OT K (eL 3 fd.scope.names) body) body
 Jt:ps.length=3
def tF.at0{K:Frag}{d:FuncData}{body:List Stmt}{c:dT}{N:Nat}{f:Addr}(D:tF K f d body c N){a:aQ}{u:Value}{L:Nat}{g:Addr}(h:a.length=c.length)(i:a[0]?=some u){x:Str}(j:(x,0,false)∈(eL N d.scope.names).a8):
  bindL (callEnvC d L g).kindOf (c.zip a) (λ_=>none) x=some u:=by
 have k:0<c.length:=by refine h▸?_;exact(wP.mp i).1
 refine mr (sM D.ok) λe _ _ _=>?_;refine ar (D.first 0 c[0] (f0 k)) λb m=>?_;obtain rfl:=e _ _ _ _ _ j m;exact(gb _ _ _ j).2.2.elim (λq=>EW c a _ 0 u (eA D.nps) h (f0 k) i (xh (eA D.nn) q.1)) λq=>Bool.noConfusion q.2
def OU{args:ah}:args.length<=(bZ d np args).length:=d.casesOn (v0 _) λv=>Ba (P:=λl:ah=>args.length<=l.length) (λ_=>sK▸T0 ..) λ_=>v0 _
def UK{a:af}(h:a.nc):a≠ .ae:=λe=>Bool.noConfusion ((v6 af.nc e).symm.trans h)
def SO(D:SN X.K C B fd body ps)(hA:Lv A 0)(Z:p.heap.get? x=some (di C t0 none))(R:R0 X F H [] [] p)(hF:F x=none)(hH:H x=none)(V:ax X.prog X.w F [x] l us)
  (hf:bZ (some .none) 3 (.cell 0::l)=[.cell 0,z,r]) (n1:z.nc) (n2:r.nc) {P:Result->Shared->Prop}
  (k:∀Q tk t d od,(∀b o,b≠x->p.heap.get? b=some o->Q.get? b=some o)->Q.get? x=some (di C t (some d))->x<d->Q.get? d=some od->cM X.prog X.w F [] (.attrs ["what","at"] [z,r]) od->P (.ok (.ret .none)) {p with heap:=Q,toks:=tk}):
  codeAny (model X.prog X.w) A (.call (.ref B) ⟨.ref x::us,[]⟩) P p:=aj D.fn.at_ λof hof U=>have h3:bZ (some .none) ps.length (.cell 0::l)=[.cell 0,z,r]:=D.Jt▸hf
 aj (EY (s:=p) (prog:=X.prog) (w:=X.w) (F:=F) (ι:=[x]) D.bind R.k (.cons (.cell rfl) V) (h3▸D.Jt.symm)) λf Vs hb=>gm (h3▸Vs:ax X.prog X.w F [x] [.cell 0,z,r] f).qh λu us' e V0 m=>aj V0.AG λa e0 q=>by
  have hv:f.length=ps.length:=e▸(v6 (·+1) m.length).symm.trans D.Jt.symm;have h0:f[0]?=some (.ref x):=e▸v6 some (e0.trans (v6 Value.ref (BT q).symm));have Vn:=mY (bf:=[]) m (PP.mpr ⟨n1,PP.mpr ⟨n2,rfl⟩⟩);clear Vs V0 m h3;refine vZ (IN (o0 (T0 _ _) hA.2.1) (abW _ _)) (R.k _ _ hof) U (R.r6.MR _ R.Yx).2.2 (codeRec_of R.k D.fn.code) D.fn.body hb D.fn.Zv (Bk D.fn hv _) (λeE Y=>?_) D.fn.co D.fn.gen D.fn.kind;have VV:=EX (args:=[.ae,z,r]) D.fn R hv (λj=>j.casesOn (λv e nu=>absurd (BT e).symm nu) λj v q _=>e▸Vn.get j v q) D.Jt.symm Y;have N:=λy=>D.fn.at0 (L:=p.heap.objs.size) (g:=B) (x:=y) hv h0;have h:∀(y:Str) c,(callEnvC fd p.heap.objs.size B).cells.lookup y=some c->c≠x:=λy c e=>ab8 (abV (KM Z) (Y.above y c (mem_of_lookup e)));have hns:=Y.toInCall.ns;refine dm Y.done λQ tk e hk=>?_;clear Y;subst e
  exact Lz D.fn.ok D.cls D.full D.ab3 ⟨⟨R.ext hk,VV⟩,ay _ hns N,⟨_,hk _ _ Z⟩,hF,hH,⟨LE (KM Z),λy i _ e=>h y _ e rfl⟩⟩ (UK n1) (UK n2) λh2 tk2 t2 d2 od k1 k2 k3 k4 k5=>
   k h2 tk2 t2 d2 od (λb o n e=>k1 b o n (hk _ _ e)) k2 (UF (KM (hk _ _ Z)) k3) k4 k5
def OV(D:SN X.K C B fd body y)(i:Lv A 1)(R:R0 X F H I G p)(V:ax X.prog X.w F I args us)(j:eJ args)
  (g:bZ (some .none) 3 (.cell 0::args)=[.cell 0,z,r]) (n1:z.nc) (n2:r.nc)
  {P:dy} (k:∀a tk x t d c,(∀b o,p.heap.get? b=some o->a.get? b=some o)->p.heap.objs.size<=x->p.heap.objs.size<=d->d≠x->a.get? x=some (di C t (some d))->a.get? d=some c->
   cM X.prog X.w F [] (.attrs ["what","at"] [z,r]) c->P (.ref x) {p with heap:=a,toks:=tk}):wpAny (model X.prog X.w) A (call (.ref C) us) P E p:=by
 refine wpAny_call (OJ D.cls R.k (V.length▸o0 (Nat.le_of_succ_le_succ (o0 (OU (args:=.cell 0::args)) (aaM (v6 List.length g)))) (abW 2 _)) ?_);have l:(p.heap.push {cls:=.type "tuple",data:=.seq us.toArray}).objs.size=p.heap.objs.size+1:=acz ..;have m:((p.heap.push {cls:=.type "tuple",data:=.seq us.toArray}).push (di C p.heap.objs.size none)).get? (p.heap.objs.size+1)=some (di C p.heap.objs.size none):=l▸GM _ rfl;refine SO D (i.UJ C us) m ((R.D2.push {cls:=.type "tuple",data:=.seq us.toArray}).push (di C p.heap.objs.size none)) (R.hW (aaU _)) (R.D2.mu (aaU _)) (mY V j) g n1 n2 λq f s u c k1 k2 h v w=>?_;exact⟨rfl,k q f (p.heap.objs.size+1) s u c (λb o e=>k1 b o (LE (aaQ (KM e))) (wT _ (wT _ e))) (aaU _) (KK (Nat.lt_of_succ_lt h)) (ab8 h) k2 v w⟩
end
end
section
open PySem PySem.W PyProof.Rows Builtin
def yy(o:Obj)(f):(o.mapFields f).dict=o.dict:=by
 obtain⟨c,d,a,sl⟩:=o;cases a<;>rfl
noncomputable def qw:Heap:={objs:= #[]}
def HA a:qw.get? a=none:=Heap.get?_none_of_le (SC _)
noncomputable def uY(l:List Env):aZ:=l.filterMap (·.frame)
structure ZA(l:List Env)(G:Addr->Prop)(h h':Heap):Prop where
 keep:∀b o,h.get? b=some o->¬G b->b∉uY l->h'.get? b=some o
 slot:∀b o,h.get? b=some o->b∈uY l->∃sl,h'.get? b=some {o with slots:=sl}
section
variable{M:Model}{A:Around}{E:dy}{s:Shared}
def E0
  (B:A.frames=some (i::c)) (R:s.heap.FunFrames qw (i::c)) (hf:i.frame=some L)
  (S:s.heap.get? e=some w) (hc:w.cls=.ref C) (D:w.dict=some d) (F:w.data=.fields T) (m:1<T.size) (hG:G e)
  (h:∀H,ZA (i::c) G s.heap H->D8 H (λa=>G a\/s.heap.objs.size<=a) e C d->Q () {s with heap:=H}):
  wpAny M A (do let a<-frameOf i;let p<-entryPlaceOf L t;let b<-EntryCells.newEntry head a .none (rawInt L) .none p;setField (.ref e) 1 b) (λ_ s'=>wpAny M A (setFlight (.ref e) none) Q E s') E s:=by
 have k:e∉(i::c).filterMap (·.frame):=λu=>by
  obtain⟨_,o,y,I⟩:=R.mem u;rw[S]at y;injection y with y;subst y;exact I T F
 refine dL (wpAny_frameOf_fun B R hf λg z=>?_);refine dL (wpAny_entryPlaceOf λp v=>?_);refine dL (wpAny_newObj_type ?_ (v.sizeOk5 _ _ _ _ _));have U:g.get? e=some w:=(z.2.1 e k).trans S;generalize V:({cls:=.type "traceback",dict:=none,data:=.fields ([head,.ref L,.none,rawInt L,.none]++(if p.isEmpty then List.replicate 6 Value.none else p)).toArray}:Obj)=oT;have j:oT.data=.fields ([head,.ref L,.none,rawInt L,.none]++(if p.isEmpty then List.replicate 6 Value.none else p)).toArray:=V▸rfl;haveI J:oT.isFreed=false:=Obj.isFreed_of_fields j;clear V;haveI X:=wT (h:=g) oT U;refine wpAny_setField X F m ?_;haveI n:g.objs.size≠e:=ab8 (KM U);haveI N:=Obj.data_mapFields F (·.setIfInBounds 1 (Value.ref g.objs.size));haveI Y:=UV (Obj.mapFields (·.setIfInBounds 1 (Value.ref g.objs.size))) X (Obj.isFreed_of_fields N);haveI Z:=(SB (g.push oT) (Obj.mapFields (·.setIfInBounds 1 (Value.ref g.objs.size))) (acQ n)).trans (GM g J);refine dL (wpAny_field Y N (x:=.ref g.objs.size) (by simp[m]) ?_);dsimp only[if_pos (show(Value.ref g.objs.size !=Value.none)=true from rfl)];refine wpAny_setField Z j (by simp only[ST,sK,WF,List.length_nil]<;>lia) (h _ ?_ ?_)
 ·have l:∀b o,b≠e->g.get? b=some o->(((g.push oT).update e (Obj.mapFields (·.setIfInBounds 1 (Value.ref g.objs.size)))).update g.objs.size (Obj.mapFields (·.setIfInBounds 3 ((none:Option Addr).elim Value.none λf=>rawInt f)))).get? b=some o:=λb o O r=>by
   rw[SB _ _ (ab8 (KM r)),SB _ _ (acQ O)];exact wT _ r
  refine⟨λb o r hg u=>l b o (λq=>hg (q▸hG)) ((z.2.1 b u).trans r),λb o r u=>?_⟩;refine ar (z.2.2 b o r) λsl P=>?_;exact⟨sl,l b _ (λq=>k (q▸u)) P⟩
 ·refine⟨_,_,(SB _ _ n).trans Y,(Obj.cls_mapFields _ _).trans hc,(yy _ _).trans D,N,.inl hG,.inr (Yn g.objs.size _ _ (by simp[m]) (.inr (aaM z.1.symm)) n (UV _ Z (Obj.isFreed_of_fields (Obj.data_mapFields j _))) (Obj.data_mapFields j _) ?_)⟩
  clear j;rcases v with rfl|⟨_,_,_,_,_,_,_,rfl⟩<;>simp
def SP{i:Env}(m:A.frames=some (i::outer))(v:s.heap.FunFrames qw (i::outer))(w:i.frame=some L)(H:D8 s.heap G e C d)
  (h:∀n,ZA (i::outer) G s.heap n->D8 n (λa=>G a\/s.heap.objs.size<=a) e C d->Q () {s with heap:=n}):wpAny M A (noteFrame (.ref e) i) (λ_ I=>wpAny M A (setFlight (.ref e) none) Q E I) E s:=by
 obtain⟨S,U,r,z,p,t,hG,k⟩:=H;unfold noteFrame;simp only[w];rcases k with k|⟨T,oT,J,k,N,x,y,l,B⟩
 ·refine dL (wpAny_field r t k ?_)
  exact E0 m v w r z p t (aaP.mp k).1 hG h
 ·refine dL (wpAny_field r t k ?_)
  refine dL (wpAny_field y l B ?_);refine dL (wpAny_setField y l (aaP.mp B).1 ?_);have c:∀b,b≠T->(s.heap.update T (Obj.mapFields (·.setIfInBounds 3 Value.none))).get? b=s.heap.get? b:=λb g=>SB _ _ (acQ g);have D:(s.heap.update T (Obj.mapFields (·.setIfInBounds 3 Value.none))).objs.size=s.heap.objs.size:=Heap.size_after_update ..;generalize s.heap.update T (Obj.mapFields (·.setIfInBounds 3 Value.none))=V at c D⊢
  have f:∀b o,s.heap.get? b=some o->(∀O,o.data≠ .fields O)->b≠T:=λb o g j q=>by
   rw[q,y]at g;injection g with g;subst g;exact j J l
  refine E0 m (v.of_keeps λb o g j=>(ay o ((c b (f b o g j)).trans g) rfl)) w ((c e (acQ x)).trans r) z p t (aaP.mp k).1 hG λn P X=>h n ⟨λb o g F u=>P.keep b o ((c b λq=>F (q▸N)).trans g) F u,λb o g u=>P.slot b o ((c b ?_).trans g) u⟩ (D▸X);rintro rfl;obtain⟨_,Y,R,j⟩:=v.mem u;exact f _ _ R j rfl
end
end
section
open PySem PySem.W PyProof.Rows Builtin
section
variable{X:Cx}{S:a0}{f:Env}{A:Around}{E:dy}{F B H u L p r:bj}{t w:aZ}{i:ah}{v I:St}{j D:Shared}{n:Nat}
def D8.aT(x:D8 h G e C d)(k:∀a,G a->b a):D8 h b e C d:=
 ⟨BY x.obj λc g l m o q s y=>Ki c g l m o q (k _ s) (y.imp_right λz=>eV z λT oT J M N O=>uI T oT J M (k _ N) O)⟩
def R0.ZC(R:R0 X F H t i j)(h:Le u H):R0 X F u t i j:=
 have c:∀b,H b=none->u b=none:=λb z=>nf λo q=>sn (h b o q) z
 ⟨R.r6,R.de,R.fz,λb o e=>R.lE b o (h b o e),λb o e=>c b (R.gn b o e),R.xD,R.cS,R.fD,λa m=>⟨c a (R.nV a m).1,(R.nV a m).2⟩,R.gens,R.os⟩
noncomputable abbrev Cx.at(X:Cx)(G:bj):Cx:={X with G:=G}
def R0.ab4(R:R0 X F H t i j):R0 (X.at F) F H t i j:=
 ⟨⟨λa o e=>R.de _ _ (R.r6.k a o e),λh b=>R.r6.MR h λa o e=>b a o (R.de a o e),R.r6.blt⟩,Le.refl _,R.fz,R.lE,R.gn,R.xD,R.cS,R.fD,R.nV,R.gens,R.os⟩
def R0.ZD(R:R0 (X.at G) F H t i j)(g:Yv X)(hG:Le X.G G):R0 X F H t i j:=
 ⟨g,hG.trans R.de,R.fz,R.lE,R.gn,R.xD,R.cS,R.fD,R.nV,R.gens,R.os⟩
def tI(e:H b=some o):fe H L b=some o:=v6 (λx:Option Obj=>x.elim (L b) some) e
def kU(e:H b=none):fe H L b=L b:=v6 (λx:Option Obj=>x.elim (L b) some) e
def CP{h:Heap}:(∀f∈l,f.scope.kind≠ .module/\∃a o,f.frame=some a/\h.get? a=some o/\∀b,o.data≠ .fields b)->h.FunFrames qw l:=
 l.rec (λ_=>trivial) λf l c h=>aX (h f (.head _)) λd q=>gm q λa o g k s=>⟨d,lF a o g (HA a) k s,c λe m=>h e (.tail _ m)⟩
def zV{h:Heap}:h.FunFrames qw l->∀f∈l,f.scope.kind≠ .module/\∃a o,f.frame=some a/\h.get? a=some o/\∀b,o.data≠ .fields b:=
 l.rec (λ_ _=>nl) λC l c d e m=>cY d λg k s=>(EQ.mp m).elim (λq=>q▸⟨g,gH k λa o x _ y z=>uH a o x y z⟩) (c s e)
structure Ju(fr:List Addr)(H L p r:bj):Prop where
 lc:∀b,b∈fr->∃o,r b=some o
 l:∀b o,L b=some o->(b∈fr/\r b=some o)\/(b∉fr/\p b=some o)
 h:∀b o,H b=some o->b∉fr/\p b=some o
def E1(J:A.frames=some (f::l))(M:j.heap.FunFrames qw (f::l))(hf:f.frame=some acx)(Z:MD X F p r j e x vs)(G:Ju (uY (f::l)) H L p r):
  wpAny (model X.prog X.w) A (noteFrame e f) (λ_ s=>wpAny (model X.prog X.w) A (setFlight e none) (λ_ s=>MD X F H L s e x vs) E₁ s) E₁ j:=by
 obtain⟨R,U,V,ex⟩:=Z;have Y:∀b,F b=none->p b=none->r b=none->F b=none/\H b=none/\L b=none:=λb N k O=>bH N (nf λo q=>sn (G.h b o q).2 k) (nf λo q=>(G.l b o q).elim (λz=>sn z.2 O) λz=>sn z.2 k)
 exact tc ex λa C d od q hx XO hd hc=>q▸SP J M hf XO λh' P Q=>
  have kp:∀b o,p b=some o->b∉uY (f::l)->h'.get? b=some o:=λb o k N=>P.keep b o (R.lE b o k) (λg=>sn k g.2.1) N
  ⟨⟨R.r6,R.de,λb o e=>P.keep b o (R.fz b o e) (λg=>sn e g.1) λm=>ar (G.lc b m) λo' z=>sn z (V b o e),λb o e=>kp b o (G.h b o e).2 (G.h b o e).1,λb o e=>nf λy q=>sn (G.h b y q).2 (R.gn b o e),λn c e=>nx e,rfl,.nil,λb m=>nl m,R.gens,R.os⟩,
   λb o e=>(G.l b o e).elim (λh=>ar (U b o h.2) λsl O=>ar (P.slot b _ O h.1) λT h4=>⟨T,h4⟩) λh=>⟨o.slots,kp b o h.2 h.1⟩,λb o e=>nf λy q=>(G.l b y q).elim (λh=>sn h.2 (V b o e)) λh=>sn h.2 (R.gn b o e),
   Kk a C d od rfl hx (Q.aT λb z=>z.elim (λh=>Y b h.1 h.2.1 h.2.2) λz=>Y b (R.hW z) (R.mu z) (nf λo q=>ar (U b o q) λsl h=>absurd (KM h) (aaG.mpr z))) hd hc⟩
def Bm(a:A.frames=some (f::l))(b:j.heap.FunFrames qw (f::l))(d:f.frame=some g)(Z:MD X F p r j e x h)(G:Ju (uY (f::l)) H L p r):
  wpAny (model X.prog X.w) A (leaving f e) (λ_ s=>MD X F H L s e x h) c j:=dL (E1 a b d Z G)
noncomputable def qy(a:aZ)(F:bj)(h:Heap):bj:=λb=>if b∈a then none else rest F [] h b
noncomputable def pV(a:aZ)(F:bj)(h:Heap):bj:=λb=>if b∈a then rest F [] h b else none
def LA(e:qy fr F h b=some o):b∉fr/\rest F [] h b=some o:=wS (λq:b∈fr=>nx ((if_pos q).symm.trans e)) λq=>⟨q,(if_neg q).symm.trans e⟩
def gU(e:pV fr F h b=some o):b∈fr/\rest F [] h b=some o:=wS (λq:b∈fr=>⟨q,(if_pos q).symm.trans e⟩) λq=>nx ((if_neg q).symm.trans e)
def sP:fe (qy fr F h) (pV fr F h)=rest F [] h:=funext λb=>wS (λq:b∈fr=>(kU (if_pos q)).trans (if_pos q)) λq=>by
 cases z:rest F [] h b with
 |some o=>exact tI ((if_neg q).trans z)
 |none=>exact(kU ((if_neg q).trans z)).trans (if_neg q)
def OW:Le (qy fr F h) (rest F [] h):=λb o e=>(LA e).2
structure oj(X:Cx)(S:a0)(A:Around)(f:Env)(H L:bj)(l:List Env):Prop where
 fr:A.frames=some (f::l)
 wA:f.frame=some f.locals
 out:∀e∈l,e.scope.kind≠ .module/\∃a o,e.frame=some a/\L a=some o/\∀vs,o.data≠ .fields vs
 gn:∀b o,L b=some o->H b=none
def oj.E2{l:List Env}(W:oj X S A f H L l)(k:Le (fe H L) u)(R:c6 X S f F u t v j):Ju (uY (f::l)) H L (qy (uY (f::l)) F j.heap) (pV (uY (f::l)) F j.heap):=by
 have s:∀b o,u b=some o->rest F [] j.heap b=some o:=λb o c=>bY.mpr ⟨R.r0.Yy c,nl,R.r0.lE b o c⟩;have d:∀b o,L b=some o->rest F [] j.heap b=some o:=λb o e=>s b o (k b o ((kU (W.gn b o e)).trans e));have x:∀b,b∈uY (f::l)->b=f.locals\/∃o,L b=some o:=λb m=>aj (List.mem_filterMap.mp m) λe g y=>(EQ.mp g).elim (λq=>.inl (se (q▸y) W.wA)) λg=>aX (W.out e g) λ_ q=>gm q λa o c z _=>.inr ⟨o,se y c▸z⟩
 exact⟨λb m=>(x b m).elim (λq=>aj R.a8.ns λ_ C _=>B0 C λoL _ _ d _=>⟨oL,(if_pos m).trans (bY.mpr ⟨q▸R.a8.xE.1,nl,q▸d⟩)⟩) λq=>ar q λo h=>⟨o,(if_pos m).trans (d b o h)⟩,
  λb o e=>wS (λm:b∈uY (f::l)=>.inl ⟨m,(if_pos m).trans (d b o e)⟩) λm=>.inr ⟨m,(if_neg m).trans (d b o e)⟩,
  λb o e=>have c:=k b o (tI e)
   have m:b∉uY (f::l):=λm=>(x b m).elim (λq=>sn (q▸c) R.a8.xE.2.1) λq=>ar q λG h=>sn e (W.gn b G h)
   ⟨m,(if_neg m).trans (s b o c)⟩⟩
def oj.frames{l:List Env}(W:oj X S A f H L l)(s:Le (fe H L) u)(R:c6 X S f F u t v j){h':Heap}(x:XS (pV (uY (f::l)) F j.heap) h'):h'.FunFrames qw (f::l):=by
 have k:∀e∈(f::l),∀a o,e.frame=some a->j.heap.get? a=some o->(∀b,o.data≠ .fields b)->∃a o,e.frame=some a/\h'.get? a=some o/\∀b,o.data≠ .fields b:=λe m a o c h d=>
  ar ((W.E2 s R).lc a (List.mem_filterMap.mpr ⟨e,m,c⟩)) λy g=>ar (x a y g) λsl z=>uH a _ c z (se h (bY.mp (gU g).2).2.2▸d)
 exact CP λe m=>(EQ.mp m).elim (λq=>by
  subst q;exact aj R.a8.ns λ_ C _=>eV C λoL _ _ G J _=>⟨R.a8.kind▸by decide,k _ m _ _ W.wA G λb q=>Data.noConfusion (J.symm.trans q)⟩)
  λM=>aX (W.out e M) λc q=>gm q λa o h d g=>⟨c,k _ m _ _ h (R.r0.lE a o (s a o ((kU (W.gn a o d)).trans d))) g⟩
end
end
section
open PySem PySem.W PyProof.Rows Builtin
def LB{a b:af}(h:D6 d=[a,b])(n1:a.nc)(n2:b.nc):bZ (some .none) 3 (.cell 0::d)=[.cell 0,a,b]/\eJ d:=by
 have q:∀{l:ah},l=[a,b]->eJ l:=λe=>e▸PP.mpr ⟨n1,PP.mpr ⟨n2,rfl⟩⟩
 match d,h with
 |[],h=>exact(List.cons_ne_nil _ _ h.symm).elim
 |[v],h=>exact aX (List.cons.inj h) λf g=>⟨f▸g▸rfl,PP.mpr ⟨f▸n1,rfl⟩⟩
 |[v,u],h=>exact⟨h▸rfl,q h⟩
 |v::u::w::r,h=>exact absurd (v6 List.length h) (ab8 (abW 3 _))
section
variable{M:Model}{A:Around}{E:dy}{s:Shared}{K:Frag}
def HB(o:A.handled=none)
  (h:wpAny M A t (λv a=>∃e f d C k,v=.ref e/\yu K C k/\K.In a.heap/\a.heap.get? e=some (di C f (some d))/\E (.ref e) a) E s):wpAny M A (raiseStmt c (some t) none) Q E s:=by
 refine dL (ab6 h (λv a l=>?_) λ_ _ x=>x);refine abm l λe f d C k b p X q r=>?_;clear l;subst b;have Y:=p;haveI m:=X _ _ Y.OI;obtain⟨u,g,w,tk,os⟩:=a
 repeat (first|(with_reducible refine wpAny_loadPart_at q ?_;try rw[hcls])|with_reducible refine wpAny_loadPart_at m ?_|(with_reducible refine wpAny_isSubtype_exc m ?_;rw[Y.Zy])|wp_step)
 exact wpAny_raiseNew_none o r
end
section
variable{X:Cx}{S:a0}{c:Env}{A:Around}{F j H G L:bj}{I J:aZ}{u:ah}{i U:St}{B O:Shared}{n:Nat}{R:Str->ah->Prop}
def yz(X:Cx)(A:Around)(c:Env)(d H L:bj)(R:Str->ah->Prop)(a:dy):dy:=λe f=>
 wpAny (model X.prog X.w) A (leaving c e) (λ_ s=>∃j x b,Le d j/\MD X j H L s e x b/\R x b) a f
structure qz(X:Cx)(R:Str->List af->Prop):Prop where
 only:∀x vs,R x vs->x="ProgramError"/\∃a b,vs=[a,b]/\a.nc/\b.nc=true
 cls:∃C fI fd body ps,Gf X "ProgramError"=some C/\SN X.K C fI fd body ps
def CQ(Z:MD (X.at a) F H L B e x b)(g:Yv X)(h:Le X.G a):Le a F/\MD X F H L B e x b:=⟨Z.r0.de,Z.r0.ZD g h,Z.D9,Z.wC,Z.YC⟩
def OX(g:Yv X)(hG:Le X.G m)(hA:Lv A 1)(T:qz X R)(W:oj (X.at m) S A c H L l){i:St}(hc:Eg X.K S x)(hs:noStar as)
  (h:fE (X.at m) S c A (yz X A c m H L R E₁) (spliced (backTo q (starEach as c))) (λvs _=>R x (D6 vs)) i):
  rC (X.at m) S c A (yz X A c m H L R E₁) (fe H L) (exec (.Raise (some (.Call (.Name x p) as [] q)) none r) c) Q i:=λF G I B P hB Rl k=>by
 refine aj (ym hc) λf hf h1=>dL (aaf (HB (K:=X.K) hA.1 (dL (dL (nY (Rl.td _) hf (callWith_of (P:=λh=>X.K.In h) (ab2.mpr ⟨bD (nt hs),rfl⟩) (keeps_K h1) (cL (bD (nt hs)) (h F G I _ _ (Rl.td _) λus v Y au aA vs N V z=>⟨N.bu.r0.k,
  aX (T.only _ _ z) λex w=>gm w λa b hv n1 n2=>Ys T.cls λC fI fd body ps hC D=>aX (LB hv n1 n2) λe1 e2=>?_⟩))))))))
 subst ex;obtain rfl:=(se hC (sG hf)).symm;refine OV (X:=X.at m) D hA N.bu.r0 V e2 e1 n1 n2 λh' tk e t d od k1 k2 k3 k4 k5 k6 k7=>dL (aaf (s4 (abj e t d _ fI rfl D.cls (λb o w=>k1 b o (N.bu.r0.k b o w)) k5 ?_)));have R1:R0 (X.at m) Y (qy (uY (c::l)) Y v.heap) [] [] {v with heap:=h',toks:=tk}:=N.bu.r0.D2.ZC OW|>.ext k1;have fR:∀b,v.heap.objs.size<=b->rest Y [] v.heap b=none:=λb hb=>N.bu.r0.D2.mu hb;have Fd:=N.bu.r0.hW k3;have D9:∀b o,pV (uY (c::l)) Y v.heap b=some o->h'.get? b=some o:=λb o w=>k1 b o (bY.mp (gU w).2).2.2
 have Z:MD (X.at m) (fX Y d od) (qy (uY (c::l)) Y v.heap) (pV (uY (c::l)) Y v.heap) {v with heap:=h',toks:=tk} (.ref e) "ProgramError" (D6 vs):=
  ⟨R1.Gl k6 Fd (nf λx q=>sn (OW d x q) (fR d k3)) nl,λb o w=>⟨o.slots,D9 b o w⟩,λb o w=>nf λo' w'=>cY (bY.mp (gU w').2) λw3 _ w4=>
   wS (λq:b=d=>absurd (KM w4) (aaG.mpr (q▸k3))) λq=>sn w ((fM q).trans w3),e,_,d,od,rfl,hC,
   ⟨_,_,k5,rfl,rfl,rfl,⟨(fM (acQ k4)).trans (N.bu.r0.hW k2),nf λx q=>sn (OW e x q) (fR e k2),nf λx q=>sn (gU q).2 (fR e k2)⟩,.inl rfl⟩,hX,hv.symm▸k7.aT (ez Fd) (hU.refl _)⟩
 clear R1 fR k1 k2 k3 k4 k5 k6 k7 Fd;exact ab6 (Bm (X:=X.at m) W.fr (W.frames hB N.bu (h':=h') λb o w=>⟨o.slots,D9 b o w⟩) W.wA Z (W.E2 hB N.bu)) (λ_ s y=>uI _ _ _ (CQ y g hG).1 (CQ y g hG).2 z) λ_ _ y=>y
def UL{Y:Cx}{E:dy}{l:List Env}(hA:Lv A n)(W:oj Y S A c H L l)(hB:Le (fe H L) G)(Rl:c6 Y S c F G I i B){as:List aD}{Q:af->St->Prop}{Zp:St->Prop}{P:dy}(hc:Rh Y.K S x)(hs:noStar as)
  (h:fE Y S c A E (spliced (backTo q (starEach as c))) (λvs i=>Zp i/\gq Y n x vs (λv=>Q v i) R) i)
  (kE:∀d au T g j y ws e D,cN Y S c F G I B d au T g->Le d j->MD Y j (qy (uY (c::l)) d g.heap) (pV (uY (c::l)) d g.heap) D e y ws->R y ws->Zp T->E e D)
  (k:∀v O j J U a,cN Y S c F G I B j J U O->aG Y.prog Y.w j J a v->Q a U->P v O):wpAny (model Y.prog Y.w) A (eval (.Call (.Name x p) as [] q) c) P E B:=by
 refine aj (Bg hc) λf hf h1=>dL (nY Rl hf (callWith_of (P:=λh=>Y.K.In h) (ab2.mpr ⟨bD (nt hs),rfl⟩) (keeps_K h1) (cL (bD (nt hs)) (h F G I _ _ Rl λus g d au T vs N V z=>⟨N.bu.r0.k,aX z λzp z=>cU z λf' hf' hn hp=>?_⟩))));obtain rfl:=se (sG hf) hf';have gg:=W.E2 hB N.bu
 have fl:FrL A (pV (uY (c::l)) d g.heap):=ay _ W.fr λe m=>aX (zV (W.frames hB N.bu (h':=g.heap) λb o w=>⟨o.slots,(bY.mp (gU w).2).2.2⟩) e m) λy1 y=>gm y λa o y2 y3 y4=>
  ar (gg.lc a (List.mem_filterMap.mpr (ay e m y2))) λo' y5=>⟨y1,uH a o y2 (se y3 (bY.mp (gU y5).2).2.2▸y5) y4⟩
 have RP:R0 Y d (fe (qy (uY (c::l)) d g.heap) (pV (uY (c::l)) d g.heap)) [] [] g:=sP▸N.bu.r0.D2;refine wpAny_call (aaS (hp A d (qy (uY (c::l)) d g.heap) (pV (uY (c::l)) d g.heap) g us hA hA.1 fl (λb o w=>if_pos (gU w).1) RP (mY V hn)) λr D z=>?_);clear RP fl gg hp h;rcases r with e|(_|_|_|v)<;>first|exact z.elim|skip
 ·exact eV z λj y ws t Z hR=>kE _ _ _ _ _ _ _ _ _ N t Z hR zp
 ·exact gH z λj a t C V' q=>have C:R0 Y j (rest d [] g.heap) [] [] D:=sP▸C
   k _ _ _ _ _ _ (N.trans ⟨t,hU.refl _,N.bu.r0.MU t C,N.bu.a8.zL (λb o e=>C.lE b o (rx b o e)) t (hU.refl _) (λb o e=>nf λx q=>sn (rx b x q) (C.gn b o e)) λa m=>fY m⟩) (V'.aT (Le.refl _) λn a e=>nx e) q
def OY{b:bj}{l:List Env}{d:dy}(g:Yv X)(hG:Le X.G b)(t:Lv A n)(W:oj (X.at b) S A c H L l){R₀:Str->ah->Prop}{x:Str}{as:List aD}{p q r:Pos}{Q:aR->St->Prop}{i:St}(z:Rh X.K S x)(C:noStar as)
  (h:fE (X.at b) S c A (yz X A c b H L R d) (spliced (backTo q (starEach as c))) (λD i=>(∃y f,R₀ y f)/\gq (X.at b) n x D (λ_=>Q .next i) R) i):
  rC (X.at b) S c A (yz X A c b H L R d) (fe H L) (exec (.Expr (.Call (.Name x p) as [] q) r) c) Q i:=λF G I B P m o k=>by
 refine wpAny_Expr_any ?_ (GR o) rfl;refine UL (Y:=X.at b) (Q:=λ_ i=>Q .next i) (Zp:=λ_=>∃y f,R₀ y f) t W m o z C h (λaF au aA ai j y f e T N hF Z hR _=>?_) λv O j J U a N V q=>k _ _ _ _ _ .next N rfl q;exact ab6 (Bm (X:=X.at b) W.fr (W.frames m N.bu (h':=T.heap) Z.D9) W.wA Z (W.E2 m N.bu)) (λ_ s w=>(uI _ _ _ ((CQ w g hG).1) ((CQ w g hG).2) hR)) λ_ _ w=>w
end
end
section
open PySem PySem.W PyProof.Rows Builtin
section
variable{X:Cx}{n:Nat}{f:Addr}{e:dT}{N:Nat}{d:Option af}{g:bt}{b:ah}{R:Str->ah->Prop}
def Lv.le(h:Lv A n)(a:m<=n):Lv A m:=bH h.1 (o0 (acw (Nat.mul_le_mul_left 2 a) _) h.2.1) (o0 (acw (Nat.mul_le_mul_left 10 a) _) h.2.2)
def HC{m:FuncData}(T:qz X (Rp R))(D:tF X.K f m body e N)(B:kQ X.K m e d)(j:WB X.K (eL N m.scope.names) g body){Q:af->Prop}(J:(bZ d e.length b).length=e.length)(M:1<=n)(o:n<100)
  (w:∀G,cp (X.at G) n R g ⟨eO (bZ d e.length b) N,[]⟩ (cH Q)):M4 X (n+1) (.ref f) b Q (Rp R):=by
 intro A F H L σ s E hh ⟨l,t,k⟩ O R₀ V;refine yq (X:=X.at F) D B J (IN (o0 (T0 _ _) E.2.1) (by decide)) R₀.ab4 V λi P S Ec U Y Z hr hn hE hp=>?_;have u:=E.deeper i;have W:oj (X.at F) (eL N m.scope.names) (A.deeper i) i H L l:=⟨Around.frames_deeper t,Y,k,O⟩
 have y:=bt.ro _ (c:=⟨X.at F,A.deeper i,n,_,i,yz X (A.deeper i) i F H L (Rp R) λe' IB=>∃z x s,Le F z/\MD X z H L IB e' x s/\Rp R x s,D.ok,u,λh=>absurd o (aaG.mpr h)⟩) (B:=fe H L)
  ⟨U▸D.OD,PassesOwn.leaving,λx as p q r Q st j C h=>OX R₀.r6 R₀.de (u.le M) T W j C h,λx as p q r Q st j C h=>OY R₀.r6 R₀.de u W j C h⟩ j.bQ (w F)
 rw[j.bl]at y;refine ab6 (y F (fe H L) [] P S (Le.refl _) Z λfl bh z bf aY a N V q=>?_) (λ_ _ h=>h) hE;clear y;have G:=N.le.trans (gJ N.bu.r0);have I:=(N.bu.r0.ky.CL).ZD R₀.r6 R₀.de;revert q;refine V.zF ?_ ?_ ?_ λa v V=>?_
 ·exactλq=>hn _ (lF _ _ G I (nZ (xR (X:=X.at F) N.bu.r0 6 .none .none .none q.1) q.1) q.2)
 ·exact False.elim
 ·exact False.elim
 ·exactλq=>hr _ _ (lF _ _ G I (nZ (xR (X:=X.at F) N.bu.r0 6 _ _ V q.1) q.1) q.2)
def E3(T:qz X (Rp R))(a:Ls X.K f e N d g)(c:(bZ d e.length b).length=e.length)(i:1<=n)(j:n<100)
  (w:∀G,cp (X.at G) n R g ⟨eO (bZ d e.length b) N,[]⟩ (cH Q)):M4 X (n+1) (.ref f) b Q (Rp R):=by
 cases a with|mk h k l=>exact HC T h k l c i j w
end
end
section
open PySem PySem.W PyProof.Rows Builtin
noncomputable def kV(K:Frag)(C:Addr)(x:Str):Bool:=hasDictIn K C&&(findIn K (.ref C) x).any (noGet K)
noncomputable def OZ(b:List Stmt):List Stmt:=[.Return (some (.Tuple [.Attribute (.Name "self" (cx (cx (gA (tb b 0)) 0) 0).pos) "what" (cx (gA (tb b 0)) 0).pos,.Attribute (.Name "self" (cx (cx (gA (tb b 0)) 1) 0).pos) "at" (cx (gA (tb b 0)) 1).pos] (VJ (gA (tb b 0))) (gA (tb b 0)).pos)) (tb b 0).pos]
section
variable{X:Cx}{S:a0}{c:Env}{A:Around}{E:dy}{F s H:bj}{i l:aZ}{j:ah}{f y:St}{g t:Shared}{n:Nat}{C:Addr}{a b:af}
def yA(Y:Bl X.K C)(G:eK e)(J:kV X.K C x)
  (h:aU X S c A E (eval e c) (λv f=>∃o r u,v=.dJ C o r/\mT x o r=some u/\Q u f) f):aU X S c A E (eval (.Attribute e x p) c) Q f:=λF H i g P R k=>by
 exact Attribute_any_ (h F H i g _ R λv ai aF au L a N V z=>eV z λo r u e M q=>MM (tq (v:=.dJ C o r) (u:=v) (cells:=L.cells) (p:=(C,o,r)) N.bu.r0 (e▸V) rfl) λa d es ws m e I O T=>aj ((ry O T).1 u M) λw hw D=>bJ J λU B=>
  aj (AM B) λcK Z B=>e▸SJ Y N.bu.r0.k I (findObj_own U Z B hw) D.Nj (k _ _ _ _ _ _ (N.trans (cN.td N.bu _)) D q)) (AV G)
def SQ(Y:Bl X.K C)(hS:fi S)(hw:kV X.K C "what")(m:kV X.K C "at")(d:Sh OZ (rT S "self" 0) body){f:St}(h:aB f.aC 0=.dJ C ["what","at"] [a,b])(q:Q (.ret (.tuple [a,b])) f):
  rC X S c A E B (execs body c) Q f:=by
 have k:aB f.aC 0≠ .ae:=λe=>af.noConfusion (h.symm.trans e);exact d.bl▸Co (NC (aU.B7 (Eo (w6 rfl rfl (yA Y rfl hw (qs hS d.bQ ⟨k,uI _ _ _ h rfl (yA Y rfl m (qs hS d.bQ ⟨k,uI _ _ _ h rfl ⟨Nat.le_of_ble_eq_true rfl,q⟩⟩))⟩))))))
structure Jv(K:Frag)(C ft:Addr)(fd:FuncData)(body:List Stmt)(ps:List Str):Prop where
 fn:tF K ft fd body ps 1
 bind:kQ K fd ps none
 dA:ps.length=1
 gt:Bl K C
 OQ:kV K C "what"=true
 at_:kV K C "at"=true
 E4:Sh OZ (rT (eL 1 fd.scope.names) "self" 0) body
 find:findIn K (.ref C) "told"=some (some (.ref ft))
 isFn:typeIn K (.ref ft)=some (.type "function")
 keep:keepIn K (.ref ft)=true
def SR(D:Jv X.K C ft fd body ps)(w:A.depth<recursionLimit)(T:eK o)(U:ig q p)
  (h:aU X S c A E (eval o c) (λv f=>v=.dJ C ["what","at"] [a,b]/\a.nc/\b.nc/\Q (.tuple [a,b]) f) f):aU X S c A E (eval (.Call (.Attribute o "told" q) [] [] p) c) Q f:=λF H i g P R k=>by
 refine(tr T)▸dL (h F H i g _ R λu Y Z au aA ov N V z=>dL (aaf (mr z λJ n1 n2 q=>MM (tq (v:=.dJ C ["what","at"] [a,b]) (u:=u) (cells:=aA.cells) (p:=(C,["what","at"],[a,b])) N.bu.r0 (J▸V) rfl) λx d es ws mm e1 I L M=>?_)));subst J e1;have O:eJ [a,b]:=PP.mpr ⟨n1,PP.mpr ⟨n2,rfl⟩⟩;delta methodCall calleeOf
 refine dL (KB (WJ D.gt N.bu.r0.k I D.find D.isFn ((v6 (Option.map _) ((lookIn_dict ..).trans ((ry L M (x:="told")).2 rfl))).trans rfl) ((tu U)▸dL (s4 (callWith_of (P:=λh=>X.K.In h) rfl (keeps_K D.keep) (cL rfl (wpAny_items_nil ⟨N.bu.r0.k,wpAny_call (aaS
  (yr (E:=E) (Q:=λv cs=>v=.tuple [a,b]) D.fn D.bind (D.dA.symm▸rfl) w (H:=rest Z [] Y.heap) N.bu.r0.D2 (.cons (nZ V (show(af.dJ C ["what","at"] [a,b]).nc=true from O)) .nil) λadz E' _ _ _=>SQ D.gt D.fn.ok D.OQ D.at_ D.E4 rfl rfl) λr t z=>?_)⟩)))))))
 clear L M I;rcases r with e|(_|_|_|v)<;>first|exact z|exact z.elim|skip
 exact tc z λs l cs v' B hP G V' e=>k _ _ _ _ _ _ (N.trans ⟨B,hU.refl _,N.bu.r0.MU B G,N.bu.a8.zL (λb o e=>G.lE b o (rx b o e)) B (hU.refl _) (λb o e=>nf λx q=>sn (rx b x q) (G.gn b o e)) λa m=>fY m⟩) (nZ (e▸V') (show(af.tuple [a,b]).nc=true from O)) q
end
end
section
open PySem PySem.W PyProof.Rows Builtin
noncomputable def ZE:Stmt->List Stmt×List ExceptHandler
 | .Try b h _ _ _=>(b,h)
 |_=>([],[])
noncomputable def ab5:ExceptHandler->Option aD×List Stmt×Pos
 | .ExceptHandler t _ b p=>(t,b,p)
noncomputable abbrev tS(b:List Stmt):Stmt:=tb (ZE (tb b 0)).1 0
noncomputable abbrev tH(b:List Stmt):Option aD×List Stmt×Pos:=ab5 ((ZE (tb b 0)).2.headD default)
noncomputable abbrev ZF(b q d e h i k:Pos):ExceptHandler:=.ExceptHandler (some (.Name "ProgramError" b)) (some "error") [.Assign [.Name "found" q] (.Call (.Attribute (.Name "error" d) "told" e) [] [] h) i] k
noncomputable def HD(b:List Stmt):List Stmt:=[.Try [.Assign [.Name "found" (xg (tS b)).pos] (.Call (.Name "check_program" (cx (gA (tS b)) 0).pos) [.Name "orders" (cx (gA (tS b)) 1).pos,.Name "most" (cx (gA (tS b)) 2).pos] [] (gA (tS b)).pos) (tS b).pos]
  [ZF ((tH b).1.getD default).pos (xg (tb (tH b).2.1 0)).pos (cx (cx (gA (tb (tH b).2.1 0)) 0) 0).pos (cx (gA (tb (tH b).2.1 0)) 0).pos (gA (tb (tH b).2.1 0)).pos (tb (tH b).2.1 0).pos (tH b).2.2] [] [] (tb b 0).pos,.Return (some (.Name "found" (gA (tb b 1)).pos)) (tb b 1).pos]
noncomputable def HE(K:Frag)(S:a0)(b:List Stmt):Bool:=S.a8.all (λy=> !y.2.2)&&(ig (cx (gA (tb (tH b).2.1 0)) 0).pos (gA (tb (tH b).2.1 0)).pos&&(Eg K S "ProgramError"&&(Rh K S "check_program"&&(Gz S "found" 2&&(Gz S "error" 3&&(rT S "orders" 0&&(rT S "most" 1&&(rT S "found" 2&&rT S "error" 3))))))))
section
variable{X:Cx}{S:a0}{a:Env}{A:Around}{E:dy}{F w H r L:bj}{g o:aZ}{l:ah}{f v:St}{c j:Shared}{n:Nat}
def LC{s:Shared}(u:D8 s.heap G e C d)
  (h:∀k,(k=s.heap\/∃T,G T/\T≠e/\∀b,b≠T->k.get? b=s.heap.get? b)->Q () {s with heap:=k}):wpAny M A (setFlight (.ref e) none) Q E s:=by
 refine BY u.obj λI J q N x t hG i=>?_;rcases i with i|⟨T,oT,O,i,y,m,z,p,B⟩
 ·skip
  refine dL (wpAny_field q t i ?_);exact s4 (h s.heap (.inl rfl))
 ·exact wpAny_setFlight_none q t i z p (aaP.mp B).1 (h _ (.inr (dC T y m (λb D=>SB _ _ (acQ D)))))
def HF(R:c6 X S a F H g f c)(q:(x,i,false)∈S.wr)(p:aB f.aC i≠ .ae)(k:∀j,cN X S a F H g c F g ⟨f.aC.set i .ae,f.cells⟩ j->P () j):
  wpAny (model X.prog X.w) A (unbindBehindTheSuite a x pos) P E c:=by
 refine cY (R.a8.es.wA x i false q) λb _ _=>aj R.a8.ns λm d s=>aj (s x i b _ (ej p) p) λu h _=>?_;exact wpAny_onRaise (wpAny_unbindName_local (R.a8.es.kl x i b) d h (R.a8.kind▸rfl) λB C t y=>k _ (cN.YJ (tk:=c.toks) R b y (λz e n=>(wX e).elim (λe=>absurd e.2 n) λe=>absurd rfl e.1) s t))
end
end
section
open PySem PySem.W PyProof.Rows Builtin
section
variable{X:Cx}{S:a0}{d:Env}{A:Around}{E:dy}{F f H j L:bj}{G D:aZ}{w:ah}{p z:St}{g t:Shared}{n:Nat}{R:Str->ah->Prop}
def LD{K:Frag}{a:Obj}{s:Shared}(b:yu K C i)(X:K.In s.heap)(c:s.heap.get? x=some a)(e:a.cls=.ref C)(h:Q true s):wpAny M A (excMatches (.ref x) (.ref C)) Q E s:=wpAny_excMatches_sub_self (X _ _ b.OI) c e b.Zy h
def SS(hS:fi S)(R:c6 X S d F j [] p g)(l:rT S x 2)(m:aB p.aC 2≠ .ae)(s:Le u F)(y:Le H j)(i:∀b o,L b=some o->∃sl,j b=some {o with slots:=sl})
  (k:∀v t f,Le u f->R0 X f H [] [] t->XS L t.heap->(∀b o,f b=some o->L b=none)->aG X.prog X.w f [] (aB p.aC 2) v->P (.ret v) t):wpAny (model X.prog X.w) A (execs [.Return (some (.Name x q)) r] d) P E g:=
 Co (B:=j) (Q:=λc z=>c=.ret (aB p.aC 2)/\z=p) (NC (qs hS l (bH m rfl rfl))) F j [] g P (Le.refl _) R λc t f D z a N V q=>by
  obtain rfl:D=[]:=aaJ (N.bu.r0.cS.trans ((v6 List.length (v6 St.cells q.2)).trans R.r0.cS.symm));exact aj (q.1▸V:vR X f [] (.ret (aB p.aC 2)) c) λv e V=>e▸k v t f (s.trans N.le) (N.bu.r0.ZC y).CL (λb o e=>ar (i b o e) λsl h=>⟨sl,N.bu.r0.lE b _ h⟩) (λb o e=>nf λC q=>ar (i b C q) λsl h=>sn h (N.bu.r0.gn b o e)) V
noncomputable def E5(H L:bj)(h:Heap):bj:=λc=>(H c).elim ((L c).elim none λ_=>h.get? c) some
def rD(a:H c=none)(b:L c=none):E5 H L h c=none:=(v6 (λo:Option Obj=>o.elim ((L c).elim none λ_=>h.get? c) some) a).trans (v6 (λo:Option Obj=>o.elim none λ_=>h.get? c) b)
def SU:Le H (E5 H L h):=λc o e=>v6 (λo:Option Obj=>o.elim ((L c).elim none λ_=>h.get? c) some) e
def WL{h:Heap}(a:H c=none)(b:L c=some o):E5 H L h c=h.get? c:=(v6 (λo:Option Obj=>o.elim ((L c).elim none λ_=>h.get? c) some) a).trans (v6 (λo:Option Obj=>o.elim none λ_=>h.get? c) b)
noncomputable def LF(l:Addr)(h:Heap)(L:bj):bj:=λc=>if c=l then h.get? c else L c
def rE{h:Heap}{oL:Obj}(a:h.get? l=some oL)(e:LF l h L c=none):c≠l/\L c=none:=
 have n:c≠l:=λq=>sn a (q▸(if_pos q).symm.trans e)
 ⟨n,(if_neg n).symm.trans e⟩
def HG{r:Heap}{oL:Obj}(C:(S.a8.all λy=> !y.2.2))(k:r.get? d.locals=some oL)(l:R0 X f H [] [] g)(O:XS (LF d.locals r L) g.heap)
  (M:∀b o,f b=some o->LF d.locals r L b=none) (V:bR X S d F j [] aC r) (P:Le F f) (N:Le (fe H L) j) (Q:∀b o,L b=some o->H b=none)
  (T:g.heap.get? x=some U) (Y:M3 f H (LF d.locals r L) x):c6 X S d (fX f x U) (E5 H L g.heap) [] ⟨aC,[]⟩ g:=cY Y λv I J=>aX (rE k J) λZ xL=>ar (O d.locals oL ((if_pos rfl).trans k)) λsl hs=>
 have R4:R0 X f (E5 H L g.heap) [] [] g:=⟨l.r6,l.de,l.fz,λc o e=>Kp e (λe=>Kp e nx λ_ _ e=>e) λo' q e=>BT e▸l.lE c _ q,λc o e=>rD (l.gn c o e) (rE k (M c o e)).2,λn c e=>nx e,rfl,.nil,λa m=>nl m,l.gens,l.os⟩;have hl:(E5 H L g.heap) d.locals=none:=rD (nf λo q=>sn (N _ o (tI q)) V.xE.2.1) (nf λo q=>sn (N _ o ((kU (Q _ _ q)).trans q)) V.xE.2.1)
 have B:∀a,AH S d a->a=d.locals:=λa q=>by
  cases q with
  |aC=>rfl
  |cell h _=>exact Bool.noConfusion (WP.mp C _ h)
 ⟨R4.Gl T v (rD I xL) nl,V.toS (λa o q e=>⟨sl,B a q▸se k (B a q▸e)▸hs⟩) rfl (λi u s=>s.aT (P.trans (ez v)) (hU.refl _)) (λa q=>B a q▸⟨(fM (acQ Z)).trans (nf λo q=>absurd rfl (rE k (M _ _ q)).1),nl⟩) λa q _=>B a q▸hl⟩
end
end
section
open PySem PySem.W PyProof.Rows Builtin
section
variable{X:Cx}{n:Nat}{f:Addr}{R:Str->ah->Prop}
def E6
  (hS:fi S) (l:A.depth<recursionLimit) (T:qz X R) (hT:∀C,Gf X "ProgramError"=some C->∃ft fd h ps,Jv X.K C ft fd h ps) (p:(S.a8.all λy=> !y.2.2)) (t:ig p2 p3) (U:Eg X.K S "ProgramError") (we:Gz S "found" 2) (wn:Gz S "error" 3) (vo:rT S "error" 3)
  (Y:∀b o,L b=some o->H b=none) (hR:R "ProgramError" [a,b]) (n1:a.nc) (n2:b.nc) (hF:Le iK F) (u:Le F F')
  (V:c6 X S g F (fe H L) [] ⟨[o,m,.ae,.ae],[]⟩ ai) (Z:MD X F' H (LF g.locals ai.heap L) v (.ref x) "ProgramError" [a,b])
  (k:∀cg Az st aP,c6 X S g cg Az [] st aP->aB st.aC 2=.tuple [a,b]->Le iK cg->Le H Az->(∀b o,L b=some o->∃sl,Az b=some {o with slots:=sl})->Qf .next aP):
  wpAny (model X.prog X.w) A (handleBy (.ref x) g [ZF p1 xq pe p2 p3 p4 ph]) Qf E v:=by
 refine gg λG iJ=>tc Z.YC λx' C d od hxx hC XO hdd hcr=>BY XO.obj λox fv hx j r s O _=>aj V.a8.ns λ_ nd _=>B0 nd λoL _ _ I _=>Ys T.cls λC' fI fd h ps hC' D=>ML (hT C hC) λft fd' ac2 ps' Dt=>aj (ym U) λf hf _=>?_;obtain rfl:=Value.ref.inj hxx;obtain rfl:=se hC hC';obtain rfl:=se hC (sG hf);have J:=HG (L:=L) p I Z.r0 Z.D9 Z.wC V.a8 u (Le.refl _) Y hx O;have c:(("error":Str),3,false)∈S.wr:=ar (ti wn) λbb c=>nt (WP.mp p _ (V.a8.es.wA _ _ _ c).1)▸c;refine iJ (wpAny_handleBy_cons (codeAny_handlers_test (nY J hf (LD D.cls J.r0.k hx j (codeAny_handlers_suite_as (LC XO λh' hh=>?_))))) λq=>Value.noConfusion q);clear iJ
 have M:c6 X S g (fX F' x ox) (E5 H L v.heap) [] ⟨[o,m,.ae,.ae],[]⟩ {v with heap:=h'}:=hh.elim (λe=>by subst e;exact J) λz=>cU z λT gT hTx hkT=>cY gT λt1 t2 t3=>aX (rE I t3) λt4 t5=>
  J.SM (e:=T) (tk:=v.toks) (λb o hb w=>(hkT b hb).trans w) ((fM hTx).trans t1) (rD t2 t5) nl ⟨t4,λy i hm _=>Bool.noConfusion (WP.mp p _ hm)⟩
 have Vx:aG X.prog X.w (fX F' x ox) [] (.dJ C ["what","at"] [a,b]) (.ref x):=.dJ hX j r (by unfold notCls;rw[s]) (ez O.1 _ _ hdd) (hcr.aT (ez O.1) (hU.refl _))
 refine kr M c Vx λzy nU=>Co (B:=E5 H L v.heap) (Q:=λP aY=>P=.next/\aY=⟨[o,m,.tuple [a,b],.dJ C ["what","at"] [a,b]],[]⟩) (x2 we rfl (SR (A:=A.mark (some (.ref x))) (a:=a) (b:=b) Dt l rfl t (qs hS vo (DU af.noConfusion rfl n1 n2 (Uy ⟨rfl,rfl⟩)))))
  _ _ [] zy _ (Le.refl _) nU.bu λP zB Uj Gd Kg adB vL Uk q=>aX q λe1 e2=>?_
 obtain rfl:P=.next:=(e1▸Uk:vR X Uj Gd .next P);clear Uk e1 q M Vx hh J;subst e2;obtain rfl:Gd=[]:=aaJ vL.bu.r0.cS
 exact dL (wpAny_bindName (kr vL.bu c .none λac3 N=>HF N.bu c af.noConfusion λaao MB=>k _ _ _ _ MB.bu rfl ((hF.trans u).trans ((ez O.1).trans (nU.le.trans (vL.le.trans (N.le.trans MB.le))))) SU λb o e=>
  ar (Z.D9 b o ((if_neg λq:b=g.locals=>sn ((kU (Y _ _ e)).trans e) (q▸V.a8.xE.2.1:fe H L b=none)).trans e)) λsl w=>⟨sl,(WL (Y _ _ e) e).trans w⟩))
def O0{j:FuncData}{i:List Stmt}{t:dT}(D:tF X.K f j i t 4)(B:kQ X.K j t none)(h2:t.length=2)(J:Sh HD (HE X.K (eL 4 j.scope.names) i) i)(T:qz X R)(hT:∀C,Gf X "ProgramError"=some C->∃ft j i t,Jv X.K C ft j i t)
  {o m:af} {Q:af->Prop} (no:o≠ .ae) (nm:m≠ .ae) (hQ:∀v,Q v->v≠ .ae) (hq:gq X n "check_program" [o,m] Q R):Ea X (n+1) (.ref f) [o,m] (λv=>Q v\/∃x y,R "ProgramError" [x,y]/\v=.tuple [x,y]):=λA F H L σ vs E hA hh hx M R₀ V=>aj hx λl O u=>by
 refine yq (d:=none) (args:=[o,m]) D B h2.symm (IN (o0 (T0 _ _) hA.2.1) (by decide)) R₀ V λg k Qc Ec he ho P hr hn hE hp=>?_;clear R₀ V hn hE hp he hx;replace P:c6 X (eL 4 j.scope.names) g F (fe H L) [] ⟨[o,m,.ae,.ae],[]⟩ k:=P;have Yg:=hA.deeper g;have W:oj X (eL 4 j.scope.names) (A.deeper g) g H L l:=⟨Around.frames_deeper O,ho,u,M⟩;refine J.bl▸bJ J.bQ λS h=>bJ h λz h=>bJ h λU h=>bJ h λY h=>bJ h λw2 h=>bJ h λw3 h=>bJ h λva h=>bJ h λvb h=>bJ h λg3 vo=>?_;clear J
 have iJ:∀I G p r,(Q (aB p.aC 2)\/∃x y,R "ProgramError" [x,y]/\aB p.aC 2=.tuple [x,y])->c6 X (eL 4 j.scope.names) g I G [] p r->aB p.aC 2≠ .ae->Le F I->Le H G->(∀b o,L b=some o->∃sl,G b=some {o with slots:=sl})->
   ∀(xr rr:Pos) E',wpAny (model X.prog X.w) (A.deeper g) (execs [.Return (some (.Name "found" xr)) rr] g) Qc E' r:=λI G p r q Rl hu hF hH hL xr rr E'=>
  SS D.ok Rl g3 hu hF hH hL λv bh F' s e2 e3 e4 e5=>hr _ _ (Ki F' _ s e2 e3 e4 e5 q)
 clear hr
 refine wpAny_execs_cons (wpAny_Try_except (wpAny_execs_cons (wpAny_Assign_Name (UL (Q:=λv aY=>aY=⟨[o,m,.ae,.ae],[]⟩/\Q v) (Zp:=λaY=>aY=⟨[o,m,.ae,.ae],[]⟩) Yg W (Le.refl _) P Y rfl
  (w6 rfl rfl (qs D.ok va ⟨no,qs D.ok vb (bH nm rfl (hq.imp λv q=>⟨rfl,q⟩))⟩)) (λaF au aA k F' y ws e r N hF Z hR zp=>aX (T.only _ _ hR) λey w=>gm w λa b ew n1 n2=>xB Z.YC λx _ _ _ ex _=>?_) λv k aF au aA a N Va qq=>aX qq λs q=>ar (ti w2) λbb hm=>?_) (AZ rfl))))
 ·subst zp ey ew ex
  obtain rfl:au=[]:=aaJ N.bu.r0.cS;have gg:=W.E2 (Le.refl _) N.bu
  have G2:Ju (uY (g::l)) H (LF g.locals k.heap L) (qy (uY (g::l)) aF k.heap) (pV (uY (g::l)) aF k.heap):=⟨gg.lc,λc w e=>wS (λq:c=g.locals=>have ml:c∈uY (g::l):=q▸List.mem_filterMap.mpr (ay g (.head _) W.wA)
   .inl ⟨ml,(if_pos ml).trans (bY.mpr ⟨q▸N.bu.a8.xE.1,nl,(if_pos q).symm.trans e⟩)⟩) λq=>gg.l c w ((if_neg q).symm.trans e),gg.h⟩
  exact ab6 (E1 (E₁:=_) W.fr (W.frames (Le.refl _) N.bu (h':=r.heap) Z.D9) W.wA Z G2) (λ_ DQ w=>ab6 w (λ_ vK acy=>E6 D.ok (IN (o0 (T0 _ _) Yg.2.1) (by decide)) T hT S z U w2 w3 vo M hR n1 n2 N.le hF N.bu acy λI G p zy Rl s e2 e3 e4=>
   iJ _ _ _ _ (.inr (j6 a b hR s)) Rl (s.symm▸af.noConfusion) e2 e3 e4 _ _ _) λ_ _ y=>y) λ_ _ y=>y
 ·clear qq
  subst s;obtain rfl:au=[]:=aaJ N.bu.r0.cS;exact kr N.bu hm Va λr aW=>wpAny_execs_nil (wpAny_execs_nil (iJ _ _ ⟨[o,m,a,.ae],[]⟩ _ (.inl q) aW.bu (hQ _ q) (N.le.trans aW.le) (λ_ _ e=>tI e) (λb o e=>⟨o.slots,(kU (M b o e)).trans e⟩) _ _ _))
end
end
section
open PySem PySem.W PyProof.Rows Builtin
section
variable{X:Cx}{S:a0}{d:Env}{A:Around}{E:dy}{F j H:bj}{l B:aZ}{y C:St}{g t:Shared}{n:Nat}
def c6.ZG(R:c6 X S d F H l y g)(w:Le F j)(f:R0 X j (qy [d.locals] F g.heap) [] [] t)(M:XS (pV [d.locals] F g.heap) t.heap)(N:∀b o,j b=some o->pV [d.locals] F g.heap b=none):c6 X S d j H l y t:=
 have p:∀b o,g.heap.get? b=some o->F b=none->b≠d.locals->qy [d.locals] F g.heap b=some o:=λb o e r D=>(if_neg λm=>D (u8.mp m)).trans (bY.mpr (bH r nl e));have G:∀b o,H b=some o->qy [d.locals] F g.heap b=some o:=λb o e=>p b o (R.r0.lE b o e) (R.r0.Yy e) λq=>sn (q▸e) R.a8.xE.2.1;have I:∀b o,qy [d.locals] F g.heap b=some o->j b=none:=λb o e=>nf λx q=>sn e (f.gn b x q);have J:∀a o,AH S d a->g.heap.get? a=some o->a≠d.locals->qy [d.locals] F g.heap a=some o:=λa o q e n=>p a o e (R.a8.free a q).1 n;have L:∀o,g.heap.get? d.locals=some o->pV [d.locals] F g.heap d.locals=some o:=λo e=>(if_pos (u8.mpr rfl)).trans (bY.mpr (bH R.a8.xE.1 nl e))
 ⟨⟨R.r0.r6,f.de,f.fz,λb o e=>f.lE b o (G b o e),λb o e=>nf λx q=>sn (G b x q) (f.gn b o e),λk c e O=>gH (R.r0.xD k c e O) λa o r D P Q=>
   have q:=p a o D Q λq=>R.a8.xE.2.2 (q▸wE r)
   lF a o r (f.lE a o q) (P.aT w (hU.refl _)) (I a o q),
  R.r0.cS,R.r0.fD,λa v=>bH (R.r0.nV a v).1 (ar (R.r0.nV a v).2.1 λo e=>Option.casesOn (motive:=λx=>F a=x->∃o,t.heap.get? a=some o) (F a) (λq=>⟨o,f.lE a o (p a o e q λz=>R.a8.xE.2.2 (z▸v))⟩) (λx q=>⟨x,f.fz a x (w a x q)⟩) rfl) (R.r0.nV a v).2.2,f.gens,f.os⟩,
  R.a8.toS (λa o q e=>wS (λz:a=d.locals=>by subst z;exact M _ _ (L o e)) λz=>⟨o.slots,f.lE a o (J a o q e z)⟩) rfl (λi u s=>s.aT w (hU.refl _))
   (λa q=>⟨ar (R.Ei q) λo e=>wS (λz:a=d.locals=>by subst z;exact nf λx h=>sn (L o e) (N _ _ h)) λz=>I a o (J a o q e z),(R.a8.free a q).2⟩) λ_ _ e=>e⟩
def WN(I:Lv A n)(u:A.frames=some [d])(Y:d.frame=some d.locals):PcH X A n d:=λS E x p q as Q y Z J h=>λF H l g P D k=>aj (Bg Z) λf L h1=>
 dL (nY D L (callWith_of (P:=λh=>X.K.In h) (ab2.mpr ⟨bD (nt J),rfl⟩) (keeps_K h1) (cL (bD (nt J)) (h F H l _ _ D λus c i au aA vs N V z=>⟨N.bu.r0.k,cU z λf' G hn M=>aj N.bu.a8.ns λ_ nd _=>eV nd λoL es ep O hd _=>by
  clear D h;obtain rfl:=se (sG L) G;have s:pV [d.locals] i c.heap d.locals=some oL:=(if_pos (u8.mpr rfl)).trans (bY.mpr (bH N.bu.a8.xE.1 nl O));have R:FrL A (pV [d.locals] i c.heap):=ay [d] u λe m=>(u8.mp m).symm▸⟨N.bu.a8.kind▸by decide,uH _ oL Y s λvs q=>Data.noConfusion (hd.symm.trans q)⟩;have T:R0 X i (fe (qy [d.locals] i c.heap) (pV [d.locals] i c.heap)) [] [] c:=sP▸N.bu.r0.D2;refine wpAny_call (aaS (M A i (qy [d.locals] i c.heap) (pV [d.locals] i c.heap) c us E I I.1 R (λb o w=>if_pos (gU w).1) T (mY V hn)) λr aP z=>?_);clear T R s O M;rcases r with e|(_|_|_|v)<;>first|exact z|exact z.elim|skip
  exact BY z λj a U R' D9 wC V' q=>k _ _ _ _ _ _ (N.trans ⟨U,hU.refl _,N.bu.ZG U R' D9 wC⟩) (V'.aT (Le.refl _) λn a e=>nx e) q⟩))))
end
end
structure d6 where
 cls:Str
 name:Str
 ps:List Str
 N:Nat
 d:Option af
 ir:bt
noncomputable def WO(K:Frag)(r:d6):Option Addr:=if r.cls==("":Str)then uM K r.name else(uM K r.cls).bind λC=>B2 (findIn K (.ref C) r.name)
def E7(K:Frag)(r:d6):Prop:=∃f,WO K r=some f/\Ls K f r.ps r.N r.d r.ir
noncomputable section
noncomputable def je.q(l:List DE):je:=l.rec .nil λa _ r=>.cons a r
noncomputable def bt.q(l:List DS):bt:=l.rec .nil λa _ r=>.cons a r
noncomputable def DE.i(n:Int):DE:=.cj (.int n)
noncomputable def DE.s(s:Str):DE:=.cj (.str s)
noncomputable def fH:DE:=.cj .none
noncomputable def cE:DE:=.cj (.int 0)
noncomputable def dD:DE:=.cj (.int 1)
noncomputable def qA:DE:=.cj (.int 2)
noncomputable def aw:DE:=.aC 0
noncomputable def aM:DE:=.aC 1
noncomputable def bB:DE:=.aC 2
noncomputable def bE:DE:=.aC 3
noncomputable def cW:DE:=.aC 4
noncomputable def dE:DE:=.aC 5
noncomputable def dK:DE:=.aC 6
noncomputable def om:DE:=.aC 7
noncomputable def O1:DE:=.aC 8
noncomputable def zW:DE:=.aC 9
noncomputable def O2:DE:=.aC 10
noncomputable def O3:DE:=.aC 11
noncomputable def O4:DE:=.aC 12
noncomputable def ZH:DE:=.aC 13
noncomputable def ZI:DE:=.aC 14
def LG:bt:=.q [.assign 2 (.dB .BitAnd aw (.dB .Sub (.dB .LShift dD aM) dD)),.ret (.ite (.dB .RShift bB (.dB .Sub aM dD)) (.dB .Sub bB (.dB .LShift dD aM)) bB)]
def yB:bt:=.q [.setAttr aw "code" aM,.setAttr aw "dst" bB,.setAttr aw "src" bE,.setAttr aw "off" cW,.setAttr aw "imm" dE,.setAttr aw "more" dK]
def zX:bt:=.q [.assign 1 (.dB .BitAnd (.cK aw "code") (.i 7)),.ret (.or (.q [.cO .Eq aM (.kP "JMP" (.int 5)),.cO .Eq aM (.kP "JMP32" (.int 6))]))]
def HH:bt:=.q [.ret (.cO .Eq (.cK aw "code") (.kP "WIDE" (.int 24)))]
def HI:bt:=.q [.ret (.and (.q [.call "is_jumping" (.q [aw]),.cO .Eq (.dB .BitAnd (.cK aw "code") (.i 240)) cE]))]
def HJ:bt:=.q [.ret (.cO .Eq (.cK aw "code") (.kP "CALL" (.int 133)))]
def uZ:bt:=.q [.ret (.and (.q [.cO .Eq (.cK aw "code") (.kP "CALL" (.int 133)),.cO .Eq (.cK aw "src") dD]))]
def HK:bt:=.q [.ret (.cO .Eq (.cK aw "code") (.kP "EXIT" (.int 149)))]
def CR:bt:=.q [.ret (.and (.q [.call "is_jumping" (.q [aw]),.not (.call "is_jump" (.q [aw])),.not (.call "is_call" (.q [aw])),.not (.call "is_exit" (.q [aw]))]))]
def E8:bt:=.q [.ite (.or (.q [.call "is_local_call" (.q [aw]),.cO .Eq (.cK aw "code") (.kP "JMP32" (.int 6))])) (.q [.ret (.cK aw "imm")]) .nil,.ret (.cK aw "off")]
def sa:bt:=.q [.ite (.cO .Eq (.strip (.Wt aw (.dB .Mult (.i 4) bB) (.dB .Add (.dB .Mult (.i 4) bB) (.i 4)))) aM) (.q [.ret bB]) .nil]
def zY:bt:=.q [.du (.dA 2) (.bz (.kP "KNOWN" (.int 14))) sa,.jW "CodeError" (.q [.dB .Add (.s "no operation ") aM])]
def HL:bt:=zY
def CS:bt:=.q [.ret (.dB .Add (.dB .LShift (.call "spot_of" (.q [.kP "DEEDS" (.str "add sub mul div or  and lsh rsh neg mod xor mov arshend "),aw])) (.i 4)) (.ite (.cO .Eq aM (.i 64)) (.kP "ALU64" (.int 7)) (.kP "ALU" (.int 4))))]
def yC:bt:=.q [.ite (.or (.q [.cO .Eq aw (.s "ja"),.cO .Eq aw (.s "call"),.cO .Eq aw (.s "exit")])) (.q [.jW "CodeError" (.q [.dB .Add (.s "no condition ") aw])]) .nil,.ret (.dB .Add (.dB .LShift (.call "spot_of" (.q [.kP "JUMPS" (.str "ja  eq  gt  ge  set ne  sgt sge callexitlt  le  slt sle "),aw])) (.i 4)) (.ite (.cO .Eq aM (.i 64)) (.kP "JMP" (.int 5)) (.kP "JMP32" (.int 6))))]
def HM:bt:=.q [.ret (.new "Order" (.q [.call "deed_code" (.q [aw,bE]),aM,cE,cE,bB]))]
def SV:bt:=.q [.ret (.new "Order" (.q [.kP "JMP" (.int 5),cE,cE,aw,cE]))]
def E9:bt:=.q [.ret (.new "Order" (.q [.kP "JMP32" (.int 6),cE,cE,cE,aw]))]
def zZ:bt:=.q [.ret (.new "Order" (.q [.dB .Add (.call "branch_code" (.q [aw,cW])) (.kP "BY_REGISTER" (.int 8)),aM,bB,bE,cE]))]
def z8:bt:=.q [.ret (.new "Order" (.q [.call "branch_code" (.q [aw,cW]),aM,cE,bE,bB]))]
def SW:bt:=.q [.ret (.new "Order" (.q [.kP "WIDE" (.int 24),aw,cE,cE,.call "signed" (.q [aM,.i 32]),.call "signed" (.q [.dB .RShift aM (.i 32),.i 32])]))]
def SX:bt:=.q [.ret (.new "Order" (.q [.kP "CALL" (.int 133),cE,cE,cE,aw]))]
def Aa:bt:=.q [.ret (.new "Order" (.q [.kP "CALL" (.int 133),cE,dD,cE,aw]))]
def O5:bt:=.q [.ret (.new "Order" (.q [.kP "EXIT" (.int 149),cE,cE,cE,cE]))]
def jX:bt:=.q [.expr (.append (.cK aw "slots") bB),.setItem (.cK aw "by_slot") bB bE,.assign 2 (.dB .Add bB (.ite (.call "is_wide" (.q [.item (.cK aw "orders") bE])) qA dD))]
def jY:bt:=.q [.ite (.and (.q [.call "is_local_call" (.q [.item (.cK aw "orders") bE]),.cO .In (.Ot aw "goal_slot" (.q [bE])) (.cK aw "by_slot")])) (.q [.expr (.add cW (.item (.cK aw "by_slot") (.Ot aw "goal_slot" (.q [bE]))))]) .nil]
def jZ:bt:=.q [.du (.dA 3) (.bz (.cS (.cK aw "orders"))) jY,.setAttr aw "subs" (.fr (.sorted cW))]
def rV:bt:=.cons (.du (.dA 3) (.bz (.cS (.cK aw "orders"))) jX) (.cons (.setAttr aw "many_slots" bB) (.cons (.Lh 4 0) jZ))
def u3:bt:=.cons (.setAttr aw "orders" (.fr (.listOf aM))) (.cons (.setAttr aw "slots" (.fP (.list .nil))) (.cons (.setAttr aw "by_slot" (.fP .Jk)) (.cons (.assign 2 cE) rV)))
def u4:bt:=.q [.ret (.cS (.cK aw "orders"))]
def qB:bt:=.q [.ret (.dB .Add (.dB .Add (.item (.cK aw "slots") aM) dD) (.call "distance" (.q [.item (.cK aw "orders") aM])))]
def tJ:bt:=.q [.ret (.item (.cK aw "by_slot") (.gd aw "goal_slot" (.q [aM])))]
def qC:bt:=.q [.assign 4 (.dB .FloorDiv (.dB .Add bB bE) qA),.ite (.cO .LtE (.item (.cK aw "subs") cW) aM) (.q [.assign 2 cW]) (.q [.assign 3 cW])]
def jn:bt:=.q [.EV (.cO .Gt (.dB .Sub bE bB) dD) qC,.ret (.item (.cK aw "subs") bB)]
def tK:bt:=.cons (.gC [2,3] (.fr (.tuple (.q [cE,.cS (.cK aw "subs")])))) jn
def iM:bt:=.q [.ite (.cO .Gt bB aM) (.q [.ret bB]) .nil]
def pW:bt:=.q [.du (.dA 2) (.e (.cK aw "subs")) iM,.ret (.cS (.cK aw "orders"))]
def sQ:bt:=pW
def Fb:bt:=.q [.ret (.or (.q [.call "is_jump" (.q [aw]),.call "is_branch" (.q [aw]),.call "is_local_call" (.q [aw])]))]
def Ab:bt:=.q [.assign 2 (.item (.cK aw "orders") aM),.ite (.call "is_exit" (.q [bB])) (.q [.ret (.fr (.list .nil))]) .nil,.ite (.call "is_jump" (.q [bB])) (.q [.ret (.fr (.list (.q [.gd aw "target" (.q [aM])])))]) .nil,.ite (.and (.q [.call "is_branch" (.q [bB]),.cO .NotEq (.gd aw "target" (.q [aM])) (.dB .Add aM dD)])) (.q [.ret (.fr (.list (.q [.dB .Add aM dD,.gd aw "target" (.q [aM])])))]) .nil,.ret (.fr (.list (.q [.dB .Add aM dD])))]
def kW:bt:=.q [.expr (.append (.item aM bE) bB)]
def sR:bt:=.q [.du (.dA 3) (.e (.call "successors" (.q [aw,bB]))) kW]
def kX:bt:=sR
def sS:bt:=.q [.du (.dA 2) (.bz (.gd aw "count" .nil)) kX,.ret aM]
def wF:bt:=.cons (.gB true 1 (.CF (.e (.cK aw "orders")) 4 2 5)) sS
noncomputable def kY:je:=(.cons (.call "is_local_call" (.cons (.item (.cK (.aC 0) "orders") (.aC 2)) .nil)) .nil)
noncomputable def sT:mQ:=(.done (.aC 2))
def yD:bt:=.q [.ret (.fr (.comp (.dA 2) (.bz (.gd aw "count" .nil)) kY sT 1 2))]
noncomputable def m3:mQ:=(.done (.cj (.bool false)))
def o5:bt:=.q [.ite (.not (.item aM dE)) (.q [.setItem aM dE (.cj (.bool true)),.expr (.append bB dE)]) .nil]
def o6:bt:=.q [.du (.dA 5) (.e cW) o5]
def jQ:bt:=.cons (.assign 3 (.pop bB)) (.cons (.assign 4 (.fP (.listOf (.call "successors" (.q [aw,bE]))))) (.cons (.ite (.call "is_local_call" (.q [.item (.cK aw "orders") bE])) (.q [.expr (.append cW (.gd aw "target" (.q [bE])))]) .nil) o6))
noncomputable def m4:je:=(.cons (.item (.aC 1) (.aC 9)) .nil)
noncomputable def u5:mQ:=(.done (.aC 9))
def gK:bt:=.q [.ret (.fr (.comp (.dA 9) (.bz (.gd aw "count" .nil)) m4 u5 8 2))]
def o7:bt:=.cons (.EV bB jQ) gK
def CT:bt:=.cons (.gB true 1 (.comp (.dA 7) (.e (.cK aw "orders")) .nil m3 6 2)) (.cons (.setItem aM cE (.cj (.bool true))) (.cons (.assign 2 (.fP (.list (.q [cE])))) o7))
def m5:bt:=.q [.expr (.Ot aw "step" .nil)]
def m6:bt:=.q [.EV (.cK aw "way") m5]
def Ad:bt:=.cons (.setAttr aw "program" aM) (.cons (.setAttr aw "post" (.fP (.list .nil))) (.cons (.setAttr aw "heads" (.fP .Hv)) (.cons (.setAttr aw "marks" (.fP (.Zn 2 1))) (.cons (.setAttr aw "way" (.fP (.list (.q [.fr (.tuple (.q [bB,.call "successors" (.q [aM,bB])]))])))) m6))))
def CU:bt:=.q [.gC [1,2] (.item (.cK aw "way") (.neg dD)),.ite (.not bB) (.q [.setItem (.cK aw "marks") aM qA,.expr (.append (.cK aw "post") aM),.expr (.pop (.cK aw "way")),.Zr]) .nil,.assign 3 (.item bB cE),.setItem (.cK aw "way") (.neg dD) (.fr (.tuple (.q [aM,.fr (.Bh bB dD)]))),.assign 4 (.getD (.cK aw "marks") bE cE),.ite (.cO .Eq cW dD) (.q [.expr (.add (.cK aw "heads") bE)]) (.q [.ite (.cO .Eq cW cE) (.q [.setItem (.cK aw "marks") bE dD,.expr (.append (.cK aw "way") (.fr (.tuple (.q [bE,.call "successors" (.q [.cK aw "program",bE])]))))]) .nil])]
def Ae:bt:=.q [.ret (.cK (.new "Walk" (.q [aw,aM])) "post")]
def iV:bt:=.q [.expr (.Ou aM (.fr (.sorted (.cK (.new "Walk" (.q [aw,bB])) "heads"))))]
def u6:bt:=.q [.du (.dA 2) (.e (.cK aw "subs")) iV,.ret aM]
def Af:bt:=.cons (.assign 1 (.fP (.list .nil))) u6
def gE:bt:=.q [.ite (.and (.q [.or (.q [.call "is_jump" (.q [bE]),.call "is_branch" (.q [bE]),.call "is_exit" (.q [bE])]),.cO .Lt (.dB .Add bB dD) (.gd aw "count" .nil)])) (.q [.expr (.add aM (.dB .Add bB dD))]) .nil]
def wG:bt:=.cons (.ite (.or (.q [.call "is_jump" (.q [bE]),.call "is_branch" (.q [bE])])) (.q [.expr (.add aM (.gd aw "target" (.q [bB])))]) .nil) gE
def tL:bt:=.cons (.assign 3 (.item (.cK aw "orders") bB)) wG
noncomputable def Ag:mQ:=(.done (.fr (.tuple (.cons (.item (.aC 4) (.aC 6)) (.cons (.item (.aC 4) (.dB .Add (.aC 6) (.cj (.int 1)))) .nil)))))
def tM:bt:=.q [.du (.dA 2) (.bz (.gd aw "count" .nil)) tL,.assign 4 (.fP (.sorted aM)),.expr (.append cW (.gd aw "count" .nil)),.ret (.fr (.comp (.dA 6) (.bz (.dB .Sub (.cS cW) dD)) .nil Ag 5 2))]
def LH:bt:=.cons (.assign 1 (.fP (.Zm (.cK aw "subs")))) tM
def qD:bt:=.q [.ite (.call "is_local_call" (.q [.item (.cK aw "orders") bE])) (.q [.expr (.add bB (.gd aw "target" (.q [bE])))]) .nil]
def yE:bt:=.q [.du (.dA 3) (.yn aM (.gd aw "sub_end" (.q [aM]))) qD,.ret (.fr (.sorted bB))]
def Fc:bt:=.cons (.assign 2 (.fP .Hv)) yE
noncomputable def m7:DE:=(.aC 8)
noncomputable def m8:DE:=(.call "calls_of" (.cons (.aC 0) (.cons (.aC 8) .nil)))
def o8:bt:=.q [.assign 6 (.pop dE),.ite (.cO .NotIn dK cW) (.q [.expr (.add cW dK),.expr (.Ou dE (.item bB dK))]) .nil]
def o9:bt:=.q [.EV dE o8,.setItem bE aM cW]
def pg:bt:=.cons (.gC [4,5] (.fr (.tuple (.q [.fP .Hv,.fP (.listOf (.item bB aM))])))) o9
def pn:bt:=.q [.du (.dA 1) (.e (.cK aw "subs")) pg,.ret bE]
def CV:bt:=.cons (.gB false 2 (.Jn (.dA 8) (.e (.cK aw "subs")) m7 m8 7 2)) (.cons (.assign 3 (.fP .Jk)) pn)
noncomputable def j1:DE:=(.aC 7)
noncomputable def j2:DE:=(.cj (.int 1))
def kZ:bt:=.q [.gC [4,5] (.fr (.tuple (.q [.dB .Add (.item aM (.gd aw "sub_of" (.q [bE]))) dD,.gd aw "target" (.q [bE])]))),.ite (.cO .Lt (.item aM dE) cW) (.q [.setItem aM dE cW,.assign 2 (.cj (.bool true))]) .nil]
def k8:bt:=.q [.du (.dA 3) (.e (.call "local_calls" (.q [aw]))) kZ]
def sU:bt:=.cons (.assign 2 (.cj (.bool false))) k8
def k9:bt:=.q [.EV bB sU,.ret aM]
def wH:bt:=.cons (.gB true 1 (.Jn (.dA 7) (.e (.cK aw "subs")) j1 j2 6 2)) (.cons (.assign 2 (.cj (.bool true))) k9)
def lM:bt:=.q [.assign 2 (.item (.cK aw "orders") aM),.ite (.call "has_goal" (.q [bB])) (.q [.assign 3 (.gd aw "goal_slot" (.q [aM])),.ite (.not (.Zj .LtE .Lt cE bE (.cK aw "many_slots"))) (.q [.jW "ProgramError" (.q [.s "goal out of the program",aM])]) .nil,.ite (.cO .NotIn bE (.cK aw "by_slot")) (.q [.jW "ProgramError" (.q [.s "goal within a wide load",aM])]) .nil]) .nil]
def lN:bt:=.q [.assign 2 (.item (.cK aw "orders") aM),.ite (.and (.q [.or (.q [.call "is_jump" (.q [bB]),.call "is_branch" (.q [bB])]),.cO .NotEq (.gd aw "sub_of" (.q [.gd aw "target" (.q [aM])])) (.gd aw "sub_of" (.q [aM]))])) (.q [.jW "ProgramError" (.q [.s "goal in another subprogram",aM])]) .nil]
def tN:bt:=.q [.du (.dA 1) (.bz (.gd aw "count" .nil)) lN]
def tO:bt:=.cons (.du (.dA 1) (.bz (.gd aw "count" .nil)) lM) tN
def qE:bt:=tO
def m9:bt:=.q [.assign 2 (.dB .Sub (.gd aw "sub_end" (.q [aM])) dD),.ite (.and (.q [.not (.call "is_exit" (.q [.item (.cK aw "orders") bB])),.not (.call "is_jump" (.q [.item (.cK aw "orders") bB]))])) (.q [.jW "ProgramError" (.q [.s "subprogram without an end",bB])]) .nil]
def u7:bt:=.q [.du (.dA 1) (.e (.cK aw "subs")) m9]
def sb:bt:=u7
def rW:bt:=.q [.ite (.cO .NotEq (.item aM bB) bB) (.q [.jW "ProgramError" (.q [.s "order that nothing reaches",bB])]) .nil]
def j3:bt:=.q [.du (.dA 2) (.bz (.cS aM)) rW,.ite (.cO .Lt (.cS aM) (.gd aw "count" .nil)) (.q [.jW "ProgramError" (.q [.s "order that nothing reaches",.cS aM])]) .nil]
def ng:bt:=.cons (.assign 1 (.call "reachable" (.q [aw]))) j3
def lO:bt:=.q [.gC [4,5] (.fr (.tuple (.q [.gd aw "sub_of" (.q [bE]),.gd aw "target" (.q [bE])]))),.ite (.or (.q [.cO .Eq dE cW,.cO .In cW (.item bB dE)])) (.q [.jW "ProgramError" (.q [.s "calls in a ring",bE])]) .nil]
def lP:bt:=.q [.ite (.cO .GtE (.item dK (.gd aw "sub_of" (.q [bE]))) (.kP "MOST_FRAMES" (.int 8))) (.q [.jW "ProgramError" (.q [.s "too many frames",bE])]) .nil]
def lQ:bt:=.q [.du (.dA 3) (.e aM) lP]
def lR:bt:=.cons (.du (.dA 3) (.e aM) lO) (.cons (.assign 6 (.call "frame_counts" (.q [aw]))) lQ)
def qF:bt:=.cons (.assign 1 (.call "local_calls" (.q [aw]))) (.cons (.ite (.not aM) (.q [.Zr]) .nil) (.cons (.assign 2 (.call "called_by" (.q [aw]))) lR))
def nh:bt:=.q [.assign 2 (.new "Program" (.q [aw])),.ite (.cO .Eq (.gd bB "count" .nil) cE) (.q [.jW "ProgramError" (.q [.s "no order"])]) .nil,.ite (.cO .Gt (.cK bB "many_slots") aM) (.q [.jW "ProgramError" (.q [.s "too many orders"])]) .nil,.yp "check_goals" (.q [bB]),.yp "check_ends" (.q [bB]),.yp "check_reached" (.q [bB]),.yp "check_calls" (.q [bB]),.ret bB]
def qG:bt:=.q [.assign 6 (.dB .Mod (.o3 (.dB .Pow (.dB .Add (.dB .Add (.dB .Mod (.o3 cW) (.i 2147483549)) (.dB .Mult (.i 51907) bE)) (.i 3389)) (.i 5))) (.i 2147483647)),.assign 6 (.dB .Mod (.o3 (.dB .Pow (.dB .Add (.dB .Add (.dB .Mult dK (.dB .Add (.dB .Mult qA bE) (.i 1867))) (.dB .Mult (.dB .Mult (.i 60493) bE) bE)) (.i 643)) (.i 3))) (.i 2147483563)),.ret (.dB .Mod (.o3 (.dB .FloorDiv dK (.i 32))) aM)]
def qH:bt:=.cons (.ite (.and (.q [.cO .Lt bE (.cS (.item aw cE)),.cO .GtE (.abs cW) (.dB .Pow (.i 10) (.i 18))])) (.q [.assign 5 (.dB .Sub (.abs cW) (.dB .Pow (.i 10) (.i 18))),.setItem aw qA (.dB .FloorDiv (.o3 dE) aM),.ret (.dB .Mod (.o3 dE) aM)]) .nil) qG
def yF:bt:=.cons (.ite (.cO .NotEq (.item aw cE) (.fr (.list .nil))) (.q [.assign 4 (.item (.item aw cE) (.dB .Mod (.o3 bE) (.cS (.item aw cE))))]) .nil) qH
def yG:bt:=.cons (.assign 4 (.dB .Add (.dB .Mult (.i 90023) bE) (.i 7919))) yF
def yH:bt:=.cons (.setItem aw dD (.dB .Add bE dD)) yG
def yI:bt:=.cons (.assign 3 (.item aw dD)) yH
def Fe:bt:=.cons (.ite (.cO .Gt (.item aw qA) cE) (.q [.assign 2 (.dB .Mod (.o3 (.item aw qA)) aM),.setItem aw qA (.dB .FloorDiv (.o3 (.item aw qA)) aM),.ret bB]) .nil) yI
def Ff:bt:=.q [.ret (.item aM (.fb "_law_draw" (.q [aw,.cS aM])))]
def fQ:bt:=.q [.ite (.cO .Lt dK cW) (.q [.expr (.append aM (.fP (.list (.q [.fb "_law_pick" (.q [aw,.fr (.list (.q [.s "mov",.s "wide",.s "branch",.s "short",.s "branch",.s "helper",.s "wide",.s "jump"]))]),cE,fH]))))]) .nil]
def iq:bt:=.cons (.ite (.and (.q [.cO .Eq dK dE,bB])) (.q [.expr (.append aM (.fP (.list (.q [.s "call",.neg dD,fH]))))]) .nil) fQ
def iu:bt:=.q [.ite (.cO .In (.item (.item aM om) cE) (.fr (.tuple (.q [.s "branch",.s "short",.s "jump",.s "far"])))) (.q [.setItem (.item aM om) dD (.dB .Add bE (.fb "_law_draw" (.q [aw,.dB .Sub (.cS aM) bE])))]) .nil]
def fJ:bt:=.q [.du (.dA 7) (.yn bE (.cS aM)) iu]
def jo:bt:=.cons (.expr (.append aM (.fP (.list (.q [.fb "_law_pick" (.q [aw,.fr (.list (.q [.s "exit",.s "exit",.s "jump",.s "far"]))]),cE,fH]))))) fJ
def lS:bt:=.cons (.du (.dA 6) (.bz (.dB .Add cW dD)) iq) jo
def lT:bt:=.cons (.assign 5 (.fb "_law_draw" (.q [aw,.dB .Add cW dD]))) lS
def yJ:bt:=.cons (.gC [3,4] (.fr (.tuple (.q [.cS aM,.fb "_law_draw" (.q [aw,.i 5])])))) lT
def la:bt:=.q [.expr (.append bB (.cS aM)),.expr (.fb "_law_section" (.q [aw,aM,.cO .Lt (.dB .Add cW dD) bE]))]
def gL:bt:=.q [.ite (.cO .Eq (.item dE cE) (.s "call")) (.q [.assign 4 (.dB .Add cW dD),.setItem dE dD (.item bB cW)]) .nil]
def lg:bt:=.q [.du (.dA 5) (.e aM) gL,.ret (.fr (.tuple (.q [aM,bB])))]
def gM:bt:=.cons (.du (.dA 4) (.bz bE) la) (.cons (.assign 4 cE) lg)
def wI:bt:=.cons (.gC [1,2,3] (.fr (.tuple (.q [.fP (.list .nil),.fP (.list .nil),.dB .Add dD (.fb "_law_draw" (.q [aw,.i 3]))])))) gM
def pw:bt:=.q [.assign 2 (.fP (.add bB (.fr (.list (.q [.fr (.list (.q [.s "call",.dB .Add (.dB .Mult qA bE) qA,fH])),.fr (.list (.q [.s "exit",cE,fH]))])))))]
noncomputable def u9:mQ:=(.done (.dB .Mult (.cj (.int 2)) (.aC 5)))
def px:bt:=.q [.du (.dA 3) (.bz (.dB .Sub aM dD)) pw,.ret (.fr (.tuple (.q [.fP (.add bB (.fr (.list (.q [.fr (.list (.q [.s "exit",cE,fH]))])))),.fr (.comp (.dA 5) (.bz aM) .nil u9 4 2)])))]
def jR:bt:=.cons (.assign 2 (.fP (.list .nil))) px
def CW:bt:=.cons (.assign 1 (.dB .Add (.i 7) (.fb "_law_draw" (.q [aw,.i 4])))) jR
def jS:bt:=.q [.ret (.o3 (.cO .Eq bE (.i 6)))]
def bI:bt:=.cons (.ite (.cO .Eq bE cE) (.q [.setItem aM cW (.fr (.list (.q [.fb "_law_pick" (.q [aw,.fr (.list (.q [.s "branch",.s "short",.s "jump",.s "far",.s "call"]))]),cE,.dB .Sub (.fb "_law_draw" (.q [aw,.dB .Add (.dB .Mult qA (.cS aM)) (.i 4)])) qA])))]) (.q [.ite (.cO .Eq bE dD) (.q [.setItem aM cW (.fr (.list (.q [.s "exit",cE,fH])))]) (.q [.ite (.cO .Eq bE qA) (.q [.setItem aM cW (.fr (.list (.q [.fb "_law_pick" (.q [aw,.fr (.list (.q [.s "jump",.s "branch",.s "far"]))]),.fb "_law_draw" (.q [aw,.cS aM]),fH])))]) (.q [.ite (.cO .Eq bE (.i 3)) (.q [.setItem aM cW (.fr (.list (.q [.s "call",.item bB (.fb "_law_draw" (.q [aw,.cS bB])),fH])))]) (.q [.ite (.cO .Eq bE (.i 4)) (.q [.setItem aM cW (.fr (.list (.q [.s "call",.fb "_law_draw" (.q [aw,.cS aM]),fH])))]) (.q [.ite (.cO .Eq bE (.i 5)) (.q [.setItem aM (.dB .Sub (.cS aM) dD) (.fr (.list (.q [.s "mov",cE,fH])))]) .nil])])])])])) jS
def kb:bt:=.cons (.gC [3,4] (.fr (.tuple (.q [.fb "_law_draw" (.q [aw,.i 12]),.fb "_law_draw" (.q [aw,.cS aM])])))) bI
def nj:bt:=.q [.expr (.append aM bB),.ite (.cO .Eq (.item (.item aw bB) cE) (.s "wide")) (.q [.expr (.append aM (.neg dD))]) .nil]
def vd:bt:=.q [.du (.dA 2) (.bz (.cS aw)) nj,.ret aM]
def Ah:bt:=.cons (.assign 1 (.fP (.list .nil))) vd
def pz:bt:=.q [.ite (.cO .NotIn (.item bE cE) (.fr (.tuple (.q [.s "branch",.s "short",.s "jump",.s "far",.s "call"])))) (.q [.expr (.append bB fH)]) (.q [.expr (.append bB (.ite (.cO .Is (.item bE qA) fH) (.Ji aM (.item bE dD)) (.item bE qA)))])]
def wJ:bt:=.q [.du (.dA 3) (.e aw) pz,.ret bB]
def CX:bt:=.cons (.assign 2 (.fP (.list .nil))) wJ
def CY:bt:=.q [.ite (.cO .Eq aw (.s "mov")) (.q [.ret (.call "alu_imm" (.q [.s "mov",.dB .Mod (.o3 bB) (.i 10),.dB .Sub (.i 7) bB]))]) .nil,.ite (.cO .Eq aw (.s "wide")) (.q [.ret (.call "wide" (.q [.dB .Mod (.o3 bB) (.i 10),.dB .Mult bB (.dB .Pow (.i 10) (.i 10))]))]) .nil,.ite (.cO .Eq aw (.s "branch")) (.q [.ret (.call "branch_imm" (.q [.s "eq",dD,bB,aM]))]) .nil,.ite (.cO .Eq aw (.s "short")) (.q [.ret (.call "branch_reg" (.q [.s "sgt",qA,.i 3,aM,.i 32]))]) .nil,.ite (.cO .Eq aw (.s "jump")) (.q [.ret (.call "jump" (.q [aM]))]) .nil,.ite (.cO .Eq aw (.s "far")) (.q [.ret (.call "far_jump" (.q [aM]))]) .nil,.ite (.cO .Eq aw (.s "call")) (.q [.ret (.call "local_call" (.q [aM]))]) .nil,.ret (.ite (.cO .Eq aw (.s "exit")) (.call "leave" .nil) (.call "call" (.q [.i 7])))]
noncomputable def iW:je:=(.cons (.cO .Eq (.item (.item (.aC 0) (.aC 7)) (.cj (.int 0))) (.cj (.str "call"))) .nil)
noncomputable def nq:mQ:=(.done (.item (.aC 1) (.item (.aC 2) (.aC 7))))
def pA:bt:=.q [.expr (.append dE (.ite (.cO .In bE cW) bE (.item dE (.dB .Sub bE dD))))]
def wK:bt:=.q [.du (.dA 3) (.bz (.cS aw)) pA,.ret dE]
def CZ:bt:=.cons (.assign 4 (.fr (.add (.fr (.list (.q [cE]))) (.fr (.comp (.dA 7) (.bz (.cS aw)) iW nq 6 2))))) (.cons (.assign 5 (.fP (.list .nil))) wK)
def pB:bt:=.q [.assign 5 (.item (.item aw cW) cE),.ite (.cO .Eq dE (.s "exit")) (.q [.expr (.append bE (.fr (.list .nil)))]) (.q [.ite (.cO .In dE (.fr (.tuple (.q [.s "jump",.s "far"])))) (.q [.expr (.append bE (.fr (.list (.q [.item aM (.item bB cW)]))))]) (.q [.ite (.and (.q [.cO .In dE (.fr (.tuple (.q [.s "branch",.s "short"]))),.cO .NotEq (.item aM (.item bB cW)) (.dB .Add cW dD)])) (.q [.expr (.append bE (.fr (.list (.q [.dB .Add cW dD,.item aM (.item bB cW)]))))]) (.q [.expr (.append bE (.fr (.list (.q [.dB .Add cW dD]))))])])])]
def wL:bt:=.q [.du (.dA 4) (.bz (.cS aw)) pB,.ret bE]
def C0:bt:=.cons (.assign 3 (.fP (.list .nil))) wL
noncomputable def tP:mQ:=(.done (.cO .Eq (.aC 9) (.aC 1)))
def iX:bt:=.q [.ite (.item bE dK) (.q [.setItem bE om (.cj (.bool true))]) .nil]
def ve:bt:=.q [.du (.dU [6,7]) (.e aw) iX,.ite (.cO .Eq bE dE) (.q [.brk]) .nil]
def vf:bt:=.cons (.assign 5 (.fr (.listOf bE))) ve
noncomputable def lU:je:=(.cons (.item (.aC 3) (.aC 11)) .nil)
noncomputable def tQ:mQ:=(.done (.aC 11))
def j4:bt:=.q [.ret (.fr (.comp (.dA 11) (.bz bB) lU tQ 10 2))]
def nA:bt:=.cons (.du (.dA 4) (.bz bB) vf) j4
def Ai:bt:=.cons (.gB true 3 (.comp (.dA 9) (.bz bB) .nil tP 8 2)) nA
noncomputable def vg:mQ:=(.done (.fr (.tuple (.cons (.aC 5) (.cons (.aC 7) .nil)))))
def pC:bt:=.q [.assign 4 (.fP (.add cW (.fr (.comp (.dA 7) (.e (.item bE dE)) .nil vg 6 2)))),.ite (.cO .Eq (.item (.item aw dE) cE) (.s "call")) (.q [.expr (.append cW (.fr (.tuple (.q [dE,.item aM (.item bB dE)]))))]) .nil]
def pD:bt:=.q [.du (.dA 5) (.bz (.cS aw)) pC,.ret cW]
def C5:bt:=.cons (.assign 4 (.fP (.list .nil))) pD
noncomputable def pE:je:=(.cons (.cO .Eq (.aC 4) (.aC 1)) .nil)
noncomputable def wM:mQ:=(.done (.call "_law_deep" (.cons (.aC 0) (.cons (.aC 3) .nil))))
def Fg:bt:=.q [.ret (.dB .Add dD (.Zl (.fr (.add (.fr (.list (.q [cE]))) (.fr (.comp (.dU [3,4]) (.e aw) pE wM 2 3))))))]
noncomputable def iN:je:=(.cons (.cO .Eq (.item (.item (.aC 0) (.aC 9)) (.cj (.int 0))) (.cj (.str "call"))) .nil)
noncomputable def pX:mQ:=(.done (.aC 9))
noncomputable def pY:mQ:=(.done (.fr (.tuple (.cons (.item (.aC 3) (.aC 11)) (.cons (.item (.aC 1) (.item (.aC 2) (.aC 11))) .nil)))))
def jr:bt:=.q [.ite (.cO .In (.item om cE) (.call "_law_spread" (.q [dK,.item om dD,.cS aw]))) (.q [.ret (.fr (.tuple (.q [.s "calls in a ring",cW])))]) .nil]
def jt:bt:=.q [.ite (.cO .Gt (.call "_law_deep" (.q [dK,.item om cE])) (.i 7)) (.q [.ret (.fr (.tuple (.q [.s "too many frames",cW])))]) .nil]
def qI:bt:=.q [.du (.dU [4,7]) (.zip dE dK) jt,.ret fH]
def ju:bt:=.cons (.du (.dU [4,7]) (.zip dE dK) jr) qI
def tR:bt:=.cons (.gB false 5 (.comp (.dA 9) (.bz (.cS aw)) iN pX 8 2)) (.cons (.gB false 6 (.comp (.dA 11) (.e dE) .nil pY 10 2)) ju)
def jv:bt:=.q [.ite (.and (.q [.cO .IsNot (.item bB bE) fH,.not (.Zj .LtE .Lt cE (.item bB bE) (.cS aM))])) (.q [.ret (.fr (.tuple (.q [.s "goal out of the program",bE])))]) .nil,.ite (.and (.q [.cO .IsNot (.item bB bE) fH,.cO .Lt (.item aM (.item bB bE)) cE])) (.q [.ret (.fr (.tuple (.q [.s "goal within a wide load",bE])))]) .nil]
def qJ:bt:=.q [.du (.dA 3) (.bz (.cS aw)) jv,.ret fH]
def tT:bt:=qJ
def pF:bt:=.q [.ite (.and (.q [.cO .NotIn (.item (.item aw dK) cE) (.fr (.tuple (.q [.s "call",.s "exit"]))),.cO .IsNot (.item bB dK) fH,.cO .NotEq (.item dE (.item aM (.item bB dK))) (.item dE dK)])) (.q [.ret (.fr (.tuple (.q [.s "goal in another subprogram",dK])))]) .nil]
def pG:bt:=.q [.assign 7 (.or (.q [.cO .Eq (.dB .Add dK dD) (.cS aw),.cO .NotEq (.item dE (.dB .Add dK dD)) (.item dE dK)])),.ite (.and (.q [om,.cO .NotIn (.item (.item aw dK) cE) (.fr (.tuple (.q [.s "exit",.s "jump",.s "far"])))])) (.q [.ret (.fr (.tuple (.q [.s "subprogram without an end",dK])))]) .nil]
def pH:bt:=.q [.ite (.cO .NotIn dK zW) (.q [.ret (.fr (.tuple (.q [.s "order that nothing reaches",dK])))]) .nil]
def pI:bt:=.q [.du (.dA 6) (.bz (.cS aw)) pH,.ret (.call "_law_call_fault" (.q [aw,aM,bB,dE]))]
def wN:bt:=.cons (.du (.dA 6) (.bz (.cS aw)) pG) (.cons (.assign 8 (.call "_law_edges" (.q [aw,aM,bB]))) (.cons (.assign 9 (.call "_law_spread" (.q [.call "_law_pairs" (.q [aw,aM,bB,O1]),cE,.cS aw]))) pI))
def pJ:bt:=.cons (.du (.dA 6) (.bz (.cS aw)) pF) wN
def C7:bt:=.cons (.ite (.cO .Gt (.cS aM) bE) (.q [.ret (.fr (.tuple (.q [.s "too many orders",fH])))]) .nil) (.cons (.assign 4 (.call "_law_goal_fault" (.q [aw,aM,bB]))) (.cons (.ite (.cO .IsNot cW fH) (.q [.ret cW]) .nil) (.cons (.assign 5 (.call "_law_parts" (.q [aw,aM,bB]))) pJ)))
def lj:bt:=.q [.ite (.or (.q [.cO .In dK bB,.cO .Eq dK aM])) (.q [.ite (.cO .NotIn dK dE) (.q [.expr (.append dE dK)]) .nil]) (.q [.ite (.cO .NotIn dK bE) (.q [.expr (.fb "_law_dive" (.q [aw,dK,.fr (.add bB (.fr (.list (.q [aM])))),bE,cW,dE]))]) .nil])]
def qK:bt:=.q [.du (.dA 6) (.e (.item aw aM)) lj,.expr (.append cW aM)]
def Fh:bt:=.cons (.expr (.append bE aM)) qK
noncomputable def jw:je:=(.cons (.cO .NotIn (.aC 5) (.aC 1)) .nil)
noncomputable def qL:mQ:=(.done (.aC 5))
noncomputable def jx:je:=(.cons (.cO .In (.aC 9) (.aC 2)) .nil)
noncomputable def qM:mQ:=(.done (.aC 9))
def jy:je:=(.cons (.cO .NotEq (.fr (.comp (.dA 9) (.e (.item (.aC 0) (.aC 7))) jx qM 8 2)) (.fr (.list .nil))) .nil)
noncomputable def qN:mQ:=(.done (.aC 7))
def j5:bt:=.q [.gB false 2 (.comp (.dA 7) (.e bB) jy qN 6 2)]
def rX:bt:=.q [.du (.dA 3) (.bz (.cS aw)) j5,.ret (.cO .NotEq bB (.fr (.list .nil)))]
def vh:bt:=.cons (.gB false 2 (.comp (.dA 5) (.bz (.cS aw)) jw qL 4 2)) rX
def iO:bt:=.q [.gC [5,6] (.fr (.tuple (.q [.fP (.list .nil),.fP (.list .nil)]))),.expr (.fb "_law_dive" (.q [aM,cW,.fr (.list .nil),.fP (.list .nil),dE,dK])),.ite (.cO .NotEq (.call "post_order" (.q [aw,cW])) dE) (.q [.ret (.cj (.bool false))]) .nil,.assign 3 (.fr (.add bE dK))]
def iP:bt:=.q [.du (.dA 4) (.e bB) iO,.assign 7 (.call "loop_heads" (.q [aw])),.ret (.and (.q [.cO .Eq om (.fr (.sorted bE)),.not (.call "_law_has_round" (.q [aM,om]))]))]
def sV:bt:=.cons (.assign 3 (.fr (.list .nil))) iP
noncomputable def lV:mQ:=(.done (.cO .Eq (.item (.aC 3) (.aC 8)) (.aC 8)))
def nB:bt:=.q [.ite (.cO .In (.item (.item aw cW) cE) (.fr (.tuple (.q [.s "branch",.s "short",.s "jump",.s "far"])))) (.q [.setItem dE (.item bB (.item aM cW)) (.cj (.bool true))]) .nil,.ite (.cO .In (.item (.item aw cW) cE) (.fr (.tuple (.q [.s "branch",.s "short",.s "jump",.s "far",.s "exit"])))) (.q [.setItem dE (.dB .Add cW dD) (.cj (.bool true))]) .nil]
noncomputable def lW:je:=(.cons (.item (.aC 5) (.aC 10)) .nil)
noncomputable def tU:mQ:=(.done (.aC 10))
noncomputable def lX:mQ:=(.done (.fr (.tuple (.cons (.item (.aC 6) (.aC 12)) (.cons (.item (.aC 6) (.dB .Add (.aC 12) (.cj (.int 1)))) .nil)))))
def vk:bt:=.q [.du (.dA 4) (.bz (.cS aw)) nB,.gB false 6 (.comp (.dA 10) (.bz (.dB .Add (.cS aw) dD)) lW tU 9 2),.ret (.fr (.comp (.dA 12) (.bz (.dB .Sub (.cS dK) dD)) .nil lX 11 2))]
def Aj:bt:=.cons (.assign 5 (.fP (.add (.fr (.comp (.dA 8) (.bz (.cS aw)) .nil lV 7 2)) (.fr (.list (.q [.cj (.bool true)])))))) vk
noncomputable def iw:je:=(.cons (.cO .Eq (.item (.item (.aC 1) (.aC 13)) (.cj (.int 0))) (.cj (.str "call"))) .nil)
noncomputable def oo:mQ:=(.done (.fr (.tuple (.cons (.item (.aC 4) (.aC 13)) (.cons (.item (.aC 2) (.item (.aC 3) (.aC 13))) .nil)))))
noncomputable def ix:je:=(.cons (.cO .Eq (.item (.item (.aC 1) (.aC 15)) (.cj (.int 0))) (.cj (.str "call"))) .nil)
noncomputable def oq:mQ:=(.done (.aC 15))
noncomputable def iy:je:=(.cons (.cO .Eq (.item (.aC 17) (.cj (.int 0))) (.aC 9)) .nil)
noncomputable def ot:mQ:=(.done (.item (.aC 17) (.cj (.int 1))))
noncomputable def iz:je:=(.cons (.cO .NotIn (.aC 20) (.fr (.Jj (.aC 10) (.aC 19)))) .nil)
noncomputable def ou:mQ:=(.done (.aC 20))
noncomputable def iA:mQ:=(.cons (.dA 23) (.e (.call "_law_spread" (.cons (.aC 6) (.cons (.aC 22) (.cons (.cS (.aC 1)) .nil))))) .nil (.done (.aC 23)))
noncomputable def iB:je:=(.cons (.cO .In (.aC 25) (.aC 11)) .nil)
noncomputable def oy:mQ:=(.done (.aC 25))
def iQ:bt:=.q [.assign 10 (.fr (.sorted (.fr (.comp (.dA 17) (.e dK) iy ot 16 2)))),.ite (.cO .NotEq (.call "calls_of" (.q [aw,zW])) (.fr (.comp (.dU [19,20]) (.V7 O2) iz ou 18 3))) (.q [.ret (.cj (.bool false))]) .nil,.gB false 11 (.comp (.dA 22) (.e O2) .nil iA 21 3),.ite (.or (.q [.cO .NotEq (.fr (.sorted (.item om zW))) (.fr (.comp (.dA 25) (.bz (.cS aM)) iB oy 24 2)),.cO .NotEq (.item O1 zW) (.call "_law_deep" (.q [dK,zW]))])) (.q [.ret (.cj (.bool false))]) .nil]
def pZ:bt:=.q [.du (.dA 9) (.e dE) iQ,.ret (.cj (.bool true))]
def iR:bt:=.cons (.ite (.or (.q [.cO .NotEq (.fr (.sorted om)) dE,.cO .NotEq (.fr (.sorted O1)) dE])) (.q [.ret (.cj (.bool false))]) .nil) pZ
def p5:bt:=.cons (.gC [7,8] (.fr (.tuple (.q [.call "called_by" (.q [aw]),.call "frame_counts" (.q [aw])])))) iR
def p7:bt:=.cons (.ite (.cO .NotEq (.call "local_calls" (.q [aw])) (.fr (.comp (.dA 15) (.bz (.cS aM)) ix oq 14 2))) (.q [.ret (.cj (.bool false))]) .nil) p5
def sW:bt:=.cons (.gB false 6 (.comp (.dA 13) (.bz (.cS aM)) iw oo 12 2)) p7
noncomputable def iS:je:=(.cons (.cO .Eq (.item (.aC 4) (.aC 9)) (.aC 9)) .nil)
noncomputable def p8:mQ:=(.done (.aC 9))
noncomputable def qa:mQ:=(.done (.Ji (.aC 2) (.aC 11)))
def jz:bt:=.q [.ite (.or (.q [.cO .NotEq (.gd aw "sub_of" (.q [dE])) (.item cW dE),.and (.q [.cO .IsNot (.item bE dE) fH,.cO .NotEq (.gd aw "target" (.q [dE])) (.item bB (.item bE dE))])])) (.q [.ret (.cj (.bool false))]) .nil]
noncomputable def qc:mQ:=(.done (.gd (.aC 0) "sub_end" (.cons (.aC 13) .nil)))
noncomputable def qe:mQ:=(.done (.call "successors" (.cons (.aC 0) (.cons (.aC 15) .nil))))
noncomputable def fA:je:=(.cons (.cO .In (.aC 17) (.item (.aC 7) (.aC 19))) .nil)
noncomputable def iT:mQ:=(.done (.aC 19))
def qf:mQ:=(.done (.fr (.comp (.dA 19) (.bz (.cS (.aC 1))) fA iT 18 2)))
def jA:bt:=.q [.du (.dA 5) (.bz (.cS aM)) jz,.ite (.cO .NotEq (.fr (.comp (.dA 13) (.e dK) .nil qc 12 2)) (.fr (.add (.fr (.Bh dK dD)) (.fr (.list (.q [.cS aM])))))) (.q [.ret (.cj (.bool false))]) .nil,.assign 7 (.call "_law_edges" (.q [aM,bB,bE])),.ite (.cO .NotEq (.fr (.comp (.dA 15) (.bz (.cS aM)) .nil qe 14 2)) om) (.q [.ret (.cj (.bool false))]) .nil,.ite (.cO .NotEq (.call "predecessors" (.q [aw])) (.fr (.comp (.dA 17) (.bz (.cS aM)) .nil qf 16 2))) (.q [.ret (.cj (.bool false))]) .nil,.ite (.or (.q [.cO .NotEq (.call "blocks" (.q [aw])) (.call "_law_blocks" (.q [aM,bE,bB,cW])),.cO .NotEq (.call "reachable" (.q [aw])) (.fr (.Lg (.cS aM)))])) (.q [.ret (.cj (.bool false))]) .nil,.ret (.and (.q [.call "_law_walks_right" (.q [aw,om,dK]),.call "_law_calls_right" (.q [aw,aM,bB,bE,cW,dK])]))]
def tV:bt:=.cons (.assign 4 (.call "_law_parts" (.q [aM,bB,bE]))) (.cons (.assign 6 (.fr (.sorted (.fr (.comp (.dA 9) (.bz (.cS aM)) iS p8 8 2))))) (.cons (.ite (.or (.q [.cO .NotEq (.gd aw "count" .nil) (.cS aM),.cO .NotEq (.cK aw "slots") (.fr (.comp (.dA 11) (.bz (.cS aM)) .nil qa 10 2)),.cO .NotEq (.cK aw "subs") dK])) (.q [.ret (.cj (.bool false))]) .nil) jA))
def Bn:bt:=.q [.assign 10 (.ite (.cO .Is (.item om zW) fH) cE (.dB .Sub (.dB .Sub (.item om zW) (.Ji dK zW)) dD)),.expr (.append O1 (.call "_law_order" (.q [.item (.item bE zW) cE,O2,zW])))]
def tW:bt:=.q [.ite (.cO .Is O3 fH) (.q [.ret (.and (.q [.Ww O4 "Program",.call "_law_told_right" (.q [O4,bE,dK,om])]))]) .nil,.ite (.cO .Eq (.item O3 cE) (.s "order that nothing reaches")) (.q [.assign 13 (.call "_law_edges" (.q [bE,dK,om])),.assign 14 (.call "_law_spread" (.q [.call "_law_pairs" (.q [bE,dK,om,ZH]),cE,.cS bE])),.ite (.cO .NotEq (.call "reachable" (.q [.new "Program" (.q [O1])])) ZI) (.q [.ret (.cj (.bool false))]) .nil]) .nil,.ret (.cO .Eq O4 O3)]
def tX:bt:=.cons (.gC [11,12] (.fr (.tuple (.q [.call "_law_fault" (.q [bE,dK,om,.dB .Sub (.cS dK) dE]),.UG "_law_heard" (.q [.frz 8,.dB .Sub (.cS dK) dE])])))) tW
def vl:bt:=.cons (.du (.dA 9) (.bz (.cS bE)) Bn) tX
def vm:bt:=.cons (.assign 7 (.call "_law_goals" (.q [bE,dK]))) (.cons (.assign 8 (.fP (.list .nil))) vl)
def kD:bt:=.cons (.assign 6 (.call "_law_owners" (.q [.frz 3]))) vm
def nD:bt:=.cons (.assign 5 (.fb "_law_spoil" (.q [aM,bE,cW]))) kD
def vn:bt:=.cons (.gC [3,4] (.ite (.cO .Eq bB cE) (.fb "_law_chain" (.q [aM])) (.fb "_law_sections" (.q [aM])))) nD
def Bo:bt:=.cons (.assign 2 (.fb "_law_draw" (.q [aM,.i 9]))) vn
def LI:bt:=.cons (.ite (.cO .NotEq (.UG "_law_heard" (.q [.fr (.list .nil),.i 5])) (.fr (.tuple (.q [.s "no order",fH])))) (.q [.ret (.cj (.bool false))]) .nil) Bo
def O6:bt:=.cons (.assign 1 (.fP (.list (.q [.fr (.listOf (.fr (.Jj aw (.i 24)))),cE,cE])))) LI
def yK:d6:=⟨"","signed",["worth","size"],3,(some (.int 64)),LG⟩
def mD:d6:=⟨"Order","__init__",["self","code","dst","src","off","imm","more"],7,(some (.int 0)),yB⟩
def tY:d6:=⟨"","is_jumping",["order"],2,none,zX⟩
def Bp:d6:=⟨"","is_wide",["order"],1,none,HH⟩
def Bq:d6:=⟨"","is_jump",["order"],1,none,HI⟩
def Br:d6:=⟨"","is_call",["order"],1,none,HJ⟩
def pK:d6:=⟨"","is_local_call",["order"],1,none,uZ⟩
def Bs:d6:=⟨"","is_exit",["order"],1,none,HK⟩
def v3:d6:=⟨"","is_branch",["order"],1,none,CR⟩
def yL:d6:=⟨"","distance",["order"],1,none,E8⟩
def Bt:d6:=⟨"","spot_of",["names","name"],3,none,HL⟩
def v5:d6:=⟨"","deed_code",["name","size"],2,none,CS⟩
def mE:d6:=⟨"","branch_code",["name","size"],2,none,yC⟩
def Bu:d6:=⟨"","alu_imm",["op","dst","imm","size"],4,(some (.int 64)),HM⟩
def O7:d6:=⟨"","jump",["away"],1,none,SV⟩
def yM:d6:=⟨"","far_jump",["away"],1,none,E9⟩
def tZ:d6:=⟨"","branch_reg",["op","dst","src","away","size"],5,(some (.int 64)),zZ⟩
def t8:d6:=⟨"","branch_imm",["op","dst","imm","away","size"],5,(some (.int 64)),z8⟩
def O8:d6:=⟨"","wide",["dst","worth"],2,none,SW⟩
def O9:d6:=⟨"","call",["number"],1,none,SX⟩
def t9:d6:=⟨"","local_call",["away"],1,none,Aa⟩
def Jw:d6:=⟨"","leave",[],0,none,O5⟩
def pL:d6:=⟨"Program","__init__",["self","orders"],5,none,u3⟩
def pM:d6:=⟨"Program","count",["self"],1,none,u4⟩
def gu:d6:=⟨"Program","goal_slot",["self","at"],2,none,qB⟩
def nE:d6:=⟨"Program","target",["self","at"],2,none,tJ⟩
def nG:d6:=⟨"Program","sub_of",["self","at"],5,none,tK⟩
def lY:d6:=⟨"Program","sub_end",["self","sub"],3,none,sQ⟩
def yN:d6:=⟨"","has_goal",["order"],1,none,Fb⟩
def gf:d6:=⟨"","successors",["program","at"],3,none,Ab⟩
def qO:d6:=⟨"","predecessors",["program"],6,none,wF⟩
def sd:d6:=⟨"","local_calls",["program"],3,none,yD⟩
def v7:d6:=⟨"","reachable",["program"],10,none,CT⟩
def ua:d6:=⟨"Walk","__init__",["self","program","sub"],3,none,Ad⟩
def jB:d6:=⟨"Walk","step",["self"],5,none,CU⟩
def ub:d6:=⟨"","post_order",["program","sub"],2,none,Ae⟩
def uc:d6:=⟨"","loop_heads",["program"],3,none,Af⟩
def Fi:d6:=⟨"","blocks",["program"],7,none,LH⟩
def yO:d6:=⟨"","calls_of",["program","sub"],4,none,Fc⟩
def v8:d6:=⟨"","called_by",["program"],9,none,CV⟩
def qP:d6:=⟨"","frame_counts",["program"],8,none,wH⟩
def sf:d6:=⟨"","check_goals",["program"],4,none,qE⟩
def ud:d6:=⟨"","check_ends",["program"],3,none,sb⟩
def pN:d6:=⟨"","check_reached",["program"],3,none,ng⟩
def sg:d6:=⟨"","check_calls",["program"],7,none,qF⟩
def pO:d6:=⟨"","check_program",["orders","most"],3,(some (.int 4096)),nh⟩
def oz:d6:=⟨"","_law_draw",["pen","many"],7,none,Fe⟩
def yP:d6:=⟨"","_law_pick",["pen","some"],2,none,Ff⟩
def sh:d6:=⟨"","_law_section",["pen","rows","is_calling"],8,none,yJ⟩
def qQ:d6:=⟨"","_law_sections",["pen"],6,none,wI⟩
def v9:d6:=⟨"","_law_chain",["pen"],6,none,CW⟩
def qR:d6:=⟨"","_law_spoil",["pen","rows","begins"],5,none,kb⟩
def ue:d6:=⟨"","_law_owners",["rows"],3,none,Ah⟩
def wa:d6:=⟨"","_law_goals",["rows","owners"],4,none,CX⟩
def dR:d6:=⟨"","_law_order",["word","away","at"],3,none,CY⟩
def wb:d6:=⟨"","_law_parts",["rows","owners","goals"],8,none,CZ⟩
def wg:d6:=⟨"","_law_edges",["rows","owners","goals"],6,none,C0⟩
def uf:d6:=⟨"","_law_spread",["pairs","begin","many"],12,none,Ai⟩
def wh:d6:=⟨"","_law_pairs",["rows","owners","goals","edges"],8,none,C5⟩
def yQ:d6:=⟨"","_law_deep",["calls","part"],5,none,Fg⟩
def nI:d6:=⟨"","_law_call_fault",["rows","owners","goals","parts"],12,none,tR⟩
def nJ:d6:=⟨"","_law_goal_fault",["rows","owners","goals"],4,none,tT⟩
def lZ:d6:=⟨"","_law_fault",["rows","owners","goals","most"],10,none,C7⟩
def yR:d6:=⟨"","_law_dive",["edges","at","way","seen","post","heads"],7,none,Fh⟩
def pP:d6:=⟨"","_law_has_round",["edges","barred"],10,none,vh⟩
def l5:d6:=⟨"","_law_walks_right",["program","edges","begins"],8,none,sV⟩
def ug:d6:=⟨"","_law_blocks",["rows","goals","owners","parts"],13,none,Aj⟩
def l6:d6:=⟨"","_law_calls_right",["program","rows","owners","goals","parts","begins"],26,none,sW⟩
def nK:d6:=⟨"","_law_told_right",["program","rows","owners","goals"],20,none,tV⟩
def UM:d6:=⟨"","law",["script"],15,none,O6⟩
def table:List d6:=[yK,mD,tY,Bp,Bq,Br,pK,Bs,v3,yL,Bt,v5,mE,Bu,O7,yM,tZ,t8,O8,O9,t9,Jw,pL,pM,gu,nE,nG,lY,yN,gf,qO,sd,v7,ua,jB,ub,uc,Fi,yO,v8,qP,sf,ud,pN,sg,pO,oz,yP,sh,qQ,v9,qR,ue,wa,dR,wb,wg,uf,wh,yQ,nI,nJ,lZ,yR,pP,l5,ug,l6,nK,UM]
noncomputable def UN(K:Frag)(c:Str):Bool:=(uM K c).any λC=>(B2 (findIn K (.ref C) "__init__")).any (WC K C)
structure Txt(X:Cx):Prop where
 aa:∀r∈table,E7 X.K r
 SY:∀c∈(["Order","Program","Walk"]:List Str),UN X.K c=true
noncomputable def cA(X:Cx)(c:Str):Addr:=(uM X.K c).getD 0
section
variable{X:Cx}{n:Nat}
def yS{r:d6}(h:E7 X.K r)(c:(r.cls==("":Str))):∃f,Gf X r.name=some f/\Ls X.K f r.ps r.N r.d r.ir:=
 aj h λf e g=>ay f ((if_pos c).symm.trans e) g
def Pa(q:uM X.K c=some C):cA X c=C:=v6 (·.getD 0) q
def C8{r:d6}(h:E7 X.K r)(c:(r.cls==("":Str))=false):∃f,uM X.K r.cls=some (cA X r.cls)/\findIn X.K (.ref (cA X r.cls)) r.name=some (some (.ref f))/\Ls X.K f r.ps r.N r.d r.ir:=
 aj h λf g j=>aj (TD.mp ((if_neg (λe=>Bool.noConfusion (c.symm.trans e))).symm.trans g)) λC q s=>dC f (Pa q▸q) (Pa q▸B3 s) j
def WQ(T:Txt X)(r:d6)(m:r∈table)(c:(r.cls==("":Str)))(e:n<100)(g:eJ args)(h:(bZ r.d r.ps.length args).length=r.ps.length)
  (w:cp X n (λ_ _=>False) r.ir ⟨eO (bZ r.d r.ps.length args) r.N,[]⟩ (cH Q)):ba X (n+1) r.name args Q:=
 aj (yS (T.aa r m) c) λf j q=>dC f j g (Jp q h e w)
def WR(T:Txt X)(r:d6)(m:r∈table)(c:(r.cls==("":Str))=false)(e:n<100)(g:eJ args)(h:(bZ r.d r.ps.length args).length=r.ps.length)
  (w:cp X n (λ_ _=>False) r.ir ⟨eO (bZ r.d r.ps.length args) r.N,[]⟩ (cH Q)):mU X (n+1) (cA X r.cls) r.name args Q:=
 cU (C8 (T.aa r m) c) λf s j q=>dC f (v6 B2 j) g (Jp q h e w)
def C9(T:Txt X)(g:c∈(["Order","Program","Walk"]:dT)):uM X.K c=some (cA X c)/\∃f,findIn X.K (.ref (cA X c)) "__init__"=some (some (.ref f))/\WC X.K (cA X c) f:=
 aj (AM (T.SY c g)) λC q h=>aj (AM h) λf e h=>Pa q▸⟨q,ay f (B3 e) h⟩
def xk(T:Txt X)(e:c∈(["Order","Program","Walk"]:dT)):uM X.K c=some (cA X c)/\cA X c∈ff X.K:=⟨(C9 T e).1,List.mem_filterMap.mpr ⟨c,e,(C9 T e).1⟩⟩
end
def bW(n k:Nat):Prop:=k<=n/\n<=100
def bW.dn(h:bW n (k+1)) j(c:autoParam (j<=k) tDc):bW (n-1) j:=⟨o0 c (Nat.le_sub_one_of_lt h.1),o0 (Nat.sub_le ..) h.2⟩
abbrev sE(X:Cx)(n:Nat)(a:DE)(st:St)(o:List Or)(K:KV):Prop:=a.e X n st o K
abbrev sB(X:Cx)(n:Nat)(a:DE)(st:St)(o:List Or)(K:Bool->St->List Or->Prop):Prop:=a.b X n st o K
abbrev S0(X:Cx)(n:Nat)(a:je)(st:St)(o:List Or)(K:Bool->St->List Or->Prop):Prop:=a.an true X n st o K
abbrev HN(X:Cx)(n:Nat)(a:vX)(st:St)(o:List Or)(K:KI):Prop:=a.it X n st o K
abbrev wi(X:Cx)(n:Nat)(R:Rm)(a:bt)(st:St)(o:List Or)(K:KS):Prop:=a.ss X n R st o K
section
variable{X:Cx}{n k:Nat}
def a9{st:St}{K:aR->St->Prop} o(w:wi X n R b st o λc st _=>K c st):cp X n R b st K:=b.sr w λ_ _ _ h=>h
def Jx(T:Txt X)(L:bW n (k+1))(r:d6)(m:r∈table)(e:(r.cls==("":Str)))(g:eJ args)(h:(bZ r.d r.ps.length args).length=r.ps.length)
  (w:cp X (n-1) (λ_ _=>False) r.ir ⟨eO (bZ r.d r.ps.length args) r.N,[]⟩ (cH Q)):ba X n r.name args Q:=by
 obtain⟨j,q⟩:=L;refine ar (ZB (o0 (abW 1 k) j)) λn c=>?_;subst c;exact WQ T r m e (acO q) g h w
def UO(T:Txt X)(L:bW n (k+1))(r:d6)(m:r∈table)(e:(r.cls==("":Str))=false)(g:eJ args)(h:(bZ r.d r.ps.length args).length=r.ps.length)
  (w:cp X (n-1) (λ_ _=>False) r.ir ⟨eO (bZ r.d r.ps.length args) r.N,[]⟩ (cH Q)):mU X n (cA X r.cls) r.name args Q:=by
 obtain⟨j,q⟩:=L;refine ar (ZB (o0 (abW 1 k) j)) λn c=>?_;subst c;exact WR T r m e (acO q) g h w
def dk(T:Txt X)(L:bW n (k+1))(r:d6)(m:r∈table)(c:(r.cls==("":Str))) o(e:eJ args)(g:(bZ r.d r.ps.length args).length=r.ps.length)
  (w:wi X (n-1) (λ_ _=>False) r.ir ⟨eO (bZ r.d r.ps.length args) r.N,[]⟩ o λh st _=>cH Q h st):ba X n r.name args Q:=Jx T L r m c e g (a9 o w)
def UP(T:Txt X)(L:bW n (k+1))(r:d6)(m:r∈table)(c:(r.cls==("":Str))=false) o(e:eJ args)(g:(bZ r.d r.ps.length args).length=r.ps.length)
  (w:wi X (n-1) (λ_ _=>False) r.ir ⟨eO (bZ r.d r.ps.length args) r.N,[]⟩ o λh st _=>cH Q h st):mU X n (cA X r.cls) r.name args Q:=UO T L r m c e g (a9 o w)
end
def AI(h:a)(k:b):a/\b:=⟨h,k⟩
noncomputable def UQ:dT:=["code","dst","src","off","imm","more"]
inductive W where
 |Dc|wide|branch|short|jump|far|helper|call|exit
noncomputable def W.code:W->Int
 | .Dc=>183| .wide=>24| .branch=>21| .short=>110| .jump=>5| .far=>6| .helper=>133| .call=>133| .exit=>149
noncomputable def W.src:W->Int
 | .short=>3| .call=>1|_=>0
noncomputable def W.kF:W->Bool
 | .jump=>true| .far=>true|_=>false
noncomputable def W.rY:W->Bool
 | .branch=>true| .short=>true|_=>false
noncomputable def W.eG:W->Bool
 | .call=>true|_=>false
noncomputable def W.ll:W->Bool
 | .exit=>true|_=>false
noncomputable def W.WT:W->Bool
 | .wide=>true|_=>false
noncomputable def W.isH:W->Bool
 | .helper=>true|_=>false
noncomputable def W.gN(w:W):Bool:=w.kF||(w.rY||w.eG)
noncomputable def bT(X:Cx)(w:W)(d f i m:Int):af:=.dJ (cA X "Order") UQ [.int w.code,.int d,.int w.src,.int f,.int i,.int m]
section
variable{X:Cx}{n:Nat}{d f i m:Int}
def mO(T:Txt X):cA X "Order"∈ff X.K:=(xk T (.head _)).2
def tm{r:d6}(k:Nat)(h:table[k]?=some r):r∈table:=wE h
abbrev OM(X:Cx):Prop:=cA X "Order"∈ff X.K
noncomputable def W.WU(w:W):Bool:=match w with
 | .Dc=>false| .wide=>false|_=>true
def uh(T:Txt X)(L:bW n 1)(w:W):ba X n "is_jumping" [bT X w d f i m] (λv=>v=.bool w.WU):=by
 refine dk T L tY (tm 2 rfl) rfl [] rfl rfl ?_;cases w<;>exact((bH (mO T) rfl rfl):OM X/\true/\_=_)
def LJ(T:Txt X)(L:bW n 1)(w:W):ba X n "is_wide" [bT X w d f i m] (λv=>v=.bool w.WT):=by
 refine dk T L Bp (tm 3 rfl) rfl [] rfl rfl ?_;cases w<;>exact((bH (mO T) rfl rfl):OM X/\true/\_=_)
def kG(T:Txt X)(L:bW n 2)(w:W):ba X n "is_jump" [bT X w d f i m] (λv=>v=.bool w.kF):=by
 refine dk T L Bq (tm 4 rfl) rfl [.v (.bool w.WU)] rfl rfl (AI (uh T (L.dn 1) w) ?_);cases w<;>first|exact(⟨rfl,rfl⟩:true/\_=_)|exact((bH (mO T) rfl rfl):OM X/\true/\_=_)
def LK(T:Txt X)(L:bW n 1)(w:W):ba X n "is_call" [bT X w d f i m] (λv=>v=.bool (w.eG||w.isH)):=by
 refine dk T L Br (tm 5 rfl) rfl [] rfl rfl ?_;cases w<;>exact((bH (mO T) rfl rfl):OM X/\true/\_=_)
def dI(T:Txt X)(L:bW n 1)(w:W):ba X n "is_local_call" [bT X w d f i m] (λv=>v=.bool w.eG):=by
 refine dk T L pK (tm 6 rfl) rfl [] rfl rfl ?_;cases w<;>first|exact((bH (mO T) rfl rfl):OM X/\true/\_=_)|exact((fL (mO T) (mO T) rfl rfl):OM X/\OM X/\true/\_=_)
def rF(T:Txt X)(L:bW n 1)(w:W):ba X n "is_exit" [bT X w d f i m] (λv=>v=.bool w.ll):=by
 refine dk T L Bs (tm 7 rfl) rfl [] rfl rfl ?_;cases w<;>exact((bH (mO T) rfl rfl):OM X/\true/\_=_)
def l8(T:Txt X)(L:bW n 3)(w:W):ba X n "is_branch" [bT X w d f i m] (λv=>v=.bool w.rY):=by
 haveI c:=kG (d:=d) (f:=f) (i:=i) (m:=m) T (L.dn 2) w;haveI e:=LK (d:=d) (f:=f) (i:=i) (m:=m) T (L.dn 1) w;have g:=rF (d:=d) (f:=f) (i:=i) (m:=m) T (L.dn 1) w;refine dk T L v3 (tm 8 rfl) rfl [.v (.bool w.WU),.a,.v (.bool w.kF),.a,.v (.bool (w.eG||w.isH)),.a,.v (.bool w.ll)] rfl rfl (AI (uh T (L.dn 1) w) ?_);cases w
 case Dc=>exact(⟨rfl,rfl⟩:true/\_=_)
 case wide=>exact(⟨rfl,rfl⟩:true/\_=_)
 case jump=>exact((bH c rfl rfl):_/\true/\_=_)
 case far=>exact((bH c rfl rfl):_/\true/\_=_)
 case helper=>exact((fL c e rfl rfl):_/\_/\true/\_=_)
 case call=>exact((fL c e rfl rfl):_/\_/\true/\_=_)
 all_goals exact((DU c e g rfl rfl):_/\_/\_/\true/\_=_)
noncomputable def W.WV(w:W)(f i:Int):Int:=match w with
 | .call=>i| .far=>i|_=>f
def HO(T:Txt X)(L:bW n 2)(w:W):ba X n "distance" [bT X w d f i m] (λv=>v=.int (w.WV f i)):=by
 refine dk T L yL (tm 9 rfl) rfl [.v (.bool w.eG)] rfl rfl (AI (dI T (L.dn 1) w) ?_);cases w
 case call=>exact(⟨mO T,rfl,rfl⟩:OM X/\true/\_=_)
 all_goals exact((fL (mO T) (mO T) rfl rfl):OM X/\OM X/\true/\_=_)
def yT(T:Txt X)(L:bW n 4)(w:W):ba X n "has_goal" [bT X w d f i m] (λv=>v=.bool w.gN):=by
 haveI c:=l8 (d:=d) (f:=f) (i:=i) (m:=m) T (L.dn 3) w;haveI e:=dI (d:=d) (f:=f) (i:=i) (m:=m) T (L.dn 1) w;refine dk T L yN (tm 28 rfl) rfl [.v (.bool w.kF),.a,.v (.bool w.rY),.a,.v (.bool w.eG)] rfl rfl (AI (kG T (L.dn 2) w) ?_);cases w
 case jump=>exact(⟨rfl,rfl⟩:true/\_=_)
 case far=>exact(⟨rfl,rfl⟩:true/\_=_)
 case branch=>exact((bH c rfl rfl):_/\true/\_=_)
 case short=>exact((bH c rfl rfl):_/\true/\_=_)
 all_goals exact((fL c e rfl rfl):_/\_/\true/\_=_)
end
abbrev Bv(I:St->Prop)(K:aR->St->Prop):aR->St->Prop:=Lj [] I K
abbrev jC(c:aH)(I:St->Prop)(K:aR->St->Prop):aR->St->Prop:=Lj c I K
abbrev rB(r:Bool)(a b:Prop):Prop:=dP r a b
abbrev mF(X:Cx)(n:Nat)(R:Str->ah->Prop)(r:bt)(K:aR->St->Prop):aR->St->Prop:=λc st=>vS c (cp X n R r st K) (K c st)
abbrev DS.S(s:DS)(X:Cx)(n:Nat)(R:Rm)(st:St)(K:aR->St->Prop):Prop:=∃o c,s.s X n R st o c/\∀e st g,c e st g->K e st
section
variable{X:Cx}{n:Nat}{R:Str->ah->Prop}{b r:bt}{d:St}{K:aR->St->Prop}
def xm{s:DS}(h:s.S X n R d (mF X n R r K)):cp X n R (.cons s r) d K:=h
def ZJ(k:∀s,J s->c s)(h:NB J K e d):NB c K e d:=aR.casesOn (motive:=λa=>NB J K a d->NB c K a d) e (k _) id (k _) (λ_=>id) h
abbrev Dd(X:Cx)(n:Nat)(R:Str->ah->Prop)(b:bt)(I:St->Prop)(K:aR->St->Prop)(d:St):Prop:=cp X n R b d (Bv I K)
def oA o(w:wi X n R b d o λc d _=>Bv I K c d):Dd X n R b I K d:=a9 o w
def ZK j{u:vX}{g:ah}(B:g.length<=aL)(C:u.It X n d λq s c=>q=g/\s=src/\c=d)(I:Nat->St->Prop)(h0:I 0 (fg j d))
  (v:∀k c x,g[k]?=some x->I k c->eF src g c/\gy t x c λd=>cp X n R b d (Lj j (I (k+1)) K)) (e:∀c,I g.length c->eF src g c/\K .next c):(DS.du t u b).S X n R d K:=
 ⟨[],λy d _=>K y d,dm C λo D w k=>j6 o D w λq s c G z=>cY (k q s c G z) λH L M=>by
  subst H L M;exact⟨B,j,I,h0,λk d x A i=>⟨(v k d x A i).1,dH (v k d x A i).2 λs w=>b.ri w (CH λy d h=>⟨[],h⟩)⟩,λd i=>⟨(e d i).1,[],(e d i).2⟩⟩,λ_ _ _ h=>h⟩
def Jy j{t:DE}(I:Nat->St->Prop) m(h0:I m (fg j d))(v:∀m d,I m d->t.B X n d λc g=>rB c (cp X n R b g (Lj j (λs=>∃q,q<m/\I q s) K)) (K .next g)):(DS.EV t b).S X n R d K:=
 ⟨[],λu d _=>K u d,⟨j,I,m,h0,λm d i=>dm (v m d i) λo x w k=>j6 o x w λc g y z=>by
  have z:=k c g y z;exact⟨λe=>⟨[],La z e⟩,λe=>b.ri (Ht z e) (CH λu d h=>⟨[],h⟩)⟩⟩,λ_ _ _ h=>h⟩
end
noncomputable def X2(X:Cx)(n:Nat)(R:Str->ah->Prop)(i:Nat)(b:bt)(K:aR->St->Prop):Nat->Nat->St->Prop
 |0,_,st=>K .next st
 |m+1,k,st=>wi X n R b ⟨st.aC.set i (.int k),st.cells⟩ [] λc st _=>Bv (X2 X n R i b K m (k+1)) K c st
section
variable{X:Cx}{n k:Nat}{d f i m:Int}
def kv(c:Prop)(h:c)(e:P=c):P:=e.mpr h
def dw(h:a<=1000):a<=aL:=o0 h (by decide)
def kc{P:Prop}{C:Prop->Prop}{L:Prop}(l:L)(h:∀p:Prop,p->C p)(e:P=C L):P:=e.mpr (h L l)
def A1(c:a)(h:p):a/\p:=⟨c,h⟩
def A2(c:a)(e:b)(h:p):a/\b/\p:=⟨c,e,h⟩
def A3(e:a)(g:b)(j:c)(h:p):a/\b/\c/\p:=⟨e,g,j,h⟩
def A4{a b c d p:Prop}(e:a)(g:b)(j:c)(q:d)(h:p):a/\b/\c/\d/\p:=⟨e,g,j,q,h⟩
def A5{a b c d e p:Prop}(g:a)(j:b)(q:c)(s:d)(u:e)(h:p):a/\b/\c/\d/\e/\p:=⟨g,j,q,s,u,h⟩
def A6{a b c d e f p:Prop}(g:a)(j:b)(q:c)(s:d)(u:e)(v:f)(h:p):a/\b/\c/\d/\e/\f/\p:=⟨g,j,q,s,u,v,h⟩
def A7{a b c d e f g p:Prop}(j:a)(q:b)(s:c)(u:d)(v:e)(w:f)(x:g)(h:p):a/\b/\c/\d/\e/\f/\g/\p:=⟨j,q,s,u,v,w,x,h⟩
def A8{a b c d e f g i p:Prop}(j:a)(q:b)(s:c)(u:d)(v:e)(w:f)(x:g)(y:i)(h:p):a/\b/\c/\d/\e/\f/\g/\i/\p:=⟨j,q,s,u,v,w,x,y,h⟩
def A9{a b c d e f g i j p:Prop}(q:a)(s:b)(u:c)(v:d)(w:e)(x:f)(y:g)(z:i)(A:j)(h:p):a/\b/\c/\d/\e/\f/\g/\i/\j/\p:=⟨q,s,u,v,w,x,y,z,A,h⟩
noncomputable def St.at(st:St)(i:Nat)(v:af):St:=⟨st.aC.set i v,st.cells⟩
def S1(X:Cx)(n:Nat)(e:DE)(o:List Or)(st:St)(v:af):Prop:=sE X n e st o λc g _=>c=v/\g=st
def kE{st:St}{C:Prop->Prop}(h:∀p:Prop,p->C p)(q:autoParam ((sE X n e st o λc g _=>c=v/\g=st)=C (v=v/\st=st)) Lb):S1 X n e o st v:=kc ⟨rfl,rfl⟩ h q
def EvC(X:Cx)(n:Nat)(c:je)(e:DE)(o:List Or)(st:St)(b:Bool)(v:af):Prop:=S0 X n c st o λg h j=>g=b/\h=st/\sE X n e st j λq s _=>q=v/\s=st
def kC{st:St}{b:Bool}{C:Prop->Prop}(h:∀p:Prop,p->C p)(q:autoParam ((S0 X n c st o λg j s=>g=b/\j=st/\sE X n e st s λu w _=>u=v/\w=st)=C (b=b/\st=st/\v=v/\st=st)) Lb):EvC X n c e o st b v:=kc ⟨rfl,rfl,rfl,rfl⟩ h q
def rZ{R:Str->ah->Prop}(o:List Or){C:Prop->Prop}(h:∀p:Prop,p->C p)(q:autoParam ((wi X n R b s o λe st _=>Zs g c e st)=C (c=c)) Lb):zI X n R g b s c:=a9 o (kc rfl h q)
noncomputable def qg(g:Nat->ah)(v:af):ah:=(xF v).elim [] λi=>g i.toNat
def xn(g:Nat->ah)(l:aH):(nv l).flatMap (qg g)=l.flatMap g:=List.flatMap_map ..
noncomputable def Bw(p:Nat->Bool)(f:Nat->af)(k:Nat):ah:=if p k then[f k]else[]
def Jz(p:Nat->Bool)(f:Nat->af)(l:aH):l.flatMap (Bw p f)=(l.filter p).map f:=by
 induction l with
 |nil=>rfl
 |cons a l c=>
  simp only[abN,c];unfold Bw;cases e:p a with
  |true=>rw[List.filter_cons_of_pos (e)];rfl
  |false=>rw[List.filter_cons_of_neg (by rw[e];decide)];rfl
def Pb(f:Nat->af)(l:aH):l.flatMap (λk=>[f k])=l.map f:=by
 induction l with
 |nil=>rfl
 |cons a l c=>simp only[abN,c];rfl
def Pc{r:mQ}(q:r.g X n s h):je.nil.An X n s λb c=>c=s/\(b=false->h=[])/\(b->r.g X n s h):=
 ⟨[],λb c _=>b/\c=s,⟨rfl,rfl⟩,λb s _ w=>bH w.2 (λe=>bx w.1 e) λ_=>q⟩
def HP(q:S1 X n e o s v)(z:h=[v]):je.nil.An X n s λb c=>c=s/\(b=false->h=[])/\(b->(mQ.done e).g X n s h):=
 Pc ⟨_,_,q,λv s _ w=>⟨w.2,w.1▸z.symm⟩⟩
def JA i e(st:St){l:aH}(f:Nat->af)(o:Nat->List Or)(c:aB st.aC i=.ae)(g:l.length<=aL)(h:∀k∈l,S1 X n e (o k) (st.at i (.int k)) (f k)):
  o4 X n (.dA i) .nil (.done e) st (nv l) (qg λk=>[f k]) (l.map f):=
 ⟨c,λx j=>aj (FB.mp j) λk s q=>q▸HP (h k s) rfl,(xn _ l).trans (Pb f l),(v4 _).symm▸g⟩
def qS i e(st:St)(f:Nat->af)(o:Nat->List Or)(c:aB st.aC i=.ae)(g:N<=aL)(h:∀k<N,S1 X n e (o k) (st.at i (.int k)) (f k)):
  o4 X n (.dA i) .nil (.done e) st (nv (List.range N)) (qg λk=>[f k]) ((List.range N).map f):=JA i e st f o c (x0.symm▸g) λk j=>h k (AT.mp j)
def Pd i c e(st:St){l:aH}(p:Nat->Bool)(f:Nat->af)(o:Nat->List Or)(g:aB st.aC i=.ae)(j:l.length<=aL)(h:∀k∈l,EvC X n c e (o k) (st.at i (.int k)) (p k) (f k)):
  o4 X n (.dA i) c (.done e) st (nv l) (qg (Bw p f)) ((l.filter p).map f):=
 ⟨g,λx u=>aj (FB.mp u) λk w q=>q▸⟨_,_,h k w,λb C D h=>cY h λy A B=>by
  subst y;subst A;exact bH rfl (λq=>if_neg (λz=>Bool.noConfusion (q.symm.trans z))) λq=>⟨_,_,B,λv s _ z=>⟨z.2,z.1▸(if_pos q).symm⟩⟩⟩,(xn _ l).trans (Jz p f l),(v4 _).symm▸o0 (KT ..) j⟩
def mG i c e(st:St)(p:Nat->Bool)(f:Nat->af)(o:Nat->List Or)(g:aB st.aC i=.ae)(j:N<=aL)(h:∀k<N,EvC X n c e (o k) (st.at i (.int k)) (p k) (f k)):
  o4 X n (.dA i) c (.done e) st (nv (List.range N)) (qg (Bw p f)) (((List.range N).filter p).map f):=Pd i c e st p f o g (x0.symm▸j) λk q=>h k (AT.mp q)
def EvB(X:Cx)(n:Nat)(c:je)(o:List Or)(st:St)(b:Bool):Prop:=S0 X n c st o λe g _=>e=b/\g=st
def kB{st:St}{b:Bool}{C:Prop->Prop}(h:∀p:Prop,p->C p)(q:autoParam ((S0 X n c st o λe g _=>e=b/\g=st)=C (b=b/\st=st)) Lb):EvB X n c o st b:=kc ⟨rfl,rfl⟩ h q
def JB i c e(st:St)(p:Nat->Bool)(f:Nat->af)(o j:Nat->List Or)(u:aB st.aC i=.ae)(w:N<=aL)(h:∀k<N,EvB X n c (o k) (st.at i (.int k)) (p k))(y:∀k<N,p k->S1 X n e (j k) (st.at i (.int k)) (f k)):
  o4 X n (.dA i) c (.done e) st (nv (List.range N)) (qg (Bw p f)) (((List.range N).filter p).map f):=
 ⟨u,λx A=>aj (FB.mp A) λk g q=>q▸⟨_,_,h k (AT.mp g),λb D _ h=>aX h λB C=>by
  subst B;subst C;exact bH rfl (λq=>if_neg (λz=>Bool.noConfusion (q.symm.trans z))) λq=>⟨_,_,y k (AT.mp g) q,λv s _ z=>⟨z.2,z.1▸(if_pos q).symm⟩⟩⟩,(xn _ _).trans (Jz p f _),(v4 _).symm▸o0 (KT ..) (x0.symm▸w)⟩
noncomputable def hG{c:Type}(e:af->Option c)(p:c->Bool)(f:c->af)(v:af):ah:=(e v).elim [] λa=>bif p a then[f a]else[]
def HQ{g:Type}{enc:g->af}{dec:af->Option g}(A:∀a,dec (enc a)=some a){st:St}{l:List g}(p:g->Bool)(f:g->af)(o B:g->List Or)(u:wB t st)(y:l.length<=aL)
  (h:∀a∈l,gy t (enc a) st λs=>EvB X n c (o a) s (p a)/\(p a->S1 X n e (B a) s (f a))):o4 X n t c (.done e) st (l.map enc) (hG dec p f) ((l.filter p).map f):=by
 have j:∀a,hG dec p f (enc a)=bif p a then[f a]else[]:=λa=>by unfold hG;rw[A];rfl
 refine⟨u,λx C=>?_,?_,o0 (by rw[v4];exact KT ..) y⟩
 ·obtain⟨a,D,rfl⟩:=FB.mp C
  refine dH (h a D) λs z=>⟨_,_,z.1,λb H _ w=>?_⟩;obtain⟨rfl,rfl⟩:=w;refine⟨rfl,λq=>by rw[j,q];rfl,λq=>⟨_,_,z.2 q,λv I _ w=>⟨w.2,?_⟩⟩⟩;rw[j,q,w.1];rfl
 ·clear h y u
  induction l with
  |nil=>rfl
  |cons a l G=>
   rw[aaT,abN,G,j,List.filter_cons];cases p a<;>rfl
def oF{l:aH}(h:(nv l)[k]?=some x):∃j,l[k]?=some j/\x=.int j:=by
 unfold nv at h;rw[FS]at h;refine aj (TW.mp h) λj c e=>?_;exact(ay j c e.symm)
def JC{R:Str->ah->Prop}{i:Nat}{l:aH}{N:Nat}{S:Nat->St}(c:l.length=N)(hN:N<=aL)(h:∀k t:Nat,l[k]?=some t->zI X n R e b ((S k).at i (.int t)) (S (k+1))):CJ X n R (.dA i) b (.list (nv l)) (nv l) N e S:=
 ⟨(v4 _).trans c,hN,λk x g=>aj (oF g) λt j q=>⟨trivial,q▸h k t j⟩,trivial⟩
def ZL{c:Type}{R:Str->ah->Prop}{i:Nat}{l:List c}{f:c->af}{S:Nat->St}(hN:l.length<=aL)(h:∀(k:Nat) (a:c),l[k]?=some a->zI X n R g b ((S k).at i (f a)) (S (k+1))):CJ X n R (.dA i) b (.list (l.map f)) (l.map f) l.length g S:=
 ⟨v4 _,hN,λk x e=>by
  rw[FS]at e;obtain⟨t,j,rfl⟩:=TW.mp e;exact⟨trivial,h k t j⟩,trivial⟩
def ui N:(nv (List.range N)).length=N:=(v4 _).trans x0
def qT{R:Str->ah->Prop}{i:Nat}{N:Nat}{S:Nat->St}(hN:N<=aL)(h:∀k<N,zI X n R c b ((S k).at i (.int k)) (S (k+1))):CJ X n R (.dA i) b .none (nv (List.range N)) N c S:=
 ⟨ui N,hN,λk x g=>aj (oF g) λt j s=>⟨trivial,s▸ar (wP.mp j) λq e=>by
  rw[ab0]at e;exact e▸h k (by rwa[x0]at q)⟩,trivial⟩
def ZM{st:St}{K:aR->St->Prop} j q(e:ah) src(u:e.length<=aL)(v:HN X n it st q λw s c _=>w=e/\s=src/\c=st)(I:Nat->St->Prop)(h0:I 0 (fg j st))
  (y:∀k c x,e[k]?=some x->I k c->eF src e c/\gy t x c λst=>cp X n R b st (jC j (I (k+1)) K)) (g:∀c,I e.length c->eF src e c/\K .next c):(DS.du t it b).S X n R st K:=
 ZK j u ⟨_,_,v,λ_ _ _ _ h=>h⟩ I h0 y g
def Ak{st:St}{K:aR->St->Prop} h j(e:ah) src(q:e.length<=aL)(u:HN X n it st j λv s c _=>v=e/\s=src/\c=st)(I:Nat->St->Prop)(h0:I 0 (fg h st))
  (w:∀k c x,e[k]?=some x->I k c->eF src e c/\gy t x c λst=>cp X n R b st (jC h (I (k+1)) (mF X n R r K))) (g:∀c,I e.length c->eF src e c/\cp X n R r c K):
  cp X n R (.cons (.du t it b) r) st K:=xm (ZM h j e src q u I h0 w g)
def wj{R:Str->ah->Prop}{i:Nat}{st:St}{K:aR->St->Prop}(h:aH)(u:List Or)(N:Nat)(hN:N<=aL)(v:HN X n (.bz e) st u λw s c _=>w=nv (List.range N)/\s=.none/\c=st)(I:Nat->St->Prop)(h0:I 0 (fg h st))
  (y:∀(k:Nat) c,k<N->I k c->cp X n R b (c.at i (.int k)) (jC h (I (k+1)) (mF X n R r K))) (g:∀c,I N c->cp X n R r c K):cp X n R (.cons (.du (.dA i) (.bz e) b) r) st K:=
 Ak h u _ _ ((ui N).symm▸hN) v I h0 (λk c x A j=>aj (oF A) λt B C=>⟨trivial,C▸ar (wP.mp B) λq z=>by
  rw[ab0]at z;exact z▸y k c (by rwa[x0]at q) j⟩) λc j=>⟨trivial,g c (ui N▸j)⟩
def ZN{R:Str->ah->Prop}{i:Nat}{st:St}{K:aR->St->Prop}(h:aH)(u:List Or)(N:Nat)(hN:N<=aL)(v:HN X n (.bz e) st u λw s c _=>w=nv (List.range N)/\s=.none/\c=st)(I:Nat->St->Prop)(h0:I 0 (fg h st))
  (y:∀(k:Nat) c,k<N->I k c->cp X n R b (c.at i (.int k)) (jC h (I (k+1)) K)) (g:∀c,I N c->K .next c):(DS.du (.dA i) (.bz e) b).S X n R st K:=
 ZM h u _ _ ((ui N).symm▸hN) v I h0 (λk c x A j=>aj (oF A) λt B C=>⟨trivial,C▸ar (wP.mp B) λq z=>by
  rw[ab0]at z;exact z▸y k c (by rwa[x0]at q) j⟩) λc j=>⟨trivial,g c (ui N▸j)⟩
def S2{R:Str->ah->Prop}{st:St}{K:aR->St->Prop}{j:Nat}(g:List Or)(N:Nat)(hN:N<=aL)(v:HN X n (.bz e) st g λw s q _=>w=nv (List.range N)/\s=.none/\q=st)(h:X2 X n R j b K N 0 st):(DS.du (.dA j) (.bz e) b).S X n R st K:=
 ZN [] g N hN v (λk st=>k<=N/\X2 X n R j b K (N-k) k st) ⟨SC _,h⟩ (λk st u c=>by
  have e:N-(k+1)+1=N-k:=Nat.succ_pred_eq_of_pos (Nat.sub_pos_of_lt u);have x:X2 X n R j b K (N-(k+1)+1) k st:=e▸c.2;exact b.sr x λy q A=>ZJ λs z=>⟨u,z⟩) λst c=>(aaR N▸c.2:X2 X n R j b K 0 N st)
def UR{st:St}{K:aR->St->Prop} e(I:Nat->St->Prop) m(h0:I m (fg e st))(q:∀m st,I m st->∃o,sB X n t st o λc g _=>rB c (cp X n R b g (jC e (λst=>∃j,j<m/\I j st) (mF X n R r K))) (cp X n R r g K)):
  cp X n R (.cons (.EV t b) r) st K:=xm (Jy e I m h0 λm st s=>ar (q m st s) λo h=>⟨o,_,h,λ_ _ _ h=>h⟩)
def EvT(X:Cx)(n:Nat)(t:DE)(o:List Or)(st:St)(c:Bool):Prop:=sB X n t st o λe g _=>e=c/\g=st
def kT{st:St}{c:Bool}{C:Prop->Prop}(h:∀p:Prop,p->C p)(q:autoParam ((sB X n t st o λe g _=>e=c/\g=st)=C (c=c/\st=st)) Lb):EvT X n t o st c:=kc ⟨rfl,rfl⟩ h q
def Pe{st:St}{K:aR->St->Prop} e(I:Nat->St->Prop) m(h0:I m (fg e st))
  (h:∀m st,I m st->∃o c,EvT X n t o st c/\(c=true->cp X n R b st (jC e (λst=>∃g,g<m/\I g st) (mF X n R r K)))/\(c=false->cp X n R r st K)):cp X n R (.cons (.EV t b) r) st K:=
 xm (Jy e I m h0 λm st j=>gm (h m st j) λo c s u v=>⟨o,_,s,λw x y z=>by
  obtain⟨rfl,rfl⟩:=z;exact(Bool.eq_false_or_eq_true w).elim (λq=>q▸u q) λq=>q▸v q⟩)
def kI{st:St}{C:Prop->Prop}(h:∀p:Prop,p->C p)(q:autoParam ((HN X n it st o λc s e _=>c=xs/\s=src/\e=st)=C (xs=xs/\src=src/\st=st)) Lb):HN X n it st o λc s e _=>c=xs/\s=src/\e=st:=kc ⟨rfl,rfl,rfl⟩ h q
def raw{R:Str->ah->Prop}{K:aR->St->Prop}(o:List Or){C:Prop->Prop}{l:Prop}(h:∀p:Prop,p->C p)(c:l)(q:autoParam ((wi X n R b s o λe st _=>K e st)=C l) Lb):cp X n R b s K:=a9 o (kc c h q)
abbrev sX(X:Cx)(n:Nat)(x:Str)(c:ah)(u:af):Prop:=ba X n x c λv=>v=u
abbrev LL(X:Cx)(n:Nat)(C:Addr)(x:Str)(c:ah)(u:af):Prop:=mU X n C x c λv=>v=u
def LM(u:af)(c:aR)(st:St)(o:List Or):Prop:=aR.casesOn (motive:=λ_=>Prop) c (cH (λv=>v=u) .next st) False False λv=>dP (Y3 20 o) (v.nc/\v=u) (cH (λv=>v=u) (.ret v) st)
def jD{v:af}(h:v.nc) f:rm cells f v=v:=f.casesOn (if_pos h) λ_=>if_pos h
def yU{v:af}{Q:af->Prop}(c:v.nc)(h:Q v):(dz cs v).nc/\Q (dz cs v):=by
 have e:dz cs v=v:=jD c 6;rw[e];exact⟨c,h⟩
def xo{st:St}(h:LM u c st o):cH (λv=>v=u) c st:=aR.casesOn (motive:=λc=>LM u c st o->cH (λv=>v=u) c st) c id id id (λv h=>dF h (λ_ h=>yU (Q:=λv=>v=u) h.1 h.2) λ_=>id) h
def uj(T:Txt X)(L:bW n (k+1))(r:d6)(m:r∈table)(o:List Or){C:Prop->Prop}(c:eJ args)(h:∀p:Prop,p->C p)(e:autoParam ((r.cls==("":Str))) Oo)(g:autoParam ((bZ r.d r.ps.length args).length=r.ps.length) Oo)
  (q:autoParam (wi X (n-1) (λ_ _=>False) r.ir ⟨eO (bZ r.d r.ps.length args) r.N,[]⟩ o (LM u)=C (true/\u=u)) Lb):sX X n r.name args u:=Jx T L r m e c g (r.ir.sr (kc ⟨rfl,rfl⟩ h q) λ_ _ _=>xo)
def Bx(T:Txt X)(L:bW n (k+1))(r:d6)(m:r∈table)(o:List Or){u:af}{C:Prop->Prop}(c:eJ args)(e:u.nc)(h:∀p:Prop,p->C p)(g:autoParam ((r.cls==("":Str))) Oo)(j:autoParam ((bZ r.d r.ps.length args).length=r.ps.length) Oo)
  (q:autoParam (wi X (n-1) (λ_ _=>False) r.ir ⟨eO (bZ r.d r.ps.length args) r.N,[]⟩ o (LM u)=C (u.nc/\u=u)) Lb):sX X n r.name args u:=Jx T L r m g c j (r.ir.sr (kc ⟨e,rfl⟩ h q) λ_ _ _=>xo)
def US(T:Txt X)(L:bW n (k+1))(r:d6)(m:r∈table)(o:List Or){C:Prop->Prop}(c:eJ args)(h:∀p:Prop,p->C p)(e:autoParam ((r.cls==("":Str))=false) Oo)(g:autoParam ((bZ r.d r.ps.length args).length=r.ps.length) Oo)
  (q:autoParam (wi X (n-1) (λ_ _=>False) r.ir ⟨eO (bZ r.d r.ps.length args) r.N,[]⟩ o (LM u)=C (true/\u=u)) Lb):LL X n (cA X r.cls) r.name args u:=UO T L r m e c g (r.ir.sr (kc ⟨rfl,rfl⟩ h q) λ_ _ _=>xo)
def Pf{R:Str->ah->Prop}{u:af}(o:List Or){C:Prop->Prop}(c:u.nc)(h:∀p:Prop,p->C p)(q:autoParam ((wi X n R b s o (LM u))=C (u.nc/\u=u)) Lb):cp X n R b s (cH λv=>v=u):=b.sr (kc ⟨c,rfl⟩ h q) λ_ _ _=>xo
def nL(T:Txt X)(L:bW n (k+1))(r:d6)(m:r∈table)(o:List Or){Q:af->Prop}{C:Prop->Prop}{l:Prop}(c:eJ args)(h:∀p:Prop,p->C p)(e:l)(g:autoParam ((r.cls==("":Str))) Oo)(j:autoParam ((bZ r.d r.ps.length args).length=r.ps.length) Oo)
  (q:autoParam ((wi X (n-1) (λ_ _=>False) r.ir ⟨eO (bZ r.d r.ps.length args) r.N,[]⟩ o λs st _=>cH Q s st)=C l) Lb):ba X n r.name args Q:=dk T L r m g o c j (kc e h q)
def UT(T:Txt X)(L:bW n (k+1))(r:d6)(m:r∈table)(o:List Or){Q:af->Prop}{C:Prop->Prop}{l:Prop}(c:eJ args)(h:∀p:Prop,p->C p)(e:l)(g:autoParam ((r.cls==("":Str))=false) Oo)(j:autoParam ((bZ r.d r.ps.length args).length=r.ps.length) Oo)
  (q:autoParam ((wi X (n-1) (λ_ _=>False) r.ir ⟨eO (bZ r.d r.ps.length args) r.N,[]⟩ o λs st _=>cH Q s st)=C l) Lb):mU X n (cA X r.cls) r.name args Q:=UP T L r m g o c j (kc e h q)
def JD(T:Txt X)(L:bW n (k+2))(r:d6)(m:r∈table)(h:(r.cls==("":Str))=false)(j:r.name="__init__")(q:r.cls∈(["Order","Program","Walk"]:dT))(o:List Or){Q:af->Prop}(c:eJ args)
  (s:(bZ r.d r.ps.length (.cell 1::args)).length=r.ps.length)
  (w:wi X (n-2) (λ_ _=>False) r.ir ⟨eO (bZ r.d r.ps.length (.cell 1::args)) r.N,[.attrs [] [],.ji (cA X r.cls) 0]⟩ o λu st _=>kR (λv e=>v=.none/\(dz e (.cell 1)).nc/\Q (dz e (.cell 1))) u st):ba X n r.cls args Q:=by
 exact aX L λx y=>ar (ZB (o0 (abW 2 k) x)) λn z=>by
  subst z;exact cU (C8 (T.aa r m) h) λf A B C=>aj (C9 T q).2 λg D G=>dC (cA X r.cls) A c (WD G c (Value.ref.inj (BT (se D (j▸B)))▸xi C s (UF (W1 _) (o0 (aaU _) y)) (a9 o w)))
noncomputable def Pg:Str:="add sub mul div or  and lsh rsh neg mod xor mov arshend "
noncomputable def De:Str:="ja  eq  gt  ge  set ne  sgt sge callexitlt  le  slt sle "
noncomputable def spR:bt:=.cons (.jW "CodeError" (.cons (.dB .Add (.cj (.str "no operation ")) (.aC 1)) .nil)) .nil
def HR(T:Txt X)(L:bW n 1)(d c:Str)(k:Int)(h:X2 X (n-1) (λ_ _=>False) 2 sa (mF X (n-1) (λ_ _=>False) spR (cH λv=>v=.int k)) 14 0 ⟨[.str d,.str c,.ae],[]⟩=(true/\af.int k=.int k)):sX X n "spot_of" [.str d,.str c] (.int k):=
 Jx T L Bt (tm 10 rfl) rfl rfl rfl (xm (S2 (e:=.kP "KNOWN" (.int 14)) (st:=⟨[.str d,.str c,.ae],[]⟩) [.n 14] 14 (by decide) (fL (⟨rfl,by decide⟩:jm 14 14) rfl rfl rfl) (h.mpr ⟨rfl,rfl⟩)))
def HT(T:Txt X)(L:bW n 1):sX X n "spot_of" [.str Pg,.str "mov"] (.int 11):=HR T L _ _ _ (by kernel_rfl)
def LN(T:Txt X)(L:bW n 1):sX X n "spot_of" [.str De,.str "eq"] (.int 1):=HR T L _ _ _ (by kernel_rfl)
def HU(T:Txt X)(L:bW n 1):sX X n "spot_of" [.str De,.str "sgt"] (.int 6):=HR T L _ _ _ (by kernel_rfl)
def WX(T:Txt X)(L:bW n 2):ba X n "deed_code" [.str "mov",.int 64] (λv=>v=.int 183):=
 dk T L v5 (tm 11 rfl) rfl [.v (.int 11)] rfl rfl (kv (ba X (n-1) "spot_of" [.str Pg,.str "mov"] (λv=>v=.int 11)/\true/\af.int 183=af.int 183) (bH (HT T (L.dn 1)) rfl rfl) (by kernel_rfl))
def Ph(T:Txt X)(L:bW n 2):ba X n "branch_code" [.str "eq",.int 64] (λv=>v=.int 21):=
 dk T L mE (tm 12 rfl) rfl [.a,.a,.a,.v (.int 1)] rfl rfl (kv (ba X (n-1) "spot_of" [.str De,.str "eq"] (λv=>v=.int 1)/\true/\af.int 21=af.int 21) (bH (LN T (L.dn 1)) rfl rfl) (by kernel_rfl))
def LO(T:Txt X)(L:bW n 2):ba X n "branch_code" [.str "sgt",.int 32] (λv=>v=.int 102):=
 dk T L mE (tm 12 rfl) rfl [.a,.a,.a,.v (.int 6)] rfl rfl (kv (ba X (n-1) "spot_of" [.str De,.str "sgt"] (λv=>v=.int 6)/\true/\af.int 102=af.int 102) (bH (HU T (L.dn 1)) rfl rfl) (by kernel_rfl))
noncomputable def LQ(X:Cx)(c d s f i m:Int):af:=.dJ (cA X "Order") UQ [.int c,.int d,.int s,.int f,.int i,.int m]
def Pj(T:Txt X)(L:bW n 2) c d s f i m:ba X n "Order" [.int c,.int d,.int s,.int f,.int i,.int m] (λv=>v=LQ X c d s f i m):=
 JD T L mD (tm 1 rfl) rfl rfl (.head _) [] rfl rfl (kv (OM X/\OM X/\OM X/\OM X/\OM X/\OM X/\af.none=.none/\true/\LQ X c d s f i m=LQ X c d s f i m) (Yi (mO T) (mO T) (mO T) (mO T) (mO T) (mO T) rfl rfl rfl) (by kernel_rfl))
def jE(T:Txt X)(L:bW n 2) c d s f i:ba X n "Order" [.int c,.int d,.int s,.int f,.int i] (λv=>v=LQ X c d s f i 0):=
 JD T L mD (tm 1 rfl) rfl rfl (.head _) [] rfl rfl (kv (OM X/\OM X/\OM X/\OM X/\OM X/\OM X/\af.none=.none/\true/\LQ X c d s f i 0=LQ X c d s f i 0) (Yi (mO T) (mO T) (mO T) (mO T) (mO T) (mO T) rfl rfl rfl) (by kernel_rfl))
end
section
variable{X:Cx}{n k:Nat}{d f i m:Int}
def ZO(T:Txt X)(L:bW n 3) d i:ba X n "alu_imm" [.str "mov",.int d,.int i] (λv=>v=bT X .Dc d 0 i 0):=
 dk T L Bu (tm 13 rfl) rfl [.v (.int 183),.v (bT X .Dc d 0 i 0)] rfl rfl (kv (ba X (n-1) "deed_code" [.str "mov",.int 64] (λv=>v=.int 183)/\ba X (n-1) "Order" [.int 183,.int d,.int 0,.int 0,.int i] (λv=>v=bT X .Dc d 0 i 0)/\true/\bT X .Dc d 0 i 0=bT X .Dc d 0 i 0)
  (fL (WX T (L.dn 2)) (jE T (L.dn 2) _ _ _ _ _) rfl rfl) (by kernel_rfl))
def WY(T:Txt X)(L:bW n 3)(f:Int):ba X n "jump" [.int f] (λv=>v=bT X .jump 0 f 0 0):=
 dk T L O7 (tm 14 rfl) rfl [.v (bT X .jump 0 f 0 0)] rfl rfl (kv (ba X (n-1) "Order" [.int 5,.int 0,.int 0,.int f,.int 0] (λv=>v=bT X .jump 0 f 0 0)/\true/\bT X .jump 0 f 0 0=bT X .jump 0 f 0 0) (bH (jE T (L.dn 2) _ _ _ _ _) rfl rfl) (by kernel_rfl))
def ZP(T:Txt X)(L:bW n 3)(i:Int):ba X n "far_jump" [.int i] (λv=>v=bT X .far 0 0 i 0):=
 dk T L yM (tm 15 rfl) rfl [.v (bT X .far 0 0 i 0)] rfl rfl (kv (ba X (n-1) "Order" [.int 6,.int 0,.int 0,.int 0,.int i] (λv=>v=bT X .far 0 0 i 0)/\true/\bT X .far 0 0 i 0=bT X .far 0 0 i 0) (bH (jE T (L.dn 2) _ _ _ _ _) rfl rfl) (by kernel_rfl))
def S3(T:Txt X)(L:bW n 3)(f:Int):ba X n "branch_reg" [.str "sgt",.int 2,.int 3,.int f,.int 32] (λv=>v=bT X .short 2 f 0 0):=
 dk T L tZ (tm 16 rfl) rfl [.v (.int 102),.v (bT X .short 2 f 0 0)] rfl rfl (kv (ba X (n-1) "branch_code" [.str "sgt",.int 32] (λv=>v=.int 102)/\ba X (n-1) "Order" [.int 110,.int 2,.int 3,.int f,.int 0] (λv=>v=bT X .short 2 f 0 0)/\true/\bT X .short 2 f 0 0=bT X .short 2 f 0 0)
  (fL (LO T (L.dn 2)) (jE T (L.dn 2) _ _ _ _ _) rfl rfl) (by kernel_rfl))
def Pk(T:Txt X)(L:bW n 3) i f:ba X n "branch_imm" [.str "eq",.int 1,.int i,.int f] (λv=>v=bT X .branch 1 f i 0):=
 dk T L t8 (tm 17 rfl) rfl [.v (.int 21),.v (bT X .branch 1 f i 0)] rfl rfl (kv (ba X (n-1) "branch_code" [.str "eq",.int 64] (λv=>v=.int 21)/\ba X (n-1) "Order" [.int 21,.int 1,.int 0,.int f,.int i] (λv=>v=bT X .branch 1 f i 0)/\true/\bT X .branch 1 f i 0=bT X .branch 1 f i 0)
  (fL (Ph T (L.dn 2)) (jE T (L.dn 2) _ _ _ _ _) rfl rfl) (by kernel_rfl))
noncomputable def Fj(w:Int):Int:=yi .BitAnd w 4294967295
noncomputable def LR(w:Int):Int:=match decide (yi .RShift (Fj w) 31≠0)with
 |true=>Fj w-4294967296
 |false=>Fj w
def Pl(hw:0<=w):zR .BitAnd w 4294967295:=by
 show(decide (0<=w)&&decide ((0:Int)<=4294967295))=true;refine(FM hw).symm▸?_;rfl
def Fl(T:Txt X)(L:bW n 1)(hw:0<=w):ba X n "signed" [.int w,.int 32] (λv=>v=.int (LR w)):=by
 cases e:decide (yi .RShift (Fj w) 31≠0)with
 |true=>exact dk T L yK (tm 0 rfl) rfl [.a,.p,.a,.b true] rfl rfl (kv (zR .BitAnd w 4294967295/\decide (yi .RShift (Fj w) 31≠0)/\true/\af.int (Fj w-4294967296)=.int (LR w)) (fL (Pl hw) e rfl (by unfold LR;rw[e])) (by kernel_rfl))
 |false=>exact dk T L yK (tm 0 rfl) rfl [.a,.p,.a,.b false] rfl rfl (kv (zR .BitAnd w 4294967295/\decide (yi .RShift (Fj w) 31≠0)=false/\true/\af.int (Fj w)=.int (LR w)) (fL (Pl hw) e rfl (by unfold LR;rw[e])) (by kernel_rfl))
noncomputable def By(X:Cx)(d w:Int):af:=bT X .wide d 0 (LR w) (LR (yi .RShift w 32))
def WZ(T:Txt X)(L:bW n 3)(d:Int){w:Int}(hw:0<=w):ba X n "wide" [.int d,.int w] (λv=>v=By X d w):=
 dk T L O8 (tm 18 rfl) rfl [.v (.int (LR w)),.a,.v (.int (LR (yi .RShift w 32))),.v (By X d w)] rfl rfl (kv (ba X (n-1) "signed" [.int w,.int 32] (λv=>v=.int (LR w))/\ba X (n-1) "signed" [.int (yi .RShift w 32),.int 32] (λv=>v=.int (LR (yi .RShift w 32)))/\
   ba X (n-1) "Order" [.int 24,.int d,.int 0,.int 0,.int (LR w),.int (LR (yi .RShift w 32))] (λv=>v=By X d w)/\true/\By X d w=By X d w)
  (DU (Fl T (L.dn 1) hw) (Fl T (L.dn 1) (Int.ediv_nonneg hw (by decide))) (Pj T (L.dn 2) _ _ _ _ _ _) rfl rfl) (by kernel_rfl))
def S4(T:Txt X)(L:bW n 3):ba X n "call" [.int 7] (λv=>v=bT X .helper 0 0 7 0):=
 dk T L O9 (tm 19 rfl) rfl [.v (bT X .helper 0 0 7 0)] rfl rfl (kv (ba X (n-1) "Order" [.int 133,.int 0,.int 0,.int 0,.int 7] (λv=>v=bT X .helper 0 0 7 0)/\true/\bT X .helper 0 0 7 0=bT X .helper 0 0 7 0) (bH (jE T (L.dn 2) _ _ _ _ _) rfl rfl) (by kernel_rfl))
def S5(T:Txt X)(L:bW n 3)(i:Int):ba X n "local_call" [.int i] (λv=>v=bT X .call 0 0 i 0):=
 dk T L t9 (tm 20 rfl) rfl [.v (bT X .call 0 0 i 0)] rfl rfl (kv (ba X (n-1) "Order" [.int 133,.int 0,.int 1,.int 0,.int i] (λv=>v=bT X .call 0 0 i 0)/\true/\bT X .call 0 0 i 0=bT X .call 0 0 i 0) (bH (jE T (L.dn 2) _ _ _ _ _) rfl rfl) (by kernel_rfl))
def S6(T:Txt X)(L:bW n 3):ba X n "leave" [] (λv=>v=bT X .exit 0 0 0 0):=
 dk T L Jw (tm 21 rfl) rfl [.v (bT X .exit 0 0 0 0)] rfl rfl (kv (ba X (n-1) "Order" [.int 149,.int 0,.int 0,.int 0,.int 0] (λv=>v=bT X .exit 0 0 0 0)/\true/\bT X .exit 0 0 0 0=bT X .exit 0 0 0 0) (bH (jE T (L.dn 2) _ _ _ _ _) rfl rfl) (by kernel_rfl))
noncomputable def W.str:W->Str
 | .Dc=> "mov"| .wide=> "wide"| .branch=> "branch"| .short=> "short"| .jump=> "jump"| .far=> "far"| .helper=> "helper"| .call=> "call"| .exit=> "exit"
noncomputable def bU(X:Cx)(w:W)(a p:Int):af:=match w with
 | .Dc=>bT X .Dc (p %10) 0 (7-p) 0
 | .wide=>By X (p %10) (p*10000000000)
 | .branch=>bT X .branch 1 a p 0
 | .short=>bT X .short 2 a 0 0
 | .jump=>bT X .jump 0 a 0 0
 | .far=>bT X .far 0 0 a 0
 | .helper=>bT X .helper 0 0 7 0
 | .call=>bT X .call 0 0 a 0
 | .exit=>bT X .exit 0 0 0 0
def W0 p:zR .Mult p 10000000000:=by
 show((decide (-(2^63)<=p)&&decide (p<=2^63))||(decide (-(2^63)<=(10000000000:Int))&&decide ((10000000000:Int)<=2^63)))=true;simp only[aaO];exact .inr rfl
def wm(T:Txt X)(L:bW n 4)(w:W) a(c:0<=p):ba X n "_law_order" [.str w.str,.int a,.int p] (λv=>v=bU X w a p):=by
 cases w
 case Dc=>exact dk T L dR (tm 54 rfl) rfl [.a,.a,.v (bU X .Dc a p)] rfl rfl (kv (ba X (n-1) "alu_imm" [.str "mov",.int (p %10),.int (7-p)] (λv=>v=bU X .Dc a p)/\true/\bU X .Dc a p=bU X .Dc a p) ⟨ZO T (L.dn 3) _ _,rfl,rfl⟩ (by kernel_rfl))
 case wide=>exact dk T L dR (tm 54 rfl) rfl [.a,.a,.a,.a,.p,.v (bU X .wide a p)] rfl rfl (kv (zR .Mult p 10000000000/\ba X (n-1) "wide" [.int (p %10),.int (p*10000000000)] (λv=>v=bU X .wide a p)/\true/\bU X .wide a p=bU X .wide a p) (fL (W0 p) (WZ T (L.dn 3) _ (Int.mul_nonneg c (by decide))) rfl rfl) (by kernel_rfl))
 case branch=>exact dk T L dR (tm 54 rfl) rfl [.a,.a,.a,.v (bU X .branch a p)] rfl rfl (kv (ba X (n-1) "branch_imm" [.str "eq",.int 1,.int p,.int a] (λv=>v=bU X .branch a p)/\true/\bU X .branch a p=bU X .branch a p) ⟨Pk T (L.dn 3) _ _,rfl,rfl⟩ (by kernel_rfl))
 case short=>exact dk T L dR (tm 54 rfl) rfl [.a,.a,.a,.a,.v (bU X .short a p)] rfl rfl (kv (ba X (n-1) "branch_reg" [.str "sgt",.int 2,.int 3,.int a,.int 32] (λv=>v=bU X .short a p)/\true/\bU X .short a p=bU X .short a p) ⟨S3 T (L.dn 3) _,rfl,rfl⟩ (by kernel_rfl))
 case jump=>exact dk T L dR (tm 54 rfl) rfl [.a,.a,.a,.a,.a,.v (bU X .jump a p)] rfl rfl (kv (ba X (n-1) "jump" [.int a] (λv=>v=bU X .jump a p)/\true/\bU X .jump a p=bU X .jump a p) ⟨WY T (L.dn 3) _,rfl,rfl⟩ (by kernel_rfl))
 case far=>exact dk T L dR (tm 54 rfl) rfl [.a,.a,.a,.a,.a,.a,.v (bU X .far a p)] rfl rfl (kv (ba X (n-1) "far_jump" [.int a] (λv=>v=bU X .far a p)/\true/\bU X .far a p=bU X .far a p) ⟨ZP T (L.dn 3) _,rfl,rfl⟩ (by kernel_rfl))
 case helper=>exact dk T L dR (tm 54 rfl) rfl [.a,.a,.a,.a,.a,.a,.a,.a,.v (bU X .helper a p)] rfl rfl (kv (ba X (n-1) "call" [.int 7] (λv=>v=bU X .helper a p)/\true/\bU X .helper a p=bU X .helper a p) ⟨S4 T (L.dn 3),rfl,rfl⟩ (by kernel_rfl))
 case call=>exact dk T L dR (tm 54 rfl) rfl [.a,.a,.a,.a,.a,.a,.a,.v (bU X .call a p)] rfl rfl (kv (ba X (n-1) "local_call" [.int a] (λv=>v=bU X .call a p)/\true/\bU X .call a p=bU X .call a p) ⟨S5 T (L.dn 3) _,rfl,rfl⟩ (by kernel_rfl))
 case exit=>exact dk T L dR (tm 54 rfl) rfl [.a,.a,.a,.a,.a,.a,.a,.a,.v (bU X .exit a p)] rfl rfl (kv (ba X (n-1) "leave" [] (λv=>v=bU X .exit a p)/\true/\bU X .exit a p=bU X .exit a p) ⟨S6 T (L.dn 3),rfl,rfl⟩ (by kernel_rfl))
noncomputable def Pm(p:W->Bool):Bool:=p .Dc&&(p .wide&&(p .branch&&(p .short&&(p .jump&&(p .far&&(p .helper&&(p .call&&p .exit)))))))
def Df(h:Pm p) w:p w:=by
 unfold Pm at h;simp only[Bool.and_eq_true]at h;cases w<;>simp only[h]
def S7(l:dT)(p:W->Bool)(h:Pm (λw=>bC 8 (.str w.str)&&(bC 8 (.tuple (l.map af.str))&&((l.map af.str).any (λy=>zG y (.str w.str))==p w))))(w:W):fF .In (.str w.str) (.tuple (l.map af.str)) (p w):=
 bJ (Df h w) λe c=>bJ c λc g=>⟨e,c,eq_of_beq g⟩
def W2 s(p:W->Bool)(h:Pm (λw=>bC 8 (.str w.str)&&(bC 8 (.str s)&&(zG (.str w.str) (.str s)==p w))))(w:W):fF .Eq (.str w.str) (.str s) (p w):=
 bJ (Df h w) λe c=>bJ c λc g=>⟨e,c,eq_of_beq g⟩
def uk{w:W}(h:w.ll=b):fF .Eq (.str w.str) (.str "exit") b:=h▸W2 _ W.ll (by kernel_rfl) w
def l9{w:W}(h:w.eG=b):fF .Eq (.str w.str) (.str "call") b:=h▸W2 _ W.eG (by kernel_rfl) w
def JE{w:W}(h:w.kF=b):fF .In (.str w.str) (.tuple ((["jump","far"]:dT).map af.str)) b:=h▸S7 _ W.kF (by kernel_rfl) w
def Pn{w:W}(h:w.rY=b):fF .In (.str w.str) (.tuple ((["branch","short"]:dT).map af.str)) b:=h▸S7 _ W.rY (by kernel_rfl) w
def JF{w:W}(h:w.WT=b):fF .Eq (.str w.str) (.str "wide") b:=h▸W2 _ W.WT (by kernel_rfl) w
def Dg(l:dT)(p:W->Bool)(h:Pm (λw=>bC 8 (.str w.str)&&(bC 8 (.tuple (l.map af.str))&&((!(l.map af.str).any (λy=>zG y (.str w.str)))==p w))))(w:W):fF .NotIn (.str w.str) (.tuple (l.map af.str)) (p w):=
 bJ (Df h w) λe c=>bJ c λc g=>⟨e,c,eq_of_beq g⟩
def Dh{w:W}(h:w.gN=b):fF .NotIn (.str w.str) (.tuple ((["branch","short","jump","far","call"]:dT).map af.str)) (!b):=h▸Dg _ (λw=> !w.gN) (by kernel_rfl) w
def Pp{w:W}(h:(w.eG||w.ll)=b):fF .NotIn (.str w.str) (.tuple ((["call","exit"]:dT).map af.str)) (!b):=h▸Dg _ (λw=> !(w.eG||w.ll)) (by kernel_rfl) w
def JG{w:W}(h:(w.ll||w.kF)=b):fF .NotIn (.str w.str) (.tuple ((["exit","jump","far"]:dT).map af.str)) (!b):=h▸Dg _ (λw=> !(w.ll||w.kF)) (by kernel_rfl) w
end
structure Rw where
 w:W
 t:Int
 g:Option Int
noncomputable abbrev bo:=List Rw
noncomputable def S8(w:W):Nat:=if w.WT then 2 else 1
noncomputable def sl(aa:bo)(i:Nat):Nat:=((aa.take i).map λr=>S8 r.w).sum
noncomputable def iY(aa:bo):Nat:=sl aa aa.length
noncomputable def gl(aa:bo)(r:Rw):Option Int:=if r.w.gN then some (match r.g with|none=>(sl aa r.t.toNat:Int)|some s=>s)else none
noncomputable def oG(aa:bo)(i:Nat):Option Int:=aa[i]?.bind (gl aa)
noncomputable def ow(aa:bo)(s:Int):Option Nat:=(List.range aa.length).find? λi=>decide ((sl aa i:Int)=s)
noncomputable def tg(aa:bo)(i:Nat):Option Nat:=(oG aa i).bind (ow aa)
noncomputable def eG(aa:bo)(i:Nat):Bool:=match aa[i]? with
 |some r=>r.w.eG
 |none=>false
noncomputable def dV(aa:bo)(i:Nat):Bool:=decide (i=0)||(List.range aa.length).any λj=>eG aa j&&decide (tg aa j=some i)
noncomputable def aq(aa:bo):aH:=(List.range (aa.length+1)).filter (dV aa)
noncomputable def ao(aa:bo):Nat->Nat
 |0=>0
 |i+1=>if dV aa (i+1)then i+1 else ao aa i
section
variable{aa:bo}
def S9 w:1<=S8 w:=by unfold S8;split<;>decide
def um{r:Rw}(h:aa[i]?=some r):sl aa (i+1)=sl aa i+S8 r.w:=by
 unfold sl;simp only[aaE,h];simp
def Ta:sl aa 0=0:=by unfold sl;simp
def yV(h:i<j)(g:j<=aa.length):sl aa i<sl aa j:=by
 induction j with
 |zero=>lia
 |succ j c=>
  have e:aa[j]?=some aa[j]:=f0 (by assumption);haveI:=um e;haveI:=S9 aa[j].w;rcases P3 i j with q|q
  ·have:=c q (by exact KK (by assumption));lia
  ·have:i=j:=by lia
   subst this;lia
def HV(c:i<=aa.length)(e:j<=aa.length)(h:sl aa i=sl aa j):i=j:=by
 rcases acN i j with q|q|q
 ·haveI:=yV q e;lia
 ·exact q
 ·haveI:=yV q c;lia
def ZQ i:sl aa i<=2*i:=by
 induction i with
 |zero=>rw[Ta];lia
 |succ i c=>
  cases e:aa[i]? with
  |some r=>
   rw[um e];have:S8 r.w<=2:=by unfold S8;split<;>decide
   lia
  |none=>
   haveI h:aa.length<=i:=acf.mp e;haveI g:sl aa (i+1)=sl aa i:=by unfold sl;rw[SL (by lia),SL h]
   lia
def iC:ow aa s=some i↔i<aa.length/\(sl aa i:Int)=s:=by
 unfold ow;constructor
 ·intro h
  haveI c:=List.find?_some h;haveI g:=List.mem_of_find?_eq_some h;exact⟨AT.mp g,s5 c⟩
 ·rintro⟨c,g⟩
  cases e:(List.range aa.length).find? λi=>decide ((sl aa i:Int)=s)with
  |some j=>
   haveI u:(sl aa j:Int)=s:=s5 (List.find?_some (p:=λi=>decide ((sl aa i:Int)=s)) e);haveI q:=AT.mp (List.mem_of_find?_eq_some e);rw[HV (KK q) (KK c) (by lia)]
  |none=>
   haveI:=List.find?_eq_none.mp e i (AT.mpr c);exact absurd (FM g) this
def iZ:dV aa 0:=by unfold dV;simp
def md i:ao aa i<=i:=by
 induction i with
 |zero=>exact v0 _
 |succ i c=>unfold ao;split<;>lia
def qU i:dV aa (ao aa i):=by
 induction i with
 |zero=>exact iZ
 |succ i c=>
  unfold ao;split
  ·assumption
  ·exact c
set_option tactic.hygienic true in
def yW i j(c:ao aa i<j)(h:j<=i):dV aa j=false:=by
 induction i with
 |zero=>lia
 |succ i g=>
  unfold ao at c;split at c
  ·lia
  ·rename_i q
   refine wS (p:=j=i+1) (λe=>?_) (λe=>?_)
   ·subst e;simpa using q
   ·exact g c (by lia)
def uo(c:dV aa b)(e:b<=i)(g:∀j,b<j->j<=i->dV aa j=false):ao aa i=b:=by
 rcases acN (ao aa i) b with q|q|q
 ·haveI:=yW i b q e;exact bx (c) this
 ·exact q
 ·haveI:=g _ q (md i);rw[qU]at this;exact Bool.noConfusion this
def yX{i:Nat}(h:dV aa i):i=0\/i<aa.length:=by
 unfold dV at h;rw[aaO]at h;rcases h with h|h
 ·exact .inl (s5 h)
 ·refine aj (aak.mp h) λj _ e=>?_
  refine bJ e λ_ g=>?_;haveI c:=s5 g;unfold tg at c;refine aj (TD.mp c) λs _ q=>?_;exact .inr (iC.mp q).1
def dh:i∈aq aa↔dV aa i:=by
 unfold aq;rw[IO,AT];constructor
 ·exactλh=>h.2
 ·intro h
  haveI:=yX h;exact⟨by lia,h⟩
def da:(aq aa).Pairwise (·< ·):=acP _ acL
end
noncomputable def iv(l:aH):aS:=l.map λi:Nat=>(i:Int)
noncomputable def bV(aa:bo)(k:Nat):aH:=(List.range k).map (sl aa)
noncomputable def vp(aa:bo)(i:Nat)(r:Rw):Int:=match gl aa r with
 |none=>0
 |some g=>g-sl aa i-1
noncomputable def bM(X:Cx)(aa:bo):ah:=aa.mapIdx λi r=>bU X r.w (vp aa i r) i
noncomputable def HW:dT:=["orders","slots","by_slot","many_slots","subs"]
noncomputable def Pq(X:Cx)(aa:bo):ah:=[.list (bM X aa),.list (nv (bV aa aa.length)),.dict (iv (bV aa aa.length)) (nv (List.range aa.length)),.int (iY aa),.list (nv (aq aa))]
noncomputable def aV(X:Cx)(aa:bo):af:=.dJ (cA X "Program") HW (Pq X aa)
def cy(aa:bo):Prop:=aa.length<=30
section
variable{X:Cx}{n k:Nat}{c:bo}
abbrev PM(X:Cx):Prop:=cA X "Program"∈ff X.K
def mP(T:Txt X):PM X:=(xk T (.tail _ (.head _))).2
def aN(l:aH):(nv l).length=l.length:=by unfold nv;simp
def fj(l:aH):(iv l).length=l.length:=by unfold iv;simp
def rG k:(bV c k).length=k:=by unfold bV;simp
def yY k:bV c (k+1)=bV c k++[sl c k]:=by unfold bV;simp only[aaK];simp
def ct a b:nv (a++b)=nv a++nv b:=by unfold nv;simp
def vq a b:iv (a++b)=iv a++iv b:=by unfold iv;simp
def oJ{l:aH}{i j:Nat}(h:l[i]?=some j):aB (nv l) i=.int j:=by delta aB nv;refine FS▸?_;refine h▸?_;rfl
def fq:(bM X c).length=c.length:=by unfold bM;simp
def Fm{r:Rw}(h:c[i]?=some r):aB (bM X c) i=bU X r.w (vp c i r) i:=by
 refine dZ ?_;unfold bM;simp only[List.getElem?_mapIdx,h];rfl
def HX(w:W) a p:∃d f i m,bU X w a p=bT X w d f i m/\(w.gN->w.WV f i=a):=by
 cases w
 case wide=>exact(VB _ _ _ _ rfl (λh=>by cases h))
 all_goals exact(VB _ _ _ _ rfl (λh=>by first|rfl|cases h))
def qV{r:Rw}(h:c[i]?=some r):∃d f j m,aB (bM X c) i=bT X r.w d f j m/\(r.w.gN->r.w.WV f j=vp c i r):=by
 refine xB (HX (X:=X) r.w (vp c i r) i) λd f j m e g=>?_;exact(VB d f j m ((Fm h).trans e) g)
def yZ{Q:W->af->Prop}(h:∀(w:W) d f i m,ba X n x [bT X w d f i m] (Q w)){i:Nat}{r:Rw}(g:c[i]?=some r):ba X n x [aB (bM X c) i] (Q r.w):=by
 refine xB (qV (X:=X) g) λd f j m e _=>?_;refine e▸?_;exact h r.w d f j m
def y6:∀{e:aS} {vs:ah},e.length=vs.length->g∉e->gI g v e vs=(e++[g],vs++[v]):=by
 intro e;induction e with
 |nil=>intro vs h _;cases vs with|nil=>rfl|cons _ _=>cases h
 |cons a e s=>
  intro vs h j;cases vs with
  |nil=>cases h
  |cons u w=>
   unfold gI;rw[if_neg (λq:a=g=>j (q▸ .head _)),s (aa3 h) λq=>j (.tail _ q)];rfl
def LS(e:k<=c.length):(sl c k:Int)∉iv (bV c k):=λm=>by
 unfold iv bV at m;rw[aac]at m;refine aj (FB.mp m) λi g h=>?_;have j:=AT.mp g;have:sl c i=sl c k:=Int.ofNat.inj h;haveI:=HV (by lia) e this;lia
noncomputable def cI1(X:Cx)(c:bo)(k:Nat):ah:=[.attrs ["orders","slots","by_slot"] [.list (bM X c),.cell 2,.cell 3],.ji (cA X "Program") 0,.list (nv (bV c k)),.dict (iv (bV c k)) (nv (List.range k))]
noncomputable def inS(X:Cx)(c:bo)(k:Nat):St:=⟨[.cell 1,.list (bM X c),.int (sl c k),.ae,.ae],cI1 X c k⟩
def Tb(T:Txt X)(L:bW n 1)(s:cy c)(h:k<c.length):zI X n (λ_ _=>False) [3] jX ((inS X c k).at 3 (.int k)) (inS X c (k+1)):=by
 have e:c[k]?=some c[k]:=f0 h;have hw:=yZ (X:=X) (λw d f i m=>LJ (d:=d) (f:=f) (i:=i) (m:=m) T L w) e;have g:=um e;generalize c[k]=r at e hw g;have hN:c.length<=30:=s;have j:k<=aL:=dw (o0 (KK (UF h hN)) (by decide));have u:(0:Int)<=(k:Int)/\(k:Int)<((bM X c).length:Int)/\(bM X c).length<=aL:=⟨IR _,fq (X:=X)▸aaY.mpr h,fq (X:=X)▸dw (o0 hN (by decide))⟩
 have A:=λ{p:Prop}=>A8 (p:=p) (mP T) (by rw[aN,rG];exact j:(nv (bV c k)).length<=aL) (by rw[yY,ct];rfl:af.list (nv (bV c k)++[.int (sl c k)])=.list (nv (bV c (k+1)))) (mP T) (by rw[fj,rG];exact j:(iv (bV c k)).length<=aL)
  (by rw[y6 (by simp only[fj,aN,rG,x0]) (LS (KK h)),yY,vq,aaK,ct];rfl:af.dict (gI (sl c k) (.int k) (iv (bV c k)) (nv (List.range k))).1 (gI (sl c k) (.int k) (iv (bV c k)) (nv (List.range k))).2=.dict (iv (bV c (k+1))) (nv (List.range (k+1)))) (mP T)
  (⟨u,rfl⟩:gR (.list (bM X c)) (.int k) (aB (bM X c) k))
 unfold S8 at g;cases q:r.w.WT with
 |true=>
  rw[q]at hw g;exact rZ [.p,.y (.list (nv (bV c (k+1)))),.p,.y (.dict (iv (bV c (k+1))) (nv (List.range (k+1)))),.y (aB (bM X c) k),.v (.bool true),.a,.x (.int (sl c (k+1)))] λ_ z=>A (A2 hw (v6 Int.ofNat g.symm:(sl c k:Int)+2=(sl c (k+1):Nat)) z)
 |false=>
  rw[q]at hw g;exact rZ [.p,.y (.list (nv (bV c (k+1)))),.p,.y (.dict (iv (bV c (k+1))) (nv (List.range (k+1)))),.y (aB (bM X c) k),.v (.bool false),.a,.x (.int (sl c (k+1)))] λ_ z=>A (A2 hw (v6 Int.ofNat g.symm:(sl c k:Int)+1=(sl c (k+1):Nat)) z)
def Fn{l:aH}{i j:Nat}(h:l[i]?=some j)(e:l.length<=aL):gR (.list (nv l)) (.int i) (.int j):=⟨⟨IR _,by rw[aN];exact aaY.mpr (wP.mp h).1,(aN l).symm▸e⟩,oJ h⟩
def Tc{l:aH}(hN:l.length<=aL)(h:i<l.length):gR (.list (nv l)) (.int i) (.int (l.getD i 0)):=⟨⟨IR _,by rw[aN];lia,(aN l).symm▸hN⟩,oJ (i:=i) (by rw[List.getD_eq_getElem?_getD,f0 h];rfl)⟩
end
section
variable{X:Cx}{n k:Nat}{aa:bo}
def si(T:Txt X)(L:bW n (k+1))(r:d6)(m:r∈table)(e:(r.cls==("":Str))) o(g:(bZ r.d r.ps.length args).length=r.ps.length)
  (w:wi X (n-1) (λ_ _=>False) r.ir ⟨eO (bZ r.d r.ps.length args) r.N,cells⟩ o λh st _=>kR Q h st):ie X n r.name args cells Q:=by
 obtain⟨j,q⟩:=L;refine ar (ZB (o0 (abW 1 k) j)) λn c=>?_;subst c;refine aj (yS (T.aa r m) e) λf s u=>?_;exact(ay f s (xi u g (acO q) (a9 o w)))
def Fo(T:Txt X)(L:bW n (k+1))(r:d6)(m:r∈table)(e:(r.cls==("":Str))=false) o(g:(bZ r.d r.ps.length args).length=r.ps.length)
  (w:wi X (n-1) (λ_ _=>False) r.ir ⟨eO (bZ r.d r.ps.length args) r.N,cells⟩ o λh st _=>kR Q h st):qn X n (cA X r.cls) r.name args cells Q:=by
 obtain⟨j,q⟩:=L;refine ar (ZB (o0 (abW 1 k) j)) λn c=>?_;subst c;refine cU (C8 (T.aa r m) e) λf v s u=>?_;exact(ay f (v6 B2 s) (xi u g (acO q) (a9 o w)))
def qn.has(h:qn X n C x args cells Q):VI X C x:=aj h λf c _=>⟨f,c⟩
def mU.has(h:mU X n C x args Q):VI X C x:=aj h λf c _=>⟨f,c⟩
def xp:eJ l=true↔∀v∈l,v.nc:=by
 induction l with
 |nil=>simp[eJ]
 |cons a l c=>unfold eJ;simp only[Bool.and_eq_true,c];simp
def d0{e:Type}{f:e->af}(h:∀a,(f a).nc)(l:List e):eJ (l.map f):=xp.mpr λv m=>by
 refine aj (FB.mp m) λa _ c=>?_;subst c;exact h a
def me l:eJ (nv l):=d0 (λ_=>rfl) l
def rH:eJ (bM X aa):=xp.mpr λv m=>by
 obtain⟨i,c,e⟩:=XV m;have g:i<aa.length:=by rwa[fq]at c
 haveI h:aa[i]?=some aa[i]:=f0 g;refine xB (qV (X:=X) h) λd f j u q _=>?_;haveI s:aB (bM X aa) i=v:=e▸dZ (f0 c);refine s▸?_;refine q▸?_;rfl
def cG:(aV X aa).nc:=by
 refine xp.mpr λv m=>?_;simp only[Pq,EQ,acS,or_false]at m;rcases m with rfl|rfl|rfl|rfl|rfl
 ·exact rH
 ·exact me _
 ·exact me _
 ·rfl
 ·exact me _
def Di{r:Rw}(h:gl aa r=some g):r.w.gN/\∀i,(sl aa i:Int)+1+vp aa i r=g:=by
 refine⟨?_,λi=>?_⟩
 ·unfold gl at h
  split at h
  ·assumption
  ·exact nx h
 ·unfold vp;refine h▸?_;dsimp only;lia
def JH(T:Txt X)(L:bW n 2){r:Rw}(c:aa[i]?=some r)(g:r.w.gN):ba X n "distance" [aB (bM X aa) i] (λv=>v=.int (vp aa i r)):=by
 refine xB (qV (X:=X) c) λd f j m e h=>?_;haveI:=HO (d:=d) (f:=f) (i:=j) (m:=m) T L r.w;refine e▸?_;refine(h g)▸?_;exact this
def oO(c:cy aa)(g:i<aa.length){l:ah}(e:l.length=aa.length):(0:Int)<=(i:Int)/\(i:Int)<(l.length:Int)/\l.length<=aL:=by
 rw[e];unfold cy at c;unfold aL;lia
def sj(c:cy aa)(g:i<aa.length)(e:aB (bM X aa) i=v):gR (.list (bM X aa)) (.int i) v:=⟨oO c g fq,e⟩
def Pr(c:i<aa.length):aB (nv (bV aa aa.length)) i=.int (sl aa i):=oJ (by unfold bV;simp only[FS,XL c];rfl)
def lp(h:aa[i]?=some r):i<aa.length:=(wP.mp h).1
def Td:(nv (bV aa aa.length)).length=aa.length:=by simp only[aN,rG]
noncomputable def Te(X:Cx)(aa:bo)(c:aS):ah:=[.attrs ["orders","slots","by_slot","many_slots"] [.list (bM X aa),.cell 2,.cell 3,.int (iY aa)],.ji (cA X "Program") 0,.list (nv (bV aa aa.length)),.dict (iv (bV aa aa.length)) (nv (List.range aa.length)),.set c]
def Pu(e:cy aa)(c:i<aa.length):gR (.list (nv (bV aa aa.length))) (.int i) (.int (sl aa i)):=⟨oO e c Td,Pr c⟩
def ZR(c:gl aa r=some g) i:true/\af.int ((sl aa i:Int)+1+vp aa i r)=.int g:=⟨rfl,v6 af.int ((Di c).2 i)⟩
def W3(T:Txt X)(L:bW n 3)(h:cy aa){i:Nat}{g:Int}(e:aa[i]?=some r)(j:gl aa r=some g)(c:aS):qn X n (cA X "Program") "goal_slot" [.cell 1,.int i] (Te X aa c) (λv q=>v=.int g/\q=Te X aa c):=
 Fo T L gu (tm 24 rfl) rfl [.y (.int (sl aa i)),.y (aB (bM X aa) i),.v (.int (vp aa i r))] rfl (kc (⟨(ZR j i).2,rfl⟩:af.int ((sl aa i:Int)+1+vp aa i r)=.int g/\Te X aa c=Te X aa c) (λ_=>A5 (mP T) (Pu h (lp e)) (mP T) (sj (X:=X) h (lp e) rfl) (JH (X:=X) (n:=n-1) T (L.dn 2) e (Di j).1)) (by kernel_rfl))
def Pw(T:Txt X)(L:bW n 3)(e:cy aa){i:Nat}{g:Int}(c:aa[i]?=some r)(h:gl aa r=some g):LL X n (cA X "Program") "goal_slot" [aV X aa,.int i] (.int g):=
 UT T L gu (tm 24 rfl) [.y (.int (sl aa i)),.y (aB (bM X aa) i),.v (.int (vp aa i r))] (by unfold eJ;refine cG.symm▸?_;rfl) (λ_=>A5 (mP T) (Pu e (lp c)) (mP T) (sj (X:=X) e (lp c) rfl) (JH (X:=X) (n:=n-1) T (L.dn 2) c (Di h).1)) (ZR h i)
end
section
variable{X:Cx}{n k:Nat}{o:bo}
def fu{c:Type}[BEq c][LawfulBEq c]:∀{l m:List c},l.Nodup->(∀x∈l,x∈m)->l.length<=m.length:=by
 intro l;induction l with
 |nil=>intro m _ _;exact SC _
 |cons a l j=>
  intro m s h;refine aX (TT.mp s) λn1 n2=>?_;haveI e:=h a (.head _);haveI:=j (m:=m.erase a) n2 λx g=>(List.mem_erase_of_ne (λq=>n1 (by refine q▸?_;exact g))).mpr (h x (.tail _ g));rw[List.length_erase_of_mem e]at this;haveI:=List.length_pos_of_mem e;simp only[WF];lia
def Fp(h:ow o s=some t):dQ s (iv (bV o o.length)) (nv (List.range o.length))=some (.int t):=by
 refine aX (iC.mp h) λe g=>?_
 haveI c:∀(m j:Nat),j+m=o.length->j<=t->dQ s (iv ((List.range' j m).map (sl o))) (nv (List.range' j m))=some (.int t):=by
  intro m;induction m with
  |zero=>intro j u v;lia
  |succ m w=>
   intro j u v;show dQ s ((sl o j:Int)::iv ((List.range' (j+1) m).map (sl o))) (.int j::nv (List.range' (j+1) m))=_;unfold dQ;refine wS (p:=t=j) (λq=>?_) (λq=>?_)
   ·subst q;rw[if_pos g]
   ·rw[if_neg,w (j+1) (by lia) (by lia)]
    intro x;exact q (HV (KK e) (by lia) (by lia))
 haveI:=c o.length 0 (by lia) (SC _);rwa[<-List.range_eq_range']at this
def Dj:s∈iv (bV o o.length)↔∃t,ow o s=some t:=by
 delta iv bV;rw[aac,FB];constructor
 ·rintro⟨i,c,e⟩;exact⟨i,iC.mpr ⟨AT.mp c,e⟩⟩
 ·rintro⟨t,h⟩
  obtain⟨c,e⟩:=iC.mp h;exact(ay t (AT.mpr c) e)
def Dk(o:bo)(k:Nat)(z:Int):Prop:=z=0\/∃j t,j<k/\eG o j/\tg o j=some t/\z=(t:Int)
noncomputable def ZS(X:Cx)(o:bo)(c:aS):St:=⟨[.cell 1,.list (bM X o),.int (iY o),.ae,.cell 4],Te X o c⟩
def I2(X:Cx)(o:bo)(k:Nat)(st:St):Prop:=∃c,c.Nodup/\(∀z,z∈c↔Dk o k z)/\st=ZS X o c
def Fq{c:aS}(g:cy o)(q:c.Nodup)(h:∀z,z∈c↔Dk o k z):c.length<64:=by
 haveI:=fu (m:=iv (List.range (o.length+1))) q λz u=>by
  rcases(h z).mp u with rfl|⟨j,t,_,_,e,rfl⟩
  ·exact FB.mpr (ay 0 (AT.mpr (by lia)) rfl)
  ·unfold tg at e
   refine aj (TD.mp e) λs _ v=>?_;exact FB.mpr (ay t (AT.mpr (by have:=(iC.mp v).1;lia)) rfl)
 rw[fj,x0]at this;unfold cy at g;lia
def UU(c:o[i]?=some r)(e:gl o r=some g):tg o i=ow o g:=by delta tg oG;refine c▸?_;show(gl o r).bind _=_;refine e▸?_;rfl
def eB{r:Rw}(c:o[i]?=some r):eG o i=r.w.eG:=by unfold eG;rw[c]
def JI(h:∀t,eG o k->tg o k≠some t) z:Dk o (k+1) z↔Dk o k z:=by
 constructor
 ·rintro(c|⟨j,t,c,e,g,s⟩)
  ·exact .inl c
  ·refine .inr (lF j t ?_ e g s)
   rcases P3 j k with q|q
   ·exact q
   ·have:j=k:=by lia
    subst this;exact absurd g (h t e)
 ·rintro(c|⟨j,t,c,h⟩)
  ·exact .inl c
  ·exact .inr (j6 j t (by lia) h)
def Px(v:eG o k)(g:tg o k=some t) z:Dk o (k+1) z↔Dk o k z\/z=(t:Int):=by
 constructor
 ·rintro(h|⟨j,c,h,w,s,u⟩)
  ·exact .inl (.inl h)
  ·rcases P3 j k with q|q
   ·exact .inl (.inr (lF j c q w s u))
   ·have:j=k:=by lia
    subst this;obtain rfl:=(se (g) s).symm;exact .inr u
 ·rintro((h|⟨j,c,h,e⟩)|h)
  ·exact .inl h
  ·exact .inr (j6 j c (by lia) e)
  ·exact .inr (lF k t (by lia) v g h)
def Tf(T:Txt X)(L:bW n 3)(x:cy o){K:aR->St->Prop}(C:k<o.length){c:aS}(y:c.Nodup)(v:∀z,z∈c↔Dk o k z):
  cp X n R jY ((ZS X o c).at 3 (.int k)) (jC [3] (I2 X o (k+1)) K):=by
 have e:o[k]?=some o[k]:=f0 C;generalize o[k]=r at e;have hw:=yZ (X:=X) (λw d f i m=>dI (d:=d) (f:=f) (i:=i) (m:=m) T (⟨o0 (by decide) L.1,L.2⟩:bW n 1) w) e;have A:=λ{p:Prop}=>A3 (p:=p) (mP T) (oO x C (fq (X:=X))) hw;cases q:r.w.eG with
 |false=>
  rw[q]at A;exact raw [.p,.v (.bool false)] (λ_=>A) (⟨c,y,λz=>(v z).trans (JI (λt h=>by rw[eB e,q]at h;exact Bool.noConfusion h) z).symm,rfl⟩:I2 X o (k+1) (ZS X o c))
 |true=>
  rw[q]at A;obtain⟨g,B⟩:∃g,gl o r=some g:=by unfold gl;rw[if_pos (by unfold W.gN;rw[q];simp)];exact⟨_,rfl⟩
  have j:=W3 T L x e B c;cases s:ow o g with
  |none=>
   exact raw [.p,.v (.bool true),.a,.d (.int g) (Te X o c),.b false] (λ_ z=>A (A5 (mP T) j.has j (mP T) (SZ (λm=>by refine ar (Dj.mp m) λt h=>?_;exact sn h (s)):decide (g∈iv (bV o o.length))=false) z))
    (⟨c,y,λz=>(v z).trans (JI (λt _ h=>by rw[UU e B,s]at h;exact nx h) z).symm,rfl⟩:I2 X o (k+1) (ZS X o c))
  |some t=>
   exact raw [.p,.v (.bool true),.a,.d (.int g) (Te X o c),.b true,.d (.int g) (Te X o c),.v (.int t),.p] (λ_ z=>A (A9 (mP T) j.has j (mP T) (FM (Dj.mpr ⟨t,s⟩):decide (g∈iv (bV o o.length))) (mP T) (mP T) j.has j (A2 (Fp s) (Fq x y v) z)))
    (λu D G=>⟨u,D,λz=>((G z).trans (or_congr (v z) Iff.rfl)).trans (Px (by rw[eB e,q]) (by rw[UU e B,s]) z).symm,rfl⟩:∀u:aS,u.Nodup->(∀z,z∈u↔z∈c\/z=(t:Int))->I2 X o (k+1) (ZS X o u))
def iD{g:aS}{l:aH}(D:g.Nodup)(G:l.Pairwise (·< ·))(h:∀z:Int,z∈g↔∃i∈l,z=(i:Int)):dg g=iv l:=by
 haveI H:(dg g).Pairwise (λa b=>decide (a<=b)):=List.pairwise_mergeSort (λa b c w I=>by simp only[decide_eq_true_eq]at*;lia) (λa b=>by simp only[aaO,decide_eq_true_eq];lia) g;haveI A:(dg g).Perm g:=acV _ _;haveI R9:(dg g).Nodup:=A.nodup_iff.mpr D;haveI B:(iv l).Pairwise (·< ·):=List.Pairwise.map _ (λa b h=>by exact_mod_cast h) G;haveI L:(iv l).Nodup:=B.imp λh=>by lia
 haveI M:∀z,z∈dg g↔z∈iv l:=λz=>by
  simp only[A.mem_iff,h z];unfold iv;rw[FB];exact⟨λj=>aj j λi a b=>(ay i a b.symm),λj=>aj j λi a b=>(ay i a b.symm)⟩
 haveI O:(dg g).Pairwise (·< ·):=(H.and R9).imp λj=>aX j λw I=>by
  haveI:=s5 w;lia
 haveI q:∀{a b:aS},a.Pairwise (·< ·)->b.Pairwise (·< ·)->(∀z,z∈a↔z∈b)->a=b:=by
  intro a;induction a with
  |nil=>
   intro b _ _ h;cases b with
   |nil=>rfl
   |cons y b=>exact absurd ((h y).mpr (.head _)) (λh=>nl h)
  |cons x a P=>
   intro b Q T h;cases b with
   |nil=>exact absurd ((h x).mp (.head _)) (λh=>nl h)
   |cons y b=>
    refine aX (List.pairwise_cons.mp Q) λa1 a2=>?_;refine aX (List.pairwise_cons.mp T) λC U=>?_;have V:=(h x).mp (.head _);haveI Z:=(h y).mpr (.head _)
    have u:x=y:=by
     rcases EQ.mp V with e|e
     ·exact e
     ·rcases EQ.mp Z with v|v
      ·exact v.symm
      ·haveI:=a1 y v;haveI:=C x e;lia
    subst u;congr 1;refine P a2 U λz=>⟨λs=>?_,λs=>?_⟩
    ·rcases EQ.mp ((h z).mp (.tail _ s))with e|e
     ·haveI:=a1 z s;lia
     ·exact e
    ·rcases EQ.mp ((h z).mpr (.tail _ s))with e|e
     ·haveI:=C z s;lia
     ·exact e
 exact q O B M
end
section
variable{X:Cx}{n k:Nat}{a:bo}
def y7{c e:ah}(h:eJ e) f:e.map (rm c f)=e:=by
 haveI g:=xp.mp h
 conv=>rhs;rw[<-List.map_id e]
 exact TE λv m=>jD (g v m) f
def lq:rm cells (f+1) (.cell c)=Ur cells (rm cells f) (aB cells c):=if_neg acX
def gW(e:aB cells c=.list xs)(h:eJ xs):rm cells (f+1) (.cell c)=.list xs:=by
 rw[lq,e];exact v6 af.list (y7 h f)
def vr(e:aB cells c=.dict ks vs)(h:eJ vs):rm cells (f+1) (.cell c)=.dict ks vs:=by
 rw[lq,e];exact v6 (af.dict ks) (y7 h f)
def Fs{cells vs:ah}(e:aB cells c=.ji C d)(g:aB cells d=.attrs ns vs):rm cells (f+1) (.cell c)=.dJ C ns (vs.map (rm cells f)):=by
 rw[lq,e];show(match aB cells d with| .attrs ns vs=>af.dJ C ns (vs.map (rm cells f))|_=>.ae)=_;rw[g]
noncomputable def pc3(X:Cx)(a:bo)(c e:aS):ah:=[.attrs HW [.list (bM X a),.cell 2,.cell 3,.int (iY a),.list (e.map .int)],.ji (cA X "Program") 0,.list (nv (bV a a.length)),.dict (iv (bV a a.length)) (nv (List.range a.length)),.set c]
def nM l:(iv l).map af.int=nv l:=by refine aac.symm▸?_;rfl
def JJ e(g:zs=iv (aq a)):dz (pc3 X a e zs) (.cell 1)=aV X a:=by
 subst g;unfold dz;rw[Fs (cells:=pc3 X a e (iv (aq a))) (C:=cA X "Program") (ns:=HW) (c:=1) (d:=0) rfl rfl];show af.dJ _ _ [rm _ 5 _,rm _ 5 _,rm _ 5 _,rm _ 5 _,rm _ 5 _]=_;rw[jD (v:=.list (bM X a)) rH,gW (xs:=nv (bV a a.length)) rfl (me _),vr (ks:=iv (bV a a.length)) (vs:=nv (List.range a.length)) rfl (me _),jD (v:=.int (iY a)) rfl,nM,jD (v:=.list (nv (aq a))) (me _)];rfl
def bp(c:cy a):a.length<=aL:=by unfold cy at c;exact o0 (by assumption) (by decide)
def xt(c:cy a):(bM X a).length<=aL:=by refine fq▸?_;exact bp c
def Py(c:cy a):qv (bM X a) a.length:=⟨fq,bp c⟩
def Pz(z:Int):Dk a a.length z↔∃i∈aq a,z=(i:Int):=by
 constructor
 ·rintro(rfl|⟨j,t,e,c,g,rfl⟩)
  ·exact(ay 0 (dh.mpr iZ) rfl)
  ·refine(ay t (dh.mpr ?_) rfl)
   unfold dV;simp only[aaO];exact .inr (aak.mpr ⟨j,AT.mpr e,by simp only[c,g];simp⟩)
 ·rintro⟨i,e,rfl⟩
  haveI c:=dh.mp e;unfold dV at c;rw[aaO]at c;rcases c with c|c
  ·exact .inl (by haveI:=s5 c;lia)
  ·refine aj (aak.mp c) λj g h=>?_
   refine bJ h λq s=>?_;exact .inr (lF j i (AT.mp g) q (s5 s) rfl)
def Bz(T:Txt X)(L:bW n 5)(c:cy a):ba X n "Program" [.list (bM X a)] (λv=>v=aV X a):=by
 have q:bW (n-2) 3:=⟨by haveI:=L.1;lia,by haveI:=L.2;lia⟩;haveI A:bW (n-2) 1:=⟨o0 (by decide) q.1,q.2⟩
 refine JD T L pL (tm 22 rfl) rfl rfl (.tail _ (.head _)) [.p,.go,.go,.go,.l a.length [3] (inS X a),.n a.length,.n a.length,.go,.go,.stop] (by unfold eJ;refine(show(af.list (bM X a)).nc=true from rH).symm▸?_;rfl) rfl
  (kc (?_:cp X (n-2) (λ_ _=>False) jZ ⟨[.cell 1,.list (bM X a),.int (iY a),.ae,.cell 4],Te X a [0]⟩ (kR (λv x=>v=.none/\(dz x (.cell 1)).nc/\dz x (.cell 1)=aV X a)))
   (λ_ z=>A9 (xt (X:=X) c) (mP T) (mP T) (mP T) (mP T) (Py (X:=X) c) (⟨rfl,bp c⟩:jm (a.length:Nat) a.length) (Eq.refl (inS X a 0)) (qT (bp c) λk s=>Tb (X:=X) (n:=n-2) T A c s) (A1 (mP T) z)) (by kernel_rfl))
 refine wj [3] [.p,.n a.length] a.length (bp c) (kI λ_=>A3 (mP T) (xt (X:=X) c) (⟨v6 _ fq,bp c⟩:jm ((bM X a).length:Nat) a.length))
  (I2 X a) ⟨[0],by simp,λz=>by unfold Dk;simp,rfl⟩ (λk B s u=>cU u λg h j e=>e▸Tf T q c s h j) λB u=>?_
 refine cU u λg h j w=>?_;subst w;have y:dg g=iv (aq a):=iD h da λz=>(j z).trans (Pz z);refine a9 [.p] (kv (g.length<64/\PM X/\(af.none=.none/\(dz (pc3 X a g (dg g)) (.cell 1)).nc/\dz (pc3 X a g (dg g)) (.cell 1)=aV X a)) (DU (Fq c h j) (mP T) rfl ?_ (JJ g y)) (by kernel_rfl));refine(JJ g y)▸?_;exact cG
end
section
variable{X:Cx}{n k:Nat}{aa:bo}
def JK(v:af)(h:v.nc):eJ [v]:=by unfold eJ;rw[h];rfl
def BA(v u:af)(h:v.nc)(c:u.nc):eJ [v,u]:=by unfold eJ;simp only[h,JK u c];rfl
def jf(T:Txt X)(L:bW n 1)(c:cy aa):LL X n (cA X "Program") "count" [aV X aa] (.int aa.length):=
 US T L pM (tm 23 rfl) [.n aa.length] (JK _ cG) λ_=>A2 (mP T) (Py (X:=X) c)
def eP(T:Txt X)(L:bW n 4)(e:cy aa){i t:Nat}(h:tg aa i=some t):LL X n (cA X "Program") "target" [aV X aa,.int i] (.int t):=by
 refine aj (TD.mp h) λg j q=>?_;refine aj (TD.mp j) λr s u=>?_;have c:=Pw (X:=X) T (L.dn 3) e s u;exact US T L nE (tm 25 rfl) [.v (.int g),.v (.int t)] (BA _ _ cG rfl) λ_=>A5 (mP T) (mP T) c.has c (Fp q)
def rI(c:cy aa):(aq aa).length<=31:=by
 refine o0 (KT ..) ?_;refine x0▸?_;unfold cy at c;exact ac4 (by assumption)
def fw(c:cy aa):(nv (aq aa)).length<=aL:=by rw[aN];exact o0 (rI c) (by decide)
def Ft:0<(aq aa).length:=List.length_pos_of_mem (dh.mpr iZ)
def oQ{i j a b:Nat}(h:i<j)(c:(aq aa)[i]?=some a)(e:(aq aa)[j]?=some b):a<b:=by
 refine ar (wP.mp c) λg q=>?_;refine ar (wP.mp e) λs u=>?_;refine q▸?_;refine u▸?_;exact(List.pairwise_iff_getElem.mp da) i j g s h
def LU(c:(aq aa)[0]?=some a):a=0:=by
 obtain⟨j,g,e⟩:=XV (dh.mpr (iZ (aa:=aa)));rcases Nat.eq_zero_or_pos j with rfl|q
 ·rw[f0 g,e]at c;obtain rfl:=BT c;rfl
 ·haveI:=oQ q c (f0 g);lia
def Tg{i lo a:Nat}(g:(aq aa)[lo]?=some a)(w:a<=i)(h:∀b,(aq aa)[lo+1]?=some b->i<b):ao aa i=a:=by
 refine uo (dh.mp (wE g)) w λj z A=>?_;cases e:dV aa j with
 |false=>rfl
 |true=>
  obtain⟨p,s,y⟩:=XV (dh.mpr e);haveI c:=f0 s;rw[y]at c;rcases acN p (lo+1)with q|q|q
  ·rcases P3 p lo with u|u
   ·haveI:=oQ u c g;lia
   ·have:p=lo:=by lia
    subst this;obtain rfl:=(se (g) c).symm;lia
  ·subst q;haveI:=h _ c;lia
  ·obtain⟨x,v⟩:∃x,(aq aa)[lo+1]?=some x:=⟨_,f0 (abV q s)⟩
   have:=oQ q v c;haveI:=h _ v;lia
structure SoI(aa:List Rw)(i lo hi:Nat):Prop where
 lt:lo<hi
 le:hi<=(aq aa).length
 a:∀s,(aq aa)[lo]?=some s->s<=i
 b:∀s,(aq aa)[hi]?=some s->i<s
noncomputable def X3(X:Cx)(aa:bo)(i lo c:Nat):St:=⟨[aV X aa,.int i,.int lo,.int c,.ae],[]⟩
def ZT(c:cy aa):qv (nv (aq aa)) (aq aa).length:=⟨aN _,aN (aq aa)▸fw c⟩
def nN(T:Txt X)(L:bW n 1)(C:cy aa)(i:Nat):LL X n (cA X "Program") "sub_of" [aV X aa,.int i] (.int (ao aa i)):=by
 refine UT T L nG (tm 26 rfl) [.n (aq aa).length,.stop] (BA _ _ cG rfl) (λ_=>A2 (mP T) (ZT C)) (?_:cp X (n-1) (λ_ _=>False) jn (X3 X aa i 0 (aq aa).length) (cH λv=>v=.int (ao aa i)));refine Pe [4] (λm st=>∃lo g,st=X3 X aa i lo g/\SoI aa i lo g/\m=g-lo) (aq aa).length (uH 0 (aq aa).length rfl ⟨Ft,v0 _,λs h=>LU h▸SC _,λs h=>absurd (wP.mp h).1 (ac6 _)⟩ rfl) λm st D=>?_;refine gm D λlo g y H z=>?_;subst y z;clear D;have G:=fw C;obtain⟨a,A⟩:∃a,(aq aa)[lo]?=some a:=⟨_,f0 (UF H.lt H.le)⟩;refine⟨[],decide ((1:Int)<(g:Int)-lo),kT λ_=>id,λq=>?_,λq=>?_⟩
 ·have P:=s5 q
  have j:(lo+g)/2<g/\lo<(lo+g)/2:=by lia
  obtain⟨s,B⟩:∃s,(aq aa)[(lo+g)/2]?=some s:=⟨_,f0 (UF j.1 H.le)⟩;have I:=Fn B (aN (aq aa)▸G);cases c:decide ((s:Int)<=(i:Int))with
  |true=>exact raw [.y (.int s),.b true] (λ_=>A3 (mP T) I c) (⟨g-(lo+g)/2,Nat.sub_lt_sub_left H.lt j.2,(lo+g)/2,g,rfl,⟨j.1,H.le,λM e=>se B e▸acd.mp (s5 c),H.b⟩,rfl⟩:∃x,x<g-lo/\∃u w,X3 X aa i ((lo+g)/2) g=X3 X aa i u w/\SoI aa i u w/\x=w-u)
  |false=>exact raw [.y (.int s),.b false] (λ_=>A3 (mP T) I c) (⟨(lo+g)/2-lo,Nat.sub_lt_sub_right (KK j.2) j.1,lo,(lo+g)/2,rfl,⟨j.2,o0 (KK j.1) H.le,H.a,λM e=>se B e▸aaY.mp (Int.not_le.mp (GT c))⟩,rfl⟩:∃x,x<g-lo/\∃u w,X3 X aa i lo ((lo+g)/2)=X3 X aa i u w/\SoI aa i u w/\x=w-u)
 ·have O:g=lo+1:=by have:=GT q;have:=H.lt;lia
  exact raw [.y (.int a)] (λ_=>A2 (mP T) (Fn A (aN (aq aa)▸G))) (⟨rfl,by rw[Tg A (H.a _ A) (O▸H.b)]⟩:true/\af.int a=.int (ao aa i))
end
def eD(aa:bo):Prop:=∀i r,aa[i]?=some r->r.w.gN->∃t,tg aa i=some t
noncomputable def ck(aa:bo)(i:Nat):Nat:=(tg aa i).getD 0
noncomputable def succ(aa:bo)(i:Nat):aH:=match aa[i]? with
 |none=>[]
 |some r=>if r.w.ll then[]else if r.w.kF then[ck aa i]else if r.w.rY&&decide (ck aa i≠i+1)then[i+1,ck aa i]else[i+1]
noncomputable def cP(aa:bo)(b:Nat):Nat:=((aq aa).find? λs=>decide (b<s)).getD aa.length
section
variable{X:Cx}{n k:Nat}{g:bo}
def ef(c:eD g){r:Rw}(j:g[i]?=some r)(q:r.w.gN):tg g i=some (ck g i)/\ck g i<g.length:=by
 refine ar (c i r j q) λt h=>?_;haveI e:ck g i=t:=by unfold ck;refine h▸?_;rfl
 refine e▸?_;refine⟨h,?_⟩;refine aj (TD.mp h) λs _ u=>?_;exact(iC.mp u).1
def vt{w:W}(h:w.kF):w.gN:=by unfold W.gN;refine h.symm▸?_;rfl
def vu{w:W}(h:w.rY):w.gN:=by unfold W.gN;refine h.symm▸?_;simp
def jT{w:W}(h:w.eG):w.gN:=by unfold W.gN;refine h.symm▸?_;simp
def bW.le(h:bW n k) j(c:autoParam (j<=k) tDc):bW n j:=⟨o0 c h.1,h.2⟩
noncomputable def seS(X:Cx)(g:bo)(b:Nat):St:=⟨[aV X g,.int b,.ae],[]⟩
def rJ(T:Txt X)(L:bW n 1)(w:cy g)(b:Nat):LL X n (cA X "Program") "sub_end" [aV X g,.int b] (.int (cP g b)):=by
 refine UP T L lY (tm 27 rfl) rfl [.stop] (BA _ _ cG rfl) rfl (Ak [2] [] (nv (aq g)) (.list (nv (aq g))) (fw w) (kI λ_=>A1 (mP T)) (λk st=>(∀s∈(aq g).take k,¬b<s)/\st=seS X g b) ⟨λs h=>nl (List.take_zero▸h),rfl⟩ (λk B x C q=>?_) λB q=>?_)
 ·obtain⟨j,rfl⟩:=q
  refine aj (oF C) λs y u=>?_;subst u;refine⟨trivial,(?_:cp X (n-1) (λ_ _=>False) iM ((seS X g b).at 2 (.int s)) _)⟩;cases c:decide ((b:Int)<(s:Int))with
  |true=>
   have e:(aq g).find? (λs=>decide (b<s))=some s:=by
    refine List.find?_eq_some_iff_append.mpr ⟨FM (aaY.mp (s5 c)),(aq g).take k,(aq g).drop (k+1),?_,λa v=>by rw[SZ (j a v)];rfl⟩;refine ar (wP.mp y) λG D=>?_;simp only[<-D,List.getElem_cons_drop,acg]
   exact raw [.b true] (λ_=>A1 c) (⟨rfl,by unfold cP;rw[e];rfl⟩:true/\af.int s=.int (cP g b))
  |false=>exact raw [.b false] (λ_=>A1 c) (⟨λA h=>by
    rw[aaE,y]at h;rcases AC.mp h with h|h
    ·exact j A h
    ·obtain rfl:A=s:=by simpa using h
     exactλz=>GT c (aaY.mpr z),rfl⟩:(∀s∈(aq g).take (k+1),¬b<s)/\seS X g b=seS X g b)
 ·obtain⟨j,rfl⟩:=q
  rw[aN,SL (v0 _)]at j;exact⟨trivial,raw [.n g.length] (λ_=>A2 (mP T) (Py (X:=X) w)) (⟨rfl,by unfold cP;rw[List.find?_eq_none.mpr λa v=>by simpa using j a v];rfl⟩:true/\af.int g.length=.int (cP g b))⟩
def JL{a b:Nat}:(!decide ((a:Int)=(b:Int)+1))=decide (a≠b+1):=(v6 Bool.not (aci.mpr (Int.ofNat_inj (m:=a) (n:=b+1)))).trans decide_not.symm
def y8(T:Txt X)(L:bW n 5)(v:cy g)(y:eD g){i:Nat}(q:g[i]?=some r):sX X n "successors" [aV X g,.int i] (.list (nv (succ g i))):=by
 refine xB (qV (X:=X) q) λd f j m A _=>?_;have s:=sj v (lp q) A;have e:=rF (d:=d) (f:=f) (i:=j) (m:=m) T (L.dn 1) r.w;have h:=kG (d:=d) (f:=f) (i:=j) (m:=m) T (L.dn 2) r.w;have u:=l8 (d:=d) (f:=f) (i:=j) (m:=m) T (L.dn 3) r.w;have N:=BA _ (.int i) (cG (X:=X) (aa:=g)) rfl;have B:succ g i=if r.w.ll then[]else if r.w.kF then[ck g i]else if r.w.rY&&decide (ck g i≠i+1)then[i+1,ck g i]else[i+1]:=by unfold succ;rw[q]
 rw[B];clear B A;cases C:r.w.ll with
 |true=>
  rw[C]at e;exact uj T L gf (tm 29 rfl) [.y (bT X r.w d f j m),.v (.bool true)] N λ_=>A3 (mP T) s e
 |false=>
  rw[C]at e;cases w:r.w.kF with
  |true=>
   rw[w]at h;have ht:=eP (X:=X) T (L.dn 4) v (ef y q (vt w)).1;exact uj T L gf (tm 29 rfl) [.y (bT X r.w d f j m),.v (.bool false),.v (.bool true),.v (.int (ck g i))] N λ_=>A7 (mP T) s e h (mP T) ht.has ht
  |false=>
   rw[w]at h;cases x:r.w.rY with
   |false=>
    rw[x]at u;exact uj T L gf (tm 29 rfl) [.y (bT X r.w d f j m),.v (.bool false),.v (.bool false),.v (.bool false)] N λ_=>A5 (mP T) s e h u
   |true=>
    rw[x]at u;have ht:=eP (X:=X) T (L.dn 4) v (ef y q (vu x)).1;cases c:decide (ck g i≠i+1)with
    |false=>exact uj T L gf (tm 29 rfl) [.y (bT X r.w d f j m),.v (.bool false),.v (.bool false),.v (.bool true),.a,.v (.int (ck g i)),.b false] N λ_=>A9 (mP T) s e h u (mP T) ht.has ht (JL.trans c)
    |true=>exact uj T L gf (tm 29 rfl) [.y (bT X r.w d f j m),.v (.bool false),.v (.bool false),.v (.bool true),.a,.v (.int (ck g i)),.b true,.v (.int (ck g i))] N λ_ z=>A9 (mP T) s e h u (mP T) ht.has ht (JL.trans c) (A3 (mP T) ht.has ht z)
end
section
variable{X:Cx}{n k:Nat}{a:bo}
def Fu{N:Nat}:cB 0 (N:Int)=nv (List.range N):=by
 delta cB nv;refine(show((N:Int)-0).toNat=N from by lia).symm▸?_;exact TE λi _=>by rw[Int.zero_add]
def lu l:(af.list (nv l)).nc:=me l
def JM(c:cy a): -(aL:Int)<=((a.length:Nat):Int)/\((a.length:Nat):Int)<=aL:=by unfold cy at c;unfold aL;lia
def bW.lt(h:bW n (k+1)):n-1<100:=by haveI:=h.1;haveI:=h.2;lia
def jU(c:cy a):jm (a.length:Nat) a.length:=⟨rfl,bp c⟩
noncomputable def aJ(a:bo):aH:=(List.range a.length).filter (eG a)
def y9(c:cy a)(p:Nat->Bool):((List.range a.length).filter p).length<=aL:=o0 (KT ..) (by refine x0▸?_;exact bp c)
def mH(T:Txt X)(L:bW n 2)(c:cy a):sX X n "local_calls" [aV X a] (.list (nv (aJ a))):=
 have g:=jf (X:=X) T (L.dn 1) c
 Bx T L sd (tm 31 rfl) [.m (qg (Bw (eG a) λi=>.int i)) (nv (aJ a)),.v (.int a.length),.n a.length,.z] (JK _ cG) (lu _) λ_=>A6 L.lt (mP T) g.has g (jU c)
  (mG (X:=X) (n:=n-1) 2 kY (.aC 2) ⟨[aV X a,.ae,.ae],[]⟩ (eG a) (λi=>.int i) (λk=>[.y (aB (bM X a) k),.v (.bool (eG a k))]) rfl (bp c) λk h=>by
   have e:a[k]?=some a[k]:=f0 h;have hw:=yZ (X:=X) (λw d f i m=>dI (d:=d) (f:=f) (i:=i) (m:=m) T (L.dn 1) w) e;rw[<-eB e]at hw;exact kC λ_=>A3 (mP T) (sj (X:=X) c h rfl) hw)
end
section
inductive jM(E:Nat->List Nat)(a:Nat):Nat->Prop
 |refl:jM E a a
 |ik {b c:Nat}:jM E a b->c∈E b->jM E a c
noncomputable def uG(s:Nat->Bool)(j:Nat)(i:Nat):Bool:=decide (i=j)||s i
noncomputable def eQ(s:Nat->Bool)(N:Nat):Nat:=((List.range N).filter λi=> !s i).length
noncomputable def mf(c:(Nat->Bool)×aH)(j:Nat):(Nat->Bool)×aH:=match c.1 j with
 |true=>c
 |false=>(uG c.1 j,c.2++[j])
def ke:uG s j i=true↔i=j\/s i:=by unfold uG;simp
def HZ(h:s j=false)(u:j<N):eQ (uG s j) N+1=eQ s N:=by
 haveI g:∀N,eQ (uG s j) N+(if j<N then 1 else 0)=eQ s N:=by
  intro N;induction N with
  |zero=>rfl
  |succ N c=>
   unfold eQ at c⊢;simp only[aaK,acB,acB,sK,sK];rcases acN j N with q|q|q
   ·haveI e:uG s j N=s N:=by unfold uG;rw[SZ (by lia)];rfl
    rw[if_pos q]at c;rw[if_pos (by lia)];simp only[List.filter_cons,List.filter_nil,e];lia
   ·subst q
    haveI e:uG s j j:=ke.mpr (.inl rfl);rw[if_neg (by lia)]at c;rw[if_pos (by lia)];simp only[List.filter_cons,List.filter_nil,e,h];simp only[Bool.not_true,Bool.not_false,if_true,if_false,List.length_nil,WF,ac8];lia
   ·haveI e:uG s j N=s N:=by unfold uG;rw[SZ (by lia)];rfl
    rw[if_neg (by lia)]at c;rw[if_neg (by lia)];simp only[List.filter_cons,List.filter_nil,e];lia
 haveI:=g N;rwa[if_pos u]at this
def BB:∀(l:aH) (c:(Nat->Bool)×aH),(∀j∈l,j<N)->
  (∀i,(l.foldl mf c).1 i=true↔c.1 i\/i∈l)/\(∀i,i∈(l.foldl mf c).2↔i∈c.2\/(i∈l/\c.1 i=false))/\2*eQ (l.foldl mf c).1 N+(l.foldl mf c).2.length<=2*eQ c.1 N+c.2.length:=by
 intro l;induction l with
 |nil=>intro c _;exact(bH (λi=>by simp) (λi=>by simp) (v0 _))
 |cons j l x=>
  intro c h;refine cY (x (mf c j) λi y=>h i (.tail _ y)) λg s u=>?_;simp only[List.foldl_cons];unfold mf at g s u⊢;cases e:c.1 j with
  |true=>
   rw[e]at g s u;dsimp only at g s u⊢;refine(bH (λi=>(g i).trans ?_) (λi=>(s i).trans ?_) u)
   ·rw[EQ]
    exact⟨λq=>q.elim .inl λq=>.inr (.inr q),λq=>q.elim .inl λq=>q.elim (λq=>.inl (by rw[q];exact e)) .inr⟩
   ·rw[EQ]
    refine⟨λq=>q.elim .inl λq=>.inr ⟨.inr q.1,q.2⟩,λq=>q.elim .inl λq=>q.1.elim (λz=>?_) λz=>.inr ⟨z,q.2⟩⟩;rw[z,e]at q;exact absurd q.2 (by decide)
  |false=>
   rw[e]at g s u;dsimp only at g s u⊢;refine(bH (λi=>(g i).trans ?_) (λi=>(s i).trans ?_) ?_)
   ·rw[ke,EQ]
    exact⟨λq=>q.elim (λq=>q.elim (λq=>.inr (.inl q)) .inl) λq=>.inr (.inr q),λq=>q.elim (λq=>.inl (.inr q)) λq=>q.elim (λq=>.inl (.inl q)) .inr⟩
   ·rw[AC,u8,EQ]
    constructor
    ·rintro((q|q)|⟨v,w⟩)
     ·exact .inl q
     ·exact .inr ⟨.inl q,by rw[q];exact e⟩
     ·refine .inr ⟨.inr v,?_⟩
      cases z:c.1 i with
      |false=>rfl
      |true=>exact bx (ke.mpr (.inr z)) w
    ·rintro(q|⟨v|v,w⟩)
     ·exact .inl (.inl q)
     ·exact .inl (.inr v)
     ·refine wS (p:=i=j) (λz=>?_) (λz=>?_)
      ·exact .inl (.inr z)
      ·refine .inr ⟨v,?_⟩
       unfold uG;refine(SZ z).symm▸?_;refine w.symm▸?_;rfl
   ·haveI:=HZ e (h j (.head _))
    rw[sK,H1]at u;lia
def za{E:Nat->aH}{a:Nat}{s:Nat->Bool}(h0:s a)(c:∀i,s i->jM E a i)(e:∀i,s i->∀j∈E i,s j)(i:Nat):s i=true↔jM E a i:=
 ⟨c i,λh=>by
  induction h with
  |refl=>exact h0
  |ik _ m g=>exact e _ g _ m⟩
open Classical in
noncomputable def bF(E:Nat->aH)(a N:Nat):aH:=(List.range N).filter λi=>decide (jM E a i)
open Classical in
def BC(h:∀i,s i=true↔jM E a i):(List.range N).filter s=bF E a N:=by
 refine List.filter_congr λi _=>?_;haveI:=h i;cases e:s i with
 |true=>exact(FM (this.mp e)).symm
 |false=>exact(SZ λq=>by exact bx (this.mpr q) e).symm
noncomputable def bX(aa:bo)(i:Nat):aH:=succ aa i++if eG aa i then[ck aa i]else[]
def sk(aa:bo):Prop:=∀i<aa.length,∀j∈succ aa i,j<aa.length
def uq{aa:bo}(s:eD aa)(u:sk aa)(c:i<aa.length):∀j∈bX aa i,j<aa.length:=λj g=>by
 unfold bX at g;rcases AC.mp g with h|h
 ·exact u i c j h
 ·cases e:eG aa i with
  |false=>rw[e]at h;exact nl h
  |true=>
   rw[e]at h;haveI q:aa[i]?=some aa[i]:=f0 c;have:j=ck aa i:=by simpa using h
   refine this▸?_;exact(ef s q (jT (((eB q)).symm.trans e))).2
end
section
variable{X:Cx}{n k:Nat}{c:bo}
noncomputable def bv(s:Nat->Bool)(N:Nat):ah:=(List.range N).map λi=>.bool (s i)
def qW(s:Nat->Bool) N:(bv s N).length=N:=by unfold bv;simp
def PA(h:i<N):aB (bv s N) i=.bool (s i):=dZ (by unfold bv;simp only[FS,XL h];rfl)
def UW(h:i<(bv s N).length):(bv s N)[i]=.bool (s i):=by
 haveI:=PA (s:=s) (by rwa[qW]at h:i<N);unfold aB at this;rw[f0 h]at this;exact this
set_option tactic.hygienic true in
def H0:(bv s N).set j (.bool true)=bv (uG s j) N:=by
 refine List.ext_getElem (by simp only[abX,qW,qW]) λi e g=>?_;rw[List.getElem_set,UW,UW];split
 ·rename_i q;subst q;rw[ke.mpr (.inl rfl)]
 ·rename_i q
  unfold uG;rw[SZ (λz=>q z.symm)];rfl
def jF{L:ah}:aB (L++[x]) L.length=x:=by unfold aB;rw[GE (v0 _),aaR];rfl
def Fv{L:ah}(h:i<L.length):aB (L.set i x) i=x:=by unfold aB;refine(List.getElem?_set_self h)▸?_;rfl
def W4(e:cy c)(s:Nat->Bool):(bv s c.length).length<=aL:=by rw[qW];exact bp e
def ab9{st:St}{K:aR->St->Prop} q v(g:ah) src(S:Nat->St)(A:g.length<=aL)(B:HN X n it st v λC s u _=>C=g/\s=src/\u=st)(h0:fg q st=S 0)
  (w:∀k x,g[k]?=some x->eF src g (S k)/\gy t x (S k) λs=>zI X n R q b s (S (k+1))) (j:eF src g (S g.length)/\cp X n R r (S g.length) K):cp X n R (.cons (.du t it b) r) st K:=
 Ak q v g src A B (λk st=>st=S k) h0 (λk u x y e=>e▸⟨(w k x y).1,dH (w k x y).2 λs h=>b.ri h λD st z=>by
  cases D<;>first|exact z|exact z.elim⟩) λu e=>e▸j
noncomputable def PB(X:Cx)(c:bo)(J:ah)(e:(Nat->Bool)×aH)(a b:af):St:=⟨[aV X c,.cell 0,.cell 1,a,b,.ae,.ae,.ae,.ae,.ae],.list (bv e.1 c.length)::.list (nv e.2)::J⟩
def PC(s:Nat->Bool)(hN:N<=1000)(h:i<N):gR (.list (bv s N)) (.int i) (.bool (s i)):=⟨⟨IR _,by rw[qW];lia,(qW s N).symm▸dw hN⟩,PA h⟩
def PD(s:Nat->Bool) N j:af.list ((bv s N).set j (.bool true))=.list (bv (uG s j) N):=v6 _ H0
def BD(s:Nat->Bool)(hN:N<=1000)(h:i<N):(bv s N).length<=aL/\(0:Int)<=(i:Int)/\(i:Int)<((bv s N).length:Int):=by
 rw[qW];exact⟨dw hN,by lia,by lia⟩
def PE(s:cy c)(h:j<c.length)(hw:g.2.length<=aL):zI X n R [5] o5 ((PB X c J g a b).at 5 (.int j)) (PB X c J (mf g j) a b):=by
 have hN:c.length<=1000:=o0 s (by decide);have q:=PC g.1 hN h;unfold mf;cases e:g.1 j with
 |true=>exact rZ [.y (.bool true)] λ_=>A1 (e▸q)
 |false=>exact rZ [.y (.bool false),.p,.y (.list (bv (uG g.1 j) c.length)),.p,.y (.list (nv (g.2++[j])))] λ_=>A5 (e▸q) (BD g.1 hN h) (PD g.1 c.length j) ((aN g.2).symm▸hw:(nv g.2).length<=aL) (v6 af.list (ct g.2 [j]).symm)
end
section
variable{X:Cx}{n k:Nat}{aa:bo}
def BE{c:Type}{f:c->Nat->c}{l:aH}{k j:Nat}{a:c}(h:l[k]?=some j):(l.take (k+1)).foldl f a=f ((l.take k).foldl f a) j:=by
 simp only[aaE,h,List.foldl_append];rfl
structure PF(aa:List Rw)(s:Nat->Bool)(w:List Nat):Prop where
 zero:s 0=true
 ZU:∀i,s i->jM (bX aa) 0 i/\i<aa.length
 W5:∀i∈w,s i=true
 Zv:∀i,s i->i∉w->∀j∈bX aa i,s j=true
def PF.next(A:eD aa)(B:sk aa)(I:PF aa s (w++[a])):PF aa ((bX aa a).foldl mf (s,w)).1 ((bX aa a).foldl mf (s,w)).2/\
  2*eQ ((bX aa a).foldl mf (s,w)).1 aa.length+((bX aa a).foldl mf (s,w)).2.length<2*eQ s aa.length+(w++[a]).length:=by
 have v:=I.W5 a (AC.mpr (.inr (.head _)));have g:=uq A B (I.ZU a v).2;refine cY (BB (N:=aa.length) (bX aa a) (s,w) g) λc u C=>?_;refine⟨⟨(c 0).mpr (.inl I.zero),λi h=>?_,λi h=>?_,λi h x j y=>?_⟩,?_⟩
 ·rcases(c i).mp h with q|q
  ·exact I.ZU i q
  ·exact⟨.ik (I.ZU a v).1 q,g i q⟩
 ·rcases(u i).mp h with q|q
  ·exact(c i).mpr (.inl (I.W5 i (AC.mpr (.inl q))))
  ·exact(c i).mpr (.inr q.1)
 ·refine wS (p:=i=a) (λe=>?_) (λe=>?_)
  ·subst e;exact(c j).mpr (.inr y)
  ·cases q:s i with
   |true=>
    refine(c j).mpr (.inl (I.Zv i q (λm=>?_) j y));rcases AC.mp m with m|m
    ·exact x ((u i).mpr (.inl m))
    ·exact e (by simpa using m)
   |false=>
    rcases(c i).mp h with z|z
    ·rw[show s i=true from z]at q;exact Bool.noConfusion q
    ·exact absurd ((u i).mpr (.inr ⟨z,q⟩)) x
 ·simp only[sK]
  dsimp only at C;exact ac4 (by assumption)
def WI(X:Cx)(aa:bo)(m:Nat)(st:St):Prop:=∃s w J,st=PB X aa J (s,w) .ae .ae/\PF aa s w/\m=2*eQ s aa.length+w.length/\m<=100
def jg i:(succ aa i).length<=2:=by
 unfold succ;split
 ·exact SC _
 ·split
  ·exact SC _
  ·split
   ·exact aaU 1
   ·split
    ·exact v0 2
    ·exact aaU 1
def PG(T:Txt X)(L:bW n 5){K:aR->St->Prop}(B:cy aa)(C:eD aa)(G:sk aa)(I:PF aa s (w++[a]))(H:m=2*eQ s aa.length+(w++[a]).length)(M:m<=100):
  cp X n R jQ (PB X aa J (s,w++[a]) .ae .ae) (jC [3,4,5] (λst=>∃c,c<m/\WI X aa c st) K):=by
 have u:=(I.ZU a (I.W5 a (AC.mpr (.inr (.head _))))).2;refine aX (I.next C G) λU O=>?_;have e:aa[a]?=some aa[a]:=f0 u;have V:=y8 (X:=X) T L B C e;have hw:=yZ (X:=X) (λw d f i m=>dI (d:=d) (f:=f) (i:=i) (m:=m) T (L.le 1) w) e;rw[<-eB e]at hw;rw[sK,H1]at H;have Z:(nv (w++[a])).length<=aL:=by rw[aN,sK];exact dw (by simp only[H1];lia)
 have P:(nv (succ aa a)).length<=aL:=by rw[aN];exact o0 (jg a) (by decide)
 have v:=uq C G u
 have g:∀h:ah,aB h J.length=.list (nv (bX aa a))->(bX aa a).length<=3->cp X n R o6 (PB X aa h (s,w) (.int a) (.cell (J.length+2))) (jC [3,4,5] (λst=>∃c,c<m/\WI X aa c st) K):=λh hJ h3=>by
  have hl:(nv (bX aa a)).length<=aL:=by rw[aN];exact o0 h3 (by decide)
  refine ab9 [5] [] (nv (bX aa a)) (.cell (J.length+2)) (λk=>PB X aa h (((bX aa a).take k).foldl mf (s,w)) (.int a) (.cell (J.length+2))) hl (by show eZ (aB h J.length) _;rw[hJ];exact⟨rfl,rfl,rfl⟩) rfl (λk x hx=>aj (oF hx) λj Q D=>⟨hJ,?_⟩) ⟨hJ,?_⟩
  ·subst D
   rw[BE Q];have:=(BB (N:=aa.length) ((bX aa a).take k) (s,w) λi u=>v i (List.mem_of_mem_take u)).2.2;dsimp only at this;exact PE B (v j (wE Q)) (dw (by lia))
  ·rw[aN,SL (v0 _)]
   rw[sK,H1]at O;exact raw [] (λ_=>id) (⟨_,H▸O,_,_,h,rfl,U,rfl,by lia⟩:∃c,c<m/\WI X aa c (PB X aa h ((bX aa a).foldl mf (s,w)) .ae .ae))
 have A:=λ{p:Prop}=>A7 (p:=p) (ct w [a]) Z V P (Eq.refl (af.list (nv (succ aa a)))) (mP T) (sj (X:=X) B u rfl);cases q:eG aa a with
 |false=>
  rw[q]at hw;have y:bX aa a=succ aa a:=by unfold bX;rw[q];exact aa1 _
  exact raw [.w (nv w) (.int a),.v (.list (nv (succ aa a))),.p,.y (.list (nv (succ aa a))),.y (aB (bM X aa) a),.v (.bool false),.stop] (λ_ z=>A (A1 hw z)) (g (J++[af.list (nv (succ aa a))]) (by rw[y];exact jF) (by rw[y];exact o0 (jg a) (by decide)))
 |true=>
  rw[q]at hw;have ht:=eP (X:=X) T (L.le 4) B (ef C e (jT (((eB e)).symm.trans q))).1;have y:bX aa a=succ aa a++[ck aa a]:=by unfold bX;rw[q];rfl
  exact raw [.w (nv w) (.int a),.v (.list (nv (succ aa a))),.p,.y (.list (nv (succ aa a))),.y (aB (bM X aa) a),.v (.bool true),.a,.x (.list (nv (succ aa a))),.v (.int (ck aa a)),.x (.list (nv (succ aa a))),.p,.y (.list (nv (bX aa a))),.stop]
   (λ_ z=>A (A8 hw (jF (L:=J) (x:=.list (nv (succ aa a)))) (mP T) ht.has ht (jF (L:=J) (x:=.list (nv (succ aa a)))) P (by rw[y,ct];rfl:af.list (nv (succ aa a)++[.int (ck aa a)])=.list (nv (bX aa a))) z))
   (g ((J++[af.list (nv (succ aa a))]).set J.length (af.list (nv (bX aa a)))) (Fv (by rw[sK];exact W1 _)) (by rw[y,sK];exact Nat.add_le_add (jg a) (v0 _)))
end
section
variable{X:Cx}{n k:Nat}{b:bo}
def BF(s:Nat->Bool) N:eQ s N<=N:=by exact o0 (KT ..) (by refine x0▸?_;exact v0 _)
def qX(T:Txt X)(L:bW n 6)(c:cy b)(B:eD b)(C:sk b)(h0:0<b.length):sX X n "reachable" [aV X b] (.list (nv (bF (bX b) 0 b.length))):=by
 have e:=jf (X:=X) T (L.dn 1) c;have hN:b.length<=1000:=o0 c (by decide)
 have D:o4 X (n-1) (.dA 7) .nil m3 ⟨[aV X b,.ae,.ae,.ae,.ae,.ae,.ae,.ae,.ae,.ae],[]⟩ (bM X b) (λ_=>[.bool false]) (bv (λ_=>false) b.length):=⟨rfl,λx Q=>HP (kE (o:=[]) (v:=.bool false) λ_=>id) rfl,by
  rw[<-fq (X:=X)];unfold bv;rw[List.map_const',x0];induction bM X b with
  |nil=>rfl
  |cons a l G=>rw[abN,G];rfl,W4 c _⟩
 refine nL T L v7 (tm 32 rfl) [.m (λ_=>[.bool false]) (bv (λ_=>false) b.length),.p,.y (.list (bv (uG (λ_=>false) 0) b.length)),.go,.stop] (JK _ cG) (λ_=>A5 L.lt (mP T) D (BD (λ_=>false) hN h0) (PD (λ_=>false) b.length 0))
  (?_:cp X (n-1) (λ_ _=>False) o7 (PB X b [] (uG (λ_=>false) 0,[0]) .ae .ae) (cH λv=>v=.list (nv (bF (bX b) 0 b.length))))
 have U:=BF (uG (λ_=>false) 0) b.length;have u:∀i,uG (λ_=>false) 0 i->i=0:=λi h=>(ke.mp h).elim id λq=>Bool.noConfusion q;have y:uG (λ_=>false) 0 0:=ke.mpr (.inl rfl);refine UR [3,4,5] (WI X b) (2*eQ (uG (λ_=>false) 0) b.length+1) ⟨_,[0],[],rfl,⟨y,λi g=>by rw[u i g];exact⟨.refl,h0⟩,λi g=>u8.mp g▸y,λi g H=>absurd (u i g▸ .head _) H⟩,rfl,by unfold cy at c;lia⟩ λm st M=>?_;obtain⟨s,w,J,rfl,I,z,j⟩:=M;have O:(nv w).length<=aL:=by rw[aN];exact dw (by lia)
 refine⟨[],kc (?_:rB (!(nv w).isEmpty) (cp X (n-1) (λ_ _=>False) jQ (PB X b J (s,w) .ae .ae) (jC [3,4,5] (λst=>∃A,A<m/\WI X b A st) (mF X (n-1) (λ_ _=>False) gK (cH λv=>v=.list (nv (bF (bX b) 0 b.length))))))
  (cp X (n-1) (λ_ _=>False) gK (PB X b J (s,w) .ae .ae) (cH λv=>v=.list (nv (bF (bX b) 0 b.length))))) (λ_=>A1 O) (by kernel_rfl)⟩
 rcases List.eq_nil_or_concat w with rfl|⟨w,a,rfl⟩
 ·have E:=mG (X:=X) (n:=n-1) 9 m4 (.aC 9) (PB X b J (s,[]) .ae .ae) (N:=b.length) s (λi=>.int i) (λk=>[.y (.bool (s k))]) rfl (bp c) λk P=>kC λ_=>A1 (PC s hN P)
  rw[BC (za I.zero (λi h=>(I.ZU i h).1) λi h=>I.Zv i h (λh=>nl h))]at E;exact Pf [.m (qg (Bw s λi=>.int i)) (nv (bF (bX b) 0 b.length)),.v (.int b.length),.n b.length,.z] (lu _) λ_=>A6 L.lt (mP T) e.has e (jU c) E
 ·rw[List.concat_eq_append]at I z⊢
  rw[show(!(nv (w++[a])).isEmpty)=true by rw[ct];unfold nv;simp];exact PG T (L.dn 5) c B C I z j
end
section
variable{X:Cx}{n k:Nat}{aa:bo}
noncomputable def pv(p:Nat->aH)(N:Nat):ah:=(List.range N).map λi=>.list (nv (p i))
noncomputable def cv(N:Nat):ah:=(List.range N).map λi=>.cell i
noncomputable def UX(p:Nat->aH)(j a i:Nat):aH:=if i=j then p i++[a]else p i
def H2(p:Nat->aH) N:(pv p N).length=N:=by unfold pv;simp
def PH N:(cv N).length=N:=by unfold cv;simp
def PJ(h:i<N):aB (pv p N++l) i=.list (nv (p i)):=by
 unfold aB;rw[aar (by simp only[H2];exact h)];unfold pv;rw[FS,XL h];rfl
def JN:aB (pv p N++[x]) N=x:=by
 haveI:=jF (L:=pv p N) (x:=x);rwa[H2]at this
def W6(h:i<N):aB (cv N) i=.cell i:=dZ (by refine FS▸?_;refine(XL h)▸?_;rfl)
def W7(c:j<N):(pv p N++l).set j (.list (nv (p j)++[.int a]))=pv (UX p j a) N++l:=by
 rw[List.set_append_left _ _ (by simp only[H2];exact c)];congr 1;refine List.ext_getElem? λi=>?_;unfold pv;simp only[List.getElem?_set,FS,FS];refine wS (p:=j=i) (λq=>?_) (λq=>?_)
 ·subst q
  rw[if_pos rfl,v4,x0,if_pos c,XL c];show _=some (af.list (nv (UX p j a j)));unfold UX;rw[if_pos rfl,ct];rfl
 ·rw[if_neg q]
  rcases P3 i N with h|h
  ·rw[XL h]
   show some (af.list (nv (p i)))=some (af.list (nv (UX p j a i)));unfold UX;rw[if_neg (λz=>q z.symm)]
  ·rw[aaI (x0▸h)];rfl
def UY(p:Nat->aH) N:dz (pv p N++[.list (cv N)]) (.cell N)=.list (pv p N):=by
 unfold dz;rw[lq,JN];refine v6 af.list ?_;unfold cv;rw[aac];refine TE λi c=>?_;exact gW (PJ (AT.mp c)) (me _)
noncomputable def dW(aa:bo)(k i:Nat):aH:=(List.range k).filter λdA=>decide (i∈succ aa dA)
set_option tactic.hygienic true in
def H3 i:(succ aa i).Nodup:=by
 unfold succ;split
 ·exact .nil
 ·split
  ·exact .nil
  ·split
   ·simp
   ·split
    ·rename_i r e g h c
     have:ck aa i≠i+1:=by simpa using(a2 c).2
     exact TT.mpr ⟨by simp;exactλq=>this q.symm,by simp⟩
    ·simp
noncomputable def PK(X:Cx)(aa:bo)(p:Nat->aH):St:=⟨[aV X aa,.cell aa.length,.ae,.ae,.ae,.ae],pv p aa.length++[.list (cv aa.length)]⟩
noncomputable def pk(aa:bo)(a k i:Nat):aH:=dW aa a i++if i∈(succ aa a).take k then[a]else[]
def Th a:pk aa a 0=dW aa a:=funext λi=>aa1 _
def W8 a:pk aa a (succ aa a).length=dW aa (a+1):=funext λi=>by
 unfold pk dW;rw[SL (v0 _),aaK,acB];congr 1;by_cases q:i∈succ aa a
 ·rw[if_pos q,List.filter_cons_of_pos (by exact FM q)];rfl
 ·rw[if_neg q,List.filter_cons_of_neg (by rw[SZ q];decide)];rfl
def Ti(e:(succ aa a)[k]?=some j):pk aa a (k+1)=UX (pk aa a k) j a:=funext λi=>by
 have h:j∉(succ aa a).take k:=λm=>by
  obtain⟨i,c,g⟩:=XV m;rw[List.getElem_take]at g;refine ar (wP.mp e) λs u=>?_;rw[acK]at c;exact List.pairwise_iff_getElem.mp (List.nodup_iff_pairwise_ne.mp (H3 (aa:=aa) a)) i k (UF c (Nat.min_le_right ..)) s (UF c (Nat.min_le_left ..)) (g.trans u.symm)
 unfold UX pk;rw[aaE,e];by_cases q:i=j
 ·subst q
  rw[if_pos rfl,if_neg h,if_pos (by simp),aa1]
 ·rw[if_neg q]
  congr 1;have:(i∈(succ aa a).take k++(some j).toList)=(i∈(succ aa a).take k):=by simp[q]
  simp only[this]
def PL{R:Str->ah->Prop}(e:cy aa){p:Nat->aH}{a j:Nat}(c:j<aa.length)(h:(p j).length<=aL):zI X n R [3] kW (((PK X aa p).at 2 (.int a)).at 3 (.int j)) ((PK X aa (UX p j a)).at 2 (.int a)):=by
 have g:aB (pv p aa.length++[.list (cv aa.length)]) j=.list (nv (p j)):=PJ c;unfold PK;rw[<-W7 c];exact rZ [.x (.list (cv aa.length)),.y (.cell j),.x (.list (nv (p j))),.x (.list (nv (p j))),.p] λ_=>A5 (JN (p:=p) (N:=aa.length) (x:=.list (cv aa.length))) (⟨⟨IR _,(PH aa.length).symm▸aaY.mpr c,(PH aa.length).symm▸bp e⟩,W6 c⟩:gR (.list (cv aa.length)) (.int j) (.cell j)) g g ((aN (p j)).symm▸h:(nv (p j)).length<=aL)
def PN(T:Txt X)(L:bW n 5)(c:cy aa)(h:eD aa)(q:sk aa)(e:a<aa.length):zI X n R [2,3] kX ((PK X aa (dW aa a)).at 2 (.int a)) (PK X aa (dW aa (a+1))):=by
 have hN:aa.length<=30:=c;rw[<-W8,<-Th]
 exact rZ [.l (succ aa a).length [3] (λk=>(PK X aa (pk aa a k)).at 2 (.int a)),.v (.list (nv (succ aa a)))] λ_=>A3 (y8 (X:=X) T L c h (f0 e)) (Eq.refl ((PK X aa (pk aa a 0)).at 2 (.int a)))
  (JC (R:=R) (S:=λk=>(PK X aa (pk aa a k)).at 2 (.int a)) rfl (o0 (jg a) (by decide)) λk j g=>by
   rw[Ti g];refine PL (X:=X) (n:=n) c (q a e j (wE g)) ?_;unfold pk;rw[sK];have:(dW aa a j).length<=a:=o0 (KT ..) (x0▸v0 _);have:(if j∈(succ aa a).take k then[a]else[]).length<=1:=by split<;>simp
   exact dw (by lia))
def Tj(T:Txt X)(L:bW n 6)(c:cy aa)(g:eD aa)(h:sk aa):sX X n "predecessors" [aV X aa] (.list (pv (dW aa aa.length) aa.length)):=by
 have e:=jf (X:=X) T (L.dn 1) c
 have E:(⟨[aV X aa,.cell (List.replicate (bM X aa).length (af.list [])).length,.ae,.ae,.ae,.ae],List.replicate (bM X aa).length (af.list [])++[.list ((List.range (bM X aa).length).map λi=>.cell (0+i))]⟩:St)=PK X aa (dW aa 0):=by
  rw[fq,List.length_replicate,show(List.range aa.length).map (λi=>af.cell (0+i))=cv aa.length from TE λi _=>by rw[Nat.zero_add],show List.replicate aa.length (af.list [])=pv (dW aa 0) aa.length by unfold pv;rw[show(λi=>af.list (nv (dW aa 0 i)))=λ_=>af.list []from rfl,List.map_const',x0]];rfl
 exact nL T L qO (tm 30 rfl) [.p,.l aa.length [2,3] (λk=>PK X aa (dW aa k)),.v (.int aa.length),.n aa.length] (JK _ cG) (λ_ z=>A9 L.lt (mP T) (xt (X:=X) c) (mP T) e.has e (jU c) E (qT (R:=λ_ _=>False) (S:=λk=>PK X aa (dW aa k)) (bp c) λk j=>PN (X:=X) (n:=n-1) T (L.dn 5) c g h j) z)
  (⟨by rw[UY];exact d0 (f:=λi=>af.list (nv (dW aa aa.length i))) (λ_=>me _) _,UY _ _⟩:(dz (pv (dW aa aa.length) aa.length++[.list (cv aa.length)]) (.cell aa.length)).nc/\dz (pv (dW aa aa.length) aa.length++[.list (cv aa.length)]) (.cell aa.length)=.list (pv (dW aa aa.length) aa.length))
end
noncomputable def W.jb(w:W):Bool:=w.kF||w.rY
section
variable{X:Cx}{n k:Nat}{l:bo}
structure ur(X:Cx)(n:Nat)(l:List Rw)(i:Nat)(w:W)(V:af):Prop where
 at_:aB (bM X l) i=V
 ex:ba X n "is_exit" [V] (λv=>v=.bool w.ll)
 j:ba X n "is_jump" [V] (λv=>v=.bool w.kF)
 b:ba X n "is_branch" [V] (λv=>v=.bool w.rY)
 c:ba X n "is_local_call" [V] (λv=>v=.bool w.eG)
 g:ba X n "has_goal" [V] (λv=>v=.bool w.gN)
def ZV(T:Txt X)(L:bW n 4){r:Rw}(c:l[i]?=some r):∃d f j m,ur X n l i r.w (bT X r.w d f j m):=by
 refine xB (qV (X:=X) c) λd f j m e _=>?_;exact⟨d,f,j,m,e,rF T (L.le 1) _,kG T (L.le 2) _,l8 T (L.le 3) _,dI T (L.le 1) _,yT T L _⟩
def ur.exq{i:Nat}{w:W}(h:ur X n l i w V){b:Bool}(q:w.ll=b):ba X n "is_exit" [V] (λv=>v=.bool b):=q▸h.ex
def ur.jq{i:Nat}{w:W}(h:ur X n l i w V){b:Bool}(q:w.kF=b):ba X n "is_jump" [V] (λv=>v=.bool b):=q▸h.j
def ur.bq{i:Nat}{w:W}(h:ur X n l i w V){b:Bool}(q:w.rY=b):ba X n "is_branch" [V] (λv=>v=.bool b):=q▸h.b
noncomputable def W9(X:Cx)(l:bo)(c:aS):St:=⟨[aV X l,.cell 0,.ae,.ae,.ae,.ae,.ae],[.set c]⟩
noncomputable def bl2(X:Cx)(l:bo)(a:Nat)(V:af)(c:aS):St:=⟨[aV X l,.cell 0,.int a,V,.ae,.ae,.ae],[.set c]⟩
def LV(T:Txt X)(L:bW n 4)(v:cy l)(y:eD l){K:aR->St->Prop}{r:Rw}(w:l[a]?=some r)(O:ur X n l a r.w (bT X r.w d f j m)){s:aS}(A:s.length<64)(B:s.Nodup)
  (h:∀c:aS,c.Nodup->(∀z,z∈c↔z∈s\/(r.w.jb/\z=(ck l a:Nat)))->cp X n R gE (bl2 X l a (bT X r.w d f j m) c) K):cp X n R tL ((W9 X l s).at 2 (.int a)) K:=by
 have x:=sj v (lp w) O.at_;have go:r.w.jb->∀c:aS,c.Nodup->(∀z,z∈c↔z∈s\/z=(ck l a:Nat))->cp X n R gE (bl2 X l a (bT X r.w d f j m) c) K:=λq c C D=>h c C λz=>(D z).trans (or_congr Iff.rfl ⟨λe=>⟨q,e⟩,λq=>q.2⟩);cases g:r.w.kF with
 |true=>
  have ht:=eP (X:=X) T L v (ef y w (vt g)).1;exact raw [.y (bT X r.w d f j m),.v (.bool true),.a,.v (.int (ck l a)),.p,.stop] (λ_=>A7 (mP T) x (O.jq g) (mP T) ht.has ht A) (go (by unfold W.jb;rw[g];rfl))
 |false=>
  cases u:r.w.rY with
  |true=>
   have ht:=eP (X:=X) T L v (ef y w (vu u)).1;exact raw [.y (bT X r.w d f j m),.v (.bool false),.a,.v (.bool true),.a,.v (.int (ck l a)),.p,.stop] (λ_=>A8 (mP T) x (O.jq g) (O.bq u) (mP T) ht.has ht A) (go (by unfold W.jb;rw[g,u];rfl))
  |false=>exact raw [.y (bT X r.w d f j m),.v (.bool false),.a,.v (.bool false),.a,.stop] (λ_=>A4 (mP T) x (O.jq g) (O.bq u)) (h s B λz=>⟨.inl,λq=>q.elim id λq=>by have:=q.1;unfold W.jb at this;rw[g,u]at this;exact Bool.noConfusion this⟩)
def LW(T:Txt X)(L:bW n 4)(D:cy l){R:Str->ah->Prop}{I:St->Prop}{K:aR->St->Prop}{a:Nat}{r:Rw}{d f j m:Int}(O:ur X n l a r.w (bT X r.w d f j m)){s:aS}(y:s.length<64)(G:s.Nodup)
  (h:∀g:aS,g.Nodup->(∀z,z∈g↔z∈s\/((r.w.jb||r.w.ll)/\a+1<l.length/\z=(a:Int)+1))->I (W9 X l g)):cp X n R gE (bl2 X l a (bT X r.w d f j m) s) (jC [2,3] I K):=by
 have w:=jf (X:=X) T (L.le 1) D;have C:(r.w.jb||r.w.ll)=false\/¬(a+1<l.length)->I (W9 X l s):=λq=>h s G λz=>⟨.inl,λu=>u.elim id λu=>q.elim (λq=>bx u.1 q) λq=>absurd u.2.1 q⟩;have n2:decide ((a:Int)+1<(l.length:Int))=false->I (W9 X l s):=λc=>C (.inr λq=>GT c (aaY.mpr q));have B:(r.w.jb||r.w.ll)->decide ((a:Int)+1<(l.length:Int))->∀g:aS,g.Nodup->(∀z,z∈g↔z∈s\/z=(a:Int)+1)->I (W9 X l g):=λH M g P Q=>h g P λz=>(Q z).trans (or_congr Iff.rfl ⟨λq=>⟨H,aaY.mp (s5 M),q⟩,λq=>q.2.2⟩);have A:=λ{p:Prop} (c:Bool) (q:decide ((a:Int)+1<(l.length:Int))=c)=>A4 (p:=p) (mP T) w.has w q;cases e:r.w.kF with
 |true=>
  cases c:decide ((a:Int)+1<(l.length:Int))with
  |true=>exact raw [.v (.bool true),.a,.v (.int l.length),.b true,.p] (λ_ z=>A1 (O.jq e) (A true c (A1 y z))) (B (by unfold W.jb;rw[e];rfl) c)
  |false=>exact raw [.v (.bool true),.a,.v (.int l.length),.b false] (λ_ z=>A1 (O.jq e) (A false c z)) (n2 c)
 |false=>
  cases v:r.w.rY with
  |true=>
   cases c:decide ((a:Int)+1<(l.length:Int))with
   |true=>exact raw [.v (.bool false),.a,.v (.bool true),.a,.v (.int l.length),.b true,.p] (λ_ z=>A2 (O.jq e) (O.bq v) (A true c (A1 y z))) (B (by unfold W.jb;rw[e,v];rfl) c)
   |false=>exact raw [.v (.bool false),.a,.v (.bool true),.a,.v (.int l.length),.b false] (λ_ z=>A2 (O.jq e) (O.bq v) (A false c z)) (n2 c)
  |false=>
   cases x:r.w.ll with
   |true=>
    cases c:decide ((a:Int)+1<(l.length:Int))with
    |true=>exact raw [.v (.bool false),.a,.v (.bool false),.a,.v (.bool true),.a,.v (.int l.length),.b true,.p] (λ_ z=>A3 (O.jq e) (O.bq v) (O.exq x) (A true c (A1 y z))) (B (by unfold W.jb;rw[e,v,x];rfl) c)
    |false=>exact raw [.v (.bool false),.a,.v (.bool false),.a,.v (.bool true),.a,.v (.int l.length),.b false] (λ_ z=>A3 (O.jq e) (O.bq v) (O.exq x) (A false c z)) (n2 c)
   |false=>exact raw [.v (.bool false),.a,.v (.bool false),.a,.v (.bool false),.a] (λ_=>A3 (O.jq e) (O.bq v) (O.exq x)) (C (.inl (by unfold W.jb;rw[e,v,x];rfl)))
def Fw{w:W}(h:w.jb=b):fF .In (.str w.str) (.tuple ((["branch","short","jump","far"]:dT).map af.str)) b:=h▸S7 _ W.jb (by kernel_rfl) w
def H4{w:W}(h:(w.jb||w.ll)=b):fF .In (.str w.str) (.tuple ((["branch","short","jump","far","exit"]:dT).map af.str)) b:=h▸S7 _ (λw=>w.jb||w.ll) (by kernel_rfl) w
end
noncomputable def Ri(aa:bo)(i:Nat)(p:W->Bool):Bool:=match aa[i]? with
 |some r=>p r.w
 |none=>false
noncomputable def Al(aa:bo)(i:Nat):Bool:=dV aa i||(List.range aa.length).any λj=>(Ri aa j W.jb&&decide (ck aa j=i))||(Ri aa j (λw=>w.jb||w.ll)&&decide (j+1=i))
noncomputable def dN(aa:bo):aH:=(List.range aa.length).filter (Al aa)++[aa.length]
noncomputable def jh(l:aH):ah:=(List.range (l.length-1)).map λs=>.tuple [.int (l.getD s 0:Nat),.int (l.getD (s+1) 0:Nat)]
section
variable{X:Cx}{n k:Nat}{b:bo}
def vw{r:Rw}(h:b[i]?=some r)(p:W->Bool):Ri b i p=p r.w:=by unfold Ri;rw[h]
def mkK(b:bo)(k:Nat)(z:Int):Prop:=∃i:Nat,z=i/\i<b.length/\(dV b i\/∃j<k,(Ri b j W.jb/\ck b j=i)\/(Ri b j (λw=>w.jb||w.ll)/\j+1=i))
def Dl{k:Nat}{c:aS}(e:cy b)(g:c.Nodup)(h:∀z,z∈c->z=0\/∃i:Nat,z=i/\i<b.length):c.length<64:=by
 haveI:=fu (m:=iv (List.range (b.length+1))) g λz j=>by
  rcases h z j with rfl|⟨i,rfl,q⟩
  ·exact FB.mpr (ay 0 (AT.mpr (Nat.succ_pos _)) rfl)
  ·exact FB.mpr (ay i (AT.mpr (aaQ q)) rfl)
 rw[fj,x0]at this;unfold cy at e;lia
def JO{w:W}(h:w.jb):w.gN:=by
 unfold W.jb at h;rcases aaV.mp h with q|q
 ·exact vt q
 ·exact vu q
def Fx l:(af.list (jh l)).nc:=d0 (f:=λs=>af.tuple [.int (l.getD s 0:Nat),.int (l.getD (s+1) 0:Nat)]) (λ_=>rfl) _
def PO(T:Txt X)(L:bW n 5)(x:cy b)(U:eD b)(h0:0<b.length):sX X n "blocks" [aV X b] (.list (jh (dN b))):=by
 have y:=jf (X:=X) T (L.dn 1) x
 refine nL T L Fi (tm 37 rfl) [.i (iv (aq b)),.stop] (JK _ cG) (λ_=>A3 (mP T) (nM (aq b)).symm (by rw[fj];exact IN (rI x) (by decide):(iv (aq b)).length<64))
  (λu B C=>?_:∀u:aS,u.Nodup->(∀z,z∈u↔z∈iv (aq b))->cp X (n-1) (λ_ _=>False) tM (W9 X b u) (cH λv=>v=.list (jh (dN b))))
 refine wj [2,3] [.v (.int b.length),.n b.length] b.length (bp x) (kI λ_=>A4 (mP T) y.has y (jU x))
  (λk st=>∃u,u.Nodup/\(∀z,z∈u↔mkK b k z)/\st=W9 X b u) ⟨u,B,λz=>(C z).trans ?_,rfl⟩ (λa aY hk V=>?_) λaY V=>?_
 ·unfold iv
  rw[FB];constructor
  ·rintro⟨i,c,rfl⟩
   haveI g:=dh.mp c;exact(dC i rfl ((yX g).elim (λq=>q▸h0) id) (.inl g))
  ·rintro⟨i,rfl,_,c|⟨j,g,_⟩⟩
   ·exact(ay i (dh.mpr c) rfl)
   ·lia
 ·refine cU V λu B C D=>?_
  subst D;have e:b[a]?=some b[a]:=f0 hk;refine ML (ZV (X:=X) T (L.dn 4) e) λd f j m O=>?_;have Q:∀z,z∈u->z=0\/∃i:Nat,z=i/\i<b.length:=λz H=>by refine cU ((C z).mp H) λi c g _=>?_;exact .inr ⟨i,c,g⟩
  refine LV T (L.dn 4) x U e O (Dl (k:=a) x B Q) B λzs Z H=>?_
  have b2:∀z,z∈zs->z=0\/∃i:Nat,z=i/\i<b.length:=λz q=>by
   rcases(H z).mp q with q|⟨q1,q2⟩
   ·exact Q z q
   ·exact .inr ⟨_,q2,(ef U e (JO q1)).2⟩
  refine LW T (L.dn 4) x O (Dl (k:=a) x Z b2) Z λus nu hu=>(dC us nu (λz=>(hu z).trans ?_) rfl);simp only[H z,C z];constructor
  ·rintro((⟨i,c,g,A|⟨j,G,w⟩⟩|⟨c,g⟩)|⟨c,g,A⟩)
   ·exact(dC i c g (.inl A))
   ·exact⟨i,c,g,.inr (ay j (by lia) w)⟩
   ·exact(dC _ g ((ef U e (JO c)).2) (.inr ⟨a,W1 a,.inl ⟨by rw[vw e];exact c,rfl⟩⟩))
   ·exact⟨a+1,A,g,.inr (ay a (W1 a) (.inr ⟨by rw[vw e];exact c,rfl⟩))⟩
  ·rintro⟨i,c,g,A|⟨j,G,w⟩⟩
   ·exact .inl (.inl (dC i c g (.inl A)))
   ·rcases P3 j a with q|q
    ·exact .inl (.inl ⟨i,c,g,.inr (ay j q w)⟩)
    ·have:j=a:=by lia
     subst this;rcases w with⟨w,I⟩|⟨w,I⟩
     ·rw[vw e]at w;exact .inl (.inr ⟨w,by simp only[c,I]⟩)
     ·rw[vw e]at w;exact .inr ⟨w,by lia,by simp only[c,<-I];rfl⟩
 ·refine cU V λu B C D=>?_
  subst D;have Q:u.length<64:=Dl (k:=b.length) x B λz H=>by refine cU ((C z).mp H) λi c g _=>?_;exact .inr (ay i c g)
  have M:dg u=iv ((List.range b.length).filter (Al b)):=iD B (acP _ acL) λz=>by
   rw[C z];constructor
   ·rintro⟨i,c,g,A⟩
    refine(ay i (IO.mpr ⟨AT.mpr g,?_⟩) c);unfold Al;rw[aaO];refine A.imp id λzz=>aj zz λj G w=>aak.mpr (ay j (AT.mpr G) ?_);rw[aaO];exact w.imp (λh=>by refine h.1.symm▸?_;refine(FM h.2).symm▸?_;rfl) λh=>by refine h.1.symm▸?_;refine(FM h.2).symm▸?_;rfl
   ·rintro⟨i,c,g⟩
    refine aX (IO.mp c) λA G=>?_;refine(dC i g (AT.mp A) ?_);unfold Al at G;rw[aaO]at G;refine G.imp id λh=>?_;refine aj (aak.mp h) λj w I=>?_;rw[aaO]at I;exact(ay j (AT.mp w) (I.imp (λh=>⟨(a2 h).1,s5 (a2 h).2⟩) λh=>⟨(a2 h).1,s5 (a2 h).2⟩))
  have P:(dN b).length<=aL:=by unfold dN;rw[sK];have:=KT (Al b) (List.range b.length);rw[x0]at this;unfold cy at x;exact dw (by simp only[H1];lia)
  have hep:0<(dN b).length:=by unfold dN;rw[sK];exact Nat.succ_pos _
  exact Pf [.p,.y (.list (nv ((List.range b.length).filter (Al b)))),.v (.int b.length),.p,.y (.list (nv (dN b))),.m (qg λs=>[.tuple [.int ((dN b).getD s 0:Nat),.int ((dN b).getD (s+1) 0:Nat)]]) (jh (dN b)),.n (dN b).length,.n ((dN b).length-1),.z] (Fx _)
   λ_ z=>A9 Q (by rw[M,nM]:af.list ((dg u).map af.int)=.list (nv ((List.range b.length).filter (Al b)))) (mP T) y.has y (by rw[aN];exact y9 x _:(nv ((List.range b.length).filter (Al b))).length<=aL) (by unfold dN;rw[ct];rfl:af.list (nv ((List.range b.length).filter (Al b))++[.int b.length])=.list (nv (dN b))) L.lt
    (⟨aN _,P⟩:qv (nv (dN b)) (dN b).length) (A2 (⟨by lia,o0 (Nat.sub_le ..) P⟩:jm (((dN b).length:Nat)-1) ((dN b).length-1))
    (qS (X:=X) (n:=n-1) (N:=(dN b).length-1) 6 (.fr (.tuple (.cons (.item (.aC 4) (.aC 6)) (.cons (.item (.aC 4) (.dB .Add (.aC 6) (.cj (.int 1)))) .nil)))) ⟨[aV X b,.cell 0,.ae,.ae,.cell 1,.ae,.ae],[.set u,.list (nv (dN b))]⟩ (λs=>af.tuple [.int ((dN b).getD s 0:Nat),.int ((dN b).getD (s+1) 0:Nat)]) (λs=>[.y (.int ((dN b).getD s 0:Nat)),.y (.int ((dN b).getD (s+1) 0:Nat))]) rfl (o0 (Nat.sub_le ..) P) λs hs=>kE λ_=>A2 (Tc (i:=s) P (by lia)) (Tc (i:=s+1) P (by lia))) z)
end
structure WS where
 aE:List Nat
 cq:List Nat
 bG:List Nat
noncomputable def cm(o:Nat)(Y:WS):WS:=if o∈Y.bG then Y else⟨Y.aE,Y.cq,Y.bG++[o]⟩
noncomputable def fK(a:Nat)(Y:WS):WS:=⟨Y.aE,Y.cq++[a],Y.bG⟩
noncomputable def cT(a:Nat)(Y:WS):WS:=⟨Y.aE++[a],Y.cq,Y.bG⟩
noncomputable def c8(dv:aH->Nat->WS->WS)(way:aH)(a:Nat)(Y:WS)(o:Nat):WS:=if o∈way\/o=a then cm o Y else if o∈Y.aE then Y else dv (way++[a]) o Y
noncomputable def dv(E:Nat->aH):Nat->aH->Nat->WS->WS
 |0,_,_,Y=>Y
 |f+1,way,a,Y=>fK a ((E a).foldl (c8 (dv E f) way a) (cT a Y))
noncomputable def mI(c:List (Nat×aH)):aH:=(c.map Prod.fst).reverse
noncomputable def iJ(E:Nat->aH)(F:Nat):List (Nat×aH)->WS->WS
 |[],Y=>Y
 |p::r,Y=>iJ E F r (fK p.1 (p.2.foldl (c8 (dv E (F-1-r.length)) (mI r) p.1) Y))
structure Dm(N:Nat)(Y:WS)(stk:List (Nat×List Nat)):Prop where
 nd:Y.aE.Nodup
 lt:∀i∈Y.aE,i<N
 snd:(stk.map Prod.fst).Nodup
 UZ:∀i∈stk.map Prod.fst,i∈Y.aE
 nx:∀p∈stk,∀j∈p.2,j<N
 cS:Y.cq.length+stk.length=Y.aE.length
 JP:∀i∈Y.bG,i∈Y.aE
 Gg:Y.bG.Nodup
 n2:∀p∈stk,p.2.length<=2
noncomputable def DR(N:Nat)(Y:WS)(c:List (Nat×aH)):Nat:=(c.map λp=>p.2.length+1).sum+3*(N-Y.aE.length)
section
variable{N F:Nat}{E:Nat->aH}{Y:WS}{r:List (Nat×aH)}{a o:Nat}{l:aH}
def H5:mI (p::r)=mI r++[p.1]:=by unfold mI;simp
def vy:i∈mI r↔i∈r.map Prod.fst:=by exact List.mem_reverse
def sY{l:aH}(h:l.Nodup)(k:∀i∈l,i<N):l.length<=N:=by
 haveI:=fu (m:=List.range N) h λi m=>AT.mpr (k i m);rwa[x0]at this
def Dm.PR(W:Dm N Y c):Y.aE.length<=N:=sY W.nd W.lt
def ZW(W:Dm N Y ((a,[])::r)):Dm N (fK a Y) r/\iJ E F r (fK a Y)=iJ E F ((a,[])::r) Y/\DR N (fK a Y) r<DR N Y ((a,[])::r):=by
 refine(bH ⟨W.nd,W.lt,(TT.mp W.snd).2,λi m=>W.UZ i (.tail _ m),λp m=>W.nx p (.tail _ m),?_,W.JP,W.Gg,λp m=>W.n2 p (.tail _ m)⟩ rfl ?_)
 ·haveI:=W.cS
  show(Y.cq++[a]).length+r.length=Y.aE.length;simp only[sK,H1];rw[WF]at this;lia
 ·delta DR fK
  dsimp only;simp only[aaT,List.sum_cons];lia
def Fy:DR N Y ((a,o::l)::r)=DR N Y ((a,l)::r)+1:=by
 unfold DR;simp only[aaT,aaT,List.sum_cons,List.sum_cons];simp only[WF];lia
def zb:iJ E F ((a,o::l)::r) Y=iJ E F ((a,l)::r) (c8 (dv E (F-1-r.length)) (mI r) a Y o):=rfl
def Dm.drop(W:Dm N Y ((a,o::l)::r)):Dm N Y ((a,l)::r):=⟨W.nd,W.lt,W.snd,W.UZ,λp m=>by
 rcases EQ.mp m with rfl|m
 ·exactλj c=>W.nx _ (.head _) j (.tail _ c)
 ·exact W.nx p (.tail _ m),W.cS,W.JP,W.Gg,λp m=>by
 rcases EQ.mp m with rfl|m
 ·exact o0 (aaU _) (W.n2 _ (.head _))
 ·exact W.n2 p (.tail _ m)⟩
set_option tactic.hygienic true in
def Xa(W:Dm N Y ((a,o::l)::r))(h:o∈((a,l)::r).map Prod.fst):Dm N (cm o Y) ((a,l)::r)/\iJ E F ((a,l)::r) (cm o Y)=iJ E F ((a,o::l)::r) Y/\DR N (cm o Y) ((a,l)::r)<DR N Y ((a,o::l)::r):=by
 have g:o∈mI r\/o=a:=by
  rcases EQ.mp h with h|h
  ·exact .inr h
  ·exact .inl (vy.mpr h)
 have e:c8 (dv E (F-1-r.length)) (mI r) a Y o=cm o Y:=by unfold c8;rw[if_pos g]
 refine⟨?_,by simp only[zb,e],?_⟩
 ·haveI D:=W.drop
  unfold cm;split
  ·exact D
  ·rename_i q
   refine⟨D.nd,D.lt,D.snd,D.UZ,D.nx,D.cS,λi m=>?_,?_,D.n2⟩
   ·rcases AC.mp m with m|m
    ·exact D.JP i m
    ·rw[u8]at m;subst m;exact D.UZ _ h
   ·rw[acb]
    exact⟨D.Gg,by simp,λx j y c e=>q (by rw[u8]at c;refine c▸?_;refine e▸?_;exact j)⟩
 ·simp only[Fy]
  have:DR N (cm o Y) ((a,l)::r)=DR N Y ((a,l)::r):=by unfold cm;split<;>rfl
  lia
def Xb(W:Dm N Y ((a,o::l)::r))(h:o∉((a,l)::r).map Prod.fst)(c:o∈Y.aE):Dm N Y ((a,l)::r)/\iJ E F ((a,l)::r) Y=iJ E F ((a,o::l)::r) Y/\DR N Y ((a,l)::r)<DR N Y ((a,o::l)::r):=by
 haveI e:¬(o∈mI r\/o=a):=λq=>h (q.elim (λq=>.tail _ (vy.mp q)) λq=>q▸ .head _);exact⟨W.drop,by simp only[zb];unfold c8;rw[if_neg e,if_pos c],by simp only[Fy];lia⟩
def Xc(H:N<F)(z:∀i<N,∀j∈E i,j<N)(h:∀i,(E i).length<=2)(W:Dm N Y ((a,o::l)::r))(g:o∉Y.aE):Dm N (cT o Y) ((o,E o)::(a,l)::r)/\iJ E F ((o,E o)::(a,l)::r) (cT o Y)=iJ E F ((a,o::l)::r) Y/\DR N (cT o Y) ((o,E o)::(a,l)::r)<DR N Y ((a,o::l)::r):=by
 have s:=W.nx _ (.head _) o (.head _);have v:o∉((a,l)::r).map Prod.fst:=λq=>g (W.UZ o q);have A:¬(o∈mI r\/o=a):=λq=>v (q.elim (λq=>.tail _ (vy.mp q)) λq=>q▸ .head _)
 have I:Y.aE.length+1<=N:=sY (l:=o::Y.aE) (TT.mpr ⟨g,W.nd⟩) λi m=>by
  rcases EQ.mp m with rfl|m
  ·exact s
  ·exact W.lt i m
 have D:=W.drop;have B:=h o;haveI c:=W.cS;rw[WF]at c;refine(bH ⟨?_,λi m=>?_,TT.mpr ⟨v,D.snd⟩,λi m=>?_,λp m=>?_,?_,λi m=>AC.mpr (.inl (W.JP i m)),W.Gg,λp m=>?_⟩ ?_ ?_)
 ·show(Y.aE++[o]).Nodup
  rw[acb];exact⟨W.nd,by simp,λx C y w e=>g (by rw[u8]at w;refine w▸?_;refine e▸?_;exact C)⟩
 ·rcases AC.mp m with m|m
  ·exact W.lt i m
  ·rw[u8]at m;subst m;exact s
 ·rcases EQ.mp m with rfl|m
  ·exact AC.mpr (.inr (.head _))
  ·exact AC.mpr (.inl (D.UZ i m))
 ·rcases EQ.mp m with rfl|m
  ·exact z o s
  ·exact D.nx p m
 ·show Y.cq.length+(r.length+1+1)=(Y.aE++[o]).length
  simp only[sK,H1];lia
 ·rcases EQ.mp m with rfl|m
  ·exact B
  ·exact D.n2 p m
 ·simp only[zb]
  unfold c8;rw[if_neg A,if_neg g];obtain⟨f,G⟩:∃f,F-1-r.length=f+1:=⟨F-1-r.length-1,by lia⟩;haveI u:F-1-((a,l)::r).length=f:=by simp only[WF];lia
  rw[G]
  conv=>lhs;unfold iJ
  rw[u,H5];rfl
 ·delta DR cT
  dsimp only;simp only[aaT,List.sum_cons,sK,WF,List.length_nil];lia
end
section
variable{X:Cx}{n k:Nat}{e:bo}
abbrev WM(X:Cx):Prop:=cA X "Walk"∈ff X.K
def mW(T:Txt X):WM X:=(xk T (.tail _ (.tail _ (.head _)))).2
noncomputable def H6:dT:=["program","post","heads","marks","way"]
noncomputable def Am(p:Nat×aH):af:=.tuple [.int p.1,.list (nv p.2)]
noncomputable def fS(c:List (Nat×aH)):ah:=(c.map Am).reverse
noncomputable def xu(c:aH)(i:Nat):af:=.int (if i∈c then 1 else 2)
noncomputable def Xd(X:Cx)(e:bo)(a b c d:af):ah:=[.attrs H6 [aV X e,.cell 2,.cell 3,.cell 4,.cell 5],.ji (cA X "Walk") 0,a,b,c,d]
noncomputable def wc(X:Cx)(e:bo)(g:aS)(Y:WS)(c:List (Nat×aH)):ah:=Xd X e (.list (nv Y.cq)) (.set g) (.dict (iv Y.aE) (Y.aE.map (xu (c.map Prod.fst)))) (.list (fS c))
def kH:fS (p::r)=fS r++[Am p]:=by unfold fS;simp
def gh{l:aH}{f:Nat->af}{o:Nat}:dQ o (iv l) (l.map f)=if o∈l then some (f o)else none:=by
 induction l with
 |nil=>rfl
 |cons a l c=>
  show(if(a:Int)=(o:Int)then some (f a)else dQ o (iv l) (l.map f))=_;refine wS (p:=a=o) (λq=>?_) (λq=>?_)
  ·subst q;rw[if_pos rfl,if_pos (.head _)]
  ·rw[if_neg (by lia),c]
   refine wS (p:=o∈l) (λm=>?_) (λm=>?_)
   ·rw[if_pos m,if_pos (.tail _ m)]
   ·rw[if_neg m,if_neg (λz=>(EQ.mp z).elim (λz=>q z.symm) m)]
def Fz{l:aH}(c:a∈l)(g:l.Nodup):gI a v (iv l) (l.map f)=(iv l,l.map λx=>if x=a then v else f x):=by
 induction l with
 |nil=>cases c
 |cons b l h=>
  refine aX (TT.mp g) λn1 n2=>?_;show(if(b:Int)=(a:Int)then((b:Int)::iv l,v::l.map f)else((b:Int)::(gI a v (iv l) (l.map f)).1,f b::(gI a v (iv l) (l.map f)).2))=((b:Int)::iv l,(if b=a then v else f b)::l.map _);refine wS (p:=b=a) (λq=>?_) (λq=>?_)
  ·subst q
   rw[if_pos rfl,if_pos rfl];congr 2;exact TE λx m=>by rw[if_neg];intro z;subst z;exact n1 m
  ·have j:a∈l:=(EQ.mp c).elim (λz=>absurd z.symm q) id
   rw[if_neg (by lia),if_neg q,h j n2]
def ZX{a b c d:ah}(h:a=c)(k:b=d):a++b=c++d:=by simp only[h,k]
def Ao(X:Cx)(e:bo)(b m:Nat)(h:ah):Prop:=∃g Y c,h=wc X e g Y c/\g.Nodup/\(∀z:Int,z∈g↔∃i∈Y.bG,z=(i:Int))/\Dm e.length Y c/\
 iJ (succ e) (e.length+1) c Y=dv (succ e) (e.length+1) [] b ⟨[],[],[]⟩/\m=DR e.length Y c
def PS:aB (fS (p::r)) ((fS (p::r)).length-1)=Am p:=by
 refine kH▸?_;refine sK▸?_;exact jF
def Tn:(fS (p::r)).set ((fS (p::r)).length-1) (Am q)=fS (q::r):=by
 simp only[kH,kH,sK];show(fS r++[Am p]).set (fS r).length _=_;rw[aaW _ _ (v0 _),aaR];rfl
def To:0<(fS (p::r)).length:=by unfold fS;simp
def Dm.ZY{c:List (Nat×aH)}(W:Dm N Y c):c.length<=N:=by haveI:=W.cS;haveI:=W.PR;lia
def FA{h:aS}{Y:WS}{c:List (Nat×aH)}{p:aH}{g:aS×ah}{w:ah}{h':aS}(j:nv p=nv Y.cq)(q:g=(iv Y.aE,Y.aE.map (xu (c.map Prod.fst))))(s:w=fS c):Xd X e (.list (nv p)) (.set h) (.dict g.1 g.2) (.list w)=wc X e h Y c:=by
 subst q s;unfold wc;rw[j]
set_option tactic.hygienic true in
def LX{s u:aS}{Y:WS}{o:Nat}(v:∀z:Int,z∈s↔∃i∈Y.bG,z=(i:Int))(w:∀z,z∈u↔z∈s\/z=(o:Int))(z:Int):z∈u↔∃i∈(cm o Y).bG,z=(i:Int):=by
 have g:∀i,i∈(cm o Y).bG↔i∈Y.bG\/i=o:=λi=>by
  unfold cm;split
  ·rename_i q;exact⟨.inl,λh=>h.elim id λh=>h▸q⟩
  ·show i∈Y.bG++[o]↔_
   rw[AC,u8]
 rw[w,v];constructor
 ·rintro(⟨i,j,c⟩|h)
  ·exact(ay i ((g i).mpr (.inl j)) c)
  ·exact(ay o ((g o).mpr (.inr rfl)) h)
 ·rintro⟨i,j,c⟩
  rcases(g i).mp j with h|h
  ·exact .inl (ay i h c)
  ·subst h;exact .inr c
def PT{c:aS}{Y:WS}(W:Dm N Y g)(hN:N<=30)(h:c.Nodup)(j:∀z:Int,z∈c↔∃i∈Y.bG,z=(i:Int)):c.length<64:=by
 haveI q:=fu (m:=iv Y.bG) h λz s=>by
  refine aj ((j z).mp s) λi a b=>?_;exact FB.mpr (ay i a b.symm)
 haveI u:=sY W.Gg λi m=>W.lt i (W.JP i m);rw[fj]at q;lia
def Xe(T:Txt X)(L:bW n 6)(hf:cy e)(U:eD e)(hc:sk e){b m:Nat}{j:aS}{Y:WS}{a:Nat}{l:aH}{r:List (Nat×aH)}(M:j.Nodup)(C:∀z:Int,z∈j↔∃i∈Y.bG,z=(i:Int))(W:Dm e.length Y ((a,l)::r))
  (O:iJ (succ e) (e.length+1) ((a,l)::r) Y=dv (succ e) (e.length+1) [] b ⟨[],[],[]⟩) (P:m=DR e.length Y ((a,l)::r)):
  qn X n (cA X "Walk") "step" [.cell 1] (wc X e j Y ((a,l)::r)) (λv cs=>v=.none/\∃h,h<m/\Ao X e b h cs):=by
 haveI hN:e.length<=30:=hf;haveI g:=mW T;have s1:=W.ZY;have V:(fS ((a,l)::r)).length<=aL:=by delta fS aL;simp only[acH,v4];lia
 have l2:(iv Y.aE).length<=aL:=by rw[fj];haveI:=W.PR;unfold aL;lia
 haveI l3:(nv Y.cq).length<=aL:=by rw[aN];haveI:=W.PR;haveI:=W.cS;unfold aL;lia
 haveI D:=To (p:=(a,l)) (r:=r);haveI Q:=PS (p:=(a,l)) (r:=r);cases l with
 |nil=>
  refine cY (ZW (E:=succ e) (F:=e.length+1) W) λs u w=>?_
  haveI c:∃h,h<m/\Ao X e b h (Xd X e (.list (nv Y.cq++[.int a])) (.set j) (.dict (gI a (.int 2) (iv Y.aE) (Y.aE.map (xu (((a,[])::r).map Prod.fst)))).1 (gI a (.int 2) (iv Y.aE) (Y.aE.map (xu (((a,[])::r).map Prod.fst)))).2) (.list (fS r))):=by
   refine⟨_,P▸w,j,fK a Y,r,?_,M,C,s,u.trans O,rfl⟩;rw[show nv Y.cq++[af.int a]=nv (fK a Y).cq from(ct Y.cq [a]).symm];refine FA (h':=j) rfl ?_ rfl;rw[Fz (W.UZ a (.head _)) W.nd];refine v6 _ (TE λx _=>?_);haveI U:=(TT.mp W.snd).1;unfold xu;by_cases q:x=a
   ·subst q;rw[if_pos rfl,if_neg U]
   ·rw[if_neg q]
    by_cases z:x∈r.map Prod.fst
    ·rw[if_pos z,if_pos (.tail _ z)]
    ·rw[if_neg z,if_neg ((λy=>(EQ.mp y).elim q z:x∉((a,[])::r).map Prod.fst))]
  exact Fo T L jB (tm 34 rfl) rfl [.v (Am (a,[])),.p,.p,.w (fS r) (Am (a,[]))] rfl (kv _ (AI g<|AI D<|AI Q<|AI (SC aL)<|AI g<|AI l2<|AI g<|AI l3<|AI g<|AI (kH (p:=(a,[])) (r:=r))<|AI V<|AI (Eq.refl af.none) c) (by kernel_rfl))
 |cons o l=>
  have G:(nv (o::l)).length<=aL:=by rw[aN];exact o0 (W.n2 _ (.head _)) (by decide)
  have Z:(0:Int)<=0/\(0:Int)<((nv (o::l)).length:Int)/\(nv (o::l)).length<=aL:=⟨by decide,by simp only[aN,WF];lia,G⟩;haveI e6:(0:Int)<=1/\(1:Int)<=aL/\(nv (o::l)).length<=aL:=(bH (by decide) (by decide) G);haveI e7:(fS ((a,o::l)::r)).length<=aL/\0<(fS ((a,o::l)::r)).length:=⟨V,D⟩;haveI e8:=PT W hN M C;haveI es:∀(p:Nat×aH),fS ((a,l)::r)=(fS ((a,o::l)::r)).set ((fS ((a,o::l)::r)).length-1) (.tuple [.int a,.list (nv l)]):=λ_=>(Tn (p:=(a,o::l)) (q:=(a,l))).symm
  have ek:∀x,(if x∈Y.aE then some (xu (((a,o::l)::r).map Prod.fst) x)else none).getD (.int 0)=.int (if x∈Y.aE then(if x∈((a,l)::r).map Prod.fst then 1 else 2)else 0):=λx=>by
   by_cases q:x∈Y.aE
   ·rw[if_pos q,if_pos q];rfl
   ·rw[if_neg q,if_neg q];rfl
  refine wS (p:=o∈((a,l)::r).map Prod.fst) (λB=>?_) (λB=>?_)
  ·refine cY (Xa (E:=succ e) (F:=e.length+1) W B) λs u w=>?_
   haveI c:∀H:aS,H.Nodup->(∀z,z∈H↔z∈j\/z=(o:Int))->af.none=.none/\∃h,h<m/\Ao X e b h (Xd X e (.list (nv Y.cq)) (.set H) (.dict (iv Y.aE) (Y.aE.map (xu (((a,o::l)::r).map Prod.fst)))) (.list ((fS ((a,o::l)::r)).set ((fS ((a,o::l)::r)).length-1) (.tuple [.int a,.list (nv l)])))):=λH ny hy=>by
    refine⟨rfl,_,P▸w,H,cm o Y,(a,l)::r,?_,ny,LX C hy,s,u.trans O,rfl⟩;haveI e1:(cm o Y).cq=Y.cq:=by unfold cm;split<;>rfl
    haveI e2:(cm o Y).aE=Y.aE:=by unfold cm;split<;>rfl
    unfold wc;rw[e1,e2,<-es (a,l)];rfl
   have I:(dQ (o:Int) (iv Y.aE) (Y.aE.map (xu (((a,o::l)::r).map Prod.fst)))).getD (.int 0)=.int 1:=by
    rw[gh,ek,if_pos (W.UZ o B),if_pos B]
   exact Fo T L jB (tm 34 rfl) rfl [.v (Am (a,o::l)),.v (.int o),.p,.p,.v (.int 1),.a,.p] rfl (kv _ (AI g<|AI D<|AI Q<|AI G<|AI Z<|AI (Eq.refl (af.int o))<|AI e6<|AI g<|AI e7<|AI g<|AI I<|AI g<|AI e8 c) (by kernel_rfl))
  ·refine wS (p:=o∈Y.aE) (λA=>?_) (λA=>?_)
   ·obtain⟨s,u,w⟩:=Xb (E:=succ e) (F:=e.length+1) W B A
    haveI c:∃h,h<m/\Ao X e b h (Xd X e (.list (nv Y.cq)) (.set j) (.dict (iv Y.aE) (Y.aE.map (xu (((a,o::l)::r).map Prod.fst)))) (.list ((fS ((a,o::l)::r)).set ((fS ((a,o::l)::r)).length-1) (.tuple [.int a,.list (nv l)])))):=by
     refine⟨_,P▸w,j,Y,(a,l)::r,?_,M,C,s,u.trans O,rfl⟩;rw[<-es (a,l)];rfl
    have I:(dQ (o:Int) (iv Y.aE) (Y.aE.map (xu (((a,o::l)::r).map Prod.fst)))).getD (.int 0)=.int 2:=by
     rw[gh,ek,if_pos A,if_neg B]
    exact Fo T L jB (tm 34 rfl) rfl [.v (Am (a,o::l)),.v (.int o),.p,.p,.v (.int 2)] rfl (kv _ (AI g<|AI D<|AI Q<|AI G<|AI Z<|AI (Eq.refl (af.int o))<|AI e6<|AI g<|AI e7<|AI g<|AI I<|AI (Eq.refl af.none) c) (by kernel_rfl))
   ·refine cY (Xc (E:=succ e) (F:=e.length+1) (W1 _) hc jg W A) λs u w=>?_
    have ho:=W.nx _ (.head _) o (.head _);haveI hq:=y8 (X:=X) T (L.dn 5) hf U (f0 ho);have e9:((fS ((a,o::l)::r)).set ((fS ((a,o::l)::r)).length-1) (.tuple [.int a,.list (nv l)])).length<=aL:=by rw[abX];exact V
    haveI c:∃h,h<m/\Ao X e b h (Xd X e (.list (nv Y.cq)) (.set j) (.dict (gI o (.int 1) (iv Y.aE) (Y.aE.map (xu (((a,o::l)::r).map Prod.fst)))).1 (gI o (.int 1) (iv Y.aE) (Y.aE.map (xu (((a,o::l)::r).map Prod.fst)))).2) (.list ((fS ((a,o::l)::r)).set ((fS ((a,o::l)::r)).length-1) (.tuple [.int a,.list (nv l)])++[.tuple [.int o,.list (nv (succ e o))]]))):=by
     refine⟨_,P▸w,j,cT o Y,(o,succ e o)::(a,l)::r,?_,M,C,s,u.trans O,rfl⟩;refine FA (h':=j) rfl ?_ ?_
     ·rw[y6 (by simp only[fj,v4]) (λm=>by
       refine aj (FB.mp m) λi h1 h2=>?_;exact A ((by lia:i=o)▸h1))]
      show _=(iv (Y.aE++[o]),(Y.aE++[o]).map _);simp only[vq,aaL];refine v6 (Prod.mk (iv Y.aE++iv [o])) (ZX (TE λx hx=>?_) ?_)
      ·unfold xu
       have:x≠o:=λz=>A (z▸hx);refine wS (p:=x∈((a,l)::r).map Prod.fst) (λz=>?_) (λz=>?_)
       ·rw[if_pos (show x∈((a,o::l)::r).map Prod.fst from z),if_pos (.tail _ z)]
       ·rw[if_neg (show x∉((a,o::l)::r).map Prod.fst from z),if_neg ((λy=>(EQ.mp y).elim this z:x∉((o,succ e o)::(a,l)::r).map Prod.fst))]
      ·show[af.int 1]=[xu _ o]
       unfold xu;rw[if_pos (.head _)]
     ·rw[<-es (a,l),kH (p:=(o,succ e o))];rfl
    haveI I:(dQ (o:Int) (iv Y.aE) (Y.aE.map (xu (((a,o::l)::r).map Prod.fst)))).getD (.int 0)=.int 0:=by
     rw[gh,ek,if_neg A]
    exact Fo T L jB (tm 34 rfl) rfl [.v (Am (a,o::l)),.v (.int o),.p,.p,.v (.int 0),.a,.a,.p,.v (.list (nv (succ e o))),.p] rfl (kv _ (AI g<|AI D<|AI Q<|AI G<|AI Z<|AI (Eq.refl (af.int o))<|AI e6<|AI g<|AI e7<|AI g<|AI I<|AI g<|AI l2<|AI g<|AI g<|AI hq<|AI e9<|AI (Eq.refl af.none) c) (by kernel_rfl))
end
section
variable{X:Cx}{n k:Nat}{g:bo}
noncomputable def bO(g:bo)(b:Nat):WS:=dv (succ g) (g.length+1) [] b ⟨[],[],[]⟩
noncomputable def qY(X:Cx)(g:bo)(c:aS)(Y:WS):af:=.dJ (cA X "Walk") H6 [aV X g,.list (nv Y.cq),.set c,.dict (iv Y.aE) (Y.aE.map (xu [])),.list []]
def sm(g:bo)(b:Nat)(c:aS):Prop:=c.Nodup/\(∀z:Int,z∈c↔∃i∈(bO g b).bG,z=(i:Int))/\Dm g.length (bO g b) []
def BG(e:aB cells c=.set xs):rm cells (f+1) (.cell c)=.set xs:=by
 rw[lq,e];rfl
def Tp{Y:WS}:dz (wc X g e Y []) (.cell 1)=qY X g e Y:=by
 unfold dz;rw[Fs (cells:=wc X g e Y []) (C:=cA X "Walk") (ns:=H6) (c:=1) (d:=0) rfl rfl];show af.dJ _ _ [rm _ 5 _,rm _ 5 _,rm _ 5 _,rm _ 5 _,rm _ 5 _]=_;rw[jD (v:=aV X g) cG,gW (xs:=nv Y.cq) rfl (me _),BG (xs:=e) rfl,vr (ks:=iv Y.aE) (vs:=Y.aE.map (xu [])) rfl (d0 (λ_=>rfl) _),gW (c:=5) (xs:=[]) rfl rfl];rfl
def Tq{Y:WS}:(qY X g c Y).nc:=by
 show eJ [aV X g,.list (nv Y.cq),.set c,.dict (iv Y.aE) (Y.aE.map (xu [])),.list []]=true;unfold eJ;rw[cG];unfold eJ;rw[show(af.list (nv Y.cq)).nc=true from me _];show(true&&(true&&((af.dict (iv Y.aE) (Y.aE.map (xu []))).nc&&true)))=true;rw[show(af.dict (iv Y.aE) (Y.aE.map (xu []))).nc=true from d0 (λ_=>rfl) _];rfl
def PU(T:Txt X)(L:bW n 8)(B:cy g)(G:eD g)(H:sk g){b:Nat}(C:b<g.length):ba X n "Walk" [aV X g,.int b] (λv=>∃c,sm g b c/\v=qY X g c (bO g b)):=by
 have I:bW (n-2) 6:=⟨by haveI:=L.1;lia,by haveI:=L.2;lia⟩;haveI u:=mW T;have U:=y8 (X:=X) T (I.le 5) B G (f0 C)
 refine JD T L ua (tm 33 rfl) rfl rfl (.tail _ (.tail _ (.head _))) [.v (.list (nv (succ g b))),.stop] (BA _ _ cG rfl) rfl (kv _ (AI u<|AI u<|AI u<|AI u<|AI U<|AI u
  (?_:cp X (n-2) (λ_ _=>False) m6 ⟨[.cell 1,aV X g,.int b],wc X g [] ⟨[b],[],[]⟩ [(b,succ g b)]⟩ (kR (λv j=>v=.none/\(dz j (.cell 1)).nc/\∃c,sm g b c/\dz j (.cell 1)=qY X g c (bO g b))))) (by
   simp only[show wc X g [] ⟨[b],[],[]⟩ [(b,succ g b)]=Xd X g (.list []) (.set []) (.dict [b] [.int 1]) (.list [.tuple [.int b,.list (nv (succ g b))]])from by
    unfold wc;rw[show List.map (xu (List.map Prod.fst [(b,succ g b)])) (⟨[b],[],[]⟩:WS).aE=[.int 1]from by show[xu [b] b]=_;unfold xu;rw[if_pos (.head _)]];rfl]
   kernel_rfl))
 refine UR [] (λm st=>st.aC=[.cell 1,aV X g,.int b]/\Ao X g b m st.cells) (DR g.length ⟨[b],[],[]⟩ [(b,succ g b)]) ⟨rfl,[],_,_,rfl,.nil,λz=>by simp,⟨by simp,λi m=>by rw[u8]at m;subst m;exact C,by simp,λi m=>m,λp m=>by rw[u8]at m;subst m;exact H b C,rfl,λi m=>by exact nl m,.nil,λp m=>by rw[u8]at m;subst m;exact jg b⟩,rfl,rfl⟩ λm st V=>?_;obtain⟨y,c,Y,s,A,M,O,W,P,Z⟩:=V;obtain⟨aC,D⟩:=st;dsimp only at y A;subst y A;have l1:(fS s).length<=aL:=by haveI:=W.ZY;have:g.length<=30:=B;delta fS aL;simp only[acH,v4];lia
 refine⟨[],kv _ (AI u<|AI l1 (?_:rB (!(fS s).isEmpty) (Dd X (n-2) (λ_ _=>False) m5 (λst=>∃q,q<m/\st.aC=[.cell 1,aV X g,.int b]/\Ao X g b q st.cells) (mF X (n-2) (λ_ _=>False) .nil (kR (λv j=>v=.none/\(dz j (.cell 1)).nc/\∃c,sm g b c/\dz j (.cell 1)=qY X g c (bO g b)))) ⟨[.cell 1,aV X g,.int b],wc X g c Y s⟩)
  (cp X (n-2) (λ_ _=>False) .nil ⟨[.cell 1,aV X g,.int b],wc X g c Y s⟩ (kR (λv j=>v=.none/\(dz j (.cell 1)).nc/\∃c,sm g b c/\dz j (.cell 1)=qY X g c (bO g b)))))) (by kernel_rfl)⟩
 cases s with
 |nil=>
  haveI e:Y=bO g b:=P;refine a9 [] (kv _ (AI (Eq.refl af.none) (?_:(dz (wc X g c Y []) (.cell 1)).nc/\∃Q,sm g b Q/\dz (wc X g c Y []) (.cell 1)=qY X g Q (bO g b))) (by kernel_rfl));refine Tp▸?_;refine e▸?_;exact⟨Tq,c,⟨M,by refine e▸?_;exact O,by refine e▸?_;exact W⟩,rfl⟩
 |cons p r=>
  obtain⟨a,l⟩:=p;simp only[show(!(fS ((a,l)::r)).isEmpty)=true from by rw[kH];simp];haveI x:=Xe T I B G H M O W P Z;exact oA [.c λv j=>v=.none/\∃q,q<m/\Ao X g b q j] (kv _ (AI u<|AI x.has<|AI x (λ(w:af) (j:ah) (h:w=af.none/\∃q,q<m/\Ao X g b q j)=>(aj h.2 λq y A=>(dC q y rfl A):∃q,q<m/\(⟨[.cell 1,aV X g,.int b],j⟩:St).aC=[.cell 1,aV X g,.int b]/\Ao X g b q j))) (by kernel_rfl))
def Dn(T:Txt X)(L:bW n 9)(j:cy g)(q:eD g)(s:sk g){b:Nat}(x:b<g.length):ba X n "post_order" [aV X g,.int b] (λv=>v=.list (nv (bO g b).cq)):=
 dk T L ub (tm 35 rfl) rfl [.q λv=>∃c,sm g b c/\v=qY X g c (bO g b)] (BA _ _ cG rfl) rfl (kv _ (AI (PU T (L.dn 8) j q s x) (λw h=>by
  refine aj h λc y e=>?_;subst e;exact kv _ (AI (mW T) (yU (cs:=[]) (Q:=λv=>v=.list (nv (bO g b).cq)) (lu _) rfl)) (by kernel_rfl):∀w,(∃c,sm g b c/\w=qY X g c (bO g b))->Ja X [] "post" w λu=>(dz [] u).nc/\dz [] u=.list (nv (bO g b).cq))) (by kernel_rfl))
end
section
variable{X:Cx}{n k:Nat}{d:bo}
noncomputable def eo(d:bo)(b:Nat):aH:=(List.range d.length).filter λi=>decide (i∈(bO d b).bG)
noncomputable def cQ(d:bo):aH:=(aq d).flatMap (eo d)
def gi N(p:Nat->Bool):((List.range N).filter p).Pairwise (·< ·):=acP _ acL
def LY(h:sm d b c):dg c=iv (eo d b):=iD h.1 (gi _ _) λz=>by
 rw[h.2.1 z];constructor
 ·rintro⟨i,m,e⟩;exact(ay i (IO.mpr ⟨AT.mpr (h.2.2.lt i (h.2.2.JP i m)),FM m⟩) e)
 ·rintro⟨i,m,e⟩;exact(ay i (s5 (IO.mp m).2) e)
def sub_lt(q:eD d)(h0:0<d.length)(h:b∈aq d):b<d.length:=by
 haveI c:=dh.mp h;unfold dV at c;rw[aaO]at c;rcases c with c|c
 ·haveI:=s5 c;lia
 ·refine aj (aak.mp c) λj u g=>?_
  haveI:=(a2 g).2;refine aj (TD.mp (s5 this)) λs _ e=>?_;exact(iC.mp e).1
def so{f:Nat->aH}{N:Nat}(c:∀i,(f i).length<=N)(l:aH):(l.flatMap f).length<=l.length*N:=by
 induction l with
 |nil=>simp
 |cons a l e=>
  simp only[abN,sK,WF,Nat.succ_mul];haveI:=c a;lia
def FC i:(eo d i).length<=d.length:=by unfold eo;exact o0 (KT ..) (aaM x0)
noncomputable def X4(X:Cx)(d:bo)(k:Nat):St:=⟨[aV X d,.cell 0,.ae],[.list (nv (((aq d).take k).flatMap (eo d)))]⟩
def PV(T:Txt X)(L:bW n 8)(j:cy d)(s:eD d)(A:sk d)(h0:0<d.length)(x:(aq d)[k]?=some b):zI X n (λ_ _=>False) [2] iV ((X4 X d k).at 2 (.int b)) (X4 X d (k+1)):=by
 have hN:d.length<=30:=j;have B:((aq d).take (k+1)).flatMap (eo d)=((aq d).take k).flatMap (eo d)++eo d b:=by simp only[aaE,x,abM];simp
 have y:(((aq d).take k).flatMap (eo d)).length<=930:=o0 (so FC _) (Nat.mul_le_mul (o0 (List.length_take_le' ..) (rI j):((aq d).take k).length<=31) hN);unfold X4;rw[B];generalize ((aq d).take k).flatMap (eo d)=c at y
 refine a9 [.q λv=>∃e,sm d b e/\v=qY X d e (bO d b),.p,.p] (kv _ (AI (PU T L j s A (sub_lt s h0 (wE x))) (λw h=>by
  refine aj h λe g q=>?_;subst q;refine kv _ (AI (mW T)<|AI (PT g.2.2 hN g.1 g.2.1) (?_:(nv c).length+((dg e).map af.int).length<=aL/\(⟨[aV X d,.cell 0,.ae],[.list (nv c++(dg e).map af.int)]⟩:St)=⟨[aV X d,.cell 0,.ae],[.list (nv (c++eo d b))]⟩)) (by kernel_rfl);rw[LY g,nM,ct,aN,aN]
  exact⟨dw (o0 (Nat.add_le_add y (o0 (FC b) hN)) (by decide)),rfl⟩:∀w,(∃e,sm d b e/\w=qY X d e (bO d b))->Ja X [.list (nv c)] "heads" w λu=>UE [.p,.p] (aO [.list (nv c)] u) λu o=>K7 o u λu o=>dS o [.list (nv c)] u λu o=>eZ u λz=>vU o ((nv c).length+z.length<=aL) λo=>K7 o (.list (nv c++z)) λu o=>
   (⟨[aV X d,.cell 0,.ae],[u]⟩:St)=⟨[aV X d,.cell 0,.ae],[.list (nv (c++eo d b))]⟩)) (by kernel_rfl))
def Dp(T:Txt X)(L:bW n 9)(g:cy d)(h:eD d)(j:sk d)(h0:0<d.length):sX X n "loop_heads" [aV X d] (.list (nv (cQ d))):=by
 have e:dz [.list (nv (((aq d).take (aq d).length).flatMap (eo d)))] (.cell 0)=.list (nv (cQ d)):=(gW (c:=0) rfl (me _)).trans (by rw[SL (v0 _)];rfl)
 exact nL T L uc (tm 36 rfl) [.go,.l (aq d).length [2] (X4 X d)] (JK _ cG) (λ_=>A3 (mP T) (Eq.refl (X4 X d 0)) (JC (X:=X) (n:=n-1) (R:=λ_ _=>False) (i:=2) (b:=iV) (S:=X4 X d) rfl (aN (aq d)▸fw g) λk b q=>PV T (L.dn 8) g h j h0 q))
  (⟨e▸lu _,e⟩:(dz [.list (nv (((aq d).take (aq d).length).flatMap (eo d)))] (.cell 0)).nc/\dz [.list (nv (((aq d).take (aq d).length).flatMap (eo d)))] (.cell 0)=.list (nv (cQ d)))
end
section
variable{X:Cx}{n k:Nat}{g:bo}
def kf(g:bo)(b t:Nat):Prop:=∃j,j<g.length/\ao g j=b/\eG g j/\ck g j=t
noncomputable instance (g:bo) (b t:Nat):Decidable (kf g b t):=decidable_of_iff (((List.range g.length).any λj=>decide (ao g j=b)&&(eG g j&&decide (ck g j=t)))) (by
 rw[aak];constructor
 ·rintro⟨j,h1,h2⟩
  obtain⟨h3,h4⟩:=a2 h2;obtain⟨h5,h6⟩:=a2 h4;exact⟨j,AT.mp h1,s5 h3,h5,s5 h6⟩
 ·rintro⟨j,h1,h2,h3,h4⟩
  exact⟨j,AT.mpr h1,by rw[h3,FM h2,FM h4];rfl⟩)
noncomputable def bk(g:bo)(b:Nat):aH:=(List.range g.length).filter λt=>decide (kf g b t)
def oR(v:eD g)(h0:0<g.length):cP g b<=g.length/\(∀s∈aq g,b<s->cP g b<=s)/\(cP g b=g.length\/(cP g b∈aq g/\b<cP g b)):=by
 unfold cP;cases e:(aq g).find? λs=>decide (b<s)with
 |none=>
  refine(bH (v0 _) (λs c h=>?_) (.inl rfl));haveI:=List.find?_eq_none.mp e s c;exact absurd (FM h) this
 |some t=>
  haveI j:=List.mem_of_find?_eq_some e;haveI w:decide (b<t):=List.find?_some (p:=λs=>decide (b<s)) e;refine(bH (KK (sub_lt v h0 j)) (λs c h=>?_) (.inr ⟨j,s5 w⟩));show t<=s;obtain⟨_,as,y,q,x⟩:=List.find?_eq_some_iff_append.mp e;rw[q]at c;rcases AC.mp c with m|m
  ·haveI:=x s m
   rw[FM h]at this;exact Bool.noConfusion this
  ·rcases EQ.mp m with rfl|m
   ·exact v0 _
   ·haveI u:=(da (aa:=g))
    rw[q]at u;haveI:=(List.pairwise_append.mp u).2.1;exact KK ((List.pairwise_cons.mp this).1 s m)
def fT(u:eD g)(h0:0<g.length)(v:b∈aq g) j(z:j<g.length):ao g j=b↔b<=j/\j<cP g b:=by
 refine cY (oR (b:=b) u h0) λA w c=>?_;constructor
 ·intro h
  haveI s:=md (aa:=g) j;refine⟨by lia,?_⟩;rcases P3 j (cP g b)with q|q
  ·exact q
  ·rcases c with c|⟨c,x⟩
   ·lia
   ·haveI:=yW (aa:=g) j (cP g b) (by lia) q
    exact bx (dh.mp c) this
 ·rintro⟨s,x⟩
  refine uo (dh.mp v) s λi y B=>?_;cases e:dV g i with
  |false=>rfl
  |true=>haveI:=w i (dh.mpr e) y;lia
def CI(g:bo)(b k:Nat)(c:aS):Prop:=c.Nodup/\∀z:Int,z∈c↔∃j,b<=j/\j<b+k/\eG g j/\z=(ck g j:Int)
def CI.no(q:eG g (b+k)=false):(∃j,b<=j/\j<b+k/\eG g j/\z=(ck g j:Int))↔∃j,b<=j/\j<b+(k+1)/\eG g j/\z=(ck g j:Int):=by
 constructor
 ·rintro⟨j,c,e,h⟩;exact(dC j c (aaQ e) h)
 ·rintro⟨j,c,e,s,h⟩
  refine(BX j c ?_ s h);rcases P3 j (b+k)with h|h
  ·exact h
  ·rw[show j=b+k from acE (aca e) h,q]at s;exact Bool.noConfusion s
def CI.cS(s:eD g)(u:cy g){q:aS}(x:b+k<=g.length)(h:CI g b k q):q.length<64:=by
 haveI:=fu (m:=iv (List.range g.length)) h.1 λz v=>by
  refine zJ ((h.2 z).mp v) λj _ y w c=>?_;subst c;haveI e:g[j]?=some g[j]:=f0 (by exact UF (by assumption) (by assumption));exact FB.mpr ⟨_,AT.mpr (ef s e (jT (((eB e)).symm.trans w))).2,rfl⟩
 rw[fj,x0]at this;unfold cy at u;lia
def Tr{a b k:Nat}(h:(cB a b)[k]?=some x):x=.int ((a+k:Nat):Int)/\a+k<b:=by
 unfold cB at h;rw[FS]at h;refine aj (TW.mp h) λi j q=>?_;refine ar (wP.mp j) λc e=>?_;rw[ab0]at e;rw[x0,Int.toNat_sub]at c;subst e;exact⟨q.symm,Nat.add_lt_of_lt_sub' c⟩
def FD{a b:Nat}:(cB a b).length=b-a:=by unfold cB;rw[v4,x0,Int.toNat_sub]
noncomputable def X5(X:Cx)(g:bo)(b:Nat)(c:aS):St:=⟨[aV X g,.int b,.cell 0,.ae],[.set c]⟩
def zc(T:Txt X)(L:bW n 5)(H:cy g)(A:eD g)(h0:0<g.length){b:Nat}(V:b∈aq g):sX X n "calls_of" [aV X g,.int b] (.list (nv (bk g b))):=by
 have M:=rJ (X:=X) T (L.dn 1) H b;refine cY (oR (b:=b) A h0) λy he2 Z=>?_;have hbl:=sub_lt A h0 V;have hfl:=bp H;have O:b<=cP g b:=Z.elim (λh=>h▸KK hbl) λh=>KK h.2;have B:cP g b<=aL:=o0 y hfl;refine dk T L yO (tm 38 rfl) rfl [.go,.stop] (BA _ _ cG rfl) rfl ?_
 refine Ak [3] [.v (.int (cP g b)),.p] (cB b (cP g b)) .none (by rw[FD];exact o0 (Nat.sub_le ..) B) (kI λ_=>A4 (mP T) M.has M (⟨IR _,acd.mpr (o0 O B),acF (by decide) (IR _),acd.mpr B⟩:(0:Int)<=(b:Int)/\(b:Int)<=aL/\-(aL:Int)<=(cP g b:Int)/\(cP g b:Int)<=aL))
  (λk st=>∃u,CI g b k u/\st=X5 X g b u) (ay [] ⟨.nil,λz=>by simp;lia⟩ rfl) (λk aY x hx Q=>?_) λaY Q=>?_
 ·refine aj Q λu v C=>?_
  refine aX (Tr hx) λrf2 hlt=>?_;subst C rf2;clear Q hx;refine⟨trivial,(?_:cp X (n-1) (λ_ _=>False) qD ((X5 X g b u).at 3 (.int (b+k:Nat))) _)⟩;have D:b+k<g.length:=UF hlt y;have e:g[b+k]?=some g[b+k]:=f0 D;have hw:=yZ (X:=X) (λw d f i m=>dI (d:=d) (f:=f) (i:=i) (m:=m) T (L.dn 1) w) e;rw[<-eB e]at hw;have I:=sj (X:=X) H D rfl;cases q:eG g (b+k)with
  |false=>
   rw[q]at hw;exact raw [.y (aB (bM X g) (b+k)),.v (.bool false)] (λ_=>A3 (mP T) I hw) (ay u ⟨v.1,λz=>(v.2 z).trans (CI.no q)⟩ rfl:∃s,CI g b (k+1) s/\X5 X g b u=X5 X g b s)
  |true=>
   rw[q]at hw;have ht:=eP (X:=X) T (L.dn 4) H (ef A e (jT (((eB e)).symm.trans q))).1;refine raw [.y (aB (bM X g) (b+k)),.v (.bool true),.a,.v (.int (ck g (b+k))),.p] (λ_=>A7 (mP T) I hw (mP T) ht.has ht (v.cS A H (KK D))) (λP nz hz=>ay P ⟨nz,λz=>(hz z).trans ⟨?_,?_⟩⟩ rfl:∀P:aS,P.Nodup->(∀z,z∈P↔z∈u\/z=(ck g (b+k):Int))->∃s,CI g b (k+1) s/\X5 X g b P=X5 X g b s)
   ·rintro(h|h)
    ·refine cU ((v.2 z).mp h) λj a b c=>?_;exact(dC j a (aaQ b) c)
    ·exact(BX (b+k) (T0 ..) (W1 _) q h)
   ·rintro⟨j,a,b',c,d⟩
    rcases P3 j (b+k)with h|h
    ·exact .inl ((v.2 z).mpr (BX j a h c d))
    ·have:j=b+k:=acE (aca b') h
     subst this;exact .inr d
 ·refine aj Q λu v C=>?_
  subst C;rw[FD]at v;have ee:b+(cP g b-b)=cP g b:=Nat.add_sub_cancel' O;have hl:=v.cS A H (ee.symm▸y);have G:=v.2;rw[ee]at G
  haveI es:dg u=iv (bk g b):=iD v.1 (gi _ _) λz=>by
   rw[G z];constructor
   ·rintro⟨j,I,G,U,h4⟩
    have D:j<g.length:=UF G y;haveI e:g[j]?=some g[j]:=f0 D;exact⟨_,IO.mpr ⟨AT.mpr (ef A e (jT (((eB e)).symm.trans U))).2,FM ⟨j,D,(fT A h0 V j D).mpr ⟨I,G⟩,U,rfl⟩⟩,h4⟩
   ·rintro⟨t,I,G⟩
    obtain⟨j,U,h4,h5,h6⟩:=s5 (IO.mp I).2;obtain⟨h7,h8⟩:=(fT A h0 V j U).mp h4;exact(BX j h7 h8 h5 (by rw[h6];exact G))
  exact⟨trivial,Pf [.p,.y (.list (nv (bk g b))),.z] (lu _) λ_=>A2 hl (by rw[es,nM]:af.list ((dg u).map af.int)=.list (nv (bk g b)))⟩
end
section
variable{X:Cx}{n k:Nat}{aa:bo}
noncomputable def X6(v:af):Int:=match v with
 | .int i=>i
 |_=>0
noncomputable def X7(f:Nat->af)(v:af):af:=match v with
 | .int i=>f i.toNat
 |_=>.none
def JQ l:(nv l).map X6=iv l:=by refine aac.symm▸?_;rfl
def U0(f:Nat->af)(l:aH):(nv l).map (X7 f)=l.map f:=by refine aac.symm▸?_;rfl
def PW{st:St}(f:Nat->af)(o j:Nat->List Or)(h:∀k∈l,S1 X n key (o k) (st.at i (.int k)) (.int k)/\S1 X n val (j k) (st.at i (.int k)) (f k)):Ox X n (.dA i) key val st (nv l) X6 (X7 f):=λx q=>by
 refine aj (FB.mp q) λk e c=>?_;subst c;exact⟨_,_,(h k e).1,λu s _ w=>⟨w.2,w.1,_,_,(h k e).2,λv y _ g=>⟨g.2,g.1⟩⟩⟩
def qZ{l:aH}(h:l.Pairwise (·< ·)):(iv l).Nodup:=List.Pairwise.map _ (λa b h=>by lia) h
def PX(aa:bo)(b i:Nat):Prop:=∃c∈bk aa b,jM (bk aa) c i
def q8(q:eD aa)(h:t∈bk aa b):t∈aq aa:=by
 obtain⟨j,c,u,g,s⟩:=s5 (IO.mp h).2;haveI e:aa[j]?=some aa[j]:=f0 c;refine dh.mpr ?_;unfold dV;simp only[aaO];exact .inr (aak.mpr ⟨j,AT.mpr c,by simp only[g,(ef q e (jT (((eB e)).symm.trans g))).1,s];simp⟩)
def PX.sub(e:eD aa)(h:PX aa b i):i∈aq aa:=by
 refine aj h λc g j=>?_;induction j with
 |refl=>exact q8 e g
 |ik _ m _=>exact q8 e m
def PX.next(h:PX aa b i)(m:j∈bk aa i):PX aa b j:=aj h λc e g=>(ay c e (g.ik m))
structure LZ(aa:List Rw)(b:Nat)(aE:List Int)(w:List Nat):Prop where
 nd:aE.Nodup
 sl:∀z∈aE,∃i:Nat,z=(i:Int)/\PX aa b i
 wl:∀i∈w,PX aa b i
 st:∀i∈bk aa b,(i:Int)∈aE\/i∈w
 cl:∀i:Nat,(i:Int)∈aE->∀j∈bk aa i,(j:Int)∈aE\/j∈w
def LZ.cS(e:eD aa)(h0:0<aa.length){g:aS}(I:LZ aa b g w):g.length<=aa.length:=by
 haveI:=fu (m:=iv (List.range aa.length)) I.nd λz j=>by
  refine aj (I.sl z j) λi c h=>?_;subst c;exact FB.mpr (ay i (AT.mpr (sub_lt e h0 (h.sub e))) rfl)
 rwa[fj,x0]at this
def LZ.skip{b o:Nat}{c:aS}(I:LZ aa b c (w++[o]))(h:(o:Int)∈c):LZ aa b c w:=⟨I.nd,I.sl,λi m=>I.wl i (AC.mpr (.inl m)),
 λi m=>(I.st i m).elim .inl λq=>(AC.mp q).elim .inr λq=>.inl (by rw[u8.mp q];exact h),
 λi m j e=>(I.cl i m j e).elim .inl λq=>(AC.mp q).elim .inr λq=>.inl (by rw[u8.mp q];exact h)⟩
def LZ.add{b o:Nat}{q e:aS}(I:LZ aa b q (w++[o]))(nd:e.Nodup)(g:∀z,z∈e↔z∈q\/z=(o:Int)):LZ aa b e (w++bk aa o):=by
 have s:=I.wl o (AC.mpr (.inr (.head _)))
 have c:∀j:Nat,(j:Int)∈q\/j∈w++[o]->(j:Int)∈e\/j∈w++bk aa o:=λj h=>by
  rcases h with h|h
  ·exact .inl ((g _).mpr (.inl h))
  ·rcases AC.mp h with h|h
   ·exact .inr (AC.mpr (.inl h))
   ·refine(u8.mp h).symm▸?_;exact .inl ((g _).mpr (.inr rfl))
 refine⟨nd,λz v=>?_,λi m=>?_,λi m=>c i (I.st i m),λi m j u=>?_⟩
 ·rcases(g z).mp v with h|h
  ·exact I.sl z h
  ·exact(ay o h s)
 ·rcases AC.mp m with m|m
  ·exact I.wl i (AC.mpr (.inl m))
  ·exact s.next m
 ·rcases(g _).mp m with h|h
  ·exact c j (I.cl i h j u)
  ·have:i=o:=by lia
   subst this;exact .inr (AC.mpr (.inr u))
def LZ.done{e:aS}(I:LZ aa b e []) z:z∈e↔∃i:Nat,z=(i:Int)/\PX aa b i:=by
 haveI cl:∀i:Nat,(i:Int)∈e->∀j∈bk aa i,(j:Int)∈e:=λi h j m=>(I.cl i h j m).elim id λq=>by exact nl q
 refine⟨I.sl z,?_⟩;rintro⟨i,rfl,c,g,s⟩;induction s with
 |refl=>exact(I.st c g).elim id λq=>by cases q
 |ik _ m u=>exact cl _ u _ m
def BH:(bk aa b).length<=aa.length:=by exact o0 (KT ..) (by refine x0▸?_;exact v0 _)
def U1{F:ah}:aB (D::(F++[a,c])) (F.length+1)=a:=by
 show aB (F++[a,c]) F.length=a;unfold aB;rw[GE (v0 _),aaR];rfl
def JR{F:ah}:aB (D::(F++[a,c])) (F.length+2)=c:=by
 show aB (F++[a,c]) (F.length+1)=c;unfold aB;rw[GE (by lia),show F.length+1-F.length=1 from by lia];rfl
def Xf{F:ah}:(F++[a,c]).set F.length x=F++[x,c]:=by rw[aaW _ _ (v0 _),aaR];rfl
def zd{F:ah}:(F++[a,c]).set (F.length+1) x=F++[a,x]:=by rw[aaW _ _ (by lia),show F.length+1-F.length=1 from by lia];rfl
noncomputable abbrev Xg(aa:bo):af:=.dict (iv (aq aa)) ((aq aa).map λb=>.list (nv (bk aa b)))
noncomputable def cbS(X:Cx)(aa:bo)(b m:Nat)(D:af)(c:ah):St:=⟨[aV X aa,.int b,Xg aa,.cell 0,.cell (m+1),.cell (m+2),.ae,.ae,.ae],D::c⟩
def CBW(X:Cx)(aa:bo)(b:Nat)(D:af)(F:ah)(m:Nat)(st:St):Prop:=∃c w,LZ aa b c w/\m=31*(aa.length-c.length)+w.length/\m<=2000/\st=cbS X aa b F.length D (F++[.set c,.list (nv w)])
def L4(C:cy aa)(j:eD aa)(h0:0<aa.length){R:Str->ah->Prop}{K:aR->St->Prop}{b o m:Nat}{c:aS}(I:LZ aa b c (w++[o]))(v:m=31*(aa.length-c.length)+(w++[o]).length)(O:m<=2000):
  cp X n R o8 (cbS X aa b F.length D (F++[.set c,.list (nv (w++[o]))])) (jC [6] (λst=>∃e,e<m/\CBW X aa b D F e st) K):=by
 haveI hN:aa.length<=30:=C;have G:=I.cS j h0;rw[sK,H1]at v;have H:(nv (w++[o])).length<=aL:=by rw[aN,sK,H1];unfold aL;lia
 have A:=λ{p:Prop}=>A4 (p:=p) (JR:aB (D::(F++[af.set c,af.list (nv (w++[o]))])) (F.length+2)=.list (nv (w++[o]))) (ct w [o]) H (zd.symm▸U1:aB (D::(F++[af.set c,af.list (nv (w++[o]))]).set (F.length+1) (af.list (nv w))) (F.length+1)=.set c);cases q:decide ((o:Int)∈c)with
 |true=>
  refine raw [.x (.list (nv (w++[o]))),.w (nv w) (.int o),.x (.set c),.b false] (λ_ z=>A (A1 (q▸rfl:(!decide ((o:Int)∈c))=false) z)) (?_:∃e,e<m/\CBW X aa b D F e (cbS X aa b F.length D ((F++[af.set c,af.list (nv (w++[o]))]).set (F.length+1) (af.list (nv w)))));rw[zd];exact⟨_,v▸W1 _,c,w,I.skip (s5 q),rfl,by lia,rfl⟩
 |false=>
  have L:=(I.wl o (AC.mpr (.inr (.head _)))).sub j;have P:=BH (aa:=aa) (b:=o);have x:aB (D::(F++[af.set c,af.list (nv (w++[o]))]).set (F.length+1) (af.list (nv w))) (F.length+1)=.set c:=zd.symm▸U1
  refine raw [.x (.list (nv (w++[o]))),.w (nv w) (.int o),.x (.set c),.b true,.x (.set c),.x (.set c),.p,.x (.list (nv w)),.v (.list (nv (bk aa o))),.x (.list (nv w)),.p] (λ_ z=>A (A4 (q▸rfl:(!decide ((o:Int)∈c))) x x (IN G (IN hN (by decide)):c.length<64) z))
   (?_:∀g:aS,g.Nodup->(∀z,z∈g↔z∈c\/z=(o:Int))->aB (D::((F++[af.set c,af.list (nv (w++[o]))]).set (F.length+1) (af.list (nv w))).set F.length (af.set g)) (F.length+2)=.list (nv w)/\dQ (o:Int) (iv (aq aa)) ((aq aa).map λb=>.list (nv (bk aa b)))=some (.list (nv (bk aa o)))/\
    aB (D::((F++[af.set c,af.list (nv (w++[o]))]).set (F.length+1) (af.list (nv w))).set F.length (af.set g)) (F.length+2)=.list (nv w)/\(nv w).length+(nv (bk aa o)).length<=aL/\
    ∃e,e<m/\CBW X aa b D F e (cbS X aa b F.length D ((((F++[af.set c,af.list (nv (w++[o]))]).set (F.length+1) (af.list (nv w))).set F.length (af.set g)).set (F.length+1) (af.list (nv w++nv (bk aa o))))))
  intro g y s;have B:=I.add y s
  have M:g.length=c.length+1:=acE (fu (m:=(o:Int)::c) y λz u=>((s z).mp u).elim (.tail _) λh=>h▸ .head _)
   (fu (l:=(o:Int)::c) (TT.mpr ⟨GT q,I.nd⟩) λz u=>(s z).mpr ((EQ.mp u).elim .inr .inl))
  have Q:=B.cS j h0;rw[zd,Xf,zd];refine⟨JR,by rw[gh,if_pos L],JR,by rw[aN,aN];unfold aL;lia,_,?_,g,w++bk aa o,B,rfl,?_,by rw[ct]⟩<;>simp only[sK]<;>lia
end
section
variable{X:Cx}{n k:Nat}{d:bo}
noncomputable def nO(c:List aS):ah:=c.flatMap λe=>[af.set e,af.list []]
noncomputable def mh(k:Nat):ah:=(List.range k).map λi=>.cell (2*i+1)
def PY(c:List aS):(nO c).length=2*c.length:=by
 unfold nO;induction c with
 |nil=>rfl
 |cons a l e=>
  simp only[abN,sK,e];show 2+2*l.length=2*(l.length+1);lia
def L5:nO (c++[e])=nO c++[af.set e,af.list []]:=by unfold nO;simp only[abM];simp
def PZ:∀{c:List aS} {i:Nat} {e:aS},c[i]?=some e->aB (D::nO c) (2*i+1)=.set e:=by
 intro c;induction c with
 |nil=>intro i e h;cases h
 |cons a l g=>
  intro i e h;cases i with
  |zero=>obtain rfl:=BT h;rfl
  |succ i=>exact g (i:=i) h
def P0(d:bo)(b:Nat)(c:aS):Prop:=c.Nodup/\∀z:Int,z∈c↔∃i:Nat,z=(i:Int)/\PX d b i
def CB(d:bo)(k:Nat)(c:List aS):Prop:=c.length=k/\∀(i b:Nat) (e:aS),(aq d)[i]?=some b->c[i]?=some e->P0 d b e
def ZZ{c:List aS}(h:c.length=k):dz (.dict e (mh k)::nO c) (.cell 0)=.dict e (c.map af.set):=by
 unfold dz;rw[lq];refine v6 (af.dict e) ?_;refine aac.symm▸?_;refine List.ext_getElem (by simp[h]) λi j g=>?_;simp only[List.getElem_map,List.getElem_map,ab0];rw[v4]at g;exact BG (PZ (f0 g))
noncomputable def cdS(X:Cx)(d:bo)(c:ah):St:=⟨[aV X d,.ae,Xg d,.cell 0,.ae,.ae,.ae,.ae,.ae],c⟩
def CDI(X:Cx)(d:bo)(k:Nat)(st:St):Prop:=∃c,CB d k c/\st=cdS X d (.dict (iv ((aq d).take k)) (mh k)::nO c)
def CB.add{h:aS}(e:CB d k u)(v:(aq d)[k]?=some b)(I:LZ d b h []):CB d (k+1) (u++[h]):=by
 refine⟨by rw[sK,e.1];rfl,λi c w j g=>?_⟩;rcases P3 i k with q|q
 ·rw[aar (by rw[e.1];exact q)]at g
  exact e.2 i c w j g
 ·have s:=(wP.mp g).1
  rw[sK,e.1,H1]at s;have:i=k:=acE (aca s) q;subst this;obtain rfl:=se (v) j;rw[GE (e.1.symm▸v0 _),e.1,aaR]at g;obtain rfl:=BT g;exact⟨I.nd,I.done⟩
def Tt{b:Nat}(g:(aq d)[k]?=some b):gI b (.cell (2*k+1)) (iv ((aq d).take k)) (mh k)=(iv ((aq d).take (k+1)),mh (k+1)):=by
 have h:=(wP.mp g).1;have c:((aq d).take k).length=k:=by rw[acK];exact Nat.min_eq_left (KK h)
 rw[y6 (by rw[fj,c];unfold mh;rw[v4,x0]) (λm=>by
  refine aj (FB.mp m) λi s u=>?_;obtain⟨j,q,e⟩:=XV s;rw[List.getElem_take]at e;rw[c]at q;have:=oQ (aa:=d) (a:=i) q (e▸f0 _) g;have:i=b:=Int.ofNat.inj u;lia),aaE,g,vq]
 unfold mh;simp only[aaK,aaL];rfl
def L6(j:cy d)(A:eD d)(h0:0<d.length){K:aR->St->Prop}(q:(aq d)[k]?=some b)(x:CB d k g):
  cp X n R pg ((cdS X d (.dict (iv ((aq d).take k)) (mh k)::nO g)).at 1 (.int b)) (jC [1,4,5,6] (CDI X d (k+1)) K):=by
 have hN:d.length<=30:=j;have B:dQ (b:Int) (iv (aq d)) ((aq d).map λb=>.list (nv (bk d b)))=some (.list (nv (bk d b))):=by rw[gh,if_pos (wE q)]
 have C:=BH (aa:=d) (b:=b);have G:(nv (bk d b)).length<=aL:=by rw[aN];exact dw (o0 C (o0 hN (by decide)))
 refine raw [.v (.list (nv (bk d b))),.p,.stop] (λ_=>A2 B G) (?_:cp X n R o9 ⟨[aV X d,.int b,Xg d,.cell 0,.cell ((nO g).length+1),.cell ((nO g++[af.set []]).length+1),.ae,.ae,.ae],.dict (iv ((aq d).take k)) (mh k)::(nO g++[af.set []]++[af.list (nv (bk d b))])⟩ (jC [1,4,5,6] (CDI X d (k+1)) K));rw[aaX,sK];refine Pe [6] (CBW X d b (.dict (iv ((aq d).take k)) (mh k)) (nO g)) (31*d.length+(bk d b).length) ⟨[],_,⟨.nil,λz h=>nl h,λi h=>⟨i,h,.refl⟩,λi h=>.inr h,λi h=>nl h⟩,rfl,by lia,rfl⟩ λm st H=>?_;obtain⟨s,w,I,y,u,rfl⟩:=H;refine⟨[.x (.list (nv w))],!(nv w).isEmpty,kT λ_=>A2 (JR (D:=.dict (iv ((aq d).take k)) (mh k)) (F:=nO g) (a:=.set s) (c:=.list (nv w))) (by rw[aN];unfold aL;lia:(nv w).length<=aL),λe=>?_,λe=>?_⟩
 ·rcases List.eq_nil_or_concat w with rfl|⟨w,o,rfl⟩
  ·exact Bool.noConfusion e
  ·rw[List.concat_eq_append]at I y⊢
   exact L4 j A h0 I y u
 ·cases w with
  |cons _ _=>exact Bool.noConfusion e
  |nil=>
   have v:(nO g).length=2*k:=(PY g).trans (v6 _ x.1);have L:(iv ((aq d).take k)).length<=aL:=by rw[fj];exact dw (o0 (List.length_take_le' ..) (o0 (rI j) (by decide)))
   refine raw [.p] (λ_=>A1 L) (?_:CDI X d (k+1) (cdS X d (.dict (gI b (.cell ((nO g).length+1)) (iv ((aq d).take k)) (mh k)).1 (gI b (.cell ((nO g).length+1)) (iv ((aq d).take k)) (mh k)).2::(nO g++[.set s,.list []]))));rw[v,Tt q];exact⟨g++[s],x.add q I,by rw[L5]⟩
def wo(T:Txt X)(L:bW n 6)(q:cy d)(x:eD d)(h0:0<d.length):ba X n "called_by" [aV X d] (λv=>∃c,CB d (aq d).length c/\v=.dict (iv (aq d)) (c.map af.set)):=by
 have e:=fw q
 refine nL T L v8 (tm 39 rfl) [.k X6 (X7 λb=>.list (nv (bk d b))),.go,.stop] (JK _ cG) (λ_=>A6 L.lt (mP T) (Eq.refl af.ae)
   (PW (X:=X) (n:=n-1) (key:=m7) (val:=m8) (i:=8) (st:=⟨[aV X d,.ae,.ae,.ae,.ae,.ae,.ae,.ae,.ae],[]⟩) (l:=aq d) (λb=>.list (nv (bk d b))) (λ_=>[]) (λb=>[.v (.list (nv (bk d b)))]) λb s=>⟨kE λ_=>id,kE λ_=>A1 (zc (X:=X) T (L.dn 5) q x h0 s)⟩)
   e (JQ (aq d)▸qZ da))
  (?_:cp X (n-1) (λ_ _=>False) pn ⟨[aV X d,.ae,.dict ((nv (aq d)).map X6) ((nv (aq d)).map (X7 λb=>.list (nv (bk d b)))),.cell 0,.ae,.ae,.ae,.ae,.ae],[.dict [] []]⟩ (cH λv=>∃c,CB d (aq d).length c/\v=.dict (iv (aq d)) (c.map af.set)))
 rw[JQ,U0];refine Ak [1,4,5,6] [] (nv (aq d)) (.list (nv (aq d))) e (kI λ_=>A1 (mP T)) (CDI X d) ⟨[],⟨rfl,λi b z _ h=>nx h⟩,rfl⟩ (λk st v y u=>⟨trivial,?_⟩) λst u=>⟨trivial,?_⟩
 ·obtain⟨c,g,rfl⟩:=u
  refine aj (oF y) λb s w=>?_;subst w;exact L6 q x h0 s g
 ·obtain⟨c,g,rfl⟩:=u
  rw[aN]at g⊢;rw[SL (v0 _)];refine raw [] (λ_=>id) (?_:(dz (.dict (iv (aq d)) (mh (aq d).length)::nO c) (.cell 0)).nc/\∃j,CB d (aq d).length j/\dz (.dict (iv (aq d)) (mh (aq d).length)::nO c) (.cell 0)=.dict (iv (aq d)) (j.map af.set));rw[ZZ g.1];exact⟨d0 (λ_=>rfl) _,c,g,rfl⟩
end
section
noncomputable def kg(l:aH):Nat:=l.foldr max 0
def xv(h:x∈l):x<=kg l:=by
 induction l with
 |nil=>cases h
 |cons a l c=>
  show x<=max a (kg l);rcases EQ.mp h with rfl|h
  ·lia
  ·haveI:=c h;lia
def xw(h:∀x∈l,x<=m):kg l<=m:=by
 induction l with
 |nil=>exact SC _
 |cons a l c=>
  show max a (kg l)<=m;haveI:=h a (.head _);haveI:=c λx e=>h x (.tail _ e);lia
section
variable{aa:bo}
noncomputable def gF(aa:bo)(b:Nat):aH:=(List.range aa.length).filter λc=>decide (kf aa c b)
noncomputable def Tu(aa:bo):Nat->Nat->Nat
 |0,_=>0
 |f+1,b=>1+kg ((gF aa b).map (Tu aa f))
noncomputable def bA(aa:bo)(b:Nat):Nat:=Tu aa (aa.length+1) b
def iE(aa:bo):Prop:=∀j,j<aa.length->eG aa j->¬jM (bk aa) (ck aa j) (ao aa j)
open Classical in
noncomputable def H7(aa:bo)(b:Nat):aH:=(List.range aa.length).filter λa=>decide (jM (bk aa) a b)
open Classical in
def uu:a∈H7 aa b↔a<aa.length/\jM (bk aa) a b:=by unfold H7;rw[IO,AT,abZ]
def L7:(H7 aa b).Nodup:=by exact acP _ List.nodup_range
def H8:(H7 aa b).length<=aa.length:=by exact o0 (KT ..) (by refine x0▸?_;exact v0 _)
def fc:c∈gF aa b↔c<aa.length/\kf aa c b:=by unfold gF;rw[IO,AT,abZ]
def ze(v:eD aa)(h:kf aa c b):b<aa.length/\b∈bk aa c:=by
 refine zJ h λj g w q s=>?_;haveI e:aa[j]?=some aa[j]:=f0 g;haveI u:b<aa.length:=by refine s▸?_;exact(ef v e (jT (((eB e)).symm.trans q))).2
 exact⟨u,IO.mpr ⟨AT.mpr u,FM (BX j g w q s)⟩⟩
def vz(g:eD aa)(q:iE aa)(h:kf aa c b):(H7 aa c).length<(H7 aa b).length:=by
 refine aX (ze g h) λs u=>?_
 haveI:=fu (l:=b::H7 aa c) (m:=H7 aa b) (TT.mpr ⟨λm=>by
  refine zJ h λj v w y z=>?_;haveI:=(uu.mp m).2;rw[<-w,<-z]at this;exact q j v y this,L7⟩) λx e=>by
  rcases EQ.mp e with rfl|e
  ·exact uu.mpr ⟨s,.refl⟩
  ·exact uu.mpr ⟨(uu.mp e).1,(uu.mp e).2.ik u⟩
 rw[WF]at this;assumption
def FE(s:eD aa)(u:iE aa):∀(m b f g:Nat),(H7 aa b).length<=m->(H7 aa b).length<f->(H7 aa b).length<g->Tu aa f b=Tu aa g b:=by
 intro m;induction m with
 |zero=>
  intro b f g v h j;refine ar (ZB (ac1 (IN (SC _) h))) λf e=>?_;subst e;obtain⟨g,rfl⟩:=ZB (ac1 (IN (SC _) j));show 1+kg ((gF aa b).map _)=1+kg ((gF aa b).map _);congr 2;refine TE λc q=>?_;haveI:=vz s u (fc.mp q).2;lia
 |succ m w=>
  intro b f g v h j;refine ar (ZB (ac1 (IN (SC _) h))) λf e=>?_;subst e;obtain⟨g,rfl⟩:=ZB (ac1 (IN (SC _) j));show 1+kg ((gF aa b).map _)=1+kg ((gF aa b).map _);congr 2;refine TE λc q=>?_;haveI:=vz s u (fc.mp q).2;exact w c f g (by lia) (by lia) (by lia)
def rK(e:eD aa)(g:iE aa) b:bA aa b=1+kg ((gF aa b).map (bA aa)):=by
 show 1+kg ((gF aa b).map _)=_;congr 2;refine TE λc h=>?_;haveI j:=vz e g (fc.mp h).2;haveI q:=H8 (aa:=aa) (b:=b);exact FE e g _ c _ _ (v0 _) (by exact UF (by assumption) (by assumption)) (by lia)
def FF(e:eD aa)(g:iE aa)(j:c<aa.length)(h:kf aa c b):bA aa c+1<=bA aa b:=by
 simp only[rK e g b];haveI:=xv (FB.mpr (ay c (fc.mpr ⟨j,h⟩) rfl):bA aa c∈(gF aa b).map (bA aa));lia
def H9 b:1<=bA aa b:=T0 1 _
def L8(s:eD aa)(u:iE aa){cnt:Nat->Nat}(v:∀b∈aq aa,1<=cnt b/\cnt b<=bA aa b)(B:∀j<aa.length,eG aa j->cnt (ao aa j)+1<=cnt (ck aa j)):∀b∈aq aa,cnt b=bA aa b:=by
 haveI w:∀(m b:Nat),(H7 aa b).length<=m->b∈aq aa->bA aa b<=cnt b:=by
  intro m;induction m with
  |zero=>
   intro b h g;rw[rK s u]
   have:kg ((gF aa b).map (bA aa))<=0:=xw λx y=>by
    refine aj (FB.mp y) λc z e=>?_;subst e;haveI:=vz s u (fc.mp z).2;lia
   haveI:=(v b g).1;lia
  |succ m C=>
   intro b h g;rw[rK s u];have D:=(v b g).1
   have:kg ((gF aa b).map (bA aa))<=cnt b-1:=xw λx y=>by
    refine aj (FB.mp y) λc z e=>?_;subst e;have q:=(fc.mp z).2;haveI:=vz s u q;refine zJ q λj G A H I=>?_;haveI M:=C c (by lia) (dh.mpr (by refine A▸?_;exact qU j));haveI L:=B j G H;rw[A,I]at L;lia
   lia
 exactλb g=>acE (v b g).2 (w _ b (v0 _) g)
end
end
section
variable{X:Cx}{n k:Nat}{aa:bo}
def Xh{f g:Nat->Nat}{l:aH}(h:∀x∈l,f x<=g x):(l.map f).sum<=(l.map g).sum/\(∀x∈l,f x<g x->(l.map f).sum<(l.map g).sum):=by
 induction l with
 |nil=>exact⟨v0 _,λx m=>by exact nl m⟩
 |cons a l c=>
  refine aX (c λx m=>h x (.tail _ m)) λj e=>?_;haveI s:=h a (.head _);simp only[aaT,List.sum_cons];refine⟨by lia,λx m q=>?_⟩;rcases EQ.mp m with rfl|m
  ·lia
  ·haveI:=e x m q;lia
noncomputable def kh(aa:bo)(cnt:Nat->Nat):af:=.dict (iv (aq aa)) ((aq aa).map λb=>.int (cnt b))
noncomputable def U2(aa:bo)(cnt:Nat->Nat):Nat:=((aq aa).map λb=>bA aa b-cnt b).sum
noncomputable def sv(cnt:Nat->Nat)(t v x:Nat):Nat:=if x=t then v else cnt x
def P1(aa:bo)(cnt:Nat->Nat):Prop:=∀b∈aq aa,1<=cnt b/\cnt b<=bA aa b
def Xi(aa:bo)(cnt:Nat->Nat)(l:aH):Prop:=∀j∈l,cnt (ao aa j)+1<=cnt (ck aa j)
def jG j:ao aa j∈aq aa:=dh.mpr (qU j)
def cn:j∈aJ aa↔j<aa.length/\eG aa j:=by unfold aJ;rw[IO,AT]
def ki(c:eD aa)(h:j∈aJ aa):tg aa j=some (ck aa j)/\ck aa j<aa.length/\ck aa j∈aq aa/\kf aa (ao aa j) (ck aa j):=by
 refine aX (cn.mp h) λg q=>?_;haveI e:aa[j]?=some aa[j]:=f0 g;obtain⟨u,v⟩:=ef c e (jT (((eB e)).symm.trans q));haveI s:kf aa (ao aa j) (ck aa j):=(BX j g rfl q rfl);exact(fL u v (q8 c (ze c s).2) s)
noncomputable def Xj(X:Cx)(aa:bo)(c:Bool)(cnt:Nat->Nat):St:=⟨[aV X aa,.cell 0,.bool c,.ae,.ae,.ae,.ae,.ae],[kh aa cnt]⟩
def FI(X:Cx)(aa:bo)(cnt:Nat->Nat)(k:Nat)(st:St):Prop:=∃(e:Bool) (c:Nat->Nat),P1 aa c/\(e->U2 aa c<U2 aa cnt)/\(e=false->c=cnt/\Xi aa cnt ((aJ aa).take k))/\st=Xj X aa e c
def Tv{cnt:Nat->Nat}{t v:Nat}(h:t∈aq aa):af.dict (gI t (.int v) (iv (aq aa)) ((aq aa).map λb=>.int (cnt b))).1 (gI t (.int v) (iv (aq aa)) ((aq aa).map λb=>.int (cnt b))).2=kh aa (sv cnt t v):=by
 rw[Fz h (da.imp λh=>LE h)];refine v6 (af.dict _) (TE λb _=>?_);unfold sv;by_cases z:b=t
 ·rw[if_pos z,if_pos z]
 ·rw[if_neg z,if_neg z]
set_option tactic.hygienic true in
def Ma(T:Txt X)(L:bW n 4)(w:cy aa)(D:eD aa)(O:iE aa){R:Str->ah->Prop}{K:aR->St->Prop}{j:Nat}{cnt c:Nat->Nat}{h:Bool}(x:(aJ aa)[k]?=some j)(g:P1 aa c)(G:h->U2 aa c<U2 aa cnt)(u:h=false->c=cnt/\Xi aa cnt ((aJ aa).take k)):
  cp X n R kZ ((Xj X aa h c).at 3 (.int j)) (jC [3,4,5] (FI X aa cnt (k+1)) K):=by
 obtain⟨P,U,y,Q⟩:=ki D (wE x);have H:=nN (X:=X) T (L.le 1) w j;have I:=eP (X:=X) T L w P
 have A:=λ{p:Prop}=>A9 (p:=p) (mP T) H.has H (by rw[gh,if_pos (jG j)]:dQ (ao aa j:Int) (iv (aq aa)) ((aq aa).map λb=>.int (c b))=some (.int (c (ao aa j)))) (rfl:((c (ao aa j):Nat):Int)+1=(c (ao aa j)+1:Nat)) (mP T) I.has I
  (by rw[gh,if_pos y]:dQ (ck aa j:Int) (iv (aq aa)) ((aq aa).map λb=>.int (c b))=some (.int (c (ck aa j))))
 cases q:decide ((c (ck aa j):Int)<((c (ao aa j)+1:Nat):Int))with
 |true=>
  have B:=aaY.mp (s5 q);have V:=g _ (jG (aa:=aa) j);have Z:=FF D O (IN (md j) (cn.mp (wE x)).1) Q
  have C:U2 aa (sv c (ck aa j) (c (ao aa j)+1))<U2 aa c:=(Xh λb M=>by
   unfold sv;split
   ·rename_i e;subst e;exact Nat.sub_le_sub_left (KK B) _
   ·exact v0 _).2 _ y (by unfold sv;rw[if_pos rfl];lia)
  refine raw [.v (.int (ao aa j)),.v (.int (c (ao aa j))),.x (.int (c (ao aa j)+1:Nat)),.v (.int (ck aa j)),.v (.int (c (ck aa j))),.b true,.p,.y (kh aa (sv c (ck aa j) (c (ao aa j)+1)))]
   (λ_ z=>A (A3 q (by rw[fj,<-aN];exact fw w:(iv (aq aa)).length<=aL) (Tv (cnt:=c) (v:=c (ao aa j)+1) y) z))
   (⟨true,_,λb M=>?_,λ_=>?_,λe=>Bool.noConfusion e,rfl⟩:FI X aa cnt (k+1) (Xj X aa true (sv c (ck aa j) (c (ao aa j)+1))))
  ·unfold sv
   split
   ·rename_i e;subst e;lia
   ·exact g b M
  ·cases h with
   |true=>exact abV C (G rfl)
   |false=>rw[(u rfl).1]at C⊢;exact C
 |false=>
  have B:=GT q
  exact raw [.v (.int (ao aa j)),.v (.int (c (ao aa j))),.x (.int (c (ao aa j)+1:Nat)),.v (.int (ck aa j)),.v (.int (c (ck aa j))),.b false] (λ_ z=>A (A1 q z))
   (⟨h,c,g,G,λe=>⟨(u e).1,λi s=>by
    rw[aaE,x]at s;rcases AC.mp s with s|s
    ·exact(u e).2 i s
    ·obtain rfl:i=j:=u8.mp s
     rw[<-(u e).1];exact aaG.mp λz=>B (aaY.mpr z)⟩,rfl⟩:FI X aa cnt (k+1) (Xj X aa h c))
def FW(X:Cx)(aa:bo)(m:Nat)(st:St):Prop:=∃c cnt,P1 aa cnt/\(c=false->Xi aa cnt (aJ aa))/\m=2*U2 aa cnt+(if c then 1 else 0)/\st=Xj X aa c cnt
def rL(c:cy aa):(nv (aJ aa)).length<=aL:=by rw[aN];exact y9 c _
def q9(T:Txt X)(L:bW n 5)(w:cy aa)(B:eD aa)(C:iE aa):ba X n "frame_counts" [aV X aa] (λv=>v=kh aa (bA aa)):=by
 refine nL T L qP (tm 40 rfl) [.k X6 (X7 λ_=>.int 1),.go,.stop] (JK _ cG) (λ_=>A6 L.lt (mP T) (Eq.refl af.ae)
   (PW (X:=X) (n:=n-1) (key:=j1) (val:=j2) (i:=7) (st:=⟨[aV X aa,.ae,.ae,.ae,.ae,.ae,.ae,.ae],[]⟩) (l:=aq aa) (λ_=>.int 1) (λ_=>[]) (λ_=>[]) λb D=>⟨kE λ_=>id,kE λ_=>id⟩) (fw w) (JQ (aq aa)▸qZ da))
  (?_:cp X (n-1) (λ_ _=>False) k9 ⟨[aV X aa,.cell 0,.bool true,.ae,.ae,.ae,.ae,.ae],[.dict ((nv (aq aa)).map X6) ((nv (aq aa)).map (X7 λ_=>.int 1))]⟩ (cH λv=>v=kh aa (bA aa)))
 rw[JQ,U0];refine Pe [3,4,5] (FW X aa) (2*U2 aa (λ_=>1)+1) ⟨true,λ_=>1,λb _=>⟨v0 _,H9 b⟩,λe=>Bool.noConfusion e,rfl,rfl⟩ λm st g=>?_;obtain⟨h,cnt,q,G,H,rfl⟩:=g;refine⟨[],h,kT λ_=>id,λe=>?_,λe=>?_⟩<;>subst e
 ·refine raw [.go,.stop] (λ_=>id) (?_:cp X (n-1) (λ_ _=>False) k8 (Xj X aa false cnt) (jC [3,4,5] (λst=>∃s,s<m/\FW X aa s st) (mF X (n-1) (λ_ _=>False) (.cons (.ret (.aC 1)) .nil) (cH λv=>v=kh aa (bA aa)))))
  refine Ak [3,4,5] [.v (.list (nv (aJ aa)))] (nv (aJ aa)) (.list (nv (aJ aa))) (rL w) (kI λ_=>A1 (mH (X:=X) T (L.dn 2) w)) (FI X aa cnt) ⟨false,cnt,q,λe=>Bool.noConfusion e,λ_=>⟨rfl,λj x=>nl x⟩,rfl⟩ (λk st v I g=>⟨trivial,?_⟩) λst g=>⟨trivial,?_⟩
  ·obtain⟨h,y,z,u,c,rfl⟩:=g
   refine aj (oF I) λj x A=>?_;subst A;exact Ma T (L.dn 4) w B C x z u c
  ·rw[aN]at g
   obtain⟨h,y,z,u,c,rfl⟩:=g;rw[SL (v0 _)]at c;refine raw [] (λ_=>id) (⟨_,?_,h,y,z,λe=>(c e).1.symm▸(c e).2,rfl,rfl⟩:∃s,s<m/\FW X aa s (Xj X aa h y));rw[H];cases h with
   |true=>have:=u rfl;show 2*_+1<2*_+1;lia
   |false=>rw[(c rfl).1];exact W1 _
 ·have M:=L8 B C q λj u c=>G rfl j (cn.mpr ⟨u,c⟩)
  have e:kh aa cnt=kh aa (bA aa):=v6 (af.dict _) (TE λb D=>(M b D)▸rfl);refine raw [] (λ_=>id) (?_:(dz [kh aa cnt] (.cell 0)).nc/\dz [kh aa cnt] (.cell 0)=kh aa (bA aa));rw[show dz [kh aa cnt] (.cell 0)=kh aa cnt from vr rfl (d0 (λ_=>rfl) _),e];exact⟨d0 (λ_=>rfl) _,rfl⟩
end
section
noncomputable def bK(p:Nat->Option Str)(N:Nat):Option (Str×Nat):=(List.range N).findSome? λi=>(p i).map λw=>(w,i)
def aI:bK p N=none↔∀i<N,p i=none:=by
 unfold bK;rw[List.findSome?_eq_none_iff];exact⟨λh i c=>by haveI:=h i (AT.mpr c);rwa[Option.map_eq_none_iff]at this,λh i c=>v6 _ (h i (AT.mp c))⟩
def er(e:k<N)(h:∀i<k,p i=none)(hw:p k=some w):bK p N=some (w,k):=by
 unfold bK;refine ar (Nat.exists_eq_add_of_lt e) λm c=>?_;subst c;refine(show k+m+1=k+(m+1)from rfl).symm▸?_;refine List.range_add▸?_;refine List.findSome?_append▸?_
 haveI:(List.range k).findSome? (λi=>(p i).map λw=>(w,i))=none:=by
  rw[List.findSome?_eq_none_iff];exactλi g=>v6 _ (h i (AT.mp g))
 rw[this,Option.none_or,List.range_succ_eq_map,aaT,List.findSome?_cons,Nat.add_zero,hw];rfl
section
variable{a:bo}
noncomputable def ll(a:bo)(i:Nat):Bool:=match a[i]? with
 |some r=>r.w.ll
 |none=>false
noncomputable def kF(a:bo)(i:Nat):Bool:=match a[i]? with
 |some r=>r.w.kF
 |none=>false
noncomputable def rY(a:bo)(i:Nat):Bool:=match a[i]? with
 |some r=>r.w.rY
 |none=>false
noncomputable def f2(a:bo)(i:Nat):Option Str:=match oG a i with
 |none=>none
 |some g=>if 0<=g/\g<iY a then(match ow a g with|none=>some "goal within a wide load"|some _=>none)else some "goal out of the program"
noncomputable def f3(a:bo)(i:Nat):Option Str:=if(kF a i||rY a i)/\ao a (ck a i)≠ao a i then some "goal in another subprogram" else none
noncomputable def f4(a:bo)(i:Nat):Option Str:=if(i+1=a.length\/ao a (i+1)≠ao a i)/\ll a i=false/\kF a i=false then some "subprogram without an end" else none
open Classical in
noncomputable def f5(a:bo)(i:Nat):Option Str:=if jM (bX a) 0 i then none else some "order that nothing reaches"
open Classical in
noncomputable def f6(a:bo)(i:Nat):Option Str:=if eG a i/\jM (bk a) (ck a i) (ao a i)then some "calls in a ring" else none
noncomputable def f7(a:bo)(i:Nat):Option Str:=if eG a i/\7<bA a (ao a i)then some "too many frames" else none
noncomputable def fG(a:bo):Option (Str×Nat):=(bK (f2 a) a.length).or ((bK (f3 a) a.length).or ((bK (f4 a) a.length).or ((bK (f5 a) a.length).or ((bK (f6 a) a.length).or (bK (f7 a) a.length)))))
noncomputable def dG(a:bo)(most:Int):Option (Str×af):=
 if a.length=0 then some ("no order",.none)else if most<iY a then some ("too many orders",.none)else(fG a).map λe=>(e.1,.int e.2)
def ra(h:∀i<a.length,f2 a i=none):eD a:=λi r s u=>by
 have c:=h i (lp s);haveI j:∃g,gl a r=some g:=by unfold gl;refine(if_pos u)▸?_;exact⟨_,rfl⟩
 refine ar j λg j=>?_;have e:oG a i=some g:=by unfold oG;refine s▸?_;exact j
 unfold f2 at c;rw[e]at c;dsimp only at c;split at c
 ·cases q:ow a g with
  |none=>rw[q]at c;cases c
  |some t=>exact⟨t,by unfold tg;refine e▸?_;exact q⟩
 ·exact sx c
def sZ{r:Rw}(c:a[i]?=some r):kF a i=r.w.kF:=by unfold kF;rw[c]
def Ia{r:Rw}(c:a[i]?=some r):rY a i=r.w.rY:=by unfold rY;rw[c]
def Dq{r:Rw}(c:a[i]?=some r):ll a i=r.w.ll:=by unfold ll;rw[c]
set_option tactic.hygienic true in
def Dr(w:eD a)(h:∀i<a.length,f4 a i=none):sk a:=λi x j c=>by
 have e:a[i]?=some a[i]:=f0 x;haveI v:=h i x;unfold succ at c;rw[e]at c;dsimp only at c
 have g:a[i].w.ll=false->a[i].w.kF=false->i+1<a.length:=λu s=>by
  rcases P3 (i+1) a.length with q|q
  ·exact q
  ·unfold f4 at v
   rw[if_pos ⟨.inl (by lia),((Dq e)).trans u,((sZ e)).trans s⟩]at v;exact sx v
 split at c
 ·exact nl c
 ·rename_i u
  split at c
  ·rename_i s
   rw[u8]at c;subst c;exact(ef w e (vt s)).2
  ·rename_i s
   split at c
   ·rename_i y
    rcases EQ.mp c with rfl|c
    ·exact g (by simpa using u) (by simpa using s)
    ·rw[u8]at c;subst c
     exact(ef w e (vu (a2 y).1)).2
   ·rw[u8]at c;subst c
    exact g (by simpa using u) (by simpa using s)
def vA(h:∀i<a.length,f6 a i=none):iE a:=λj c e g=>by
 haveI:=h j c;unfold f6 at this;rw[if_pos ⟨e,g⟩]at this;exact sx this
end
section
variable{X:Cx}{n k:Nat}{R:Str->ah->Prop}
def P2(T:Txt X)(E:qz X (Rp R))(L:bW n (k+2))(r:d6)(m:r∈table)(e:(r.cls==("":Str))) o(g:eJ args)(h:(bZ r.d r.ps.length args).length=r.ps.length)
  (w:∀G,wi (X.at G) (n-1) R r.ir ⟨eO (bZ r.d r.ps.length args) r.N,[]⟩ o λj st _=>cH Q j st):gq X n r.name args Q (Rp R):=by
 obtain⟨q,s⟩:=L;refine ar (ZB (o0 (abW 1 (k+1)) q)) λn c=>?_;subst c;refine aj (yS (T.aa r m) e) λf u v=>?_;exact(dC f u g (E3 E v h (by lia) (acO s) λG=>a9 o (w G)))
def Txt.to(T:Txt X) G:Txt (X.at G):=⟨T.aa,T.SY⟩
def qz.to(E:qz X R) G:qz (X.at G) R:=⟨E.only,E.cls⟩
end
def nP(e:Bool)(c:aH)(s:St)(f:Option Str)(v:af):aR->St->Prop
 | .next,st=>f=none/\fg c st=s
 | .cont,st=>f=none/\fg c st=s
 | .ret u,_=>e/\∃w,f=some w/\u=.tuple [.str w,v]
 | .brk,_=>False
section
variable{X:Cx}{n:Nat}{R:Str->ah->Prop}
def scan{st:St}{K:aR->St->Prop} C q D s0{l:aH}(c:Nat->af) src(f:Nat->Option Str)(I:l.length<=aL)(L:HN X n it st D λM s v _=>M=l.map c/\s=src/\v=st)(G:eF src (l.map c) s0)(h0:fg q st=s0)
  (O:∀k j:Nat,l[k]?=some j->(∀i∈l.take k,f i=none)->gy t (c j) s0 λs=>cp X n R b s (nP C q s0 (f j) (.int j)))
  (P:C->∀k j:Nat,l[k]?=some j->(∀i∈l.take k,f i=none)->∀w,f j=some w->∀st,K (.ret (.tuple [.str w,.int j])) st) (y:(∀j∈l,f j=none)->cp X n R r s0 K):cp X n R (.cons (.du t it b) r) st K:=
 Ak q D (l.map c) src ((v4 _).symm▸I) L (λk st=>(∀i∈l.take k,f i=none)/\st=s0) ⟨λi h=>nl (List.take_zero▸h),h0⟩ (λk v x H A=>by
  obtain⟨e,rfl⟩:=A;rw[FS]at H;obtain⟨j,B,rfl⟩:=TW.mp H;refine⟨G,dH (O k j B e) λs h=>b.ri h λQ st z=>?_⟩
  have go:f j=none/\fg q st=v->(∀i∈l.take (k+1),f i=none)/\fg q st=v:=λz=>⟨λi g=>by
   rw[aaE,B]at g;rcases AC.mp g with g|g
   ·exact e i g
   ·have:i=j:=by simpa using g
    exact this▸z.1,z.2⟩
  cases Q with
  |next=>exact go z
  |cont=>exact go z
  |brk=>exact z.elim
  |ret u=>
   obtain⟨T,w,U,rfl⟩:=z;exact P T k j B e w U st) λv A=>by
  obtain⟨e,rfl⟩:=A;rw[v4,SL (v0 _)]at e;exact⟨G,y e⟩
def ly{st:St}{K:aR->St->Prop} x y A s0(f:Nat->Option Str)(C:N<=aL)(D:HN X n (.bz e) st A λG s H _=>G=nv (List.range N)/\s=.none/\H=st)(h0:fg y st=s0)
  (I:∀k<N,(∀i<k,f i=none)->cp X n R b (s0.at i (.int k)) (nP x y s0 (f k) (.int k)))
  (L:x->∀k<N,(∀i<k,f i=none)->∀w,f k=some w->∀st,K (.ret (.tuple [.str w,.int k])) st) (h:(∀k<N,f k=none)->cp X n R r s0 K):cp X n R (.cons (.du (.dA i) (.bz e) b) r) st K:=
 have u:∀{k j:Nat},(List.range N)[k]?=some j->(∀i∈(List.range N).take k,f i=none)->k=j/\j<N/\∀i<j,f i=none:=λ{k j} v c=>by
  obtain⟨B,g⟩:=wP.mp v;rw[ab0]at g;subst g;rw[x0]at B;exact⟨rfl,B,λi O=>c i (by rw[List.take_range,AT];lia)⟩
 scan x y A s0 (λj=>.int j) .none f (x0.symm▸C) D trivial h0 (λk j v c=>cY (u v c) λ_ g z=>I j g z) (λq k j v c=>cY (u v c) λ_ g z=>L q j g z) λc=>h λk M=>c k (AT.mpr M)
end
end
section
variable{X:Cx}{n k:Nat}{j:bo}{R:Str->ah->Prop}
def rb:(("ProgramError":Str)≠("":Str)):=by decide
noncomputable def pS(X:Cx)(j:bo):St:=⟨[aV X j,.ae,.ae,.ae],[]⟩
def gk(f:Option Str)(s:St)(h:f=none):f=none/\s=s:=⟨h,rfl⟩
def P4(T:Txt X)(L:bW n 4)(H:cy j)(I:c<j.length)(G:∀w,f2 j c=some w->R "ProgramError" [.str w,.int c]):
  cp X n R lM ((pS X j).at 1 (.int c)) (nP false [1,2,3] (pS X j) (f2 j c) (.int c)):=by
 have s:=mP T;have e:j[c]?=some j[c]:=f0 I;generalize j[c]=r at e;refine xB (qV (X:=X) e) λd f i m P _=>?_;have M:=sj H I P;have B:=yT (d:=d) (f:=f) (i:=i) (m:=m) T L r.w;have u:f2 j c=match gl j r with|none=>none|some g=>if 0<=g/\g<iY j then(match ow j g with|none=>some ("goal within a wide load":Str)|some _=>none)else some ("goal out of the program":Str):=by delta f2 oG;rw[e];rfl
 cases q:r.w.gN with
 |false=>
  rw[q]at B;exact raw [.y (bT X r.w d f i m),.v (.bool false)] (λ_=>A3 s M B) (gk (f2 j c) (pS X j) (by rw[u];unfold gl;rw[q];rfl))
 |true=>
  rw[q]at B;obtain⟨g,x⟩:∃g,gl j r=some g:=by unfold gl;refine(if_pos q)▸?_;exact⟨_,rfl⟩
  have O:=Pw (X:=X) T (L.le 3) H e x;rw[x]at u;dsimp only at u;have A:=λ{p:Prop}=>A6 (p:=p) s M B s O.has O;cases v:decide ((0:Int)<=g)with
  |false=>exact raw [.y (bT X r.w d f i m),.v (.bool true),.v (.int g),.b false] (λ_ z=>A (A1 v z)) (⟨rb,G _ (by rw[u,if_neg (λh=>GT v h.1)])⟩:Rp R "ProgramError" [.str "goal out of the program",.int c])
  |true=>
   cases C:decide (g<(iY j:Int))with
   |false=>exact raw [.y (bT X r.w d f i m),.v (.bool true),.v (.int g),.b true,.b true] (λ_ z=>A (A3 v s (v6 Bool.not C:(!decide (g<(iY j:Int)))) z)) (⟨rb,G _ (by rw[u,if_neg (λh=>GT C h.2)])⟩:Rp R "ProgramError" [.str "goal out of the program",.int c])
   |true=>
    rw[if_pos ⟨s5 v,s5 C⟩]at u;have y:(!decide (g<(iY j:Int)))=false:=v6 Bool.not C;cases D:ow j g with
    |none=>exact raw [.y (bT X r.w d f i m),.v (.bool true),.v (.int g),.b true,.b false,.b true] (λ_ z=>A (A5 v s y s (v6 Bool.not (SZ λm=>ar (Dj.mp m) λt h=>sn h D):(!decide (g∈iv (bV j j.length)))) z)) (⟨rb,G _ (by rw[u,D])⟩:Rp R "ProgramError" [.str "goal within a wide load",.int c])
    |some t=>exact raw [.y (bT X r.w d f i m),.v (.bool true),.v (.int g),.b true,.b false,.b false] (λ_ z=>A (A5 v s y s (v6 Bool.not (FM (Dj.mpr ⟨t,D⟩)):(!decide (g∈iv (bV j j.length)))=false) z)) (gk (f2 j c) (pS X j) (by rw[u,D]))
def iF{a b:Nat}{c:Bool}(h:decide (a=b)=c):(!decide ((a:Int)=(b:Int)))= !c:=v6 Bool.not ((aci.mpr Int.ofNat_inj).trans h)
def P5(T:Txt X)(L:bW n 4)(A:cy j)(C:eD j)(I:c<j.length)(O:∀w,f3 j c=some w->R "ProgramError" [.str w,.int c]):
  cp X n R lN ((pS X j).at 1 (.int c)) (nP false [1,2,3] (pS X j) (f3 j c) (.int c)):=by
 have g:=mP T;have e:j[c]?=some j[c]:=f0 I;generalize j[c]=r at e;refine xB (qV (X:=X) e) λd f i m P _=>?_;have B:=sj A I P;have u:=kG (d:=d) (f:=f) (i:=i) (m:=m) T (L.le 2) r.w;have y:=l8 (d:=d) (f:=f) (i:=i) (m:=m) T (L.le 3) r.w;have s:=nN (X:=X) T (L.le 1) A c;have D:=nN (X:=X) T (L.le 1) A (ck j c);have G:f3 j c=if(r.w.kF||r.w.rY)/\ao j (ck j c)≠ao j c then some ("goal in another subprogram":Str)else none:=by unfold f3;simp only[sZ e,Ia e]
 cases q:decide (ao j (ck j c)=ao j c)with
 |true=>
  have H:f3 j c=none:=by rw[G,if_neg (λh=>h.2 (s5 q))]
  cases v:r.w.kF with
  |true=>
   rw[v]at u;have ht:=eP (X:=X) T L A (ef C e (vt v)).1;exact raw [.y (bT X r.w d f i m),.v (.bool true),.a,.a,.v (.int (ck j c)),.v (.int (ao j (ck j c))),.v (.int (ao j c)),.b false] (λ_ z=>A9 g B u g s.has g ht.has ht D (A4 g s.has s (iF q) z)) (gk (f3 j c) (pS X j) H)
  |false=>
   rw[v]at u;cases x:r.w.rY with
   |true=>
    rw[x]at y;have ht:=eP (X:=X) T L A (ef C e (vu x)).1;exact raw [.y (bT X r.w d f i m),.v (.bool false),.a,.v (.bool true),.a,.v (.int (ck j c)),.v (.int (ao j (ck j c))),.v (.int (ao j c)),.b false] (λ_ z=>A9 g B u y g s.has g ht.has ht (A5 D g s.has s (iF q) z)) (gk (f3 j c) (pS X j) H)
   |false=>
    rw[x]at y;exact raw [.y (bT X r.w d f i m),.v (.bool false),.a,.v (.bool false)] (λ_=>A4 g B u y) (gk (f3 j c) (pS X j) H)
 |false=>
  have M:(r.w.kF||r.w.rY)->Rp R "ProgramError" [.str "goal in another subprogram",.int c]:=λh=>⟨rb,O _ (by rw[G,if_pos ⟨h,GT q⟩])⟩;cases v:r.w.kF with
  |true=>
   rw[v]at u;have ht:=eP (X:=X) T L A (ef C e (vt v)).1;exact raw [.y (bT X r.w d f i m),.v (.bool true),.a,.a,.v (.int (ck j c)),.v (.int (ao j (ck j c))),.v (.int (ao j c)),.b true] (λ_ z=>A9 g B u g s.has g ht.has ht D (A4 g s.has s (iF q) z)) (M (by rw[v];rfl))
  |false=>
   rw[v]at u;cases x:r.w.rY with
   |true=>
    rw[x]at y;have ht:=eP (X:=X) T L A (ef C e (vu x)).1;exact raw [.y (bT X r.w d f i m),.v (.bool false),.a,.v (.bool true),.a,.v (.int (ck j c)),.v (.int (ao j (ck j c))),.v (.int (ao j c)),.b true] (λ_ z=>A9 g B u y g s.has g ht.has ht (A5 D g s.has s (iF q) z)) (M (by rw[v,x];rfl))
   |false=>
    rw[x]at y;exact raw [.y (bT X r.w d f i m),.v (.bool false),.a,.v (.bool false)] (λ_=>A4 g B u y) (gk (f3 j c) (pS X j) (by rw[G,v,x,if_neg (λh=>Bool.noConfusion h.1)]))
end
section
variable{X:Cx}{n k:Nat}{a:bo}{R:Str->ah->Prop}
def d7(a:bo)(p:Nat->Option Str):Prop:=∀i<a.length,p i=none
def iG(a:bo)(R:Str->ah->Prop)(p:Nat->Option Str):Prop:=∀c<a.length,(∀i<c,p i=none)->∀w,p c=some w->R "ProgramError" [.str w,.int c]
def JS(T:Txt X)(L:bW n 1)(c:cy a):HN X n (.bz (.gd (.aC 0) "count" .nil)) ⟨aV X a::x,[]⟩ [.v (.int a.length),.n a.length] λe s g _=>e=nv (List.range a.length)/\s=.none/\g=⟨aV X a::x,[]⟩:=
 kI λ_=>A4 (mP T) (jf (X:=X) T L c).has (jf T L c) (jU c)
def Mb(T:Txt X)(L:bW n 4)(c:cy a)(q:iG a R (f2 a))(s:d7 a (f2 a)->iG a R (f3 a)):
  wi X n R qE ⟨[aV X a,.ae,.ae,.ae],[]⟩ [.stop] λu st _=>cH (λ_=>d7 a (f2 a)/\d7 a (f3 a)) u st:=
 ly false [1,2,3] _ (pS X a) (f2 a) (bp c) (JS T (L.le 1) c) rfl (λk e g=>P4 T L c e (q k e g)) (λh=>Bool.noConfusion h) λg=>
  ly false [1,2,3] _ (pS X a) (f3 a) (bp c) (JS T (L.le 1) c) rfl (λk e j=>P5 T L c (ra g) e (s g k e j)) (λh=>Bool.noConfusion h) λj=>a9 [] ⟨rfl,g,j⟩
def Ap(T:Txt X)(E:qz X (Rp R))(L:bW n 5)(c:cy a)(e:iG a R (f2 a))(g:d7 a (f2 a)->iG a R (f3 a)):gq X n "check_goals" [aV X a] (λ_=>d7 a (f2 a)/\d7 a (f3 a)) (Rp R):=
 P2 T E L sf (tm 41 rfl) rfl [.stop] (JK _ cG) rfl λG=>Mb (X:=X.at G) (T.to G) (L.dn 4) c e g
def Mc(c:eD a)(h0:0<a.length)(g:b∈aq a)(s:b<=i)(u:i<cP a b):ao a i=b/\((i+1=a.length\/ao a (i+1)≠ao a i)↔i+1=cP a b):=by
 refine cY (oR (b:=b) c h0) λw x v=>?_;haveI j:=(fT c h0 g i (by exact UF (by assumption) (by assumption))).mpr ⟨s,u⟩;refine⟨j,?_⟩;refine j.symm▸?_;constructor
 ·rintro(h|h)
  ·lia
  ·rcases P3 (i+1) (cP a b)with q|q
   ·exact absurd ((fT c h0 g (i+1) (by exact UF (by assumption) (by assumption))).mpr ⟨by lia,q⟩) h
   ·lia
 ·intro h
  rcases v with e|⟨e,_⟩
  ·exact .inl (by lia)
  ·refine .inr λq=>?_
   haveI:=(fT c h0 g (i+1) (by refine h▸?_;exact sub_lt c h0 e)).mp q;lia
def P6(c:eD a)(h0:0<a.length)(e:b∈aq a)(g:b<=i)(j:i<cP a b):f4 a i=if i+1=cP a b/\ll a i=false/\kF a i=false then some ("subprogram without an end":Str)else none:=by
 haveI:=(Mc c h0 e g j).2;unfold f4;refine wS (p:=i+1=cP a b/\ll a i=false/\kF a i=false) (λq=>?_) (λq=>?_)
 ·rw[if_pos q,if_pos ⟨this.mpr q.1,q.2⟩]
 ·rw[if_neg q,if_neg (λh=>q ⟨this.mp h.1,h.2⟩)]
def pQ{l:aH}(u:l.Pairwise (·< ·))(v:l[k]?=some c)(w:i∈l)(h:i<c):i∈l.take k:=by
 obtain⟨j,x,e⟩:=XV w;refine ar (wP.mp v) λy g=>?_;rcases P3 j k with q|q
 ·exact List.mem_iff_getElem.mpr ⟨j,by simp only[acK];lia,(List.getElem_take).trans e⟩
 ·rcases P3 k j with s|s
  ·haveI:=List.pairwise_iff_getElem.mp u k j y x s
   rw[e,g]at this;lia
  ·have:j=k:=by lia
   subst this;rw[g]at e;lia
def P7(c:eD a)(h0:0<a.length)(g:i<a.length)(h:f4 a (cP a (ao a i)-1)=none):f4 a i=none:=by
 have e:=(fT c h0 (jG i) i g).mp rfl;by_cases q:i+1=cP a (ao a i)
 ·rwa[<-q,Nat.add_sub_cancel]at h
 ·rw[P6 c h0 (jG i) e.1 e.2,if_neg (λz=>q z.1)]
def Z0(c:eD a)(h0:0<a.length)(j:b∈aq a):∃l,cP a b=l+1/\b<=l/\l<a.length:=by
 have e:=oR (b:=b) c h0;have h:b<cP a b:=e.2.2.elim (λh=>h▸sub_lt c h0 j) (·.2);have g:=e.1;clear e;cases q:cP a b with
 |zero=>rw[q]at h;exact absurd h (acM _)
 |succ l=>
  rw[q]at h g;exact⟨l,rfl,aca h,g⟩
noncomputable def eS(X:Cx)(a:bo):St:=⟨[aV X a,.ae,.ae],[]⟩
def Tw(T:Txt X)(L:bW n 2)(B:cy a)(H:eD a)(h0:0<a.length)(I:b∈aq a)(v:cP a b=l+1)(x:b<=l)(j:l<a.length)(M:∀w,f4 a l=some w->R "ProgramError" [.str w,.int l]):
  cp X n R m9 ((eS X a).at 1 (.int b)) (nP false [1,2] (eS X a) (f4 a l) (.int b)):=by
 have q:=mP T;have c:=rJ (X:=X) T (L.le 1) B b;rw[v]at c;have e:a[l]?=some a[l]:=f0 j;generalize a[l]=r at e;refine xB (qV (X:=X) e) λd f i m O _=>?_;have y:=sj B j O;have s:=rF (d:=d) (f:=f) (i:=i) (m:=m) T (L.le 1) r.w;have u:=kG (d:=d) (f:=f) (i:=i) (m:=m) T (L.le 2) r.w
 have g:f4 a l=if l+1=l+1/\r.w.ll=false/\r.w.kF=false then some ("subprogram without an end":Str)else none:=by
  rw[P6 H h0 I x (v.symm▸W1 l),v,Dq e,sZ e]
 have C:((l+1:Nat):Int)-1=(l:Int):=Int.add_sub_cancel l 1;cases D:r.w.ll with
 |true=>
  rw[D]at s g;exact raw [.v (.int (l+1:Nat)),.x (.int l),.y (bT X r.w d f i m),.v (.bool true)] (λ_=>A7 q c.has c C q y s) (gk (f4 a l) (eS X a) (g.trans (if_neg λh=>Bool.noConfusion h.2.1)))
 |false=>
  rw[D]at s g;have A:=λ{p:Prop}=>A9 (p:=p) q c.has c C q y s q y;cases G:r.w.kF with
  |true=>
   rw[G]at u g;exact raw [.v (.int (l+1:Nat)),.x (.int l),.y (bT X r.w d f i m),.v (.bool false),.a,.y (bT X r.w d f i m),.v (.bool true)] (λ_ z=>A (A1 u z)) (gk (f4 a l) (eS X a) (g.trans (if_neg λh=>Bool.noConfusion h.2.2)))
  |false=>
   rw[G]at u g;exact raw [.v (.int (l+1:Nat)),.x (.int l),.y (bT X r.w d f i m),.v (.bool false),.a,.y (bT X r.w d f i m),.v (.bool false)] (λ_ z=>A (A1 u z)) (⟨rb,M _ (g.trans (if_pos ⟨rfl,rfl,rfl⟩))⟩:Rp R "ProgramError" [.str "subprogram without an end",.int l])
def P8(T:Txt X)(L:bW n 2)(x:cy a)(c:eD a)(h0:0<a.length)(A:iG a R (f4 a)):
  wi X n R sb ⟨[aV X a,.ae,.ae],[]⟩ [.stop] λB st _=>cH (λ_=>d7 a (f4 a)) B st:=
 scan false [1,2] [] (eS X a) (λi:Nat=>.int i) (.list (nv (aq a))) (λb=>f4 a (cP a b-1)) (aN (aq a)▸fw x) (kI λ_=>A1 (mP T)) trivial rfl (λk b y s=>by
  have e:=wE y;refine cU (Z0 c h0 e) λl j C u=>?_;rw[j,Nat.add_sub_cancel];refine Tw T L x c h0 e j C u λw hw=>A l u (λi g=>?_) w hw;have v:=abV g u;by_cases q:ao a i<b
  ·exact P7 c h0 v (s _ (pQ da y (jG i) q))
  ·have D:=(fT c h0 e i v).mpr ⟨o0 (aaG.mp q) (md i),j▸aaQ g⟩
   have:=(fT c h0 e i v).mp D;rw[P6 c h0 e this.1 this.2,j,if_neg (λz=>absurd (aa3 z.1) (LE g))]) (λh=>Bool.noConfusion h) λs=>a9 [] ⟨rfl,λi g=>P7 c h0 g (s _ (jG i))⟩
def Ds(T:Txt X)(E:qz X (Rp R))(L:bW n 3)(c:cy a)(e:eD a)(h0:0<a.length)(g:iG a R (f4 a)):gq X n "check_ends" [aV X a] (λ_=>d7 a (f4 a)) (Rp R):=
 P2 T E L ud (tm 42 rfl) rfl [.stop] (JK _ cG) rfl λG=>P8 (X:=X.at G) (T.to G) (L.dn 2) c e h0 g
end
section
section
variable{X:Cx}{n k:Nat}{b:bo}{R:Str->ah->Prop}
def JT(h:∀i<k,p i)(g:k<N):∃r,(List.range N).filter p=List.range k++((if p k then[k]else[])++r)/\∀x∈r,k<x:=by
 refine ar (Nat.exists_eq_add_of_lt g) λm c=>?_;subst c;refine(ay (((List.range m).map (λx=>k+(x+1))).filter p) ?_ (λx j=>?_))
 ·simp only[show k+m+1=k+(m+1)from rfl,List.range_add,acB,List.range_succ_eq_map,aaT,List.filter_cons,aac]
  haveI:(List.range k).filter p=List.range k:=List.filter_eq_self.mpr λi q=>h i (AT.mp q);simp only[this,Nat.add_zero];cases p k<;>rfl
 ·refine aj (FB.mp (IO.mp j).1) λy _ e=>?_
  subst e;lia
def P9(h:∀i<k,p i)(c:((List.range N).filter p)[k]?=some a):k<N/\(a=k↔p k):=by
 haveI g:k<N:=by
  haveI:=(wP.mp c).1;haveI:=KT p (List.range N);rw[x0]at this;exact UF (by assumption) (by assumption)
 refine⟨g,?_⟩;refine aj (JT h g) λr e j=>?_;rw[e,GE (x0▸v0 _),x0,aaR]at c;cases q:p k with
 |true=>rw[q]at c;obtain rfl:=BT c;simp
 |false=>
  rw[q]at c;have:=j a (wE c);constructor
  ·intro z;lia
  ·intro z;exact Bool.noConfusion z
def Qa(h:∀i<((List.range N).filter p).length,p i)(c:((List.range N).filter p).length<N):p ((List.range N).filter p).length=false:=by
 refine aj (JT h c) λr e g=>?_;cases q:p ((List.range N).filter p).length with
 |false=>rfl
 |true=>
  rw[q]at e;haveI:=v6 List.length e;rw[sK,x0,sK]at this;simp at this
open Classical in
def uv:f5 b i=none↔jM (bX b) 0 i:=by
 unfold f5;refine wS (p:=jM (bX b) 0 i) (λq=>?_) (λq=>?_)
 ·rw[if_pos q];exact⟨λ_=>q,λ_=>rfl⟩
 ·rw[if_neg q];exact⟨λh=>(ace _ h).elim,λh=>absurd h q⟩
open Classical in
def JU(h:¬jM (bX b) 0 i):f5 b i=some ("order that nothing reaches":Str):=by unfold f5;rw[if_neg h]
def BI:(bF E a N).length<=N:=by exact o0 (KT ..) (by refine x0▸?_;exact v0 _)
noncomputable def rS(X:Cx)(b:bo)(l:aH):St:=⟨[aV X b,.list (nv l),.ae],[]⟩
open Classical in
def FG(T:Txt X)(L:bW n 6)(B:cy b)(I:eD b)(M:sk b)(h0:0<b.length)(D:iG b R (f5 b)):
  wi X n R ng ⟨[aV X b,.ae,.ae],[]⟩ [.v (.list (nv (bF (bX b) 0 b.length))),.stop] λO st _=>cH (λ_=>d7 b (f5 b)) O st:=by
 have s:=jf (X:=X) T (L.le 1) B;refine kc (?_:cp X n R j3 (rS X b (bF (bX b) 0 b.length)) (cH λ_=>d7 b (f5 b))) (λ_=>A1 (qX (X:=X) T L B I M h0)) (by kernel_rfl);have pk:∀i,decide (jM (bX b) 0 i)=true↔f5 b i=none:=λi=>abZ.trans uv.symm;have u:=BI (E:=bX b) (a:=0) (N:=b.length);have G:∀k a:Nat,(bF (bX b) 0 b.length)[k]?=some a->(∀i<k,f5 b i=none)->k<b.length/\(a=k↔f5 b k=none):=λk a h c=>aX (P9 (λi y=>(pk i).mpr (c i y)) h) λP Q=>⟨P,Q.trans (pk k)⟩
 have H:∀N,(bF (bX b) 0 b.length).length=N->N<b.length->(∀i<N,f5 b i=none)->f5 b N≠none:=λN e h c U=>by
  subst e;exact Bool.noConfusion ((Qa (λi y=>(pk i).mpr (c i y)) h).symm.trans ((pk _).mpr U))
 generalize bF (bX b) 0 b.length=l at u G H;have j:l.length<=aL:=o0 u (bp B);have v:∀k,f5 b k≠none->f5 b k=some ("order that nothing reaches":Str):=λk h=>JU λq=>h (uv.mpr q);refine ly false [2] [.n l.length,.n l.length] (rS X b l) (f5 b) j (kI λ_=>A2 (⟨aN l,j⟩:qv (nv l) l.length) (⟨rfl,j⟩:jm l.length l.length)) rfl (λk V c=>?_) (λh=>Bool.noConfusion h) λc=>?_
 ·have g:l[k]?=some l[k]:=f0 V
  generalize l[k]=a at g;refine aX (G k a g c) λC w=>?_;cases q:decide (a=k)with
  |true=>exact raw [.y (.int a),.b false] (λ_=>A2 (Fn g j) (iF q)) (gk (f5 b k) (rS X b l) (w.mp (s5 q)))
  |false=>exact raw [.y (.int a),.b true] (λ_=>A2 (Fn g j) (iF q)) (⟨rb,D k C c _ (v k λh=>GT q (w.mpr h))⟩:Rp R "ProgramError" [.str "order that nothing reaches",.int k])
 ·have A:=λ{p:Prop}=>A4 (p:=p) (⟨aN l,j⟩:qv (nv l) l.length) (mP T) s.has s
  cases q:decide ((l.length:Int)<(b.length:Int))with
  |true=>
   have x:l.length<b.length:=by have:=s5 q;lia
   exact raw [.n l.length,.v (.int b.length),.b true,.n l.length] (λ_ z=>A (A2 q (⟨aN l,j⟩:qv (nv l) l.length) z)) (⟨rb,D l.length x c _ (v _ (H _ rfl x c))⟩:Rp R "ProgramError" [.str "order that nothing reaches",.int l.length])
  |false=>exact raw [.n l.length,.v (.int b.length),.b false] (λ_ z=>A (A1 q z)) (⟨rfl,λi y=>c i (by have:=GT q;lia)⟩:true/\d7 b (f5 b))
def wO(T:Txt X)(E:qz X (Rp R))(L:bW n 7)(c:cy b)(e:eD b)(g:sk b)(h0:0<b.length)(h:iG b R (f5 b)):gq X n "check_reached" [aV X b] (λ_=>d7 b (f5 b)) (Rp R):=
 P2 T E L pN (tm 43 rfl) rfl [.v (.list (nv (bF (bX b) 0 b.length))),.stop] (JK _ cG) rfl λG=>FG (X:=X.at G) (T.to G) (L.dn 6) c e g h0 h
end
end
section
variable{X:Cx}{n k:Nat}{d:bo}{R:Str->ah->Prop}
def jM.trans(h:jM E a b)(k:jM E b c):jM E a c:=by
 induction k with
 |refl=>exact h
 |ik _ m e=>exact e.ik m
def Du:jM (bk d) a b↔a=b\/PX d a b:=by
 constructor
 ·intro h
  induction h with
  |refl=>exact .inl rfl
  |ik _ m e=>
   rcases e with e|e
   ·subst e;exact .inr (ay _ m .refl)
   ·exact .inr (e.next m)
 ·rintro(h|⟨c,g,j⟩)
  ·refine h▸?_;exact .refl
  ·exact(jM.refl.ik g).trans j
def Dv:(aJ d).Pairwise (·< ·):=gi _ _
def zf(h:eG d i=false):f6 d i=none:=by unfold f6;rw[if_neg (λq=>by rw[h]at q;exact Bool.noConfusion q.1)]
def zg(h:eG d i=false):f7 d i=none:=by unfold f7;rw[if_neg (λq=>by rw[h]at q;exact Bool.noConfusion q.1)]
def Z1{p:Nat->Option Str}(g:∀i,eG d i=false->p i=none){k c:Nat}(e:(aJ d)[k]?=some c)(h:∀j∈(aJ d).take k,p j=none):∀i<c,p i=none:=λi s=>by
 cases q:eG d i with
 |false=>exact g i q
 |true=>
  haveI u:=(cn.mp (wE e)).1;exact h i (pQ Dv e (cn.mpr ⟨by lia,q⟩) s)
def BJ(c:∀i,eG d i=false->p i=none)(h:∀j∈aJ d,p j=none):d7 d p:=λi e=>by
 cases q:eG d i with
 |false=>exact c i q
 |true=>exact h i (cn.mpr ⟨e,q⟩)
def JV{c:List aS}(v:CB d (aq d).length c)(ht:t∈aq d):∃w,P0 d t w/\dQ (t:Int) (iv (aq d)) (c.map af.set)=some (.set w):=by
 obtain⟨i,y,e⟩:=XV ht;have z:(aq d)[i]?=some t:=by refine e▸?_;exact f0 y
 have q:i<c.length:=by refine v.1▸?_;exact y
 haveI A:c[i]?=some c[i]:=f0 q;refine(ay (c[i]) (v.2 i t _ z A) ?_)
 haveI s:∀(l:aH) (g:List aS) (j:Nat),l.Pairwise (·< ·)->l[j]?=some t->g[j]?=some c[i]->dQ (t:Int) (iv l) (g.map af.set)=some (.set c[i]):=by
  intro l;induction l with
  |nil=>intro g j _ h;cases h
  |cons a l B=>
   intro g j C h u;refine aX (List.pairwise_cons.mp C) λD G=>?_;cases g with
   |nil=>cases u
   |cons x g=>
    show(if(a:Int)=(t:Int)then some (af.set x)else dQ (t:Int) (iv l) (g.map af.set))=_;cases j with
    |zero=>obtain rfl:=BT h;obtain rfl:=BT u;rw[if_pos rfl]
    |succ j=>
     have:a<t:=D t (wE h);exact((if_neg (by lia))).trans (B g j G h u)
 exact s _ _ i da z A
noncomputable def Rj(X:Cx)(d:bo)(u v:af):St:=⟨[aV X d,.list (nv (aJ d)),u,.ae,.ae,.ae,v],[]⟩
def Qb(T:Txt X)(L:bW n 4)(u:cy d)(G:eD d){g:List aS}(H:CB d (aq d).length g){c:Nat}(v:c∈aJ d)(I:∀w,f6 d c=some w->R "ProgramError" [.str w,.int c]):
  cp X n R lO ((Rj X d (.dict (iv (aq d)) (g.map af.set)) .ae).at 3 (.int c)) (nP false [3,4,5] (Rj X d (.dict (iv (aq d)) (g.map af.set)) .ae) (f6 d c) (.int c)):=by
 have x:=mP T;refine mr (ki G v) λM Q O U=>?_;have y:=nN (X:=X) T (L.le 1) u c;have B:=eP (X:=X) T L u M;refine aj (JV H O) λs C D=>?_;have e:jM (bk d) (ck d c) (ao d c)->Rp R "ProgramError" [.str "calls in a ring",.int c]:=λh=>⟨rb,I _ (by unfold f6;rw[if_pos ⟨(cn.mp v).2,h⟩])⟩;have A:=λ{p:Prop}=>A6 (p:=p) x y.has y x B.has B;cases q:decide ((ck d c:Int)=(ao d c:Int))with
 |true=>exact raw [.v (.int (ao d c)),.v (.int (ck d c)),.b true] (λ_ z=>A (A1 q z)) (e (Du.mpr (.inl (by have:=s5 q;lia))))
 |false=>
  cases j:decide ((ao d c:Int)∈s)with
  |true=>exact raw [.v (.int (ao d c)),.v (.int (ck d c)),.b false,.v (.set s),.b true] (λ_ z=>A (A3 q D j z)) (e (Du.mpr (.inr (aj ((C.2 _).mp (s5 j)) λi V P=>(show ao d c=i from by lia)▸P))))
  |false=>exact raw [.v (.int (ao d c)),.v (.int (ck d c)),.b false,.v (.set s),.b false] (λ_ z=>A (A3 q D j z)) (gk (f6 d c) (Rj X d (.dict (iv (aq d)) (g.map af.set)) .ae) (by
    unfold f6;rw[if_neg];rintro⟨_,h⟩;rcases Du.mp h with h|h
    ·have:=GT q;lia
    ·exact GT j ((C.2 _).mpr (ay _ rfl h))))
def Qd(T:Txt X)(L:bW n 4)(s:cy d)(v:c∈aJ d)(x:∀w,f7 d c=some w->R "ProgramError" [.str w,.int c]):
  cp X n R lP ((Rj X d u (kh d (bA d))).at 3 (.int c)) (nP false [3,4,5] (Rj X d u (kh d (bA d))) (f7 d c) (.int c)):=by
 have g:=mP T;have e:=nN (X:=X) T (L.le 1) s c
 have j:gR (kh d (bA d)) (.int (ao d c)) (.int (bA d (ao d c))):=by
  show dQ (ao d c:Int) (iv (aq d)) ((aq d).map λb=>.int (bA d b))=_;rw[gh,if_pos (jG c)]
 cases q:decide ((8:Int)<=(bA d (ao d c):Int))with
 |true=>exact raw [.v (.int (ao d c)),.y (.int (bA d (ao d c))),.b true] (λ_=>A5 g e.has e j q) (⟨rb,x _ (by unfold f7;rw[if_pos ⟨(cn.mp v).2,by have:=s5 q;lia⟩])⟩:Rp R "ProgramError" [.str "too many frames",.int c])
 |false=>exact raw [.v (.int (ao d c)),.y (.int (bA d (ao d c))),.b false] (λ_=>A5 g e.has e j q) (gk (f7 d c) (Rj X d u (kh d (bA d))) (by unfold f7;rw[if_neg (λh=>by have:=GT q;have:=h.2;lia)]))
def Md(T:Txt X)(L:bW n 6)(y:cy d)(B:eD d)(h0:0<d.length)(H:iG d R (f6 d))(I:d7 d (f6 d)->iG d R (f7 d)):
  cp X n R qF ⟨[aV X d,.ae,.ae,.ae,.ae,.ae,.ae],[]⟩ (cH λ_=>d7 d (f6 d)/\d7 d (f7 d)):=by
 have z:=mH (X:=X) T (L.le 2) y;have C:=rL y;have A:(aJ d).length<=aL:=aN (aJ d)▸C;have u:∀f:Nat->Option Str,(∀i,eG d i=false->f i=none)->iG d R f->∀k c:Nat,(aJ d)[k]?=some c->(∀j∈(aJ d).take k,f j=none)->∀w,f c=some w->R "ProgramError" [.str w,.int c]:=λf M O k c x g w hw=>O c (cn.mp (wE x)).1 (Z1 M x g) w hw;cases q:(nv (aJ d)).isEmpty with
 |true=>
  have e:aJ d=[]:=by
   cases h:aJ d with
   |nil=>rfl
   |cons a l=>rw[h]at q;exact Bool.noConfusion q
  exact a9 [.v (.list (nv (aJ d))),.b true] (kc (⟨rfl,BJ (λi=>zf) λj D=>nl (e▸D),BJ (λi=>zg) λj D=>nl (e▸D)⟩:true/\d7 d (f6 d)/\d7 d (f7 d)) (λ_=>A3 z C (by rw[q];rfl:(!!(nv (aJ d)).isEmpty))) (by kernel_rfl))
 |false=>
  refine a9 [.v (.list (nv (aJ d))),.b false,.q λv=>∃s,CB d (aq d).length s/\v=.dict (iv (aq d)) (s.map af.set),.stop] (kc (?_:∀w:af,(∃s,CB d (aq d).length s/\w=.dict (iv (aq d)) (s.map af.set))->cp X n R lR (Rj X d w .ae) (cH λ_=>d7 d (f6 d)/\d7 d (f7 d)))
   (λ_=>A4 z C (by rw[q];rfl:(!!(nv (aJ d)).isEmpty)=false) (wo (X:=X) T L y B h0)) (by kernel_rfl))
  rintro w ⟨s,P,rfl⟩;refine scan false [3,4,5] [] (Rj X d (.dict (iv (aq d)) (s.map af.set)) .ae) (λi:Nat=>.int i) (.list (nv (aJ d))) (f6 d) A (kI λ_=>id) trivial rfl (λk c x g=>Qb T (L.le 4) y B P (wE x) (u _ (λi=>zf) H k c x g)) (λh=>Bool.noConfusion h) λg=>?_;have G:d7 d (f6 d):=BJ (λi=>zf) g;refine raw [.v (kh d (bA d)),.stop] (λ_=>A1 (q9 (X:=X) T (L.le 5) y B (vA G))) (?_:cp X n R lQ (Rj X d (.dict (iv (aq d)) (s.map af.set)) (kh d (bA d))) (cH λ_=>d7 d (f6 d)/\d7 d (f7 d)));exact scan false [3,4,5] [] (Rj X d (.dict (iv (aq d)) (s.map af.set)) (kh d (bA d))) (λi:Nat=>.int i) (.list (nv (aJ d))) (f7 d) A (kI λ_=>id) trivial rfl (λk c x g=>Qd T (L.le 4) y (wE x) (u _ (λi=>zg) (I G) k c x g)) (λh=>Bool.noConfusion h) λg=>a9 [] ⟨rfl,G,BJ (λi=>zg) g⟩
end
section
variable{X:Cx}{n k:Nat}{aa:bo}{R:Str->ah->Prop}
def Qe(T:Txt X)(E:qz X (Rp R))(L:bW n (k+2))(r:d6)(m:r∈table)(e:(r.cls==("":Str)))(g:eJ args)(h:(bZ r.d r.ps.length args).length=r.ps.length)
  (w:∀G,cp (X.at G) (n-1) R r.ir ⟨eO (bZ r.d r.ps.length args) r.N,[]⟩ (cH Q)):gq X n r.name args Q (Rp R):=by
 obtain⟨j,q⟩:=L;refine ar (ZB (o0 (abW 1 (k+1)) j)) λn c=>?_;subst c;refine aj (yS (T.aa r m) e) λf s u=>?_;exact(dC f s g (E3 E u h (by lia) (acO q) w))
def Aq(T:Txt X)(E:qz X (Rp R))(L:bW n 7)(c:cy aa)(e:eD aa)(h0:0<aa.length)(g:iG aa R (f6 aa))(h:d7 aa (f6 aa)->iG aa R (f7 aa)):gq X n "check_calls" [aV X aa] (λ_=>d7 aa (f6 aa)/\d7 aa (f7 aa)) (Rp R):=
 Qe T E L sg (tm 44 rfl) rfl (JK _ cG) rfl λG=>Md (X:=X.at G) (T.to G) (L.dn 6) c e h0 g h
structure zh(aa:List Rw)(most:Int)(R:Str->List af->Prop):Prop where
 mark:∃y ws,R y ws
 no:aa.length=0->R "ProgramError" [.str "no order",.none]
 dU:aa.length≠0->most<iY aa->R "ProgramError" [.str "too many orders",.none]
 t2:aa.length≠0->(iY aa:Int)<=most->iG aa R (f2 aa)
 t3:aa.length≠0->(iY aa:Int)<=most->d7 aa (f2 aa)->iG aa R (f3 aa)
 t4:aa.length≠0->(iY aa:Int)<=most->d7 aa (f2 aa)/\d7 aa (f3 aa)->iG aa R (f4 aa)
 t5:aa.length≠0->(iY aa:Int)<=most->d7 aa (f2 aa)/\d7 aa (f3 aa)->d7 aa (f4 aa)->iG aa R (f5 aa)
 t6:aa.length≠0->(iY aa:Int)<=most->d7 aa (f2 aa)/\d7 aa (f3 aa)->d7 aa (f4 aa)->d7 aa (f5 aa)->iG aa R (f6 aa)
 t7:aa.length≠0->(iY aa:Int)<=most->d7 aa (f2 aa)/\d7 aa (f3 aa)->d7 aa (f4 aa)->d7 aa (f5 aa)->d7 aa (f6 aa)->iG aa R (f7 aa)
def wq(aa:bo)(most:Int):Prop:=aa.length≠0/\(iY aa:Int)<=most/\d7 aa (f2 aa)/\d7 aa (f3 aa)/\d7 aa (f4 aa)/\d7 aa (f5 aa)/\d7 aa (f6 aa)/\d7 aa (f7 aa)
def FH(T:Txt X)(E:qz X (Rp R))(L:bW n 8)(j:cy aa)(e:zh aa most R):
  cp X n R nh ⟨[.list (bM X aa),.int most,.ae],[]⟩ (cH λv=>v=aV X aa/\wq aa most):=by
 haveI s:=mP T;haveI x:=Bz (X:=X) T (L.le 5) j;haveI c:=jf (X:=X) T (L.le 1) j;cases q:decide ((aa.length:Int)=0)with
 |true=>
  haveI y:=e.no (by haveI:=s5 q;lia);exact a9 [.v (aV X aa),.v (.int aa.length),.b true] (kv _ (AI x<|AI s<|AI c.has<|AI c<|AI q<|AI rb y) (by kernel_rfl))
 |false=>
  have h:aa.length≠0:=by haveI:=GT q;lia
  haveI h0:0<aa.length:=Nat.pos_of_ne_zero h;cases w:decide (most<(iY aa:Int))with
  |true=>
   have y:=e.dU h (s5 w);exact a9 [.v (aV X aa),.v (.int aa.length),.b false,.b true] (kv _ (AI x<|AI s<|AI c.has<|AI c<|AI q<|AI s<|AI w<|AI rb y) (by kernel_rfl))
  |false=>
   have n1:(iY aa:Int)<=most:=by haveI:=GT w;lia
   exact a9 [.v (aV X aa),.v (.int aa.length),.b false,.b false,.t (d7 aa (f2 aa)/\d7 aa (f3 aa)),.t (d7 aa (f4 aa)),.t (d7 aa (f5 aa)),.t (d7 aa (f6 aa)/\d7 aa (f7 aa))] (kv _ (AI x<|AI s<|AI c.has<|AI c<|AI q<|AI s<|AI w<|
    AI e.mark<|AI (Ap T E (L.le 5) j (e.t2 h n1) (e.t3 h n1)) λ(g:d7 aa (f2 aa)/\d7 aa (f3 aa))=>
    AI e.mark<|AI (Ds T E (L.le 3) j (ra g.1) h0 (e.t4 h n1 g)) λ(u:d7 aa (f4 aa))=>
    AI e.mark<|AI (wO T E (L.le 7) j (ra g.1) (Dr (ra g.1) u) h0 (e.t5 h n1 g u)) λ(z:d7 aa (f5 aa))=>
    AI e.mark<|AI (Aq T E (L.le 7) j (ra g.1) h0 (e.t6 h n1 g u z) (e.t7 h n1 g u z)) λ(A:d7 aa (f6 aa)/\d7 aa (f7 aa))=>
    yU (cs:=[]) (Q:=λv=>v=aV X aa/\wq aa most) (cG (X:=X) (aa:=aa)) (aa5 rfl h n1 g.1 g.2 u z A)) (by kernel_rfl))
def wQ(T:Txt X)(E:qz X (Rp R))(L:bW n 9)(c:cy aa)(e:zh aa most R):gq X n "check_program" [.list (bM X aa),.int most] (λv=>v=aV X aa/\wq aa most) (Rp R):=
 Qe T E L pO (tm 45 rfl) rfl (by unfold eJ;rw[show(af.list (bM X aa)).nc=true from rH];rfl) rfl λG=>FH (X:=X.at G) (T.to G) (E.to G) (L.dn 8) c e
def cX{c:Type}{a b:Option c}(h:a=none):a.or b=b:=by refine h▸?_;rfl
def RF(aa:bo)(most:Int)(x:Str)(vs:ah):Prop:=(x=""/\vs=[])\/(x="ProgramError"/\∃w a,dG aa most=some (w,a)/\vs=[.str w,a]/\a.nc)
def rM(c:aa.length≠0)(n1:(iY aa:Int)<=most):dG aa most=(fG aa).map λe=>(e.1,.int e.2):=by
 unfold dG;rw[if_neg c,if_neg (by lia)]
def Me(e:aa.length≠0)(n1:(iY aa:Int)<=most)(h:fG aa=some (w,c)):RF aa most "ProgramError" [.str w,.int c]:=
 .inr ⟨rfl,w,.int c,by simp only[rM e n1,h];rfl,rfl,rfl⟩
def Mf:zh aa most (RF aa most):=by
 refine⟨(DV ("") ([]) (.inl ⟨rfl,rfl⟩)),λh=>.inr ⟨rfl,_,_,by unfold dG;rw[if_pos h],rfl,rfl⟩,λh v=>.inr ⟨rfl,_,_,by unfold dG;rw[if_neg h,if_pos v],rfl,rfl⟩,
  λe n1 c j q w hw=>Me e n1 ?_,λe n1 g c j q w hw=>Me e n1 ?_,λe n1 g c j q w hw=>Me e n1 ?_,λe n1 g s c j q w hw=>Me e n1 ?_,λe n1 g s u c j q w hw=>Me e n1 ?_,λe n1 g s u x c j q w hw=>Me e n1 ?_⟩<;>unfold fG
 ·rw[er j q hw];rfl
 ·rw[cX (aI.mpr g),er j q hw];rfl
 ·rw[cX (aI.mpr g.1),cX (aI.mpr g.2),er j q hw];rfl
 ·simp only[cX (aI.mpr g.1),cX (aI.mpr g.2),cX (aI.mpr s),er j q hw];rfl
 ·rw[cX (aI.mpr g.1),cX (aI.mpr g.2),cX (aI.mpr s),cX (aI.mpr u),er j q hw];rfl
 ·rw[cX (aI.mpr g.1),cX (aI.mpr g.2),cX (aI.mpr s),cX (aI.mpr u),cX (aI.mpr x),er j q hw]
def FJ(h:wq aa most):dG aa most=none:=by
 refine Vy h λc n1 e g j q s u=>?_;rw[rM c n1];unfold fG;rw[cX (aI.mpr e),cX (aI.mpr g),cX (aI.mpr j),cX (aI.mpr q),cX (aI.mpr s),aI.mpr u];rfl
structure vB(X:Cx):Prop where
 JW:∃f fd body ps,Gf X "_law_heard"=some f/\tF X.K f fd body ps 4/\kQ X.K fd ps none/\ps.length=2/\Sh HD (HE X.K (eL 4 fd.scope.names) body) body
 cls:∃C fI fd body ps,Gf X "ProgramError"=some C/\SN X.K C fI fd body ps
 E4:∀C,Gf X "ProgramError"=some C->∃ft fd body ps,Jv X.K C ft fd body ps
noncomputable def jV(X:Cx)(aa:bo)(most:Int):af:=match dG aa most with
 |none=>aV X aa
 |some e=>.tuple [.str e.1,e.2]
def Qg(H:vB X):qz X (Rp (RF aa most)):=⟨λx vs h=>by
 obtain⟨e,c|⟨c,w,a,q,g,j⟩⟩:=h
 ·exact absurd c.1 e
 ·exact⟨c,_,_,g,rfl,j⟩,H.cls⟩
def JX(T:Txt X)(H:vB X)(L:bW n 9)(G:cy aa) most:qm X (n+1) "_law_heard" [.list (bM X aa),.int most] (λv=>v=jV X aa most):=by
 refine tc H.JW λf fd C ps j D B g q=>?_;refine(dC f j (by unfold eJ;rw[show(af.list (bM X aa)).nc=true from rH];rfl) ?_);haveI:=O0 D B g q (Qg (aa:=aa) (most:=most) H) H.E4 (o:=.list (bM X aa)) (m:=.int most) (Q:=λv=>v=aV X aa/\wq aa most) (af.noConfusion) (af.noConfusion) (λv h=>by refine h.1▸?_;unfold aV;simp) (wQ T (Qg H) L G Mf);intro A F I M Y vs E O P u U R₀ V;refine aaS (this A F I M Y vs E O P u U R₀ V) λr s z=>?_;cases r with
 |error e=>exact z
 |ok Z=>
  cases Z with
  |ret v=>
   refine BY z λF' a z1 z2 z3 z4 z5 c=>?_;refine(Ki F' a z1 z2 z3 z4 z5 ?_);unfold jV;rcases c with c|⟨x,y,c,z7⟩
   ·exact(FJ c.2)▸c.1
   ·obtain⟨j,g|⟨g,w,a,q,h4,h5⟩⟩:=c
    ·exact absurd g.1 j
    ·cases h4;refine q▸?_;exact z7
  |_=>exact z.elim
end
def JY{n:Nat}(h:∀v,bC n v->PyData.eqv (gp v) (gp v)):∀c:ah,c.all (bC n)->PyData.eqvAll (jl c) (jl c):=by
 intro c;induction c with
 |nil=>intro _;rfl
 |cons a l g=>
  intro e;rw[List.all_cons]at e;refine bJ e λj q=>?_;show(PyData.eqv (gp a) (gp a)&&PyData.eqvAll (jl l) (jl l))=true;refine(h a j).symm▸?_;refine(g q).symm▸?_;rfl
set_option tactic.hygienic true in
def Qh:∀(n:Nat) (v:af),bC n v->PyData.eqv (gp v) (gp v):=by
 haveI g:∀(n:Nat) (v:af),bC n v->(∀c,v≠ .list c)->(∀c,v≠ .tuple c)->PyData.eqv (gp v) (gp v):=by
  intro n v h q u;cases v
  case none=>rfl
  case bool b=>cases b<;>rfl
  case int i=>show(i==i)=true;simp
  case str s=>show(s==s)=true;simp
  case list c=>exact absurd rfl (q c)
  case tuple c=>exact absurd rfl (u c)
  all_goals rfl
 intro n;induction n with
 |zero=>
  intro v h;refine g 0 v h (λc e=>?_) λc e=>?_
  ·subst e;exact Bool.noConfusion h
  ·subst e;cases h
 |succ n j=>
  intro v h;cases v
  case list c=>exact JY j c h
  case tuple c=>exact JY j c h
  all_goals exact g _ _ h (λ_ e=>by exact af.noConfusion e) (λ_ e=>by exact af.noConfusion e)
def lz(h:bC 8 v):zG v v:=Qh 8 v h
def Mg:∀{l m:List Bool},PyData.eqvAll (jl (l.map af.bool)) (jl (m.map af.bool))->l=m:=by
 intro l;induction l with
 |nil=>intro m h;cases m with|nil=>rfl|cons _ _=>cases h
 |cons a l c=>
  intro m h;cases m with
  |nil=>cases h
  |cons b m=>
   refine bJ (show(PyData.eqv (.bool a) (.bool b)&&PyData.eqvAll (jl (l.map af.bool)) (jl (m.map af.bool)))=true from h) λe g=>?_;rw[c g,show a=b from by revert e;cases a<;>cases b<;>decide]
def df l:bC 8 (.list (nv l)):=by
 show(nv l).all (bC 7)=true;rw[WP];intro v m;refine aj (FB.mp m) λi _ c=>?_;subst c;rfl
def Dw(s:Nat->Bool) N:bC 8 (.list (bv s N)):=by
 show(bv s N).all (bC 7)=true;rw[WP];intro v m;refine aj (FB.mp m) λi _ c=>?_;subst c;rfl
noncomputable def gV(g:Option Int):af:=match g with
 |none=>.none
 |some i=>.int i
noncomputable def bc(r:Rw):af:=.list [.str r.w.str,.int r.t,gV r.g]
noncomputable def cI(aa:bo):af:=.list (aa.map bc)
noncomputable def rd(aa:bo)(s:Nat):Int:=match ow aa s with
 |some t=>(t:Int)
 |none=> -1
noncomputable def kj(aa:bo)(m:Nat):ah:=(List.range m).map λs=>.int (rd aa s)
noncomputable def eI(aa:bo):af:=.list (kj aa (iY aa))
noncomputable def cf(aa:bo):af:=.list (aa.map λr=>gV (gl aa r))
noncomputable def fB(aa:bo):af:=.list (nv ((List.range aa.length).map (ao aa)))
noncomputable def s6(aa:bo):ah:=(List.range aa.length).map λi=>.list (nv (succ aa i))
noncomputable def dj(aa:bo):af:=.list (s6 aa)
def FK(aa:bo):Prop:=∀(i:Nat) (r:Rw),aa[i]?=some r->r.w.gN->r.g=none->0<=r.t/\r.t<aa.length
section
variable{X:Cx}{n k:Nat}{aa:bo}
def Qi g:(gV g).nc:=by cases g<;>rfl
def xx r:(bc r).nc:=by
 show eJ [.str r.w.str,.int r.t,gV r.g]=true;unfold eJ;unfold eJ;unfold eJ;rw[Qi];rfl
def eT:(cI aa).nc:=d0 xx _
def gG:(eI aa).nc:=d0 (λ_=>rfl) _
def eU:(cf aa).nc:=d0 (λr=>Qi _) _
def rN:(fB aa).nc:=me _
def rO:(dj aa).nc:=d0 (f:=λi=>af.list (nv (succ aa i))) (λi=>lu _) _
def nQ(h:aa[i]?=some r):aB (aa.map bc) i=bc r:=dZ (by refine FS▸?_;refine h▸?_;rfl)
def BK(c:cy aa):(aa.map bc).length<=aL:=by rw[v4];exact bp c
def JZ(c:cy aa)(h:i<aa.length):(0:Int)<=(i:Int)/\(i:Int)<((aa.map bc).length:Int)/\(aa.map bc).length<=aL:=oO c h (v4 _)
def nR(h:aa[i]?=some r):aB (aa.map λr=>gV (gl aa r)) i=gV (gl aa r):=dZ (by simp only[FS,h];rfl)
def rf(c:cy aa)(h:i<aa.length):(0:Int)<=(i:Int)/\(i:Int)<((aa.map λr=>gV (gl aa r)).length:Int)/\(aa.map λr=>gV (gl aa r)).length<=aL:=oO c h (v4 _)
def uw m:(kj aa m).length=m:=by unfold kj;simp
def J0(h:s<m):aB (kj aa m) s=.int (rd aa s):=dZ (by unfold kj;simp only[FS,XL h];rfl)
def Qj:iY aa<=2*aa.length:=ZQ _
def ux(c:cy aa)(h:m<=iY aa):(kj aa m).length<=aL:=by rw[uw];haveI:=Qj (aa:=aa);unfold cy at c;unfold aL;lia
def Dx(h:i<aa.length):rd aa (sl aa i)=(i:Int):=by
 have:ow aa (sl aa i:Nat)=some i:=iC.mpr ⟨h,rfl⟩;unfold rd;rw[this]
def Qk{r:Rw}(h:aa[i]?=some r)(hw:r.w.WT):rd aa (sl aa i+1)= -1:=by
 haveI g:=lp h;haveI c:=um h;unfold S8 at c;rw[hw]at c
 have:ow aa (sl aa i+1:Nat)=none:=by
  cases e:ow aa (sl aa i+1:Nat)with
  |none=>rfl
  |some j=>
   refine aX (iC.mp e) λs v=>?_;rcases P3 i j with q|q
   ·haveI u:sl aa (i+1)<=sl aa j:=by
     rcases P3 (i+1) j with z|z
     ·exact KK (yV z (KK s))
     ·simp only[show j=i+1 from by lia];exact v0 _
    lia
   ·haveI u:sl aa j<=sl aa i:=by
     rcases P3 j i with z|z
     ·exact KK (yV z (KK g))
     ·refine(show j=i from by lia)▸?_;exact v0 _
    lia
 unfold rd;rw[this]
def FL m:kj aa (m+1)=kj aa m++[.int (rd aa m)]:=by unfold kj;simp only[aaK,aaL];rfl
def Dy(s:cy aa)(h:t<aa.length):UB (kj aa (iY aa)) (t:Int) (sl aa t):=by
 refine⟨(List.range (iY aa)).map (rd aa),by unfold kj;refine aac▸?_;rfl,by rw[v4,x0];haveI:=Qj (aa:=aa);unfold cy at s;unfold aL;lia,?_⟩;haveI g:sl aa t<iY aa:=yV h (v0 _);rw[List.findIdx?_eq_some_iff_getElem];refine⟨by simp only[v4,x0];exact g,?_,λj v=>?_⟩
 ·simp only[List.getElem_map,ab0,Dx h];simp
 ·simp only[List.getElem_map,ab0]
  intro q;have c:rd aa j=(t:Int):=by simpa using q
  unfold rd at c;cases e:ow aa (j:Nat)with
  |none=>rw[e]at c;lia
  |some u=>
   rw[e]at c;dsimp only at c;refine aX (iC.mp e) λ_ w=>?_;have:u=t:=by lia
   subst this;lia
def mJ(c:cy aa)(h:aa[k]?=some r):gR (cI aa) (.int k) (bc r):=⟨JZ c (lp h),nQ h⟩
def eH(c:cy aa):qv (aa.map bc) aa.length:=⟨v4 _,bp c⟩
end
section
variable{X:Cx}{n k:Nat}{a:bo}
def Ql(h:eJ g)(e:aB J c=.list g):(dz J (.cell c)).nc/\dz J (.cell c)=.list g:=by
 have:dz J (.cell c)=.list g:=gW e h;refine this.symm▸?_;exact⟨h,rfl⟩
noncomputable def Z2(a:bo)(k:Nat):St:=⟨[cI a,.cell 0,.ae],[.list (kj a (sl a k))]⟩
def Qm(h:cy a)(j:k<a.length):zI X n (λ_ _=>False) [2] nj ((Z2 a k).at 2 (.int k)) (Z2 a (k+1)):=by
 have e:a[k]?=some a[k]:=f0 j;generalize a[k]=r at e;have s:=mJ h e;have u:=yV j (v0 a.length);have v:=ux h (KK u);have c:=um e;have x:kj a (sl a k)++[af.int k]=kj a (sl a k+1):=by rw[FL,Dx j]
 have hw:=Qk e;obtain⟨w,t,g⟩:=r;unfold S8 at c;cases q:w.WT with
 |true=>
  rw[show Rw.w ⟨w,t,g⟩=w from rfl,q]at c;exact rZ [.p,.y (.list (kj a (sl a k+1))),.y (bc ⟨w,t,g⟩),.e true,.p,.y (.list (kj a (sl a (k+1))))] λ_=>A6 v (v6 af.list x) s (JF q) (ux h u) (by rw[c,show sl a k+(if true=true then 2 else 1)=sl a k+1+1 from rfl,FL (sl a k+1),hw q]:af.list (kj a (sl a k+1)++[.int (-1)])=.list (kj a (sl a (k+1))))
 |false=>
  rw[show Rw.w ⟨w,t,g⟩=w from rfl,q]at c;unfold Z2;rw[show sl a (k+1)=sl a k+1 from c];exact rZ [.p,.y (.list (kj a (sl a k+1))),.y (bc ⟨w,t,g⟩),.e false] λ_=>A4 v (v6 af.list x) s (JF q)
def Qn(T:Txt X)(L:bW n 1)(e:cy a):sX X n "_law_owners" [cI a] (eI a):=
 Bx T L ue (tm 52 rfl) [.l a.length [2] (Z2 a),.n a.length,.n a.length] (JK _ eT) gG λ_ _=>A4 (eH e) (jU e) (Eq.refl (Z2 a 0)) (qT (bp e) λk g=>Qm (X:=X) (n:=n-1) e g) (Ql (J:=[eI a]) (c:=0) (d0 (λ_=>rfl) _) rfl)
noncomputable abbrev Tx(a:bo)(k:Nat):ah:=(a.map λr=>gV (gl a r)).take k
noncomputable def Z3(a:bo)(k:Nat):St:=⟨[cI a,eI a,.cell 0,.ae],[.list (Tx a k)]⟩
def Tz(u:cy a)(y:FK a)(e:a[k]?=some r):zI X n (λ_ _=>False) [3] pz ((Z3 a k).at 3 (bc r)) (Z3 a (k+1)):=by
 have c:(Tx a k).length<=aL:=o0 (List.length_take_le' ..) (by rw[v4];exact bp u)
 have iJ:∀v,gV (gl a r)=v->af.list (Tx a k++[v])=.list (Tx a (k+1)):=λv h=>by
  subst h;simp only[Tx,aaE,FS,e];rfl
 have j:=y k r e;obtain⟨w,t,g⟩:=r;cases q:w.gN with
 |false=>exact rZ [.e true,.p,.y (.list (Tx a (k+1)))] λ_=>A3 (Dh q) c (iJ .none (by unfold gl;rw[if_neg (by rw[q];decide)];rfl))
 |true=>
  cases g with
  |some s=>exact rZ [.e false,.a,.a,.a,.a,.p,.y (.list (Tx a (k+1)))] λ_=>A3 (Dh q) c (iJ (.int s) (by unfold gl;rw[if_pos q];rfl))
  |none=>
   refine aX (j q rfl) λz A=>?_;have x:=Dy (t:=t.toNat) u (by dsimp only at A;lia);rw[Int.toNat_of_nonneg z]at x;exact rZ [.e false,.a,.a,.a,.a,.v (.int (.ofNat (sl a t.toNat))),.p,.y (.list (Tx a (k+1)))] λ_=>A4 (Dh q) x c (iJ (.int (sl a t.toNat)) (by unfold gl;rw[if_pos q];rfl))
def TA(T:Txt X)(L:bW n 1)(g:cy a)(h:FK a):sX X n "_law_goals" [cI a,eI a] (cf a):=
 Bx T L wa (tm 53 rfl) [.l a.length [3] (Z3 a)] (BA _ _ eT gG) eU λ_ _=>A2 (Eq.refl (Z3 a 0)) (ZL (S:=Z3 a) (bp g) λk r e=>Tz (X:=X) (n:=n-1) g h e)
  ((v6 (λl=>(dz [.list l] (.cell 0)).nc/\dz [.list l] (.cell 0)=cf a) (SL (by rw[v4];exact v0 _):Tx a a.length=_)).mpr (Ql (J:=[cf a]) (c:=0) (d0 (λr=>Qi _) _) rfl))
end
section
variable{X:Cx}{n k:Nat}{d:bo}
def zi{c:Nat}:((nv l).any λy=>zG y (.int c))=decide (c∈l):=by
 unfold nv;rw[List.any_map];refine wS (p:=c∈l) (λq=>?_) (λq=>?_)
 ·rw[FM q]
  exact aak.mpr (ay c q (by show((c:Int)==(c:Int))=true;simp))
 ·rw[SZ q]
  refine Bool.eq_false_iff.mpr λh=>?_;refine aj (aak.mp h) λx e g=>?_;haveI:(x:Int)=(c:Int):=by haveI:=(show((x:Int)==(c:Int))=true from g);simpa using this
  exact q ((by lia:x=c)▸e)
structure GoA(d:List Rw)(i:Nat):Prop where
 a1:(0:Int)<=(i:Int)/\(i:Int)<((d.map λr=>gV (gl d r)).length:Int)/\(d.map λr=>gV (gl d r)).length<=aL
 a2:aB (d.map λr=>gV (gl d r)) i=.int (sl d (ck d i):Nat)
 a3:(0:Int)<=(sl d (ck d i):Int)/\(sl d (ck d i):Int)<((kj d (iY d)).length:Int)/\(kj d (iY d)).length<=aL
 a4:aB (kj d (iY d)) (sl d (ck d i))=.int (ck d i:Nat)
 lt:ck d i<d.length
def U3(j:cy d)(q:eD d){r:Rw}(e:d[i]?=some r)(s:r.w.gN):GoA d i:=by
 refine aX (ef q e s) λc h=>?_;haveI w:=yV h (v0 d.length);refine⟨rf j (lp e),?_,⟨by exact IR _,by simp only[uw];unfold iY;lia,ux j (v0 _)⟩,?_,h⟩
 ·rw[nR e]
  unfold tg oG at c;rw[e]at c;refine aj (TD.mp c) λg u v=>?_;rw[show gl d r=some g from u];show af.int g=_;rw[<-(iC.mp v).2]
 ·rw[J0 (by assumption),Dx h]
noncomputable def BL(d:bo):aH:=0::(aJ d).map (ck d)
def J1(s:eD d){i:Nat}:i∈BL d↔dV d i:=by
 delta BL dV;rw[EQ,aaO,abZ,aak];refine or_congr Iff.rfl ⟨λh=>?_,λh=>?_⟩
 ·refine aj (FB.mp h) λj c e=>?_
  obtain⟨g,q⟩:=cn.mp c;refine(ay j (AT.mpr g) ?_);simp only[q,(ki s c).1,e];simp
 ·refine aj h λj c e=>?_
  refine bJ e λg q=>?_;haveI u:=cn.mpr ⟨AT.mp c,g⟩;haveI:=s5 q;rw[(ki s u).1]at this;exact FB.mpr (ay j u (by injection this))
def i4(G:GoA d k):gR (cf d) (.int k) (.int (sl d (ck d k))):=⟨G.a1,G.a2⟩
def rg(G:GoA d k):gR (eI d) (.int (sl d (ck d k))) (.int (ck d k)):=⟨G.a3,G.a4⟩
noncomputable def paS(d:bo)(a b c:af)(l:ah):St:=⟨[cI d,eI d,cf d,a,b,c,.ae,.ae],l⟩
noncomputable abbrev paK(d:bo)(k:Nat):St:=paS d .ae (.list (nv (BL d))) (.cell 0) [.list (nv ((List.range k).map (ao d)))]
def TB(w:cy d)(c:eD d)(x:k<d.length):zI X n (λ_ _=>False) [3] pA ((paK d k).at 3 (.int k)) (paK d (k+1)):=by
 have e:((List.range k).map (ao d)).length=k:=by rw[v4,x0]
 have g:k<=aL:=dw (by unfold cy at w;lia);have s:(nv ((List.range k).map (ao d))).length<=aL:=by rw[aN,e];exact g
 have iJ:∀p:Nat,ao d k=p->af.list (nv ((List.range k).map (ao d))++[af.int p])=.list (nv ((List.range (k+1)).map (ao d))):=λp h=>by
  subst h;simp only[aaK,aaL,ct];rfl
 have u:fF .In (.int k) (.list (nv (BL d))) (decide (k∈BL d)):=⟨rfl,df _,zi⟩;cases q:decide (k∈BL d)with
 |true=>exact rZ [.e true,.p,.y (.list (nv ((List.range (k+1)).map (ao d))))] λ_=>A3 (q▸u) s (iJ k (uo ((J1 c).mp (s5 q)) (v0 _) λj y A=>by lia))
 |false=>
  have v:dV d k=false:=Bool.eq_false_iff.mpr λz=>GT q ((J1 c).mpr z);cases k with
  |zero=>exact bx iZ v
  |succ m=>exact rZ [.e false,.x (.int m),.y (.int (ao d m)),.p,.y (.list (nv ((List.range (m+1+1)).map (ao d))))] λ_=>A5 (q▸u) (by lia:((m+1:Nat):Int)-1=(m:Int)) (Fn (i:=m) (by simp only[FS,XL (W1 m)];rfl:((List.range (m+1)).map (ao d))[m]?=some (ao d m)) (e.symm▸g)) s (iJ (ao d m) (by show(if dV d (m+1)then m+1 else ao d m)=_;rw[v];rfl))
def J2(T:Txt X)(L:bW n 1)(g:cy d)(s:eD d):sX X n "_law_parts" [cI d,eI d,cf d] (fB d):=by
 have v:((aJ d).map (ck d)).length<=d.length:=by rw[v4];exact o0 (KT ..) (x0▸v0 _)
 have E:o4 X (n-1) (.dA 7) iW nq (paS d .ae .ae .ae []) (nv (List.range d.length)) (qg (Bw (eG d) λj=>.int (ck d j))) (nv ((aJ d).map (ck d))):=by
  have:=JB (X:=X) (n:=n-1) 7 iW (.item (.aC 1) (.item (.aC 2) (.aC 7))) (paS d .ae .ae .ae []) (eG d) (λj=>.int (ck d j)) (λc=>[.y (aB (d.map bc) c),.e (eG d c)]) (λc=>[.y (.int (sl d (ck d c))),.y (.int (ck d c))]) rfl (bp g)
   (λc h=>by
    have e:d[c]?=some d[c]:=f0 h;generalize d[c]=r at e;rw[nQ e];exact kB λ_=>A2 (mJ g e) (l9 (eB e).symm)) λc h q=>by
    have G:=U3 g s (f0 h) (jT ((eB (f0 h)).symm.trans q));exact kE λ_=>A2 (i4 G) (rg G)
  have e:((List.range d.length).filter (eG d)).map (λj=>af.int (ck d j))=nv ((aJ d).map (ck d)):=by delta nv aJ;rw[aac];rfl
  exact e▸this
 exact Bx T L wb (tm 55 rfl) [.m (qg (Bw (eG d) λj=>.int (ck d j))) (nv ((aJ d).map (ck d))),.n d.length,.n d.length,.p,.l d.length [3] (paK d),.n d.length,.n d.length]
  (by unfold eJ;refine eT.symm▸?_;refine(BA _ _ gG eU).symm▸?_;rfl) rN λ_ _=>A8 (bW.lt L) (eH g) (jU g) E (by rw[aN];unfold cy at g;unfold aL;lia:1+(nv ((aJ d).map (ck d))).length<=aL) (eH g) (jU g) (Eq.refl (paK d 0))
   (A1 (qT (bp g) λk u=>TB (X:=X) (n:=n-1) g s u) (Ql (J:=[fB d]) (c:=0) (me _) rfl))
noncomputable abbrev Rk(d:bo)(k:Nat):ah:=(List.range k).map λi=>.list (nv (succ d i))
noncomputable def edS(d:bo)(k:Nat):St:=⟨[cI d,eI d,cf d,.cell 0,.ae,.ae],[.list (Rk d k)]⟩
def TC(B:cy d)(D:eD d)(H:k<d.length):zI X n (λ_ _=>False) [4,5] pB ((edS d k).at 4 (.int k)) (edS d (k+1)):=by
 have e:d[k]?=some d[k]:=f0 H;generalize d[k]=r at e;have y:=mJ B e;have u:=U3 B D e;have c:succ d k=if r.w.ll then[]else if r.w.kF then[ck d k]else if r.w.rY&&decide (ck d k≠k+1)then[k+1,ck d k]else[k+1]:=by unfold succ;simp only[e]
 have A:(Rk d k).length<=aL:=by rw[v4,x0];exact dw (by unfold cy at B;lia)
 have iJ:∀s:aH,succ d k=s->af.list (Rk d k++[af.list (nv s)])=.list (Rk d (k+1)):=λs h=>by
  subst h;unfold Rk;rw[aaK,aaL];rfl
 obtain⟨w,t,g⟩:=r;dsimp only at c u;cases v:w.ll with
 |true=>exact rZ [.y (bc ⟨w,t,g⟩),.e true,.p,.y (.list (Rk d (k+1)))] λ_=>A4 y (uk v) A (iJ [] (by rw[c,v];rfl))
 |false=>
  rw[v]at c;cases j:w.kF with
  |true=>
   have G:=u (by unfold W.gN;rw[j];rfl);exact rZ [.y (bc ⟨w,t,g⟩),.e false,.e true,.y (.int (sl d (ck d k))),.y (.int (ck d k)),.p,.y (.list (Rk d (k+1)))] λ_=>A7 y (uk v) (JE j) (i4 G) (rg G) A (iJ [ck d k] (by rw[c,j];rfl))
  |false=>
   rw[j]at c;cases x:w.rY with
   |false=>exact rZ [.y (bc ⟨w,t,g⟩),.e false,.e false,.e false,.p,.y (.list (Rk d (k+1)))] λ_=>A6 y (uk v) (JE j) (Pn x) A (iJ [k+1] (by rw[c,x];rfl))
   |true=>
    rw[x]at c;have G:=u (by unfold W.gN;rw[j,x];rfl)
    have C:(!decide ((ck d k:Int)=(k:Int)+1))=decide (ck d k≠k+1):=by
     by_cases q:ck d k=k+1
     ·rw[FM (by lia),SZ (λh=>h q)];rfl
     ·rw[SZ (by lia),FM q];rfl
    cases q:decide (ck d k≠k+1)with
    |true=>exact rZ [.y (bc ⟨w,t,g⟩),.e false,.e false,.e true,.y (.int (sl d (ck d k))),.y (.int (ck d k)),.b true,.y (.int (sl d (ck d k))),.y (.int (ck d k)),.p,.y (.list (Rk d (k+1)))] λ_ z=>A9 y (uk v) (JE j) (Pn x) (i4 G) (rg G) (C.trans q) (i4 G) (rg G) (A2 A (iJ [k+1,ck d k] (by rw[c,q];rfl)) z)
    |false=>exact rZ [.y (bc ⟨w,t,g⟩),.e false,.e false,.e true,.y (.int (sl d (ck d k))),.y (.int (ck d k)),.b false,.p,.y (.list (Rk d (k+1)))] λ_=>A9 y (uk v) (JE j) (Pn x) (i4 G) (rg G) (C.trans q) A (iJ [k+1] (by rw[c,q];rfl))
def Dz(T:Txt X)(L:bW n 1)(e:cy d)(g:eD d):sX X n "_law_edges" [cI d,eI d,cf d] (dj d):=
 Bx T L wg (tm 56 rfl) [.l d.length [4,5] (edS d),.n d.length,.n d.length]
  (by unfold eJ;refine eT.symm▸?_;refine(BA _ _ gG eU).symm▸?_;rfl) rO λ_ _=>A4 (eH e) (jU e) (Eq.refl (edS d 0)) (qT (bp e) λk h=>TC (X:=X) (n:=n-1) e g h) (Ql (J:=[dj d]) (c:=0) (d0 (f:=λi=>af.list (nv (succ d i))) (λi=>lu _) _) rfl)
end
noncomputable def fU(l:List (Nat×Nat)):ah:=l.map λp=>.tuple [.int p.1,.int p.2]
noncomputable def EL(l:List (Nat×Nat))(i:Nat):aH:=(l.filter λp=>decide (p.1=i)).map Prod.snd
def DA:j∈EL l i↔(i,j)∈l:=by
 unfold EL;rw[FB];constructor
 ·rintro⟨⟨a,b⟩,c,rfl⟩
  refine aX (IO.mp c) λe g=>?_;have:a=i:=s5 g;subst this;exact e
 ·intro h;exact(ay (i,j) (IO.mpr ⟨h,FM rfl⟩) rfl)
noncomputable def fW(s:Nat->Bool)(p:Nat×Nat):Nat->Bool:=if s p.1=true then uG s p.2 else s
def zj(h:s i):fW s p i:=by
 unfold fW;split
 ·exact ke.mpr (.inr h)
 ·exact h
def vC{l:List (Nat×Nat)}:∀{s:Nat->Bool} {i:Nat},s i->l.foldl fW s i:=by
 induction l with
 |nil=>intro s i h;exact h
 |cons p l c=>intro s i h;exact c (zj h)
set_option tactic.hygienic true in
def Ib(g:∀p∈L,p.1<N/\p.2<N){l:List (Nat×Nat)}:∀{s:Nat->Bool},(∀p∈l,p∈L)->(∀i,s i->jM (EL L) b i/\i<N)->∀i,l.foldl fW s i->jM (EL L) b i/\i<N:=by
 induction l with
 |nil=>intro s _ h;exact h
 |cons p l j=>
  intro s e h;refine j (s:=fW s p) (λq m=>e q (.tail _ m)) λi c=>?_;unfold fW at c;split at c
  ·rename_i q
   rcases ke.mp c with z|z
   ·subst z;exact⟨(h _ q).1.ik (DA.mpr (e p (.head _))),(g p (e p (.head _))).2⟩
   ·exact h i z
  ·exact h i c
def Ic{l:List (Nat×Nat)}:∀{s:Nat->Bool},(∀p∈l,p.1<N/\p.2<N)->(∀i<N,l.foldl fW s i=s i)->∀p∈l,s p.1->s p.2:=by
 induction l with
 |nil=>intro s _ _ p m;cases m
 |cons q l v=>
  intro s g h p m u
  have j:∀i<N,fW s q i=s i:=λi c=>by
   cases e:s i with
   |true=>exact zj e
   |false=>
    cases w:fW s q i with
    |false=>rfl
    |true=>haveI:=h i c;rw[List.foldl_cons,vC w,e]at this;exact Bool.noConfusion this
  rcases EQ.mp m with rfl|m
  ·refine(j _ (g _ (.head _)).2)▸?_
   unfold fW;refine(if_pos u)▸?_;exact ke.mpr (.inl rfl)
  ·haveI x:=v (s:=fW s q) (λp m=>g p (.tail _ m)) (λi c=>by rw[<-List.foldl_cons (f:=fW),h i c,j i c]) p m (zj u)
   rwa[j _ (g p (.tail _ m)).2]at x
def BM(h:∀j,s j->s' j)(q:i<N)(u:s i=false)(v:s' i):eQ s' N<eQ s N:=by
 haveI w:((List.range N).filter λj=> !s' j).Nodup:=acP _ List.nodup_range
 haveI:=fu (l:=i::(List.range N).filter λj=> !s' j) (m:=(List.range N).filter λj=> !s j) (TT.mpr ⟨(λm=>by
  haveI:=(IO.mp m).2;rw[v]at this;exact Bool.noConfusion this),w⟩) λx c=>by
  rcases EQ.mp c with rfl|c
  ·exact IO.mpr ⟨AT.mpr q,v6 _ u⟩
  ·refine aX (IO.mp c) λy g=>?_
   refine IO.mpr ⟨y,?_⟩;cases e:s x with
   |false=>rfl
   |true=>rw[h x e]at g;exact Bool.noConfusion g
 rw[WF]at this;unfold eQ;assumption
def U4:zG (.list (bv s N)) (.list (bv c N))=true↔∀i<N,s i=c i:=by
 haveI e:∀t:Nat->Bool,bv t N=((List.range N).map t).map af.bool:=λt=>by unfold bv;refine aac▸?_;rfl
 constructor
 ·intro h
  haveI g:PyData.eqvAll (jl (bv s N)) (jl (bv c N)):=h;rw[e s,e c]at g;haveI:=Mg g;intro i q;haveI j:=v6 (λl:List Bool=>l[i]?) this;rw[FS,FS,XL q]at j;injection j
 ·intro h
  have:bv s N=bv c N:=TE λi m=>v6 _ (h i (AT.mp m));refine this▸?_;exact lz (Dw _ _)
def Z4(h:zG (.list (bv g N)) (.list (bv s N))=false)(u:∀j,s j->g j):eQ g N<eQ s N:=by
 have:∃i,i<N/\g i≠s i:=acD λq=>by
  haveI:=U4.mpr λi v=>acD λz=>q (ay i v z);exact bx (this) h
 refine aj this λi v c=>?_;refine BM u v ?_ ?_
 ·cases e:s i with
  |false=>rfl
  |true=>rw[u i e,e]at c;exact absurd rfl c
 ·cases e:g i with
  |true=>rfl
  |false=>
   cases w:s i with
   |false=>rw[e,w]at c;exact absurd rfl c
   |true=>exact bx (u i w) e
section
variable{X:Cx}{n k:Nat}
def SPI(l:List (Nat×Nat))(b N:Nat)(s:Nat->Bool):Prop:=s b/\∀i,s i->jM (EL l) b i/\i<N
def Z5{l:List (Nat×Nat)}(h:(fU l)[k]?=some v):∃p,l[k]?=some p/\v=.tuple [.int p.1,.int p.2]:=by
 unfold fU at h;rw[FS]at h;refine aj (TW.mp h) λp c e=>?_;exact(ay p c e.symm)
def Ie{c e:Type}{f:c->e->c}{l:List e}{k:Nat}{j:e}{a:c}(h:l[k]?=some j):(l.take (k+1)).foldl f a=f ((l.take k).foldl f a) j:=by
 simp only[aaE,h,List.foldl_append];rfl
def Z6{l:List (Nat×Nat)}(hN:l.length<=aL)(h:∀(k:Nat) (p:Nat×Nat),l[k]?=some p->zI X n R c b (((S k).at i (.int p.1)).at j (.int p.2)) (S (k+1))):
  CJ X n R (.dU [i,j]) b (.list (fU l)) (fU l) l.length c S:=⟨v4 _,hN,λk x e=>aj (Z5 e) λp g q=>q▸⟨trivial,rfl,h k p g⟩,trivial⟩
noncomputable def ME(l:List (Nat×Nat))(b N:Nat)(t f:af)(s:Nat->Bool):St:=⟨[.list (fU l),.int b,.int N,.cell 0,t,f,.ae,.ae,.ae,.ae,.ae,.ae],[.list (bv s N)]⟩
def Qo(hN:N<=30)(c:p.1<N)(g:p.2<N):zI X n (λ_ _=>False) [6,7] iX (((ME l b N t f s).at 6 (.int p.1)).at 7 (.int p.2)) (ME l b N t f (fW s p)):=by
 have e:=PC s (o0 hN (by decide)) c;unfold fW;cases z:s p.1 with
 |true=>exact rZ [.y (.bool true),.p,.y (.list (bv (uG s p.2) N))] λ_=>A3 (z▸e) (BD s (o0 hN (by decide)) g) (PD s N p.2)
 |false=>exact rZ [.y (.bool false)] λ_=>A1 (z▸e)
def Qp{l:List (Nat×Nat)}{b N:Nat}(hN:N<=30)(g:∀p∈l,p.1<N/\p.2<N)(c:l.length<=aL)(t f:af)(s:Nat->Bool):CJ X n (λ_ _=>False) (.dU [6,7]) iX (.list (fU l)) (fU l) l.length [6,7] λj=>ME l b N t f ((l.take j).foldl fW s):=
 Z6 c λj p e=>by
  rw[Ie e];exact Qo hN (g p (wE e)).1 (g p (wE e)).2
def uy(T:Txt X)(L:bW n 1){l:List (Nat×Nat)}(hN:N<=30)(D:b<N)(u:∀p∈l,p.1<N/\p.2<N)(x:l.length<=aL):sX X n "_law_spread" [.list (fU l),.int b,.int N] (.list (nv (bF (EL l) b N))):=by
 have g:N<=aL:=dw (by lia);have H:∀s,(bv s N).length<=aL:=λs=>(qW s N).symm▸g
 refine nL T L uf (tm 57 rfl) [.m (qg λi=>[.bool (decide ((i:Int)=(b:Int)))]) (bv (λi=>decide ((i:Int)=(b:Int))) N),.n N,.stop] (by unfold eJ;refine(show(af.list (fU l)).nc=true from d0 (λ_=>rfl) _).symm▸?_;rfl)
  (λ_=>A3 (bW.lt L) (⟨rfl,g⟩:jm N N) (qS (X:=X) (n:=n-1) 9 (.cO .Eq (.aC 9) (.aC 1)) ⟨[.list (fU l),.int b,.int N,.ae,.ae,.ae,.ae,.ae,.ae,.ae,.ae,.ae],[]⟩ (λi=>af.bool (decide ((i:Int)=(b:Int)))) (λ_=>[]) rfl g λc _=>kE λ_=>id))
  (?_:cp X (n-1) (λ_ _=>False) nA (ME l b N .ae .ae λi=>decide ((i:Int)=(b:Int))) (cH λv=>v=.list (nv (bF (EL l) b N))))
 have iJ:∀(s:Nat->Bool) (t f:af),SPI l b N s->(∀p∈l,s p.1->s p.2)->cp X (n-1) (λ_ _=>False) j4 (ME l b N t f s) (cH λv=>v=.list (nv (bF (EL l) b N))):=λs t f q y=>by
  have E:=mG (X:=X) (n:=n-1) 11 lU (.aC 11) (ME l b N t f s) s (λi=>af.int i) (λc=>[.y (.bool (s c))]) rfl g λc y=>kC λ_=>A1 (PC s (o0 hN (by decide)) y);rw[BC (za q.1 (λi h=>(q.2 i h).1) λi h j m=>y (i,j) (DA.mp m) h)]at E;exact Pf [.m (qg (Bw s λi=>.int i)) (nv (bF (EL l) b N)),.n N,.z] (lu _) λ_=>A3 (bW.lt L) (⟨rfl,g⟩:jm N N) E
 refine wj [4,5] [.n N] N g (kI λ_=>A1 (⟨rfl,g⟩:jm N N)) (λk st=>∃s,st=ME l b N .ae .ae s/\SPI l b N s/\eQ s N+k<N) ⟨_,rfl,⟨FM rfl,λi h=>?_⟩,?_⟩ (λk I O q=>?_) λI q=>?_
 ·have:i=b:=by have:=s5 h;lia
  subst this;exact⟨.refl,D⟩
 ·have:=BM (s:=λ_=>false) (s':=λi=>decide ((i:Int)=(b:Int))) (λj h=>Bool.noConfusion h) D rfl (FM rfl)
  have:=BF (λ_=>false) N;lia
 ·refine cU q λs e hJ G=>?_
  clear q;subst e;have ht:l.take l.length=l:=SL (v0 _)
  have A:=λ(c:Bool) (z:zG (.list (bv ((l.take l.length).foldl fW s) N)) (.list (bv s N))=c) (p:Prop)=>A4 (p:=p) (H s) (Eq.refl (ME l b N (.int k) (.list (bv s N)) s)) (Qp (X:=X) (n:=n-1) (b:=b) hN u x (.int k) (.list (bv s N)) s)
   (⟨Dw _ _,Dw _ _,z⟩:fF .Eq (.list (bv ((l.take l.length).foldl fW s) N)) (.list (bv s N)) c)
  have w:SPI l b N ((l.take l.length).foldl fW s):=ht.symm▸⟨vC hJ.1,Ib u (λ_ m=>m) hJ.2⟩;cases z:zG (.list (bv ((l.take l.length).foldl fW s) N)) (.list (bv s N))with
  |true=>exact raw [.p,.l l.length [6,7] (λj=>ME l b N (.int k) (.list (bv s N)) ((l.take j).foldl fW s)),.e true] (A true z) (iJ _ (.int k) (.list (bv s N)) w (by
    rw[ht]at z⊢;intro p m h;have C:=U4.mp z;rw[C _ (u p m).1]at h;rw[C _ (u p m).2];exact Ic u C p m h))
  |false=>exact raw [.p,.l l.length [6,7] (λj=>ME l b N (.int k) (.list (bv s N)) ((l.take j).foldl fW s)),.e false] (A false z) (⟨(l.take l.length).foldl fW s,rfl,w,by have:=Z4 z λj M=>vC M;lia⟩:∃B,ME l b N .ae .ae ((l.take l.length).foldl fW s)=ME l b N .ae .ae B/\SPI l b N B/\eQ B N+(k+1)<N)
 ·exact cU q λs _ _ G=>absurd G (by lia)
end
def jM.congr(h:∀x y,y∈E x->y∈c x)(r:jM E a i):jM c a i:=by
 induction r with
 |refl=>exact .refl
 |ik _ m e=>exact e.ik (h _ _ m)
def km(h:∀x y,y∈E x↔y∈c x):bF E a N=bF c a N:=by
 exact List.filter_congr λi _=>by rw[aci];exact⟨jM.congr λx y=>(h x y).mp,jM.congr λx y=>(h x y).mpr⟩
section
variable{X:Cx}{n k:Nat}{aa:bo}
noncomputable def lA(aa:bo)(i:Nat):List (Nat×Nat):=(succ aa i).map (λj=>(i,j))++if eG aa i then[(i,ck aa i)]else[]
noncomputable def mK(aa:bo):List (Nat×Nat):=(List.range aa.length).flatMap (lA aa)
set_option tactic.hygienic true in
def wt:j∈EL (mK aa) i↔j∈bX aa i:=by
 rw[DA];delta mK bX;rw[List.mem_flatMap]
 have c:∀a,(i,j)∈lA aa a↔a=i/\j∈succ aa a++if eG aa a then[ck aa a]else[]:=λa=>by
  unfold lA;rw[AC,AC,FB];constructor
  ·rintro(⟨x,g,s⟩|h)
   ·obtain⟨rfl,rfl⟩:=Prod.mk.inj s;exact⟨rfl,.inl g⟩
   ·split at h
    ·rw[u8]at h;obtain⟨rfl,rfl⟩:=Prod.mk.inj h;exact⟨rfl,.inr (by rename_i q;rw[if_pos q];exact .head _)⟩
    ·exact nl h
  ·rintro⟨rfl,h|h⟩
   ·exact .inl (ay j h rfl)
   ·split at h
    ·rw[u8]at h;subst h;exact .inr (by rename_i q;rw[if_pos q];exact .head _)
    ·exact nl h
 constructor
 ·rintro⟨a,_,h⟩
  refine aX ((c a).mp h) λe u=>?_;refine e▸?_;exact u
 ·intro h
  refine(ay i (AT.mpr ?_) ((c i).mpr ⟨rfl,h⟩));rcases P3 i aa.length with q|q
  ·exact q
  ·haveI e:aa[i]?=none:=aaI q
   have v:succ aa i=[]:=by unfold succ;rw[e]
   have w:eG aa i=false:=by unfold eG;rw[e]
   rw[v,w]at h;exact nl h
set_option tactic.hygienic true in
def Qq(g:eD aa)(j:sk aa)(e:i<aa.length):∀p∈lA aa i,p.1<aa.length/\p.2<aa.length:=λp s=>by
 have:p.1=i/\p.2∈bX aa i:=by
  rcases AC.mp s with h|h
  ·refine aj (FB.mp h) λx u c=>?_
   subst c;exact⟨rfl,AC.mpr (.inl u)⟩
  ·split at h
   ·rename_i q;rw[u8]at h;subst h;exact⟨rfl,AC.mpr (.inr ((if_pos q)▸ .head _))⟩
   ·exact nl h
 exact⟨by refine this.1▸?_;exact e,uq g j e _ this.2⟩
def BN(c:eD aa)(e:sk aa):∀p∈mK aa,p.1<aa.length/\p.2<aa.length:=λp g=>by
 refine aj (List.mem_flatMap.mp g) λi h j=>?_;exact Qq c e (AT.mp h) p j
def Mh i:(lA aa i).length<=3:=by
 unfold lA;simp only[sK,v4];haveI:=jg (aa:=aa) i;split
 ·show _+1<=3;exact ac4 (by assumption)
 ·show _+0<=3;exact o0 (by assumption) (by decide)
def vD k:((List.range k).flatMap (lA aa)).length<=k*3:=by
 induction k with
 |zero=>exact SC _
 |succ k c=>
  simp only[aaK,abM,sK];haveI:=Mh (aa:=aa) k;simp only[abN,List.flatMap_nil,aa1];lia
def xy(l:List (Nat×Nat)):(fU l).length=l.length:=by unfold fU;simp
def vE(a b:List (Nat×Nat)):fU (a++b)=fU a++fU b:=by unfold fU;simp
def U5(l:List (Nat×Nat)):eJ (fU l):=d0 (λ_=>rfl) _
noncomputable def X8(aa:bo)(J:ah)(c:List (Nat×Nat)):St:=⟨[cI aa,eI aa,cf aa,dj aa,.cell J.length,.ae,.ae,.ae],J++[af.list (fU c)]⟩
def zl(e:cy aa)(c:k<aa.length):gR (dj aa) (.int k) (.list (nv (succ aa k))):=⟨oO e c (by unfold s6;simp),dZ (by unfold s6;simp only[ac5,FS,XL c];rfl)⟩
def TF(L:n<100)(u:cy aa)(O:eD aa)(A:k<aa.length){c:List (Nat×Nat)}(T:c.length<=k*3){K:aR->St->Prop}(hK:∀J,K .next ((X8 aa J (c++lA aa k)).at 5 (.int k))):cp X n (λ_ _=>False) pC ((X8 aa J c).at 5 (.int k)) K:=by
 have hN:aa.length<=30:=u;have v:=jg (aa:=aa) k;have e:aa[k]?=some aa[k]:=f0 A;generalize aa[k]=r at e;have C:=mJ u e;have B:=U3 u O e;have x:=eB e;have E:=JA (X:=X) (n:=n) 7 (.fr (.tuple (.cons (.aC 5) (.cons (.aC 7) .nil)))) ((X8 aa J c).at 5 (.int k)) (l:=succ aa k) (λj=>.tuple [.int k,.int j]) (λ_=>[]) rfl (o0 v (by decide)) λj U=>kE λ_=>id;rw[show(succ aa k).map (λj:Nat=>af.tuple [.int k,.int j])=fU ((succ aa k).map λj=>(k,j))by unfold fU;rw[aac];rfl]at E;generalize D:(succ aa k).map (λj=>(k,j))=h at E;have P:h.length<=2:=by rw[<-D,v4];exact v
 have H:(fU c).length+(fU h).length<=aL:=by rw[xy,xy];exact dw (by lia)
 have I:aB (J++[af.list (fU c)]) J.length=.list (fU c):=jF;have M:aB ((J++[af.list (fU c)])++[af.list (fU (c++h))]) (J++[af.list (fU c)]).length=.list (fU (c++h)):=jF;have y:lA aa k=h++if eG aa k then[(k,ck aa k)]else[]:=by unfold lA;rw[D]
 obtain⟨w,t,g⟩:=r;cases q:eG aa k with
 |false=>
  rw[q]at y x;rw[y,if_neg acX,aa1]at hK;exact raw [.m (qg λj=>[.tuple [.int k,.int j]]) (fU h),.y (.list (nv (succ aa k))),.x (.list (fU c)),.p,.y (.list (fU (c++h))),.y (bc ⟨w,t,g⟩),.e false] (λ_=>A8 L (zl u A) E I H (v6 af.list (vE c h).symm) C (l9 x.symm)) (hK (J++[af.list (fU c)]))
 |true=>
  rw[q]at y x;have G:=B (jT x.symm);have Q:((J++[af.list (fU c)])++[af.list (fU (c++h))]).set (J++[af.list (fU c)]).length (af.list (fU (c++lA aa k)))=(J++[af.list (fU c)])++[af.list (fU (c++lA aa k))]:=by rw[aaW _ _ (v0 _),aaR];rfl
  have s:=hK (J++[af.list (fU c)]);unfold X8 at s;rw[<-Q]at s
  exact raw [.m (qg λj=>[.tuple [.int k,.int j]]) (fU h),.y (.list (nv (succ aa k))),.x (.list (fU c)),.p,.y (.list (fU (c++h))),.y (bc ⟨w,t,g⟩),.e true,.x (.list (fU (c++h))),.y (.int (sl aa (ck aa k))),.y (.int (ck aa k)),.x (.list (fU (c++h))),.p,.y (.list (fU (c++lA aa k)))]
   (λ_ z=>A9 L (zl u A) E I H (v6 af.list (vE c h).symm) C (l9 x.symm) M (A5 (i4 G) (rg G) M (by rw[xy,sK];exact dw (by lia):(fU (c++h)).length<=aL) (by rw[y,if_pos rfl,<-aaX,vE (c++h)];rfl:af.list (fU (c++h)++[.tuple [.int k,.int (ck aa k)]])=.list (fU (c++lA aa k))) z)) s
def J3(T:Txt X)(L:bW n 1)(c:cy aa)(g:eD aa):sX X n "_law_pairs" [cI aa,eI aa,cf aa,dj aa] (.list (fU (mK aa))):=by
 refine nL T L wh (tm 58 rfl) [.go,.stop] (by unfold eJ;unfold eJ;refine eT.symm▸?_;refine gG.symm▸?_;refine(BA _ _ eU rO).symm▸?_;rfl) (λ_=>id) (?_:cp X (n-1) (λ_ _=>False) pD (X8 aa [] []) (cH λv=>v=.list (fU (mK aa))));refine wj [5] [.n aa.length,.n aa.length] aa.length (bp c) (kI λ_=>A2 (eH c) (jU c)) (λk st=>∃J,st=X8 aa J ((List.range k).flatMap (lA aa))) ⟨[],rfl⟩ (λk h j e=>?_) λh e=>?_
 ·obtain⟨J,rfl⟩:=e
  exact TF (bW.lt L) c g j (vD k) λJ=>⟨J,by rw[aaK,abM];simp;rfl⟩
 ·obtain⟨J,rfl⟩:=e
  exact a9 [] (Ql (U5 _) jF)
noncomputable def br(aa:bo):List (Nat×Nat):=(aJ aa).map λj=>(ao aa j,ck aa j)
def zm(s:eD aa):t∈EL (br aa) b↔t∈bk aa b:=by
 rw[DA];unfold br;rw[FB];constructor
 ·rintro⟨j,c,e⟩
  injection e with g q
  haveI:=(ki s c).2.2.2;rw[g,q]at this;exact(ze s this).2
 ·intro h
  obtain⟨j,c,e,g,q⟩:=s5 (IO.mp h).2;exact⟨j,cn.mpr ⟨c,g⟩,by rw[e,q]⟩
def BO(g:eD aa):∀p∈br aa,p.1<aa.length/\p.2<aa.length:=λp h=>by
 refine aj (FB.mp h) λj e c=>?_;subst c;exact⟨IN (md j) (cn.mp e).1,(ki g e).2.1⟩
def s7:(br aa).length<=aa.length:=by delta br aJ;rw[v4];exact o0 (KT ..) (by rw[x0];exact v0 _)
def Qr:kg l=0\/kg l∈l:=by
 induction l with
 |nil=>exact .inl rfl
 |cons a l c=>
  show max a (kg l)=0\/max a (kg l)∈a::l;rcases Nat.le_total a (kg l)with h|h
  ·rw[Nat.max_eq_right h];exact c.imp id (.tail _)
  ·rw[Nat.max_eq_left h];exact .inr (.head _)
def Ig(h:∀x,x∈a↔x∈b):kg a=kg b:=by
 exact acE (xw λx c=>xv ((h x).mp c)) (xw λx c=>xv ((h x).mpr c))
def Xl{l:aH}(h:l.length<=30):UC (.int 0::nv l) (kg l:Nat):=by
 refine⟨0::iv l,by simp only[aaT,nM],by simp only[WF,fj];unfold aL;lia,?_⟩;rw[List.max?_eq_some_iff];refine⟨?_,λb c=>?_⟩
 ·rcases Qr (l:=l)with q|q
  ·rw[q];exact .head _
  ·exact .tail _ (FB.mpr (ay _ q rfl))
 ·rcases EQ.mp c with rfl|c
  ·exact IR _
  ·refine aj (FB.mp c) λi g e=>?_
   subst e;haveI:=xv g;lia
noncomputable def mL(aa:bo)(b:Nat):aH:=((br aa).filter λp=>decide (p.2=b)).map λp=>bA aa p.1
def Mi(y:eD aa)(z:iE aa) b:bA aa b=1+kg (mL aa b):=by
 rw[rK y z];congr 1;refine Ig λx=>?_;unfold mL;rw[FB,FB];constructor
 ·rintro⟨c,e,rfl⟩
  refine zJ ((fc.mp e).2) λj g h s u=>?_;exact(ay (c,b) (IO.mpr ⟨FB.mpr ⟨j,cn.mpr ⟨g,s⟩,by rw[h,u]⟩,FM rfl⟩) rfl)
 ·rintro⟨⟨p,q⟩,e,rfl⟩
  obtain⟨g,h⟩:=IO.mp e;have:q=b:=s5 h;subst this;refine aj (FB.mp g) λj s u=>?_;injection u with v A
  obtain⟨w,B⟩:=cn.mp s;exact(ay p (fc.mpr ⟨by rw[<-v];exact IN (md j) w,j,w,v,B,A⟩) rfl)
noncomputable def Mj(v:af):Option (Nat×Nat):=match v with
 | .tuple [.int (.ofNat a),.int (.ofNat b)]=>some (a,b)
 |_=>none
def Qs(T:Txt X)(D:cy aa)(x:eD aa)(C:iE aa):∀(m b n:Nat),(H7 aa b).length<=m->bW n (m+1)->sX X n "_law_deep" [.list (fU (br aa)),.int b] (.int (bA aa b)):=by
 have hN:aa.length<=30:=D;have y:=s7 (aa:=aa)
 have ik:∀m b n,bW n (m+1)->(∀p∈br aa,p.2=b->sX X (n-1) "_law_deep" [.list (fU (br aa)),.int p.1] (.int (bA aa p.1)))->sX X n "_law_deep" [.list (fU (br aa)),.int b] (.int (bA aa b)):=by
  intro m b n L g;have A:(mL aa b).length<=30:=by unfold mL;rw[v4];exact o0 (KT ..) (o0 y hN)
  have E:=HQ (X:=X) (n:=n-1) (enc:=λq:Nat×Nat=>.tuple [.int q.1,.int q.2]) (dec:=Mj) (λ_=>rfl) (t:=.dU [3,4]) (c:=pE) (e:=.call "_law_deep" (.cons (.aC 0) (.cons (.aC 3) .nil))) (st:=⟨[.list (fU (br aa)),.int b,.ae,.ae,.ae],[]⟩) (l:=br aa)
   (λq=>decide ((q.2:Int)=(b:Int))) (λq=>.int (bA aa q.1)) (λ_=>[]) (λq=>[.v (.int (bA aa q.1))]) (λi w=>by
    rcases EQ.mp w with rfl|w
    ·rfl
    ·rw[u8]at w;subst w;rfl) (dw (by lia)) λq G=>⟨rfl,kB λ_=>id,λz=>kE λ_=>A1 (g q G (by have:=s5 z;lia))⟩
  have e:((br aa).filter λq=>decide ((q.2:Int)=(b:Int))).map (λq=>af.int (bA aa q.1))=nv (mL aa b):=by
   delta mL nv;rw[aac,show(λq:Nat×Nat=>decide ((q.2:Int)=(b:Int)))=λq=>decide (q.2=b)from funext λq=>aci.mpr (by lia)];rfl
  rw[e]at E;exact uj T L yQ (tm 59 rfl) [.m (hG Mj (λq=>decide ((q.2:Int)=(b:Int))) λq=>.int (bA aa q.1)) (nv (mL aa b)),.p,.v (.int (kg (mL aa b)))] (BA _ _ (U5 _) rfl) λ_ _=>A4 (bW.lt L) E (by rw[aN];exact dw (by lia):1+(nv (mL aa b)).length<=aL) (Xl A) (⟨rfl,by rw[Mi x C b];rfl⟩:true/\af.int (1+(kg (mL aa b):Nat))=.int (bA aa b))
 have s:∀b,∀p∈br aa,p.2=b->(H7 aa p.1).length<(H7 aa b).length:=λb p u v=>by
  refine aj (FB.mp u) λj H B=>?_;subst B;subst v;exact vz x C (ki x H).2.2.2
 intro m;induction m with
 |zero=>
  intro b n h L;exact ik _ b n L λp u v=>by haveI:=s b p u v;lia
 |succ m I=>
  intro b n h L;exact ik _ b n L λp u v=>I p.1 (n-1) (by haveI:=s b p u v;lia) (L.dn _ (v0 _))
end
section
noncomputable def fV(o:Option (Str×Nat)):af:=match o with
 |none=>.none
 |some e=>.tuple [.str e.1,.int e.2]
section
variable{X:Cx}{n k:Nat}{a:bo}
def TH:eJ [cI a,eI a,cf a]:=by unfold eJ;refine eT.symm▸?_;refine(BA _ _ gG eU).symm▸?_;rfl
def Qt(e:a[i]?=some r):oG a i=gl a r:=by unfold oG;refine e▸?_;rfl
def oS f w v(h:f=some w):true/\∃c,f=some c/\af.tuple [.str w,v]=.tuple [.str c,v]:=⟨rfl,w,h,rfl⟩
def J4(c:cy a):HN X n (.bz (.cS (.aC 0))) ⟨cI a::x,cs⟩ [.n a.length,.n a.length] λe s g _=>e=nv (List.range a.length)/\s=.none/\g=⟨cI a::x,cs⟩:=kI λ_=>A2 (eH c) (jU c)
def Z7(c:cy a):qv (kj a (iY a)) (iY a):=⟨uw _,uw (aa:=a) (iY a)▸ux c (v0 _)⟩
noncomputable def Z8(a:bo):St:=⟨[cI a,eI a,cf a,.ae],[]⟩
def DB(x:cy a)(y:k<a.length):cp X n (λ_ _=>False) jv ((Z8 a).at 3 (.int k)) (nP true [3] (Z8 a) (f2 a k) (.int k)):=by
 have e:a[k]?=some a[k]:=f0 y;generalize a[k]=r at e;have c:gR (cf a) (.int k) (gV (gl a r)):=⟨rf x y,nR e⟩;have j:f2 a k=match gl a r with|none=>none|some g=>if 0<=g/\g<iY a then(match ow a g with|none=>some ("goal within a wide load":Str)|some _=>none)else some ("goal out of the program":Str):=by unfold f2;rw[Qt e]<;>rfl
 have lo:=Z7 x;cases B:gl a r with
 |none=>
  rw[B]at c j;exact raw [.y .none,.y .none] (λ_=>A2 c c) (gk (f2 a k) (Z8 a) j)
 |some g=>
  rw[B]at c j;dsimp only at j;cases q:decide ((0:Int)<=g)with
  |false=>exact raw [.y (.int g),.y (.int g),.b false] (λ_=>A3 c c q) (oS (f2 a k) "goal out of the program" (.int k) (j.trans (if_neg λh=>GT q h.1)))
  |true=>
   refine ar (Int.eq_ofNat_of_zero_le (s5 q)) λs v=>?_;subst v;cases u:decide ((s:Int)<(iY a:Int))with
   |false=>exact raw [.y (.int s),.y (.int s),.b true,.n (iY a),.b true] (λ_=>A5 c c q lo (v6 Bool.not u:(!decide ((s:Int)<(iY a:Int))))) (oS (f2 a k) "goal out of the program" (.int k) (j.trans (if_neg λh=>GT u h.2)))
   |true=>
    have C:s<iY a:=aaY.mp (s5 u);rw[if_pos ⟨s5 q,s5 u⟩]at j;have D:gR (eI a) (.int s) (.int (rd a s)):=⟨⟨IR _,by rw[uw];exact s5 u,lo.1.symm▸lo.2⟩,J0 C⟩;have A:=λ{p:Prop}=>A8 (p:=p) c c q lo (v6 Bool.not u:(!decide ((s:Int)<(iY a:Int)))=false) c c D;cases z:ow a (s:Int)with
    |none=>
     rw[z]at j;exact raw [.y (.int s),.y (.int s),.b true,.n (iY a),.b false,.y (.int s),.y (.int s),.y (.int (rd a s)),.b true] (λ_ w=>A (A1 (by unfold rd;rw[z];rfl:decide (rd a s<0)) w)) (oS (f2 a k) "goal within a wide load" (.int k) j)
    |some t=>
     rw[z]at j;exact raw [.y (.int s),.y (.int s),.b true,.n (iY a),.b false,.y (.int s),.y (.int s),.y (.int (rd a s)),.b false] (λ_ w=>A (A1 (by unfold rd;rw[z];exact SZ (Int.not_lt.mpr (IR _)):decide (rd a s<0)=false) w)) (gk (f2 a k) (Z8 a) j)
def DD(T:Txt X)(L:bW n 1)(c:cy a):sX X n "_law_goal_fault" [cI a,eI a,cf a] (fV (bK (f2 a) a.length)):=
 dk T L nJ (tm 61 rfl) rfl [.stop] TH rfl (ly true [3] _ (Z8 a) (f2 a) (bp c) (J4 c) rfl (λk e _=>DB c e) (λ_ k e g w hw st=>⟨rfl,by rw[er e g hw];rfl⟩) λg=>a9 [] ⟨rfl,by rw[aI.mpr g];rfl⟩)
open Classical in
def FN(c:eD a)(e:j∈aJ a):ao a j∈bF (EL (br a)) (ck a j) a.length↔jM (bk a) (ck a j) (ao a j):=by
 rw[km (λx y=>zm c)];unfold bF;rw[IO,AT,abZ];exact⟨λh=>h.2,λh=>⟨IN (md j) (cn.mp e).1,h⟩⟩
def Qu(h:i<a.length):aB (nv ((List.range a.length).map (ao a))) i=.int (ao a i:Nat):=oJ (by simp only[FS,XL h];rfl)
def TJ(c:cy a)(h:i<a.length):(0:Int)<=(i:Int)/\(i:Int)<((nv ((List.range a.length).map (ao a))).length:Int)/\(nv ((List.range a.length).map (ao a))).length<=aL:=oO c h (by simp only[aN,v4,x0])
def mM(c:cy a)(h:k<a.length):gR (fB a) (.int k) (.int (ao a k)):=⟨TJ c h,Qu h⟩
end
end
section
variable{X:Cx}{n k:Nat}{a:bo}
def zo:((aJ a).map λj=>af.tuple [.int (ao a j:Nat),.int (ck a j:Nat)])=fU (br a):=by delta fU br;simp only[aac];rfl
noncomputable def Qv(a:bo):St:=⟨[cI a,eI a,cf a,fB a,.ae,.list (nv (aJ a)),.list (fU (br a)),.ae,.ae,.ae,.ae,.ae],[]⟩
noncomputable def MF(a:bo)(j:Nat):af:=.tuple [.int (ao a j),.int (ck a j)]
def Z9:xK (nv (aJ a)) (fU (br a))=(aJ a).map λj=>.tuple [.int j,MF a j]:=by
 unfold xK nv;rw[<-zo,List.zipWith_map,List.zipWith_self];rfl
def U6(c:cy a):HN X n (.zip (.aC 5) (.aC 6)) (Qv a) [.p] λe s g _=>e=(aJ a).map (λj=>.tuple [.int j,MF a j])/\s=.none/\g=Qv a:=by
 rw[<-Z9];exact kI λ_=>A1 (⟨rL c,by rw[xy,aN];exact v4 _⟩:(nv (aJ a)).length<=aL/\(fU (br a)).length=(nv (aJ a)).length)
def Ar(T:Txt X)(L:bW n 1)(s:cy a)(e:eD a)(g:j∈aJ a):cp X n (λ_ _=>False) jr (((Qv a).at 4 (.int j)).at 7 (MF a j)) (nP true [4,7] (Qv a) (f6 a j) (.int j)):=by
 have u:=cn.mp g;have v:=uy (X:=X) T L s (ki e g).2.1 (BO e) (o0 s7 (bp s));have A:=λ{p:Prop} (c:Bool) (q:decide (ao a j∈bF (EL (br a)) (ck a j) a.length)=c)=>A3 (p:=p) (eH s) v (⟨rfl,df _,zi.trans q⟩:fF .In (.int (ao a j)) (.list (nv (bF (EL (br a)) (ck a j) a.length))) c);cases q:decide (ao a j∈bF (EL (br a)) (ck a j) a.length)with
 |true=>exact raw [.a,.a,.n a.length,.v (.list (nv (bF (EL (br a)) (ck a j) a.length))),.e true] (λ_=>A true q) (oS (f6 a j) "calls in a ring" (.int j) (if_pos ⟨u.2,(FN e g).mp (s5 q)⟩))
 |false=>exact raw [.a,.a,.n a.length,.v (.list (nv (bF (EL (br a)) (ck a j) a.length))),.e false] (λ_=>A false q) (gk (f6 a j) (Qv a) (if_neg λh=>GT q ((FN e g).mpr h.2)))
def As(T:Txt X)(L:bW n 31)(c:cy a)(g:eD a)(s:iE a)(u:j∈aJ a):cp X n (λ_ _=>False) jt (((Qv a).at 4 (.int j)).at 7 (MF a j)) (nP true [4,7] (Qv a) (f7 a j) (.int j)):=by
 have v:=cn.mp u;have e:=Qs (X:=X) T c g s 30 (ao a j) n (o0 H8 c) L;cases q:decide ((7:Int)<(bA a (ao a j):Int))with
 |true=>exact raw [.a,.v (.int (bA a (ao a j))),.b true] (λ_=>A2 e q) (oS (f7 a j) "too many frames" (.int j) (if_pos ⟨v.2,aaY.mp (s5 q)⟩))
 |false=>exact raw [.a,.v (.int (bA a (ao a j))),.b false] (λ_=>A2 e q) (gk (f7 a j) (Qv a) (if_neg λh=>GT q (aaY.mpr h.2)))
def TK:eJ [cI a,eI a,cf a,fB a]:=by unfold eJ;unfold eJ;refine eT.symm▸?_;refine gG.symm▸?_;refine(BA _ _ eU rN).symm▸?_;rfl
def DG(T:Txt X)(L:bW n 32)(g:cy a)(x:eD a):sX X n "_law_call_fault" [cI a,eI a,cf a,fB a] (fV ((bK (f6 a) a.length).or (bK (f7 a) a.length))):=by
 have u:(aJ a).length<=aL:=aN (aJ a)▸rL g
 have E:=JA (X:=X) (n:=n-1) 11 (.fr (.tuple (.cons (.item (.aC 3) (.aC 11)) (.cons (.item (.aC 1) (.item (.aC 2) (.aC 11))) .nil)))) ⟨[cI a,eI a,cf a,fB a,.ae,.list (nv (aJ a)),.ae,.ae,.ae,.ae,.ae,.ae],[]⟩ (MF a) (λc=>[.y (.int (ao a c)),.y (.int (sl a (ck a c))),.y (.int (ck a c))]) rfl u λc y=>by
  obtain⟨z,B⟩:=cn.mp y;have G:=U3 g x (f0 z) (jT ((eB (f0 z)).symm.trans B));exact kE λ_=>A3 (mM g z) (i4 G) (rg G)
 rw[show(aJ a).map (MF a)=fU (br a)from zo]at E
 refine nL T L nI (tm 60 rfl) [.m (qg (Bw (eG a) λj=>.int j)) (nv (aJ a)),.n a.length,.n a.length,.m (qg λj=>[MF a j]) (fU (br a)),.stop] TK
  (λ_=>A6 (bW.lt L) (eH g) (jU g) (mG (X:=X) (n:=n-1) 9 iN (.aC 9) ⟨[cI a,eI a,cf a,fB a,.ae,.ae,.ae,.ae,.ae,.ae,.ae,.ae],[]⟩ (eG a) (λj=>.int j) (λc=>[.y (aB (a.map bc) c),.e (eG a c)]) rfl (bp g) λc y=>by
   have e:a[c]?=some a[c]:=f0 y;generalize a[c]=r at e;rw[nQ e];exact kC λ_=>A2 (mJ g e) (l9 (eB e).symm)) (bW.lt L) E) (?_:cp X (n-1) (λ_ _=>False) ju (Qv a) (cH λv=>v=fV ((bK (f6 a) a.length).or (bK (f7 a) a.length))))
 have s:∀(f:Nat->Option Str),(∀i,eG a i=false->f i=none)->∀k j:Nat,(aJ a)[k]?=some j->(∀i∈(aJ a).take k,f i=none)->∀w,f j=some w->bK f a.length=some (w,j):=λf C k j q h w hw=>er (cn.mp (wE q)).1 (Z1 C q h) hw;refine scan true [4,7] [.p] (Qv a) (λj=>.tuple [.int j,MF a j]) .none (f6 a) u (U6 g) trivial rfl (λk j q h=>⟨rfl,Ar T (L.dn 1) g x (wE q)⟩) (λ_ k j q h w hw st=>⟨rfl,by rw[s _ (λi=>zf) k j q h w hw];rfl⟩) λh=>?_;have A:d7 a (f6 a):=BJ (λi=>zf) h;rw[cX (aI.mpr A)];exact scan true [4,7] [.p] (Qv a) (λj=>.tuple [.int j,MF a j]) .none (f7 a) u (U6 g) trivial rfl (λk j q h=>⟨rfl,As T (L.dn 31) g x (vA A) (wE q)⟩) (λ_ k j q h w hw st=>⟨rfl,by rw[s _ (λi=>zg) k j q h w hw];rfl⟩) λh=>a9 [] ⟨rfl,by rw[aI.mpr (BJ (λi=>zg) h)];rfl⟩
end
section
noncomputable def TL(o:Option (Str×af)):af:=match o with
 |none=>.none
 |some e=>.tuple [.str e.1,e.2]
section
variable{X:Cx}{n k:Nat}{d:bo}
def aaa(c:d.length≠0)(n1:(iY d:Int)<=most):TL (dG d most)=fV (fG d):=by
 refine(rM c n1)▸?_;cases fG d<;>rfl
noncomputable def DT(d:bo)(m:Int)(a b:af):St:=⟨[cI d,eI d,cf d,.int m,.none,fB d,.ae,.ae,a,b],[]⟩
def Xm(c:cy d){r:Rw}(e:d[k]?=some r)(h:r.w.gN=false):gR (cf d) (.int k) .none:=⟨rf c (lp e),(nR e).trans (by unfold gl;rw[h];rfl)⟩
def Ih(w:W)(h:(w.eG||w.ll)=false):w.gN=(w.kF||w.rY):=by cases w<;>first|rfl|exact Bool.noConfusion h
def U7(w:W)(h:(w.eG||w.ll)):(w.kF||w.rY)=false:=by cases w<;>first|rfl|exact Bool.noConfusion h
def fB1(c:cy d)(x:eD d)(v:k<d.length):cp X n (λ_ _=>False) pF ((DT d m a b).at 6 (.int k)) (nP true [6] (DT d m a b) (f3 d k) (.int k)):=by
 have e:d[k]?=some d[k]:=f0 v;generalize d[k]=r at e;have s:=mJ c e;have h:f3 d k=if(r.w.kF||r.w.rY)/\ao d (ck d k)≠ao d k then some ("goal in another subprogram":Str)else none:=by unfold f3;rw[sZ e,Ia e]
 have u:=Xm c e;have G:=U3 c x e;have B:=mM c v;obtain⟨w,t,g⟩:=r;dsimp only at h u G;cases q:w.eG||w.ll with
 |true=>exact raw [.y (bc ⟨w,t,g⟩),.e false] (λ_=>A2 s (Pp q)) (gk (f3 d k) (DT d m a b) (h.trans (if_neg λz=>Bool.noConfusion ((U7 w q).symm.trans z.1))))
 |false=>
  rw[Ih w q]at u G;cases j:w.kF||w.rY with
  |false=>exact raw [.y (bc ⟨w,t,g⟩),.e true,.y .none] (λ_=>A3 s (Pp q) (u j)) (gk (f3 d k) (DT d m a b) (h.trans (if_neg λz=>Bool.noConfusion (j.symm.trans z.1))))
  |true=>
   have G:=G j;have A:=λ{p:Prop}=>A7 (p:=p) s (Pp q) (i4 G) (i4 G) (rg G) (mM c G.lt) B;cases z:decide (ao d (ck d k)=ao d k)with
   |true=>exact raw [.y (bc ⟨w,t,g⟩),.e true,.y (.int (sl d (ck d k))),.y (.int (sl d (ck d k))),.y (.int (ck d k)),.y (.int (ao d (ck d k))),.y (.int (ao d k)),.b false] (λ_ y=>A (A1 (iF z) y)) (gk (f3 d k) (DT d m a b) (h.trans (if_neg λy=>y.2 (s5 z))))
   |false=>exact raw [.y (bc ⟨w,t,g⟩),.e true,.y (.int (sl d (ck d k))),.y (.int (sl d (ck d k))),.y (.int (ck d k)),.y (.int (ao d (ck d k))),.y (.int (ao d k)),.b true] (λ_ y=>A (A1 (iF z) y)) (oS (f3 d k) "goal in another subprogram" (.int k) (h.trans (if_pos ⟨j,GT z⟩)))
def fB2(j:cy d)(x:k<d.length):cp X n (λ_ _=>False) pG ((DT d m a b).at 6 (.int k)) (nP true [6,7] (DT d m a b) (f4 d k) (.int k)):=by
 have e:d[k]?=some d[k]:=f0 x;generalize d[k]=r at e;have u:=mJ j e;have v:f4 d k=if(k+1=d.length\/ao d (k+1)≠ao d k)/\r.w.ll=false/\r.w.kF=false then some ("subprogram without an end":Str)else none:=by unfold f4;rw[Dq e,sZ e]
 obtain⟨w,t,g⟩:=r;dsimp only at v;have ok:(w.ll||w.kF)->f4 d k=none:=λh=>v.trans (if_neg λz=>by rw[z.2.1,z.2.2]at h;exact Bool.noConfusion h);have s:(w.ll||w.kF)=false->(k+1=d.length\/ao d (k+1)≠ao d k)->f4 d k=some ("subprogram without an end":Str):=λh z=>v.trans (if_pos ⟨z,(ab2.mp h).1,(ab2.mp h).2⟩);have B:decide (((k:Int)+1)=((d.length:Nat):Int))=decide (k+1=d.length):=aci.mpr Int.ofNat_inj;cases q:decide (k+1=d.length)with
 |true=>
  cases c:w.ll||w.kF with
  |true=>exact raw [.n d.length,.b true,.y (bc ⟨w,t,g⟩),.e false] (λ_=>A4 (eH j) (B.trans q) u (JG c)) (gk (f4 d k) (DT d m a b) (ok c))
  |false=>exact raw [.n d.length,.b true,.y (bc ⟨w,t,g⟩),.e true] (λ_=>A4 (eH j) (B.trans q) u (JG c)) (oS (f4 d k) "subprogram without an end" (.int k) (s c (.inl (s5 q))))
 |false=>
  have C:k+1<d.length:=Nat.lt_of_le_of_ne x (GT q);have A:=λ{p:Prop}=>A4 (p:=p) (eH j) (B.trans q) (mM j C) (mM j x);cases z:decide (ao d (k+1)=ao d k)with
  |true=>exact raw [.n d.length,.b false,.y (.int (ao d (k+1))),.y (.int (ao d k)),.b false] (λ_ y=>A (A1 (iF z) y)) (gk (f4 d k) (DT d m a b) (v.trans (if_neg λy=>y.1.elim (GT q) λy=>y (s5 z))))
  |false=>
   cases c:w.ll||w.kF with
   |true=>exact raw [.n d.length,.b false,.y (.int (ao d (k+1))),.y (.int (ao d k)),.b true,.y (bc ⟨w,t,g⟩),.e false] (λ_ y=>A (A3 (iF z) u (JG c) y)) (gk (f4 d k) (DT d m a b) (ok c))
   |false=>exact raw [.n d.length,.b false,.y (.int (ao d (k+1))),.y (.int (ao d k)),.b true,.y (bc ⟨w,t,g⟩),.e true] (λ_ y=>A (A3 (iF z) u (JG c) y)) (oS (f4 d k) "subprogram without an end" (.int k) (s c (.inr (GT z))))
open Classical in
def fB3(e:k∈l↔jM (bX d) 0 k):cp X n (λ_ _=>False) pH ((DT d m b (.list (nv l))).at 6 (.int k)) (nP true [6] (DT d m b (.list (nv l))) (f5 d k) (.int k)):=by
 have A:=λ(c:Bool) (z:decide (k∈l)=c)=>(⟨rfl,df l,v6 Bool.not (zi.trans z)⟩:fF .NotIn (.int k) (.list (nv l)) (!c));cases z:decide (k∈l)with
 |true=>exact raw [.e false] (λ_=>A1 (A true z)) (gk (f5 d k) (DT d m b (.list (nv l))) (uv.mpr (e.mp (s5 z))))
 |false=>exact raw [.e true] (λ_=>A1 (A false z)) (oS (f5 d k) "order that nothing reaches" (.int k) (JU λh=>GT z (e.mpr h)))
open Classical in
def TM(T:Txt X)(L:bW n 33)(c:cy d)(h0:0<d.length) most:sX X n "_law_fault" [cI d,eI d,cf d,.int most] (TL (dG d most)):=by
 have A:d.length≠0:=ab8 h0;have lo:=Z7 c;have j:eJ [cI d,eI d,cf d,.int most]:=by unfold eJ;unfold eJ;rw[eT,gG,BA _ _ eU rfl];rfl
 cases q:decide (most<(iY d:Int))with
 |true=>exact uj T L lZ (tm 62 rfl) [.n (iY d),.b true] j λ_ _=>A2 lo q (⟨rfl,by unfold dG;rw[if_neg A,if_pos (s5 q)];rfl⟩:true/\af.tuple [.str "too many orders",.none]=TL (dG d most))
 |false=>
  rw[aaa A (Int.not_lt.mp (GT q))];have z:=DD (X:=X) T (L.dn 1) c;cases g:bK (f2 d) d.length with
  |some e=>
   rw[g]at z;obtain⟨w,i⟩:=e;exact uj T L lZ (tm 62 rfl) [.n (iY d),.b false,.v (.tuple [.str w,.int i]),.a] j λ_ _=>A3 lo q z (⟨rfl,by unfold fG;rw[g];rfl⟩:true/\af.tuple [.str w,.int i]=fV (fG d))
  |none=>
   rw[g]at z;have s:=ra (aI.mp g);rw[show fG d=(bK (f3 d) d.length).or ((bK (f4 d) d.length).or ((bK (f5 d) d.length).or ((bK (f6 d) d.length).or (bK (f7 d) d.length))))by unfold fG;rw[g];rfl];have ret:∀(f:Nat->Option Str) (o:Option (Str×Nat)) (k:Nat),k<d.length->(∀i<k,f i=none)->∀w,f k=some w->∀st,cH (λv=>v=fV ((bK f d.length).or o)) (.ret (.tuple [.str w,.int k])) st:=λf o k u C w hw st=>⟨rfl,by rw[er u C hw];rfl⟩;refine nL T L lZ (tm 62 rfl) [.n (iY d),.b false,.v .none,.a,.v (fB d),.stop] j (λ_=>A4 lo q z (J2 (X:=X) T (L.dn 1) c s)) (?_:cp X (n-1) (λ_ _=>False) pJ (DT d most .ae .ae) (cH λv=>v=fV ((bK (f3 d) d.length).or ((bK (f4 d) d.length).or ((bK (f5 d) d.length).or ((bK (f6 d) d.length).or (bK (f7 d) d.length)))))));refine ly true [6] _ (DT d most .ae .ae) (f3 d) (bp c) (J4 c) rfl (λk u _=>fB1 c s u) (λ_=>ret _ _) λD=>?_;rw[cX (aI.mpr D)];refine ly true [6,7] _ (DT d most .ae .ae) (f4 d) (bp c) (J4 c) rfl (λk u _=>fB2 c u) (λ_=>ret _ _) λB=>?_;rw[cX (aI.mpr B)]
   have G:sX X (n-1) "_law_spread" [.list (fU (mK d)),.int 0,.int d.length] (.list (nv (bF (bX d) 0 d.length))):=by
    rw[<-km (λx y=>wt)];exact uy T (L.dn 1) c h0 (BN s (Dr s B)) (o0 (vD _) (dw (by unfold cy at c;lia)))
   refine raw [.v (dj d),.v (.list (fU (mK d))),.n d.length,.v (.list (nv (bF (bX d) 0 d.length))),.stop] (λ_=>A4 (Dz (X:=X) T (L.dn 1) c s) (J3 (X:=X) T (L.dn 1) c s) (eH c) G) (?_:cp X (n-1) (λ_ _=>False) pI (DT d most (dj d) (.list (nv (bF (bX d) 0 d.length)))) (cH λv=>v=fV ((bK (f5 d) d.length).or ((bK (f6 d) d.length).or (bK (f7 d) d.length)))))
   refine ly true [6] _ (DT d most (dj d) (.list (nv (bF (bX d) 0 d.length)))) (f5 d) (bp c) (J4 c) rfl (λk u _=>fB3 (by
    unfold bF;rw[IO,AT];exact⟨λh=>s5 h.2,λh=>⟨u,FM h⟩⟩)) (λ_=>ret _ _) λH=>?_
   rw[cX (aI.mpr H)];exact Pf [.v (fV ((bK (f6 d) d.length).or (bK (f7 d) d.length))),.z] (by cases(bK (f6 d) d.length).or (bK (f7 d) d.length)<;>rfl) λ_=>A1 (DG (X:=X) T (L.dn 32) c s)
end
end
structure gX(N:Nat)(E:Nat->List Nat)(way:List Nat)(Y:WS)(d:Nat):Prop where
 nd:Y.aE.Nodup
 lt:∀i∈Y.aE,i<N
 cS:Y.cq.length+d<=Y.aE.length
 Gg:Y.bG.Nodup
 JP:∀i∈Y.bG,i∈Y.aE
 X9:∀i∈way,i∈Y.aE
 cl:∀i∈Y.aE,i∈Y.cq\/i∈way
 pin:∀i∈Y.cq,i∈Y.aE
 pp:∀(k u:Nat),Y.cq[k]?=some u->∀v∈E u,v∈Y.bG\/∃m,m<k/\Y.cq[m]?=some v
structure mn(Y bh:WS):Prop where
 aE:∀i∈Y.aE,i∈bh.aE
 cq:∀i∈Y.cq,i∈bh.cq
 bG:∀i∈Y.bG,i∈bh.bG
 cS:Y.aE.length<=bh.aE.length
def mn.refl(Y:WS):mn Y Y:=⟨λ_ h=>h,λ_ h=>h,λ_ h=>h,v0 _⟩
def mn.trans(h:mn a b)(k:mn b c):mn a c:=⟨λi m=>k.aE i (h.aE i m),λi m=>k.cq i (h.cq i m),λi m=>k.bG i (h.bG i m),o0 h.cS k.cS⟩
section
variable{N:Nat}{E:Nat->aH}{b:aH}{Y:WS}{d a o:Nat}
set_option tactic.hygienic true in
def jH:i∈(cm o Y).bG↔i∈Y.bG\/i=o:=by
 unfold cm;split
 ·rename_i q;exact⟨.inl,λh=>h.elim id λh=>h▸q⟩
 ·show i∈Y.bG++[o]↔_
  rw[AC,u8]
def dp:(cm o Y).aE=Y.aE:=by unfold cm;split<;>rfl
def iH:(cm o Y).cq=Y.cq:=by unfold cm;split<;>rfl
set_option tactic.hygienic true in
def gX.head(W:gX N E b Y d)(h:o∈Y.aE):gX N E b (cm o Y) d/\mn Y (cm o Y):=by
 refine⟨⟨dp.symm▸W.nd,by refine dp.symm▸?_;exact W.lt,by refine dp.symm▸?_;refine iH.symm▸?_;exact W.cS,?_,λi m=>?_,by refine dp.symm▸?_;exact W.X9,by refine dp.symm▸?_;refine iH.symm▸?_;exact W.cl,by refine dp.symm▸?_;refine iH.symm▸?_;exact W.pin,?_⟩,?_⟩
 ·unfold cm
  split
  ·exact W.Gg
  ·rename_i q
   rw[acb];exact⟨W.Gg,by simp,λx g y c e=>q (by rw[u8]at c;refine c▸?_;refine e▸?_;exact g)⟩
 ·rw[dp]
  rcases jH.mp m with m|m
  ·exact W.JP i m
  ·simp only[m];exact h
 ·refine iH.symm▸?_
  exactλk u j v s=>(W.pp k u j v s).imp (λq=>jH.mpr (.inl q)) id
 ·exact⟨λi m=>by rw[dp];exact m,λi m=>by rw[iH];exact m,λi m=>jH.mpr (.inl m),by refine dp.symm▸?_;exact v0 _⟩
def gX.see(W:gX N E b Y d)(h:a<N)(j:a∉Y.aE):gX N E (b++[a]) (cT a Y) (d+1)/\mn Y (cT a Y):=by
 have c:∀i,i∈(cT a Y).aE↔i∈Y.aE\/i=a:=λi=>by
  show i∈Y.aE++[a]↔_;rw[AC,u8]
 refine⟨⟨?_,λi m=>?_,?_,W.Gg,λi m=>(c i).mpr (.inl (W.JP i m)),λi m=>?_,λi m=>?_,λi m=>(c i).mpr (.inl (W.pin i m)),W.pp⟩,⟨λi m=>(c i).mpr (.inl m),λ_ m=>m,λ_ m=>m,?_⟩⟩
 ·show(Y.aE++[a]).Nodup
  rw[acb];exact⟨W.nd,by simp,λx s y g e=>j (by rw[u8]at g;refine g▸?_;refine e▸?_;exact s)⟩
 ·rcases(c i).mp m with m|m
  ·exact W.lt i m
  ·refine m▸?_;exact h
 ·show Y.cq.length+(d+1)<=(Y.aE++[a]).length
  simp only[sK,H1];haveI:=W.cS;exact ac4 (by assumption)
 ·rcases AC.mp m with m|m
  ·exact(c i).mpr (.inl (W.X9 i m))
  ·exact(c i).mpr (.inr (u8.mp m))
 ·rcases(c i).mp m with m|m
  ·exact(W.cl i m).imp id λq=>AC.mpr (.inl q)
  ·exact .inr (AC.mpr (.inr (u8.mpr m)))
 ·show Y.aE.length<=(Y.aE++[a]).length
  simp only[sK];lia
def gX.done(W:gX N E (b++[a]) Y (d+1))(h:∀v∈E a,v∈Y.bG\/v∈Y.cq):gX N E b (fK a Y) d/\mn Y (fK a Y)/\a∈(fK a Y).cq:=by
 have g:∀i,i∈(fK a Y).cq↔i∈Y.cq\/i=a:=λi=>by
  show i∈Y.cq++[a]↔_;rw[AC,u8]
 haveI hw:a∈Y.aE:=W.X9 a (AC.mpr (.inr (.head _)));refine(bH ⟨W.nd,W.lt,?_,W.Gg,W.JP,λi m=>W.X9 i (AC.mpr (.inl m)),λi m=>?_,λi m=>?_,λk u w v j=>?_⟩ ⟨λ_ m=>m,λi m=>(g i).mpr (.inl m),λ_ m=>m,v0 _⟩ ((g a).mpr (.inr rfl)))
 ·show(Y.cq++[a]).length+d<=Y.aE.length
  simp only[sK,H1];haveI:=W.cS;lia
 ·rcases W.cl i m with q|q
  ·exact .inl ((g i).mpr (.inl q))
  ·rcases AC.mp q with q|q
   ·exact .inr q
   ·exact .inl ((g i).mpr (.inr (u8.mp q)))
 ·rcases(g i).mp m with q|q
  ·exact W.pin i q
  ·simp only[q];exact hw
 ·haveI c:(Y.cq++[a])[k]?=some u:=w
  rcases P3 k Y.cq.length with q|q
  ·rw[aar q]at c
   refine(W.pp k u c v j).imp id λx=>aj x λm y z=>(ay m y ?_);show(Y.cq++[a])[m]?=_;exact((aar (by lia))).trans z
  ·rw[GE q]at c
   have A:k-Y.cq.length=0:=by
    cases e:k-Y.cq.length with
    |zero=>rfl
    |succ n=>rw[e]at c;exact nx c
   rw[A]at c;have:a=u:=by simpa using c
   subst this;refine(h v j).imp id λm=>?_;obtain⟨i,s,e⟩:=XV m;refine⟨i,by exact UF (by assumption) (by assumption),?_⟩;show(Y.cq++[a])[i]?=_;simp only[aar s,f0 s,e]
def J5(C:∀i<N,∀j∈E i,j<N):∀(f:Nat) (b:aH) (a d:Nat) (Y:WS),gX N E b Y d->a<N->a∉Y.aE->N<=f+Y.aE.length->gX N E b (dv E f b a Y) d/\mn Y (dv E f b a Y)/\a∈(dv E f b a Y).cq:=by
 intro f;induction f with
 |zero=>
  intro b a d Y W g u h
  haveI:=sY (N:=N) (l:=a::Y.aE) (TT.mpr ⟨u,W.nd⟩) λi m=>by
   rcases EQ.mp m with rfl|m
   ·exact g
   ·exact W.lt i m
  rw[WF]at this;lia
 |succ f D=>
  intro b a d Y W g u h
  have c:∀(l:aH) (Y:WS),(∀j∈l,j<N)->gX N E (b++[a]) Y (d+1)->N<=f+Y.aE.length->
    gX N E (b++[a]) (l.foldl (c8 (dv E f) b a) Y) (d+1)/\mn Y (l.foldl (c8 (dv E f) b a) Y)/\∀v∈l,v∈(l.foldl (c8 (dv E f) b a) Y).bG\/v∈(l.foldl (c8 (dv E f) b a) Y).cq:=by
   intro l;induction l with
   |nil=>intro Y _ W _;exact⟨W,.refl _,λv m=>by exact nl m⟩
   |cons o l w=>
    intro Y A W h
    have ik:gX N E (b++[a]) (c8 (dv E f) b a Y o) (d+1)/\mn Y (c8 (dv E f) b a Y o)/\(o∈(c8 (dv E f) b a Y o).bG\/o∈(c8 (dv E f) b a Y o).cq):=by
     unfold c8;by_cases q:o∈b\/o=a
     ·rw[if_pos q]
      have:o∈Y.aE:=W.X9 o (AC.mpr (q.imp id λz=>u8.mpr z));exact(bH ((W.head this).1) ((W.head this).2) (.inl (jH.mpr (.inr rfl))))
     ·rw[if_neg q]
      by_cases s:o∈Y.aE
      ·rw[if_pos s]
       refine(bH W (.refl _) (.inr ?_));rcases W.cl o s with z|z
       ·exact z
       ·exact absurd ((AC.mp z).imp id λz=>u8.mp z) q
      ·rw[if_neg s]
       refine cY (D (b++[a]) o (d+1) Y W (A o (.head _)) s h) λx e y=>?_;exact(bH x e (.inr y))
    refine cY ik λG B H=>?_;refine cY (w _ (λj m=>A j (.tail _ m)) G (o0 h (acw B.cS _))) λx e y=>?_;refine(bH x (B.trans e) (λv m=>?_));rcases EQ.mp m with rfl|m
    ·exact H.imp (e.bG v) (e.cq v)
    ·exact y v m
  refine aX (W.see g u) λI L=>?_
  obtain⟨M,O,P⟩:=c (E a) (cT a Y) (C a g) I (by
   refine sK▸?_;refine H1▸?_;lia)
  refine cY (M.done P) λQ T U=>?_;exact(bH Q ((L.trans O).trans T) U)
end
section
variable{c:bo}
def i5(e:sk c)(g:b<c.length):gX c.length (succ c) [] (bO c b) 0/\b∈(bO c b).cq:=by
 obtain⟨j,_,q⟩:=J5 (N:=c.length) (E:=succ c) e (c.length+1) [] b 0 ⟨[],[],[]⟩ ⟨.nil,(λi m=>by cases m),v0 _,.nil,(λi m=>by cases m),(λi m=>by cases m),(λi m=>by cases m),(λi m=>by cases m),λk u h=>by exact nx h⟩ g (λm=>by exact nl m) (by lia);exact⟨j,q⟩
def Qw(g:sk c)(s:b<c.length)(h:jM (succ c) b i):i∈(bO c b).cq:=by
 refine aX (i5 g s) λW u=>?_;induction h with
 |refl=>exact u
 |ik _ m v=>
  obtain⟨k,w,e⟩:=XV v;rcases W.pp k _ (by refine e▸?_;exact f0 w) _ m with q|⟨j,_,q⟩
  ·exact(W.cl _ (W.JP _ q)).elim id λz=>by exact nl z
  ·exact wE q
def Xn:∀(f:Nat) (way:aH) (a:Nat) (Y:WS),jM E b a->(∀i∈way,jM E b i)->((∀i∈Y.aE,jM E b i)/\∀i∈Y.bG,jM E b i)->(∀i∈(dv E f way a Y).aE,jM E b i)/\∀i∈(dv E f way a Y).bG,jM E b i:=by
 intro f;induction f with
 |zero=>intro way a Y _ _ h;exact h
 |succ f x=>
  intro way a Y g hw h;haveI s:∀i∈way++[a],jM E b i:=λi m=>(AC.mp m).elim (hw i) λq=>by refine(u8.mp q)▸?_;exact g
  haveI e:∀(l:aH) (Y:WS),(∀j∈l,j∈E a)->((∀i∈Y.aE,jM E b i)/\∀i∈Y.bG,jM E b i)->(∀i∈(l.foldl (c8 (dv E f) way a) Y).aE,jM E b i)/\∀i∈(l.foldl (c8 (dv E f) way a) Y).bG,jM E b i:=by
   intro l;induction l with
   |nil=>intro Y _ h;exact h
   |cons o l u=>
    intro Y v h;haveI w:jM E b o:=g.ik (v o (.head _));refine u _ (λj m=>v j (.tail _ m)) ?_;unfold c8;split
    ·refine⟨by rw[dp];exact h.1,λi m=>?_⟩
     rcases jH.mp m with m|m
     ·exact h.2 i m
     ·refine m▸?_;exact w
    ·split
     ·exact h
     ·exact x (way++[a]) o Y w s h
  exact e (E a) (cT a Y) (λ_ m=>m) ⟨λi m=>by
   rcases AC.mp (m)with m|m
   ·exact h.1 i m
   ·refine(u8.mp m)▸?_;exact g,h.2⟩
end
noncomputable def dc(J:ah)(Y:WS):ah:=J++[af.list (nv Y.cq),.list (nv Y.bG),.list (nv Y.aE)]
section
variable{J:ah}{Y:WS}{a:Nat}
def U8:aB (J++[x,y,z]) J.length=x:=by
 unfold aB;rw[GE (v0 _),aaR];rfl
def U9:aB (J++[x,y,z]) (J.length+1)=y:=by
 unfold aB;rw[GE (by lia),show J.length+1-J.length=1 from by lia];rfl
def Vc:aB (J++[x,y,z]) (J.length+2)=z:=by
 unfold aB;rw[GE (by lia),show J.length+2-J.length=2 from by lia];rfl
def Qx:(J++[x,y,z]).set J.length v=J++[v,y,z]/\(J++[x,y,z]).set (J.length+1) v=J++[x,v,z]/\(J++[x,y,z]).set (J.length+2) v=J++[x,y,v]:=by
 refine(bH ?_ ?_ ?_)
 ·rw[aaW _ _ (v0 _),aaR];rfl
 ·rw[aaW _ _ (by lia),show J.length+1-J.length=1 from by lia];rfl
 ·rw[aaW _ _ (by lia),show J.length+2-J.length=2 from by lia];rfl
def TN:(dc J Y).set (J.length+2) (af.list (nv Y.aE++[af.int a]))=dc J (cT a Y):=by
 delta dc cT;simp only[Qx.2.2,show nv Y.aE++[af.int a]=nv (Y.aE++[a])from(ct Y.aE [a]).symm]
def TP:(dc J Y).set J.length (af.list (nv Y.cq++[af.int a]))=dc J (fK a Y):=by
 delta dc fK;simp only[Qx.1,show nv Y.cq++[af.int a]=nv (Y.cq++[a])from(ct Y.cq [a]).symm]
def J6(h:a∉Y.bG):(dc J Y).set (J.length+1) (af.list (nv Y.bG++[af.int a]))=dc J (cm a Y):=by
 delta dc cm;rw[if_neg h,Qx.2.1,show nv Y.bG++[af.int a]=nv (Y.bG++[a])from(ct Y.bG [a]).symm]
end
def BP(v:∀i<N,∀j∈E i,j<N):∀(l:aH) (Y:WS),(∀j∈l,j<N)->gX N E (way++[a]) Y d->N<=f+Y.aE.length->
  gX N E (way++[a]) (l.foldl (c8 (dv E f) way a) Y) d/\mn Y (l.foldl (c8 (dv E f) way a) Y):=by
 intro l;induction l with
 |nil=>intro Y _ W _;exact⟨W,.refl _⟩
 |cons o l c=>
  intro Y s W u
  have ik:gX N E (way++[a]) (c8 (dv E f) way a Y o) d/\mn Y (c8 (dv E f) way a Y o):=by
   unfold c8;by_cases q:o∈way\/o=a
   ·rw[if_pos q]
    exact W.head (W.X9 o (AC.mpr (q.imp id λz=>u8.mpr z)))
   ·rw[if_neg q]
    by_cases e:o∈Y.aE
    ·rw[if_pos e];exact⟨W,.refl _⟩
    ·rw[if_neg e]
     refine cY (J5 v f (way++[a]) o d Y W (s o (.head _)) e u) λg h _=>?_;exact⟨g,h⟩
  refine aX (c _ (λj m=>s j (.tail _ m)) ik.1 (o0 u (acw ik.2.cS _))) λg h=>?_;exact⟨g,ik.2.trans h⟩
section
variable{X:Cx}{n k:Nat}{c:bo}
noncomputable def Ya(c:bo)(a:Nat)(way:aH)(J:ah)(e:WS):St:=⟨[dj c,.int a,.list (nv way),.cell (J.length+2),.cell J.length,.cell (J.length+1),.ae],dc J e⟩
def uz{i:Nat}{b:Bool}(h:decide (i∈l)=b):fF .In (.int i) (.list (nv l)) b:=⟨rfl,df l,zi.trans h⟩
def wu{i:Nat}{b:Bool}(h:decide (i∈l)=b):fF .NotIn (.int i) (.list (nv l)) (!b):=⟨rfl,df l,v6 Bool.not (zi.trans h)⟩
def Xo{J:ah}{e:WS}(y:(nv e.bG).length<=aL)(A:(nv way).length+1<=aL)(s:o∉e.aE->ie X n "_law_dive" [dj c,.int o,.list (nv way++[.int a]),.cell (J.length+2),.cell J.length,.cell (J.length+1)] (dc J e) (λv B=>v=.none/\B=dc J (dv (succ c) f (way++[a]) o e))):
  zI X n (λ_ _=>False) [6] lj ((Ya c a way J e).at 6 (.int o)) (Ya c a way J (c8 (dv (succ c) f) way a e o)):=by
 have z:aB (dc J e) (J.length+2)=.list (nv e.aE):=Vc;have j:aB (dc J e) (J.length+1)=.list (nv e.bG):=U9;have x:decide ((o:Int)=(a:Int))=decide (o=a):=aci.mpr Int.ofNat_inj;have head:(o∈way\/o=a)->c8 (dv (succ c) f) way a e o=cm o e:=λh=>by unfold c8;rw[if_pos h]
 unfold Ya;cases c1:decide (o∈way)with
 |true=>
  rw[head (.inl (s5 c1))];cases g:decide (o∈e.bG)with
  |true=>
   rw[show cm o e=e from if_pos (s5 g)];exact rZ [.e true,.a,.a,.x (.list (nv e.bG)),.e false] λ_=>A3 (uz c1) j (wu g)
  |false=>
   rw[<-J6 (GT g)];exact rZ [.e true,.a,.a,.x (.list (nv e.bG)),.e true,.x (.list (nv e.bG)),.x (.list (nv e.bG)),.p] λ_=>A6 (uz c1) j (wu g) j j y
 |false=>
  cases q:decide (o=a)with
  |true=>
   rw[head (.inr (s5 q))];cases g:decide (o∈e.bG)with
   |true=>
    rw[show cm o e=e from if_pos (s5 g)];exact rZ [.e false,.a,.b true,.x (.list (nv e.bG)),.e false] λ_=>A4 (uz c1) (x.trans q) j (wu g)
   |false=>
    rw[<-J6 (GT g)];exact rZ [.e false,.a,.b true,.x (.list (nv e.bG)),.e true,.x (.list (nv e.bG)),.x (.list (nv e.bG)),.p] λ_=>A7 (uz c1) (x.trans q) j (wu g) j j y
  |false=>
   have u:¬(o∈way\/o=a):=λh=>h.elim (GT c1) (GT q);cases w:decide (o∈e.aE)with
   |true=>
    rw[show c8 (dv (succ c) f) way a e o=e by unfold c8;rw[if_neg u,if_pos (s5 w)]];exact rZ [.e false,.a,.b false,.x (.list (nv e.aE)),.e false] λ_=>A4 (uz c1) (x.trans q) z (wu w)
   |false=>
    rw[show c8 (dv (succ c) f) way a e o=dv (succ c) f (way++[a]) o e by unfold c8;rw[if_neg u,if_neg (GT w)]];exact rZ [.e false,.a,.b false,.x (.list (nv e.aE)),.e true,.p,.d .none (dc J (dv (succ c) f (way++[a]) o e))] λ_=>A6 (uz c1) (x.trans q) z (wu w) A (s (GT w))
def Xp(T:Txt X)(x:cy c)(h:sk c):∀(f n:Nat) (way:aH) (a d:Nat) (J:ah) (Y:WS),bW n (f+1)->gX c.length (succ c) way Y d->a<c.length->a∉Y.aE->c.length<=f+Y.aE.length->way.length+f<=100->
  ie X n "_law_dive" [dj c,.int a,.list (nv way),.cell (J.length+2),.cell J.length,.cell (J.length+1)] (dc J Y) (λv y=>v=.none/\y=dc J (dv (succ c) f way a Y)):=by
 have hN:c.length<=30:=x;intro f;induction f with
 |zero=>
  intro n way a d J Y L W e z A _;have:=sY (N:=c.length) (l:=a::Y.aE) (TT.mpr ⟨z,W.nd⟩) λi m=>(EQ.mp m).elim (λq=>q▸e) (W.lt i);exact absurd (o0 this A) (by rw[WF,Nat.zero_add];exact Nat.not_succ_le_self _)
 |succ f Q=>
  intro n way a d J Y L W e z A hw
  have sl:∀{w:aH} {Y:WS} {d:Nat},gX c.length (succ c) w Y d->(nv Y.aE).length<=aL/\(nv Y.cq).length<=aL/\(nv Y.bG).length<=aL:=λ{w Y d} W=>by
   simp only[aN];have G:=o0 (sY W.nd W.lt) (bp x);exact⟨G,o0 (o0 (T0 _ _) W.cS) G,o0 (sY W.Gg λi m=>W.lt i (W.JP i m)) (bp x)⟩
  refine aX (W.see e z) λH _=>?_
  have g:c.length<=f+(cT a Y).aE.length:=by
   show _<=f+(Y.aE++[a]).length;rw[sK,H1,<-Nat.add_assoc,Nat.add_right_comm];exact A
  have U:(nv way).length+1<=aL:=by rw[aN];exact dw (by lia)
  have B:=o0 (jg (aa:=c) a) (by decide:2<=aL);have I:aB (dc J Y) (J.length+2)=.list (nv Y.aE):=Vc;refine si T L yR (tm 63 rfl) rfl [.x (.list (nv Y.aE)),.x (.list (nv Y.aE)),.p,.stop] rfl (kc (?_:cp X (n-1) (λ_ _=>False) qK ⟨[dj c,.int a,.list (nv way),.cell (J.length+2),.cell J.length,.cell (J.length+1),.ae],(dc J Y).set (J.length+2) (af.list (nv Y.aE++[af.int a]))⟩ (kR λv y=>v=.none/\y=dc J (dv (succ c) (f+1) way a Y))) (λ_=>A3 I I (sl W).1) (by kernel_rfl));rw[TN]
  have V:CJ X (n-1) (λ_ _=>False) (.dA 6) lj (.list (nv (succ c a))) (nv (succ c a)) (succ c a).length [6] (λk=>Ya c a way J (((succ c a).take k).foldl (c8 (dv (succ c) f) way a) (cT a Y))):=JC rfl B λk o M=>by
   have C:=h a e o (wE M);rw[BE M];refine aX (BP (f:=f) (way:=way) (a:=a) h ((succ c a).take k) (cT a Y) (λj m=>h a e j (List.mem_of_mem_take m)) H g) λs Z=>?_;refine Xo (sl s).2.2 U λD=>?_;have u:=Q (n-1) (way++[a]) o (d+1) J _ (L.dn _ (v0 _)) s C D (o0 g (acw Z.cS f)) (by rw[sK,H1,Nat.add_assoc,Nat.add_comm 1];exact hw);rwa[ct]at u
  refine aX (BP (f:=f) (way:=way) (a:=a) h (succ c a) (cT a Y) (λj m=>h a e j m) H g) λs _=>?_;have O:(succ c a).take (succ c a).length=succ c a:=SL (v0 _);rw[<-O]at s;have P:aB (dc J (((succ c a).take (succ c a).length).foldl (c8 (dv (succ c) f) way a) (cT a Y))) J.length=.list (nv (((succ c a).take (succ c a).length).foldl (c8 (dv (succ c) f) way a) (cT a Y)).cq):=U8
  exact raw [.l (succ c a).length [6] (λk=>Ya c a way J (((succ c a).take k).foldl (c8 (dv (succ c) f) way a) (cT a Y))),.y (.list (nv (succ c a))),.x (.list (nv (((succ c a).take (succ c a).length).foldl (c8 (dv (succ c) f) way a) (cT a Y)).cq)),.x (.list (nv (((succ c a).take (succ c a).length).foldl (c8 (dv (succ c) f) way a) (cT a Y)).cq)),.p]
   (λ_=>A6 (zl x e) (Eq.refl (Ya c a way J (cT a Y))) V P P (sl s).2.1)
   (⟨rfl,TP.trans (by rw[O];rfl)⟩:af.none=.none/\(dc J (((succ c a).take (succ c a).length).foldl (c8 (dv (succ c) f) way a) (cT a Y))).set J.length (.list (nv (((succ c a).take (succ c a).length).foldl (c8 (dv (succ c) f) way a) (cT a Y)).cq++[.int a]))=dc J (dv (succ c) (f+1) way a Y))
end
section
variable{X:Cx}{n k:Nat}{aa:bo}
def vF(h:b∈aq aa):ao aa b=b:=uo (dh.mp h) (v0 _) λj c e=>by lia
def Mk(h:i<=j):ao aa i<=ao aa j:=by
 rcases P3 (ao aa j) (ao aa i)with q|q
 ·haveI:=yW (aa:=aa) j (ao aa i) q (o0 (md i) h)
  rw[qU]at this;exact Bool.noConfusion this
 ·exact q
set_option tactic.hygienic true in
def vG(C:eD aa)(y:d7 aa (f3 aa))(A:d7 aa (f4 aa))(x:i<aa.length):∀j∈succ aa i,ao aa j=ao aa i:=λj c=>by
 have e:aa[i]?=some aa[i]:=f0 x;generalize aa[i]=r at e;haveI u:=y i x;haveI v:=A i x;unfold f3 at u;unfold f4 at v;rw[sZ e,Ia e]at u;rw[Dq e,sZ e]at v;unfold succ at c;rw[e]at c;dsimp only at c;have q:(r.w.kF||r.w.rY)->ao aa (ck aa i)=ao aa i:=λh=>acD λz=>by rw[if_pos ⟨h,z⟩]at u;exact sx u
 have s:r.w.ll=false->r.w.kF=false->ao aa (i+1)=ao aa i:=λw g=>acD λz=>by rw[if_pos (bH (.inr z) w g)]at v;exact sx v
 split at c
 ·exact nl c
 ·rename_i w
  split at c
  ·rename_i g
   rw[u8]at c;subst c;exact q (by refine g.symm▸?_;rfl)
  ·rename_i g
   split at c
   ·rename_i B
    rcases EQ.mp c with rfl|c
    ·exact s (by simpa using w) (by simpa using g)
    ·rw[u8]at c;subst c
     exact q (by refine((a2 B).1).symm▸?_;simp)
   ·rw[u8]at c;subst c
    exact s (by simpa using w) (by simpa using g)
def Qy(g:eD aa)(j:sk aa)(q:d7 aa (f3 aa))(s:d7 aa (f4 aa))(u:b∈aq aa)(c:b<aa.length)(h:jM (succ aa) b i):i<aa.length/\ao aa i=b:=by
 induction h with
 |refl=>exact⟨c,vF u⟩
 |ik _ m e=>exact⟨j _ e.1 _ m,(vG g q s e.1 _ m).trans e.2⟩
set_option tactic.hygienic true in
def TQ(c:eD aa)(g:sk aa)(h0:0<aa.length)(j:d7 aa (f3 aa))(s:d7 aa (f4 aa))(h:jM (bX aa) 0 i):i<aa.length/\jM (succ aa) (ao aa i) i:=by
 induction h with
 |refl=>exact⟨h0,(vF (dh.mpr iZ))▸ .refl⟩
 |ik _ m u=>
  refine aX u λe v=>?_;refine⟨uq c g e _ m,?_⟩;rcases AC.mp m with m|m
  ·refine(vG c j s e _ m)▸?_;exact v.ik m
  ·split at m
   ·rename_i q
    rw[u8]at m;subst m;simp only[vF (ki c (cn.mpr ⟨e,q⟩)).2.2.1];exact .refl
   ·exact nl m
def rP(e:eD aa)(g:sk aa)(j:d7 aa (f3 aa))(q:d7 aa (f4 aa))(s:b∈aq aa)(c:b<aa.length)(h:i∈(bO aa b).bG):ao aa i=b:=
 (Qy e g j q s c ((Xn (E:=succ aa) (b:=b) (aa.length+1) [] b ⟨[],[],[]⟩ .refl (λi m=>by exact nl m) ⟨(λi m=>by exact nl m),λi m=>by exact nl m⟩).2 i h)).2
noncomputable def gO(aa:bo)(l:aH):aH:=l.flatMap λb=>(bO aa b).bG
def uA(c:eD aa)(g:sk aa)(h0:0<aa.length)(h:d7 aa (f3 aa))(j:d7 aa (f4 aa)):(gO aa (aq aa)).Nodup:=by
 refine List.pairwise_flatMap.mpr ⟨λb u=>(i5 g (sub_lt c h0 u)).1.Gg,?_⟩;refine List.Pairwise.imp_of_mem ?_ (da (aa:=aa));intro a b q s v x w y z e;subst e;haveI:=rP c g h j q (sub_lt c h0 q) w;haveI:=rP c g h j s (sub_lt c h0 s) z;lia
def jI(c:sk aa)(e:b<aa.length):i∈eo aa b↔i∈(bO aa b).bG:=by
 unfold eo;rw[IO,AT,abZ];exact⟨λh=>h.2,λh=>⟨(i5 c e).1.lt i ((i5 c e).1.JP i h),h⟩⟩
def wR(c:eD aa)(e:sk aa)(h0:0<aa.length)(j:d7 aa (f3 aa))(s:d7 aa (f4 aa)):(cQ aa).Pairwise (·< ·):=by
 refine List.pairwise_flatMap.mpr ⟨λb z=>gi _ _,?_⟩;refine List.Pairwise.imp_of_mem ?_ (da (aa:=aa));intro a b g h u x v y w;haveI A:=rP c e j s g (sub_lt c h0 g) ((jI e (sub_lt c h0 g)).mp v);haveI B:=rP c e j s h (sub_lt c h0 h) ((jI e (sub_lt c h0 h)).mp w);rcases P3 x y with q|q
 ·exact q
 ·haveI:=Mk (aa:=aa) q;lia
def Ii(j:eD aa)(q:sk aa)(h0:0<aa.length)(s:d7 aa (f3 aa))(u:d7 aa (f4 aa)):dg (iv (gO aa (aq aa)))=iv (cQ aa):=by
 have v:∀i,i∈gO aa (aq aa)↔i∈cQ aa:=λi=>by
  delta gO cQ;rw[List.mem_flatMap,List.mem_flatMap];exact⟨λe=>aj e λb c g=>⟨b,c,(jI q (sub_lt j h0 c)).mpr g⟩,λe=>aj e λb c g=>⟨b,c,(jI q (sub_lt j h0 c)).mp g⟩⟩
 refine iD (List.Pairwise.map _ (λa b h=>by lia) (uA j q h0 s u)) (wR j q h0 s u) λz=>?_;unfold iv;rw[FB];exact⟨λe=>aj e λi c g=>(ay i ((v i).mp c) g.symm),λe=>aj e λi c g=>(ay i ((v i).mpr c) g.symm)⟩
def Ij(c:eD aa)(e:sk aa)(h0:0<aa.length)(h:d7 aa (f3 aa))(j:d7 aa (f4 aa)):(gO aa (aq aa)).length<=aa.length:=by
 haveI:=fu (m:=List.range aa.length) (uA c e h0 h j) λi m=>by
  refine aj (List.mem_flatMap.mp m) λb g q=>?_;exact AT.mpr ((i5 e (sub_lt c h0 g)).1.lt i ((i5 e (sub_lt c h0 g)).1.JP i q))
 rwa[x0]at this
noncomputable def fx(aa:bo)(c:aH):Nat->aH
 |0=>(List.range aa.length).filter λa=> !decide (a∈c)
 |k+1=>(fx aa c k).filter λa=>(succ aa a).any λo=>decide (o∈fx aa c k)
noncomputable def TR(aa:bo)(i:Nat):Nat:=(bO aa (ao aa i)).cq.idxOf i
def TS(h:eD aa)(g:sk aa)(h0:0<aa.length)(s:d7 aa (f3 aa))(u:d7 aa (f4 aa))(A:d7 aa (f5 aa))(v:i<aa.length)(w:j∈succ aa i)(B:j∉cQ aa):TR aa j<TR aa i:=by
 haveI x:=jG (aa:=aa) i;haveI c:=sub_lt h h0 x;refine aX (i5 g c) λW _=>?_;haveI C:=Qw g c (TQ h g h0 s u (uv.mp (A i v))).2;haveI y:=List.idxOf_lt_length_of_mem C;haveI e:(bO aa (ao aa i)).cq[(bO aa (ao aa i)).cq.idxOf i]?=some i:=by simp only[f0 y,List.getElem_idxOf y]
 rcases W.pp _ _ e _ w with q|⟨m,D,G⟩
 ·exact absurd (List.mem_flatMap.mpr (ay _ x ((jI g c).mpr q))) B
 ·unfold TR
  refine(vG h s u v j w).symm▸?_;refine IN ?_ D;refine ar (wP.mp G) λI H=>?_;rcases P3 m ((bO aa (ao aa i)).cq.idxOf j)with z|z
  ·haveI:=List.not_of_lt_findIdx (z)
   rw[H]at this;simp at this
  ·exact z
def aab{c:Type}(r:c->Nat):∀{l:List c},l≠[]->∃u∈l,∀v∈l,r u<=r v:=by
 intro l;induction l with
 |nil=>intro h;exact absurd rfl h
 |cons a l g=>
  intro _;cases l with
  |nil=>exact(ay a (.head _) (λv m=>by rw[u8]at m;rw[m];exact v0 _))
  |cons b l=>
   refine aj (g (by simp)) λu j e=>?_;rcases Nat.le_total (r a) (r u)with q|q
   ·exact(ay a (.head _) (λv m=>by
     rcases EQ.mp m with rfl|m
     ·exact v0 _
     ·exact o0 q (e v m)))
   ·exact(ay u (.tail _ j) (λv m=>by
     rcases EQ.mp m with rfl|m
     ·exact q
     ·exact e v m))
def zq:∀(k:Nat) {i:Nat},i∈fx aa bs k->i<aa.length/\i∉bs:=by
 intro k;induction k with
 |zero=>
  intro i h;refine aX (IO.mp h) λc e=>?_;exact⟨AT.mp c,by simpa using e⟩
 |succ k g=>intro i h;exact g (IO.mp h).1
def Ml(w:eD aa)(x:sk aa)(h0:0<aa.length)(y:d7 aa (f3 aa))(z:d7 aa (f4 aa))(A:d7 aa (f5 aa)):fx aa (cQ aa) aa.length=[]:=by
 haveI e:∀k,(fx aa (cQ aa) k).length<=aa.length-k:=by
  intro k;induction k with
  |zero=>exact o0 (KT ..) (by refine x0▸?_;exact v0 _)
  |succ k D=>
   refine wS (p:=fx aa (cQ aa) k=[]) (λq=>?_) (λq=>?_)
   ·show((fx aa (cQ aa) k).filter _).length<=_
    refine q▸?_;exact SC _
   ·refine aj (aab (TR aa) q) λu j c=>?_
    refine aX (zq k j) λg _=>?_
    haveI:((fx aa (cQ aa) k).filter λa=>(succ aa a).any λo=>decide (o∈fx aa (cQ aa) k)).length<(fx aa (cQ aa) k).length:=by
     rw[List.length_filter_lt_length_iff_exists];refine(ay u j (λh=>?_));refine aj (aak.mp h) λv B C=>?_;have s:=s5 C;haveI:=TS w x h0 y z A g B (zq k s).2;haveI:=c v s;lia
    show((fx aa (cQ aa) k).filter _).length<=_;lia
 exact aaJ (by haveI:=e aa.length;lia)
end
section
variable{X:Cx}{n k:Nat}{c:bo}
def TU(l:aH):zG (.list (nv l)) (.list [])=l.isEmpty:=by cases l<;>rfl
def Ik:(s6 c).length=c.length:=by unfold s6;simp only[v4,x0]
def Il(e:cy c)(p:Nat->Bool) bs k:(fx c bs k).length<=30:=by
 induction k with
 |zero=>exact o0 (KT ..) (by refine x0▸?_;exact e)
 |succ k g=>exact o0 (KT ..) g
def Qz{s:aH}:(!(s.filter p).isEmpty)=s.any p:=by
 induction s with
 |nil=>rfl
 |cons x s e=>
  rw[List.filter_cons,List.any_cons];cases p x with
  |true=>rfl
  |false=>exact e
def QA{l:aH}(h:(!l.isEmpty)=b):fF .NotEq (.list (nv l)) (.list []) b:=⟨df l,rfl,(v6 Bool.not (TU l)).trans h⟩
def FO(e:cy c):qv (s6 c) c.length:=⟨Ik,bp e⟩
noncomputable def Yb(c:bo)(e l:aH):St:=⟨[dj c,.list (nv e),.list (nv l),.ae,.ae,.ae,.ae,.ae,.ae,.ae],[]⟩
noncomputable def Yc(c:bo)(l:aH)(a:Nat):Bool:=(succ c a).any λo=>decide (o∈l)
def FP(q:n<100)(s:cy c):zI X n (λ_ _=>False) [3] j5 ((Yb c bs (fx c bs k)).at 3 (.int k)) (Yb c bs (fx c bs (k+1))):=by
 have g:=λa (h:a∈fx c bs k)=>(zq k h).1;have j:(fx c bs k).length<=aL:=o0 (Il s (λ_=>true) bs k) (by decide);have e:fx c bs (k+1)=(fx c bs k).filter (Yc c (fx c bs k)):=rfl;rw[e];generalize fx c bs k=l at g j;refine rZ [.m (qg (Bw (Yc c l) λi=>.int i)) (nv (l.filter (Yc c l)))] λ_=>A2 q (Pd (X:=X) (n:=n) 7 jy (.aC 7) ((Yb c bs l).at 3 (.int k)) (l:=l) (Yc c l) (λi=>.int i) (λa=>[.m (qg (Bw (λo=>decide (o∈l)) λi=>.int i)) (nv ((succ c a).filter λo=>decide (o∈l))),.y (.list (nv (succ c a))),.e (Yc c l a)]) rfl j λa u=>?_);exact kC λ_=>A4 q (zl s (g a u)) (Pd (X:=X) (n:=n) 9 jx (.aC 9) (((Yb c bs l).at 3 (.int k)).at 7 (.int a)) (l:=succ c a) (λo=>decide (o∈l)) (λi=>.int i) (λo=>[.e (decide (o∈l))]) rfl (o0 (jg a) (by decide)) λo v=>kC λ_=>A1 (uz (i:=o) (l:=l) rfl)) (QA (b:=Yc c l a) Qz)
def FQ(T:Txt X)(L:bW n 1)(e:cy c)(g:fx c bs c.length=[]):sX X n "_law_has_round" [dj c,.list (nv bs)] (.bool false):=
 uj T L pP (tm 64 rfl) [.m (qg (Bw (λa=> !decide (a∈bs)) λi=>.int i)) (nv (fx c bs 0)),.n c.length,.n c.length,.l c.length [3] (λk=>Yb c bs (fx c bs k)),.n c.length,.n c.length,.e false] (BA _ _ rO (lu _))
  λ_ z=>A9 (bW.lt L) (FO e) (jU e) (mG (X:=X) (n:=n-1) 5 jw (.aC 5) ⟨[dj c,.list (nv bs),.ae,.ae,.ae,.ae,.ae,.ae,.ae,.ae],[]⟩ (λa=> !decide (a∈bs)) (λi=>.int i) (λa=>[.e (!decide (a∈bs))]) rfl (bp e) λa h=>kC λ_=>A1 (wu (i:=a) (l:=bs) rfl))
   (FO e) (jU e) (Eq.refl (Yb c bs (fx c bs 0))) (qT (bp e) λk _=>FP (X:=X) (k:=k) (bs:=bs) (bW.lt L) e) (QA (l:=fx c bs c.length) (b:=false) (g▸rfl)) z
noncomputable def wrS(X:Cx)(c:bo)(p:aH)(a:af)(J:ah):St:=⟨[aV X c,dj c,.list (nv (aq c)),.list (nv p),a,.ae,.ae,.ae],J⟩
def Au(T:Txt X)(L:bW n 32)(g:cy c)(q:eD c)(s:sk c)(h0:0<c.length){b:Nat}(w:b∈aq c){p:aH}(x:p.length+(bO c b).bG.length<=aL){J:ah}{K:aR->St->Prop}(hK:K .next ⟨[aV X c,dj c,.list (nv (aq c)),.list (nv (p++(bO c b).bG)),.int b,.cell J.length,.cell (J++[af.list []]).length,.ae],dc J (bO c b)⟩):
  cp X n (λ_ _=>False) iO (wrS X c p (.int b) J) K:=by
 have hN:c.length<=30:=g;have e:=sub_lt q h0 w;have j:(J++[af.list []]).length=J.length+1:=sK;have y:(J++[af.list []]++[af.list []]).length=J.length+2:=by rw[sK,j];rfl
 have z:ie X n "_law_dive" [dj c,.int b,.list [],.cell (J++[af.list []]++[af.list []]).length,.cell J.length,.cell (J++[af.list []]).length] (J++[af.list []]++[af.list []]++[af.list []]) (λv A=>v=.none/\A=dc J (bO c b)):=by
  rw[j,y,aaX,aaX];exact Xp T g s (c.length+1) n [] b 0 J ⟨[],[],[]⟩ (L.le _ (by lia)) ⟨.nil,(λi m=>by exact nl m),v0 _,.nil,(λi m=>by exact nl m),(λi m=>by exact nl m),(λi m=>by exact nl m),(λi m=>by exact nl m),λk u h=>by exact nx h⟩ e (λm=>by exact nl m) (Nat.le_add_right_of_le (aaU _)) (by show 0+_<=_;lia)
 have B:aB (dc J (bO c b)) (J++[af.list []]).length=.list (nv (bO c b).bG):=by rw[j];exact U9
 exact raw [.go,.d .none (dc J (bO c b)),.v (.list (nv (bO c b).cq)),.x (.list (nv (bO c b).cq)),.e false,.x (.list (nv (bO c b).bG)),.p,.y (.list (nv (p++(bO c b).bG)))] (λ_=>A7 z (Dn (X:=X) T (L.le 9) g q s e) (U8:aB (dc J (bO c b)) J.length=.list (nv (bO c b).cq)) (⟨df _,df _,v6 Bool.not (lz (df _))⟩:fF .NotEq (.list (nv (bO c b).cq)) (.list (nv (bO c b).cq)) false) B (by rw[aN,aN];exact x:(nv p).length+(nv (bO c b).bG).length<=aL) (v6 af.list (ct p (bO c b).bG).symm)) hK
def Av(T:Txt X)(L:bW n 33)(e:cy c)(g:eD c)(h:sk c)(h0:0<c.length)(j:d7 c (f3 c))(q:d7 c (f4 c))(z:d7 c (f5 c)):sX X n "_law_walks_right" [aV X c,dj c,.list (nv (aq c))] (.bool true):=by
 have hN:c.length<=30:=e;have A:=Ij g h h0 j q;refine nL T L l5 (tm 65 rfl) [.go,.stop] (by unfold eJ;refine cG.symm▸?_;refine(BA _ _ rO (lu _)).symm▸?_;rfl) (λ_=>id) (?_:cp X (n-1) (λ_ _=>False) iP (wrS X c [] .ae []) (cH λv=>v=.bool true));refine Ak [4,5,6] [] (nv (aq c)) (.list (nv (aq c))) (fw e) (kI λ_=>id) (λk st=>∃J,st=wrS X c (gO c ((aq c).take k)) .ae J) ⟨[],rfl⟩ (λk B x C s=>⟨trivial,?_⟩) λB s=>⟨trivial,?_⟩
 ·obtain⟨J,rfl⟩:=s
  obtain⟨b,w,rfl⟩:=oF C;have y:gO c ((aq c).take (k+1))=gO c ((aq c).take k)++(bO c b).bG:=by unfold gO;simp only[aaE,w,abM];simp
  have u:(gO c ((aq c).take k)).length+(bO c b).bG.length<=aL:=by
   rw[<-sK,<-y];refine o0 (o0 ?_ A) (bp e)
   conv=>rhs;rw[<-acg (k+1) (aq c)]
   unfold gO;rw[abM,sK];exact T0 _ _
  exact Au T (L.dn 32) e g h h0 (wE w) u ⟨dc J (bO c b),by rw[y];rfl⟩
 ·obtain⟨J,rfl⟩:=s
  rw[aN,SL (v0 _)];have D:(dg (iv (gO c (aq c)))).map af.int=nv (cQ c):=by simp only[Ii g h h0 j q,nM]
  exact raw [.v (.list (nv (cQ c))),.i (iv (gO c (aq c))),.y (.list (nv (cQ c))),.e true,.v (.bool false)] (λ_=>A6 (Dp (X:=X) T (L.dn 9) e g h h0) (nM (gO c (aq c))).symm (by rw[fj];lia:(iv (gO c (aq c))).length<64) (v6 af.list D) (⟨df _,df _,lz (df _)⟩:fF .Eq (.list (nv (cQ c))) (.list (nv (cQ c))) true) (FQ (X:=X) T (L.dn 1) e (Ml g h h0 j q z))) (⟨rfl,rfl⟩:true/\af.bool true=.bool true)
end
section
variable{X:Cx}{n k:Nat}{aa:bo}
noncomputable def sq(aa:bo)(k i:Nat):Bool:=(decide (i=aa.length)||dV aa i)||(List.range k).any λj=>(Ri aa j W.jb&&decide (ck aa j=i))||(Ri aa j (λw=>w.jb||w.ll)&&decide (j+1=i))
def QB k i:sq aa (k+1) i=(sq aa k i||((Ri aa k W.jb&&decide (ck aa k=i))||(Ri aa k (λw=>w.jb||w.ll)&&decide (k+1=i)))):=by
 unfold sq;simp only[aaK,List.any_append,List.any_cons,List.any_nil,Bool.or_false];simp only[Bool.or_assoc]
def J7:(List.range (aa.length+1)).filter (sq aa aa.length)=dN aa:=by
 simp only[aaK,acB];congr 1
 ·refine List.filter_congr λi c=>?_
  have:i≠aa.length:=LE (AT.mp c);delta sq Al;simp only[SZ this,Bool.false_or]
 ·rw[List.filter_cons_of_pos (by unfold sq;simp only[FM rfl];rfl)];rfl
def zr i:decide ((ao aa i:Int)=(i:Int))=dV aa i:=by
 cases e:dV aa i with
 |true=>refine(uo e (v0 _) λj c g=>by lia).symm▸?_;exact FM rfl
 |false=>
  refine SZ λh=>?_;haveI:=qU (aa:=aa) i;rw[show ao aa i=i by lia,e]at this;exact Bool.noConfusion this
noncomputable def bkS(aa:bo)(a m e:af)(l:ah):St:=⟨[cI aa,cf aa,eI aa,fB aa,a,m,e,.ae,.ae,.ae,.ae,.ae,.ae],l⟩
noncomputable abbrev Yd(aa:bo)(k:Nat):St:=bkS aa .ae (.cell 0) .ae [.list (bv (sq aa k) (aa.length+1))]
def QC(h:∀i,t i=(s i||decide (j=i))):uG s j=t:=funext λi=>by
 rw[h i];unfold uG;rw[Bool.or_comm,show decide (i=j)=decide (j=i)from aci.mpr ⟨Eq.symm,Eq.symm⟩]
def DH(y:cy aa)(D:eD aa)(A:k<aa.length):zI X n (λ_ _=>False) [4] nB ((Yd aa k).at 4 (.int k)) (Yd aa (k+1)):=by
 haveI e:aa[k]?=some aa[k]:=f0 A;generalize aa[k]=r at e;have u:∀i,sq aa (k+1) i=(sq aa k i||((r.w.jb&&decide (ck aa k=i))||((r.w.jb||r.w.ll)&&decide (k+1=i)))):=λi=>by rw[QB,vw e,vw e]
 haveI v:=mJ y e;haveI B:aa.length+1<=1000:=by unfold cy at y;lia
 haveI C:=λh=>U3 y D e h;obtain⟨w,t,g⟩:=r;dsimp only at u C;have q:∀(s:Nat->Bool),(∀i,sq aa (k+1) i=(s i||decide (k+1=i)))->af.list ((bv s (aa.length+1)).set (k+1) (.bool true))=.list (bv (sq aa (k+1)) (aa.length+1)):=λs h=>v6 _ (H0.trans (by rw[QC h]));cases c:w.jb with
 |true=>
  simp only[c,Bool.true_and,Bool.true_or]at u;haveI G:=C (by cases w<;>first|rfl|cases c)
  exact rZ [.y (bc ⟨w,t,g⟩),.e true,.y (.int (sl aa (ck aa k))),.y (.int (ck aa k)),.p,.y (.list (bv (uG (sq aa k) (ck aa k)) (aa.length+1))),.y (bc ⟨w,t,g⟩),.e true,.p,.y (.list (bv (sq aa (k+1)) (aa.length+1)))]
   λ_ z=>A9 v (Fw c) (i4 G) (rg G) (BD (s:=sq aa k) B (aaQ G.lt)) (v6 af.list (H0 (s:=sq aa k) (N:=aa.length+1) (j:=ck aa k))) v (H4 (b:=true) (by rw[c];rfl)) (BD (s:=uG (sq aa k) (ck aa k)) (i:=k+1) B (acJ A)) (A1 (q (uG (sq aa k) (ck aa k)) λi=>by rw[u,<-Bool.or_assoc,QC (s:=sq aa k) (j:=ck aa k) (λ_=>rfl)]) z)
 |false=>
  simp only[c,Bool.false_and,Bool.false_or]at u;cases x:w.ll with
  |true=>
   simp only[x,Bool.true_and]at u
   exact rZ [.y (bc ⟨w,t,g⟩),.e false,.y (bc ⟨w,t,g⟩),.e true,.p,.y (.list (bv (sq aa (k+1)) (aa.length+1)))]
    λ_=>A6 v (Fw c) v (H4 (b:=true) (by rw[c,x];rfl)) (BD (s:=sq aa k) (i:=k+1) B (acJ A)) (q _ u)
  |false=>
   have:sq aa (k+1)=sq aa k:=funext λi=>by rw[u,x];simp
   unfold Yd;rw[this];exact rZ [.y (bc ⟨w,t,g⟩),.e false,.y (bc ⟨w,t,g⟩),.e false] λ_=>A4 v (Fw c) v (H4 (b:=false) (by rw[c,x];rfl))
def TV:(dN aa).length<=aa.length+1:=J7 (aa:=aa)▸o0 (KT ..) (aaM x0)
def DI(T:Txt X)(L:bW n 1)(e:cy aa)(j:eD aa):sX X n "_law_blocks" [cI aa,cf aa,eI aa,fB aa] (.list (jh (dN aa))):=by
 haveI hN:aa.length<=30:=e;have q:0<(dN aa).length:=by unfold dN;simp only[sK,H1];lia
 have g:(dN aa).length<=aL:=dw (o0 TV (by lia))
 have u:af.list ((List.range aa.length).map (λi=>af.bool (decide ((ao aa i:Int)=(i:Int))))++[.bool true])=.list (bv (sq aa 0) (aa.length+1)):=by
  unfold bv;simp only[aaK,aaL];refine v6 af.list (ZX (TE λi v=>?_) ?_)
  ·rw[zr]
   unfold sq;rw[SZ (LE (AT.mp v))];simp
  ·show[af.bool true]=[af.bool (sq aa 0 aa.length)]
   unfold sq;rw[FM rfl];rfl
 have E:=mG (X:=X) (n:=n-1) 10 lW (.aC 10) (Yd aa aa.length) (N:=aa.length+1) (sq aa aa.length) (λi=>af.int i) (λc=>[.y (.bool (sq aa aa.length c))]) rfl (dw (by lia)) λc h=>kC λ_=>A1 (PC (s:=sq aa aa.length) (by lia) h);rw[J7]at E
 exact Bx T L ug (tm 66 rfl) [.m (qg λi=>[.bool (decide ((ao aa i:Int)=(i:Int)))]) ((List.range aa.length).map λi=>.bool (decide ((ao aa i:Int)=(i:Int)))),.n aa.length,.n aa.length,.p,.y (.list (bv (sq aa 0) (aa.length+1))),
   .l aa.length [4] (Yd aa),.n aa.length,.n aa.length,.m (qg (Bw (sq aa aa.length) λi=>.int i)) (nv (dN aa)),.n aa.length,.n (aa.length+1),
   .m (qg λs=>[.tuple [.int ((dN aa).getD s 0:Nat),.int ((dN aa).getD (s+1) 0:Nat)]]) (jh (dN aa)),.n (dN aa).length,.n ((dN aa).length-1),.z]
  (by unfold eJ;unfold eJ;simp only[eT,eU,BA _ _ gG rN];rfl) (Fx _) λ_ z=>A9 (bW.lt L) (eH e) (jU e)
   (qS 8 _ (bkS aa .ae .ae .ae []) (λi=>af.bool (decide ((ao aa i:Int)=(i:Int)))) (λc=>[.y (.int (ao aa c))]) rfl (bp e) λc h=>kE λ_=>A1 (mM e h):o4 X (n-1) (.dA 8) .nil lV _ _ _ _)
   (by rw[v4,x0];exact dw (by lia):((List.range aa.length).map (λi=>af.bool (decide ((ao aa i:Int)=(i:Int))))).length+1<=aL) u (eH e) (jU e) (Eq.refl (Yd aa 0)) (A8 (qT (bp e) λk w=>DH (X:=X) (n:=n-1) e j w) (bW.lt L) (eH e) (⟨rfl,dw (by lia)⟩:jm ((aa.length:Nat)+1) (aa.length+1)) E
   (bW.lt L) (⟨aN _,g⟩:qv (nv (dN aa)) (dN aa).length) (⟨by lia,o0 (Nat.sub_le ..) g⟩:jm (((dN aa).length:Nat)-1) ((dN aa).length-1)) (A1
   (qS (N:=(dN aa).length-1) 12 _ (bkS aa .ae (.cell 0) (.list (nv (dN aa))) [.list (bv (sq aa aa.length) (aa.length+1))]) (λs=>af.tuple [.int ((dN aa).getD s 0:Nat),.int ((dN aa).getD (s+1) 0:Nat)]) (λs=>[.y (.int ((dN aa).getD s 0:Nat)),.y (.int ((dN aa).getD (s+1) 0:Nat))]) rfl (o0 (Nat.sub_le ..) g) λs x=>kE λ_=>A2 (Tc (i:=s) g (by lia)) (Tc (i:=s+1) g (by lia)):o4 X (n-1) (.dA 12) .nil lX _ _ _ _) z))
end
def Xq(h:iv a=iv b):a=b:=by
 haveI:=v6 (List.map Int.toNat) h;unfold iv at this;rw[aac,aac]at this;haveI e:(Int.toNat∘λi:Nat=>(i:Int))=id:=funext λi=>ac5 i;rw[e,List.map_id,List.map_id]at this;exact this
def FR{a b:aH}(g:a.Pairwise (·< ·))(j:b.Pairwise (·< ·))(h:∀i,i∈a↔i∈b):a=b:=by
 haveI e:∀l:aH,∀z:Int,z∈iv l↔∃i∈l,z=(i:Int):=λl z=>by
  unfold iv;rw[FB];exact⟨λc=>aj c λi p q=>⟨i,p,q.symm⟩,λc=>aj c λi p q=>(ay i p q.symm)⟩
 haveI s:=iD (qZ g) g (e a);haveI u:=iD (qZ g) j λz=>(e a z).trans ⟨λc=>aj c λi p q=>(ay i ((h i).mp p) q),λc=>aj c λi p q=>(ay i ((h i).mpr p) q)⟩;exact Xq (s.symm.trans u)
noncomputable def ddI(l:aH)(i:Nat):aH:=if l.getD i 0∈l.take i then[]else[l.getD i 0]
noncomputable def dd(l:aH):aH:=(List.range l.length).flatMap (ddI l)
def rQ{l:aH}(h:i<l.length):l.getD i 0=l[i]:=by simp only[List.getD_eq_getElem?_getD,f0 h];rfl
def xA{l:aH}:x∈ddI l i↔x=l.getD i 0/\l.getD i 0∉l.take i:=by
 unfold ddI;refine wS (p:=l.getD i 0∈l.take i) (λq=>?_) (λq=>?_)
 ·rw[if_pos q];exact⟨(λh=>nomatch h),λh=>absurd q h.2⟩
 ·rw[if_neg q,u8];exact⟨λh=>⟨h,q⟩,λh=>h.1⟩
def Mm{l:aH}(h:l.Pairwise (·<= ·)):(dd l).Pairwise (·< ·):=by
 refine List.pairwise_flatMap.mpr ⟨λi _=>by unfold ddI;split<;>simp,?_⟩;refine List.Pairwise.imp_of_mem ?_ (acL (n:=l.length));intro i j u v q x w y z;have s:=AT.mp u;have g:=AT.mp v;refine aX (xA.mp w) λc _=>?_;subst c;refine aX (xA.mp z) λc A=>?_;subst c;haveI B:=List.pairwise_iff_getElem.mp h i j s g q;rw[rQ s,rQ g]at*;haveI C:l[i]≠l[j]:=λe=>A (by refine e▸?_;exact List.mem_iff_getElem.mpr ⟨i,by simp only[acK];lia,List.getElem_take⟩);lia
def Xr:x∈dd l↔x∈l:=by
 unfold dd;rw[List.mem_flatMap];constructor
 ·rintro⟨i,q,s⟩
  refine aX (xA.mp s) λc _=>?_;subst c;simp only[rQ (AT.mp q)];exact List.getElem_mem _
 ·intro h
  have g:=List.idxOf_lt_length_of_mem h;have e:l.getD (l.idxOf x) 0=x:=by simp only[rQ g,List.getElem_idxOf g]
  refine(ay (l.idxOf x) (AT.mpr g) (xA.mpr ⟨e.symm,λm=>?_⟩));rw[e]at m;obtain⟨i,u,j⟩:=XV m;rw[List.getElem_take]at j;rw[acK]at u;have:=List.not_of_lt_findIdx (show i<List.findIdx (λy=>y==x) l from(by lia:i<l.idxOf x));rw[j]at this;simp at this
noncomputable def pR(l:aH):aH:=(dg (iv l)).map Int.toNat
def FT l:dg (iv l)=iv (pR l):=by
 haveI e:(dg (iv l)).Perm (iv l):=acV _ _
 conv=>lhs;rw[<-List.map_id (dg (iv l))]
 unfold iv;refine aac.symm▸?_;refine TE λz m=>?_;refine aj (FB.mp (e.mem_iff.mp m)) λi _ c=>?_;subst c;show(i:Int)=((Int.toNat (i:Int):Nat):Int);simp only[ac5]
def Mn:x∈pR l↔x∈l:=by
 haveI e:(dg (iv l)).Perm (iv l):=acV _ _;haveI g:(x:Int)∈iv (pR l)↔(x:Int)∈iv l:=by rw[<-FT];exact e.mem_iff
 haveI c:∀m:aH,(x:Int)∈iv m↔x∈m:=λm=>by
  unfold iv;rw[FB];exact⟨λh=>aj h λi p q=>(by lia:i=x)▸p,λp=>(ay x p rfl)⟩
 rw[<-c,g,c]
def QD l:(pR l).Pairwise (·<= ·):=by
 haveI e:(dg (iv l)).Pairwise (λa b=>decide (a<=b)):=List.pairwise_mergeSort (λa b c g j=>by simp only[decide_eq_true_eq]at*;lia) (λa b=>by simp only[aaO,decide_eq_true_eq];lia) _;exact List.Pairwise.map _ (λa b h=>by haveI:=s5 h;lia) e
def Mo(l:aH):(pR l).length=l.length:=by
 haveI c:(dg (iv l)).Perm (iv l):=acV _ _;unfold pR;simp only[v4,c.length_eq,fj]
section
variable{X:Cx}{n k:Nat}{b:bo}
def TX(l:aH):qo (nv l)=fU ((List.range l.length).map λi=>(i,l.getD i 0)):=by
 refine List.ext_getElem? λi=>?_;delta qo fU nv;simp only[List.getElem?_mapIdx,FS,FS,FS];rcases P3 i l.length with q|q
 ·rw[XL q,f0 q]
  show some (af.tuple [.int i,.int (l[i]:Nat)])=some (af.tuple [.int i,.int (l.getD i 0:Nat)]);rw[rQ q]
 ·rw[aaI q,aaI (by rw[x0];exact q)];rfl
def TY{e:DE}{i j:Nat}{st:St}{l:aH}(g:Nat->aH)(o:Nat->List Or)(h:∀k∈l,HN X n (.e e) (st.at i (.int k)) (o k) λq s u _=>q=nv (g k)/\s=.list (nv (g k))/\u=st.at i (.int k))
  (A:∀v,aB (st.aC.set i v) j=.ae) (B:∀k z:Nat,S1 X n (.aC j) [] ((st.at i (.int k)).at j (.int z)) (.int z)):yo X n (.dA i) .nil (.cons (.dA j) (.e e) .nil (.done (.aC j))) st (nv l) (qg λk=>nv (g k)):=λx c=>by
 obtain⟨k,C,rfl⟩:=FB.mp c;refine Pc ⟨_,_,h k C,λq s u _ w=>cY w λy H D=>⟨D,A _,λx=>[x],λx c=>?_,y▸?_⟩⟩
 ·obtain⟨z,_,rfl⟩:=FB.mp (y▸c)
  exact HP (B k z) rfl
 ·show(nv (g k)).flatMap (λx=>[x])=nv (g k)
  generalize nv (g k)=m;induction m with
  |nil=>rfl
  |cons a m G=>simp only[abN,G];rfl
end
section
section
variable{X:Cx}{n k:Nat}{d:bo}
noncomputable def Rn(X:Cx)(d:bo)(e a b c:af):St:=⟨[aV X d,cI d,eI d,cf d,fB d,.list (nv (aq d)),.list (fU (br d)),e,kh d (bA d),a,b,c,.ae,.ae,.ae,.ae,.ae,.ae,.ae,.ae,.ae,.ae,.ae,.ae,.ae,.ae],[]⟩
def QE(e:cy d):(iv (aq d)).length<64/\(dg (iv (aq d))).map af.int=nv (aq d):=by
 refine⟨by rw[fj];haveI:=rI e;lia,?_⟩
 have:dg (iv (aq d))=iv (aq d):=iD (qZ da) da λz=>by
  unfold iv;rw[FB];exact⟨λc=>aj c λi p q=>(ay i p q.symm),λc=>aj c λi p q=>(ay i p q.symm)⟩
 simp only[this,nM]
noncomputable abbrev Xs(q:Nat×Nat):af:=.tuple [.int q.1,.int q.2]
def Xt{i j:Nat}{b:Bool}(h:decide (i=j)=b):decide ((i:Int)=(j:Int))=b:=(aci.mpr Int.ofNat_inj).trans h
def eu(h:bC 8 v):fF .NotEq v v false:=⟨h,h,v6 Bool.not (lz h)⟩
def TZ(l:aH):(((List.range l.length).map λi=>(i,l.getD i 0)).filter λq=> !decide (q.2∈l.take q.1)).map (λq=>af.int q.2)=nv (dd l):=by
 delta dd nv;induction(List.range l.length)with
 |nil=>rfl
 |cons i r c=>
  rw[aaT,List.filter_cons,abN,aaL,<-c];unfold ddI;by_cases q:l.getD i 0∈l.take i
  ·rw[if_pos q];dsimp only;rw[decide_eq_true q];rfl
  ·rw[if_neg q];dsimp only;rw[decide_eq_false q];rfl
open Classical in
def Im(T:Txt X)(L:bW n 31)(u:cy d)(w:eD d)(h0:0<d.length)(hr:iE d){B:List aS}(hg:CB d (aq d).length B){b:Nat}(hb:b∈aq d)(Z:n<100):
  zI X n (λ_ _=>False) [9,10,11] iQ (Rn X d (.dict (iv (aq d)) (B.map af.set)) (.int b) .ae .ae) (Rn X d (.dict (iv (aq d)) (B.map af.set)) .ae .ae .ae):=by
 have hN:d.length<=30:=u;have D:=s7 (aa:=d);refine aj (JV hg hb) λys A hl=>?_;have s2:=Qs (X:=X) T u w hr 30 b n (o0 H8 hN) L
 have d1:gR (kh d (bA d)) (.int b) (.int (bA d b)):=by
  show dQ (b:Int) (iv (aq d)) ((aq d).map λb=>.int (bA d b))=_;rw[gh,if_pos hb]
 have O:(EL (br d) b).length<=d.length:=by unfold EL;rw[v4];exact o0 (KT ..) D
 have s:∀t,t∈pR (EL (br d) b)↔t∈bk d b:=λt=>Mn.trans (zm w);have G:(pR (EL (br d) b)).length<=d.length:=by rw[Mo];exact O
 have en:af.list ((dg (iv (EL (br d) b))).map af.int)=.list (nv (pR (EL (br d) b))):=by rw[FT,nM]
 have P:dd (pR (EL (br d) b))=bk d b:=FR (Mm (QD _)) (gi _ _) λi=>Xr.trans (s i);have Q:∀t∈pR (EL (br d) b),t<d.length:=λt h=>AT.mp (IO.mp ((s t).mp h)).1;generalize pR (EL (br d) b)=g at en s G P Q;have H:g.length<=aL:=o0 G (bp u);have U:(nv g).length<=aL:=(aN g).symm▸H;have C1:=HQ (X:=X) (n:=n) (enc:=Xs) (dec:=Mj) (λ_=>rfl) (t:=.dA 17) (c:=iy) (e:=.item (.aC 17) (.cj (.int 1))) (st:=Rn X d (.dict (iv (aq d)) (B.map af.set)) (.int b) .ae .ae) (l:=br d) (λq=>decide ((q.1:Int)=(b:Int))) (λq=>.int q.2) (λ_=>[]) (λ_=>[]) rfl (o0 D (bp u)) λq _=>⟨kB λ_=>id,λ_=>kE λ_=>id⟩
 rw[show((br d).filter λq=>decide ((q.1:Int)=(b:Int))).map (λq=>af.int q.2)=nv (EL (br d) b)by
  delta EL nv;rw[aac,show(λq:Nat×Nat=>decide ((q.1:Int)=(b:Int)))=λq=>decide (q.1=b)from funext λq=>Xt rfl];rfl]at C1
 have C2:=HQ (X:=X) (n:=n) (enc:=Xs) (dec:=Mj) (λ_=>rfl) (t:=.dU [19,20]) (c:=iz) (e:=.aC 20) (st:=Rn X d (.dict (iv (aq d)) (B.map af.set)) (.int b) (.list (nv g)) .ae) (l:=(List.range g.length).map λi=>(i,g.getD i 0)) (λq=> !decide (q.2∈g.take q.1)) (λq=>.int q.2) (λq=>[.p,.y (.list (nv (g.take q.1))),.e (!decide (q.2∈g.take q.1))]) (λ_=>[]) (λi j=>by
   rcases EQ.mp j with rfl|j
   ·rfl
   ·rw[u8]at j;subst j;rfl) (by rw[v4,x0];exact H) λq hq=>by
  obtain⟨i,j,rfl⟩:=FB.mp hq;have AF:i<=aL:=o0 (KK (AT.mp j)) H;exact⟨rfl,kB λ_=>A3 (⟨IR _,acd.mpr AF,U⟩:(0:Int)<=(i:Int)/\(i:Int)<=aL/\(nv g).length<=aL) (by unfold nv;rw[List.map_take]:af.list ((nv g).take i)=.list (nv (g.take i))) (wu (i:=g.getD i 0) (l:=g.take i) rfl),λ_=>kE λ_=>id⟩
 rw[TZ,P,show((List.range g.length).map λi=>(i,g.getD i 0)).map Xs=qo (nv g)from(TX g).symm]at C2
 have e5:(nv g).flatMap (qg λt=>nv (bF (EL (br d)) t d.length))=nv (g.flatMap λt=>bF (EL (br d)) t d.length):=by
  rw[xn];unfold nv;simp only[List.map_flatMap]
 have hfl:(g.flatMap λt=>bF (EL (br d)) t d.length).length<=aL:=o0 (so (N:=30) (λi=>o0 BI hN) g) (o0 (Nat.mul_le_mul (o0 G hN) (v0 30)) (by decide))
 have I:∀i,i<d.length->(i∈(g.flatMap λt=>bF (EL (br d)) t d.length)↔PX d b i):=λi j=>by
  rw[List.mem_flatMap]
  have V:∀t,i∈bF (EL (br d)) t d.length↔jM (bk d) t i:=λt=>by
   rw[km (λx y=>zm w)];unfold bF;rw[IO,AT,abZ];exact⟨λh=>h.2,λh=>⟨j,h⟩⟩
  exact⟨λzz=>aj zz λt M C=>(ay t ((s t).mp M) ((V t).mp C)),λzz=>aj zz λt M C=>(ay t ((s t).mpr M) ((V t).mpr C))⟩
 have C3:o4 X n (.dA 22) .nil iA (Rn X d (.dict (iv (aq d)) (B.map af.set)) (.int b) (.list (nv g)) .ae) (nv g) (qg λt=>nv (bF (EL (br d)) t d.length)) (nv (g.flatMap λt=>bF (EL (br d)) t d.length)):=
  ⟨rfl,TY _ (λt=>[.n d.length,.v (.list (nv (bF (EL (br d)) t d.length)))]) (λt ht=>kI (λ_=>A2 (eH u) (uy T (L.le 1) hN (Q t ht) (BO w) (o0 D (bp u))))) (λv=>rfl) (λ_ _=>kE λ_=>id),e5,(aN _).symm▸hfl⟩
 generalize (g.flatMap λt=>bF (EL (br d)) t d.length)=far at C3 I
 have es:af.list ((dg ys).map af.int)=.list (nv ((List.range d.length).filter λi=>decide (i∈far))):=by
  rw[iD A.1 (gi d.length λi=>decide (i∈far)) λz=>?_,nM];rw[A.2 z];constructor
  ·rintro⟨i,M,C⟩
   have j:=sub_lt w h0 (C.sub w);exact(ay i (IO.mpr ⟨AT.mpr j,FM ((I i j).mpr C)⟩) M)
  ·rintro⟨i,M,C⟩
   obtain⟨h3,h4⟩:=IO.mp M;exact(ay i C ((I i (AT.mp h3)).mp (s5 h4)))
 have l64:ys.length<64:=by
  have:=fu (m:=iv (List.range d.length)) A.1 λz hz=>by
   refine aj ((A.2 z).mp hz) λi rf1 h=>?_;subst rf1;exact FB.mpr (ay i (AT.mpr (sub_lt w h0 (h.sub w))) rfl)
  rw[fj,x0]at this;exact IN (o0 this hN) (by decide)
 have C4:=mG (X:=X) (n:=n) 25 iB (.aC 25) (Rn X d (.dict (iv (aq d)) (B.map af.set)) (.int b) (.list (nv g)) (.list (nv far))) (N:=d.length) (λi=>decide (i∈far)) (λi=>.int i) (λi=>[.e (decide (i∈far))]) rfl (bp u) λi j=>kC λ_=>A1 (uz (i:=i) (l:=far) rfl)
 exact rZ [.m (hG Mj (λq=>decide ((q.1:Int)=(b:Int))) λq=>.int q.2) (nv (EL (br d) b)),.i (iv (EL (br d) b)),.y (.list (nv g)),.v (.list (nv (bk d b))),.m (hG Mj (λq=> !decide (q.2∈g.take q.1)) λq=>.int q.2) (nv (bk d b)),.p,.e false,
   .m (qg λt=>nv (bF (EL (br d)) t d.length)) (nv far),.y (.list (nv far)),.y (.set ys),.p,.y (.list (nv ((List.range d.length).filter λi=>decide (i∈far)))),.m (qg (Bw (λi=>decide (i∈far)) λi=>.int i)) (nv ((List.range d.length).filter λi=>decide (i∈far))),.n d.length,.n d.length,.e false,.y (.int (bA d b)),.v (.int (bA d b)),.e false]
  λ_ z=>A9 Z C1 (nM (EL (br d) b)).symm (by rw[fj];exact IN (o0 O hN) (by decide):(iv (EL (br d) b)).length<64) en (zc (X:=X) T (L.le 5) u w h0 hb) Z U C2
   (A9 (eu (df (bk d b))) Z C3 (Eq.refl (af.list (nv far))) (hl:gR (.dict (iv (aq d)) (B.map af.set)) (.int b) (.set ys)) l64 es Z (eH u) (A6 (jU u) C4 (eu (df ((List.range d.length).filter λi=>decide (i∈far)))) d1 s2 (eu (v:=.int (bA d b)) rfl) z))
end
end
section
variable{X:Cx}{n k:Nat}{d:bo}
noncomputable def cr0(X:Cx)(d:bo)(a b c:af):St:=⟨[aV X d,cI d,eI d,cf d,fB d,.list (nv (aq d)),a,b,c,.ae,.ae,.ae,.ae,.ae,.ae,.ae,.ae,.ae,.ae,.ae,.ae,.ae,.ae,.ae,.ae,.ae],[]⟩
def Aw(T:Txt X)(L:bW n 32)(g:cy d)(u:eD d)(h0:0<d.length)(x:iE d):sX X n "_law_calls_right" [aV X d,cI d,eI d,cf d,fB d,.list (nv (aq d))] (.bool true):=by
 have y:=JB (X:=X) (n:=n-1) 13 iw (.fr (.tuple (.cons (.item (.aC 4) (.aC 13)) (.cons (.item (.aC 2) (.item (.aC 3) (.aC 13))) .nil)))) (cr0 X d .ae .ae .ae) (eG d) (MF d) (λc=>[.y (aB (d.map bc) c),.e (eG d c)]) (λc=>[.y (.int (ao d c)),.y (.int (sl d (ck d c))),.y (.int (ck d c))]) rfl (bp g)
  (λc s=>by
   have e:d[c]?=some d[c]:=f0 s;generalize d[c]=r at e;rw[nQ e];exact kB λ_=>A2 (mJ g e) (l9 (eB e).symm)) λc s q=>by
   have G:=U3 g u (f0 s) (jT ((eB (f0 s)).symm.trans q));exact kE λ_=>A3 (mM g s) (i4 G) (rg G)
 rw[show((List.range d.length).filter (eG d)).map (MF d)=fU (br d)from zo]at y
 have C:=mG (X:=X) (n:=n-1) 15 ix (.aC 15) (cr0 X d (.list (fU (br d))) .ae .ae) (eG d) (λj=>.int j) (λc=>[.y (aB (d.map bc) c),.e (eG d c)]) rfl (bp g) λc s=>by
  have e:d[c]?=some d[c]:=f0 s;generalize d[c]=r at e;rw[nQ e];exact kC λ_=>A2 (mJ g e) (l9 (eB e).symm)
 refine nL T L l6 (tm 67 rfl) [.m (qg (Bw (eG d) (MF d))) (fU (br d)),.n d.length,.n d.length,.v (.list (nv (aJ d))),.m (qg (Bw (eG d) λj=>.int j)) (nv (aJ d)),.n d.length,.n d.length,.e false,.q (λv=>∃h,CB d (aq d).length h/\v=.dict (iv (aq d)) (h.map af.set)),.v (kh d (bA d)),.stop]
  (by unfold eJ;unfold eJ;unfold eJ;unfold eJ;simp only[cG,eT,gG,eU,BA _ _ rN (lu _)];rfl) (λ_ z=>A9 (bW.lt L) (eH g) (jU g) y (mH (X:=X) T (L.dn 2) g) (bW.lt L) (eH g) (jU g) C (A2 (eu (df (aJ d))) (wo (X:=X) T (L.dn 6) g u h0) z))
  (?_:∀w:af,(∃h,CB d (aq d).length h/\w=.dict (iv (aq d)) (h.map af.set))->ba X (n-1) "frame_counts" [aV X d] (λv=>v=kh d (bA d))/\cp X (n-1) (λ_ _=>False) iR (Rn X d w .ae .ae .ae) (cH λv=>v=.bool true))
 rintro w ⟨h,D,rfl⟩;refine⟨q9 (X:=X) T (L.dn 5) g u x,?_⟩;refine aX (QE g) λA B=>?_
 exact raw [.p,.y (.list (nv (aq d))),.e false,.p,.y (.list (nv (aq d))),.e false,.l (aq d).length [9,10,11] (λ_=>Rn X d (.dict (iv (aq d)) (h.map af.set)) .ae .ae .ae)]
  (λ_ z=>A8 A (v6 af.list B) (eu (df (aq d))) A (v6 af.list B) (eu (df (aq d))) (Eq.refl (Rn X d (.dict (iv (aq d)) (h.map af.set)) .ae .ae .ae)) (JC (S:=λ_=>Rn X d (.dict (iv (aq d)) (h.map af.set)) .ae .ae .ae) (i:=9) rfl ((aN (aq d))▸fw g) λk b H=>Im (X:=X) (n:=n-1) T (L.dn 31) g u h0 x D (wE H) (bW.lt L)) z) (⟨rfl,rfl⟩:true/\af.bool true=.bool true)
end
section
section
variable{X:Cx}{n k:Nat}{d:bo}
def QF(c:(aq d)[k]?=some b):cP d b=((aq d)[k+1]?).getD d.length:=by
 unfold cP;cases e:(aq d)[k+1]? with
 |none=>
  haveI:(aq d).find? (λs=>decide (b<s))=none:=List.find?_eq_none.mpr λa h=>by
   obtain⟨j,u,q⟩:=XV h;haveI x:=acf.mp e;have g:(aq d)[j]?=some a:=by refine q▸?_;exact f0 u
   rcases acN j k with z|z|z
   ·haveI:=oQ z g c;simp;lia
   ·subst z;obtain rfl:=(se (c) g).symm;simp
   ·lia
  rw[this]
 |some s=>
  haveI v:=oQ (W1 k) c e
  haveI:(aq d).find? (λs=>decide (b<s))=some s:=by
   refine ar (wP.mp e) λx g=>?_;refine List.find?_eq_some_iff_append.mpr ⟨FM v,(aq d).take (k+1),(aq d).drop (k+2),?_,λa h=>?_⟩
   ·simp only[<-g,List.getElem_cons_drop,acg]
   ·obtain⟨j,u,q⟩:=XV h
    rw[List.getElem_take]at q;have y:j<k+1:=by rw[acK]at u;lia
    have w:(aq d)[j]?=some a:=by rw[<-q];exact f0 _
    rcases P3 j k with z|z
    ·haveI:=oQ z w c;simp;lia
    ·have:j=k:=by lia
     subst this;obtain rfl:=(se (c) w).symm;simp
  rw[this]
def Io(h0:0<d.length):aq d=(List.range d.length).filter (dV d):=by
 unfold aq;simp only[aaK,acB]
 have:dV d d.length=false:=by
  cases e:dV d d.length with
  |false=>rfl
  |true=>rcases yX e with h|h<;>lia
 rw[List.filter_cons_of_neg (by rw[this];decide),List.filter_nil,aa1]
def Mp:(aq d).map (cP d)=(aq d).drop 1++[d.length]:=by
 refine List.ext_getElem? λi=>?_;refine FS▸?_;cases e:(aq d)[i]? with
 |none=>
  haveI h:=acf.mp e;haveI:=Ft (aa:=d);rw[aaI (by simp only[sK,List.length_drop,H1];lia)];rfl
 |some b=>
  haveI h:=(wP.mp e).1;show some (cP d b)=_;rw[QF e];rcases P3 (i+1) (aq d).length with q|q
  ·rw[aar (by simp only[List.length_drop];lia),List.getElem?_drop,Nat.add_comm 1 i,f0 q];rfl
  ·rw[GE (by rw[List.length_drop];lia),List.length_drop,aaI q,show i-((aq d).length-1)=0 by lia];rfl
def FU(f:Nat->aH)(l:aH):bC 8 (.list (l.map λi=>.list (nv (f i)))):=by
 show(l.map λi=>af.list (nv (f i))).all (bC 7)=true;rw[WP];intro v m;refine aj (FB.mp m) λi _ c=>?_;subst c;show(nv (f i)).all (bC 6)=true;rw[WP];intro v m;refine aj (FB.mp m) λj _ c=>?_;subst c;rfl
def Ip l:bC 8 (.list (jh l)):=by
 show(jh l).all (bC 7)=true;rw[WP];intro v m;refine aj (FB.mp m) λi _ c=>?_;subst c;rfl
open Classical in
def Mq(c:d7 d (f5 d)):bF (bX d) 0 d.length=List.range d.length:=
 List.filter_eq_self.mpr λi e=>FM (uv.mp (c i (AT.mp e)))
noncomputable def MG(X:Cx)(d:bo)(s b:af):St:=⟨[aV X d,cI d,eI d,cf d,fB d,.ae,s,b,.ae,.ae,.ae,.ae,.ae,.ae,.ae,.ae,.ae,.ae,.ae,.ae],[]⟩
def T1(T:Txt X)(L:bW n 4)(g:cy d)(u:eD d)(h:c<d.length):zI X n (λ_ _=>False) [5] jz ((MG X d s .ae).at 5 (.int c)) (MG X d s .ae):=by
 have e:d[c]?=some d[c]:=f0 h;generalize d[c]=r at e;have j:=nN (X:=X) T (L.le 1) g c;cases q:r.w.gN with
 |false=>
  have G:gR (cf d) (.int c) .none:=⟨rf g h,(nR e).trans (by unfold gl;rw[if_neg (by rw[q];decide)];rfl)⟩;exact rZ [.v (.int (ao d c)),.y (.int (ao d c)),.e false,.y .none] λ_=>A6 (mP T) j.has j (mM g h) (eu (v:=.int (ao d c)) rfl) G
 |true=>
  have G:=U3 g u e q;have ht:=eP (X:=X) T L g (ef u e q).1
  exact rZ [.v (.int (ao d c)),.y (.int (ao d c)),.e false,.y (.int (sl d (ck d c))),.a,.v (.int (ck d c)),.y (.int (sl d (ck d c))),.y (.int (ck d c)),.e false]
   λ_ z=>A9 (mP T) j.has j (mM g h) (eu (v:=.int (ao d c)) rfl) (i4 G) (mP T) ht.has ht (A3 (i4 G) (rg G) (eu (v:=.int (ck d c)) rfl) z)
def QG(T:Txt X)(L:bW n 33)(g:n<100)(c:cy d)(e:eD d)(h:sk d)(h0:0<d.length)(y:d7 d (f3 d))(A:d7 d (f4 d))(s:d7 d (f5 d))(B:iE d):
  cp X n (λ_ _=>False) jA (MG X d (.list (nv (aq d))) .ae) (cH λv=>v=.bool true):=by
 have q:(aq d).length<=aL:=aN (aq d)▸fw c;have u:=JA (X:=X) (n:=n) 13 (.gd (.aC 0) "sub_end" (.cons (.aC 13) .nil)) (MG X d (.list (nv (aq d))) .ae) (λb=>.int (cP d b)) (λb=>[.v (.int (cP d b))]) rfl q λb I=>kE λ_=>A3 (mP T) (rJ (X:=X) T (L.le 1) c b).has (rJ T (L.le 1) c b);rw[show(aq d).map (λb=>af.int (cP d b))=nv ((aq d).drop 1++[d.length])by rw[<-Mp];delta nv;rw[aac];rfl]at u;have C:=qS (X:=X) (n:=n) 15 (.call "successors" (.cons (.aC 0) (.cons (.aC 15) .nil))) (MG X d (.list (nv (aq d))) (dj d)) (λi=>.list (nv (succ d i))) (λi=>[.v (.list (nv (succ d i)))]) rfl (bp c) λi w=>kE λ_=>A1 (y8 (X:=X) T (L.le 5) c e (f0 w))
 have D:=qS (X:=X) (n:=n) 17 (.fr (.comp (.dA 19) (.bz (.cS (.aC 1))) fA iT 18 2)) (MG X d (.list (nv (aq d))) (dj d)) (λi=>.list (nv (dW d d.length i))) (λi=>[.m (qg (Bw (λj=>decide (i∈succ d j)) λj=>.int j)) (nv (dW d d.length i)),.n d.length,.n d.length]) rfl (bp c) λi w=>kE λ_=>A4 g (eH c) (jU c)
  (mG (X:=X) (n:=n) 19 fA (.aC 19) ((MG X d (.list (nv (aq d))) (dj d)).at 17 (.int i)) (λj=>decide (i∈succ d j)) (λj=>.int j) (λj=>[.y (.list (nv (succ d j))),.e (decide (i∈succ d j))]) rfl (bp c) λj G=>kC λ_=>A2 (zl c G) (uz (i:=i) (l:=succ d j) rfl))
 have x:=qX (X:=X) T (L.le 6) c e h h0;rw[Mq s]at x
 exact raw [.l d.length [5] (λ_=>MG X d (.list (nv (aq d))) .ae),.n d.length,.n d.length,
   .m (qg λb=>[.int (cP d b)]) (nv ((aq d).drop 1++[d.length])),.p,.n d.length,.p,.y (.list (nv ((aq d).drop 1++[d.length]))),.e false,.v (dj d),
   .m (qg λi=>[.list (nv (succ d i))]) (s6 d),.n d.length,.n d.length,.e false,
   .v (.list (pv (dW d d.length) d.length)),.m (qg λi=>[.list (nv (dW d d.length i))]) (pv (dW d d.length) d.length),.n d.length,.n d.length,.e false,
   .v (.list (jh (dN d))),.v (.list (jh (dN d))),.e false,.v (.list (nv (List.range d.length))),.n d.length,.p,.y (.list (nv (List.range d.length))),.e false,.v (.bool true),.a,.v (.bool true)]
  (λ_ z=>A9 (eH c) (jU c) (Eq.refl (MG X d (.list (nv (aq d))) .ae)) (qT (S:=λ_=>MG X d (.list (nv (aq d))) .ae) (bp c) λk H=>T1 (X:=X) (n:=n) T (L.le 4) c e H)
   g u (⟨by decide,by decide,fw c⟩:(0:Int)<=1/\(1:Int)<=aL/\(nv (aq d)).length<=aL) (eH c) (by rw[List.length_drop,aN];exact dw (by have:=rI c;lia):((nv (aq d)).drop 1).length+1<=aL)
   (A9 (by rw[ct];unfold nv;rw[List.map_drop];rfl:af.list ((nv (aq d)).drop 1++[af.int d.length])=.list (nv ((aq d).drop 1++[d.length]))) (eu (df ((aq d).drop 1++[d.length])))
   (Dz (X:=X) T (L.le 1) c e) g (eH c) (jU c) C (eu (v:=dj d) (FU _ _)) (Tj (X:=X) T (L.le 6) c e h)
   (A9 g (eH c) (jU c) D (eu (v:=.list (pv (dW d d.length) d.length)) (FU _ _)) (PO (X:=X) T (L.le 5) c e h0) (DI (X:=X) T (L.le 1) c e) (eu (Ip (dN d))) x
   (A6 (eH c) (⟨(JM c).1,(JM c).2,by rw[Fu,aN,x0];exact bp c⟩: -(aL:Int)<=(d.length:Int)/\(d.length:Int)<=aL/\(cB 0 (d.length:Int)).length<=aL) (v6 af.list (Fu (N:=d.length))) (eu (df (List.range d.length))) (Av (X:=X) T L c e h h0 y A s) (Aw (X:=X) T (L.le 32) c e h0 B) z)))) (⟨rfl,rfl⟩:true/\af.bool true=.bool true)
end
end
section
variable{X:Cx}{n k:Nat}{a:bo}
def DJ(T:Txt X)(L:bW n 34)(c:cy a)(g:wq a most):sX X n "_law_told_right" [aV X a,cI a,eI a,cf a] (.bool true):=by
 refine Vy g λw _ x y q A B _=>?_;have h0:0<a.length:=Nat.pos_of_ne_zero w;have h:=ra x;have e:=jf (X:=X) T (L.dn 1) c;refine aX (QE c) λC D=>?_;have s:=mG (X:=X) (n:=n-1) 9 iS (.aC 9) (MG X a .ae .ae) (N:=a.length) (λi=>decide ((ao a i:Int)=(i:Int))) (λi=>.int i) (λi=>[.y (.int (ao a i))]) rfl (bp c) λi j=>kC λ_=>A1 (mM c j);rw[show(λi=>decide ((ao a i:Int)=(i:Int)))=dV a from funext zr,<-Io h0]at s;have u:=qS (X:=X) (n:=n-1) 11 (.Ji (.aC 2) (.aC 11)) (MG X a (.list (nv (aq a))) .ae) (λi=>.int (sl a i)) (λi=>[.v (.int (.ofNat (sl a i)))]) rfl (bp c) λi j=>kE λ_=>A1 (Dy c j);rw[show(List.range a.length).map (λi=>af.int (sl a i))=nv (bV a a.length)by delta nv bV;rw[aac];rfl]at u
 exact nL T L nK (tm 68 rfl) [.v (fB a),.m (qg (Bw (dV a) λi=>.int i)) (nv (aq a)),.n a.length,.n a.length,.i (iv (aq a)),.y (.list (nv (aq a))),.v (.int a.length),.n a.length,.e false,
   .m (qg λi=>[.int (sl a i)]) (nv (bV a a.length)),.n a.length,.n a.length,.e false,.e false,.stop]
  (by unfold eJ;unfold eJ;simp only[cG,eT,BA _ _ gG eU];rfl)
  (λ_ z=>A9 (J2 (X:=X) T (L.dn 1) c h) (bW.lt L) (eH c) (jU c) s (nM (aq a)).symm C (v6 af.list D) (mP T)
   (A9 e.has e (eH c) (eu (v:=.int a.length) rfl) (mP T) (bW.lt L) (eH c) (jU c) u (A3 (eu (df (bV a a.length))) (mP T) (eu (df (aq a))) z)))
  (QG T (L.dn 33) (bW.lt L) c h (Dr h q) h0 y q A (vA B))
end
noncomputable def dX(S:aS)(t:Nat)(r:Int):af:=.list [.list (S.map af.int),.int t,.int r]
def d8(S:aS)(t:Nat)(J:ah)(m:Int)(v:af)(g:ah):Prop:=∃(d:Nat) (c:Nat) (e:Int),v=.int d/\(d:Int)<m/\c<=t+1/\0<=e/\g=dX S c e::J
def BQ{x:Int}{C:Nat}(h0:0<=x)(g:x<=C)(c:C<=2^120):x.natAbs<2^400:=by
 haveI e:x.natAbs<=C:=by lia
 exact IN (o0 e c) (by decide)
def FV{a:Int}(c:0<=k)(e:k<=20)(h:a.natAbs<2^400):zR .Pow a k:=by
 show(decide (0<=k)&&(decide (k<=20)&&decide (a.natAbs<2^400)))=true;simp only[FM c,FM e,FM h];rfl
def uB(h:0<m):zR .Mod a m:=FM h
def FX(h:0<m)(c:m<=2^63):zR .FloorDiv a m:=by
 show(decide (0<m)&&decide (m<=2^63))=true;refine(FM h).symm▸?_;refine(FM c).symm▸?_;rfl
def FY(h: -(2^63)<=b)(c:b<=2^63):zR .Mult a b:=by
 show((decide (-(2^63)<=a)&&decide (a<=2^63))||(decide (-(2^63)<=b)&&decide (b<=2^63)))=true;simp only[FM h,FM c];simp
section
variable{X:Cx}{n k:Nat}
def QH(g:0<=d)(h:d<m)(j:t'<=t+1)(q:0<=e):d8 S t J m (.int d) (dX S t' e::J):=by
 refine ar (Int.eq_ofNat_of_zero_le g) λk c=>?_;subst c;exact(BZ k t' e rfl h j q rfl)
def QI{K:aR->St->Prop}(ht:t<=1000000)(I:0<m)(hK:∀(d:Int) st,0<=d->d<m->st.cells=dX S (t+1) r::J->K (.ret (.int d)) st):
  cp X n R qG ⟨[.cell 0,.int m,.ae,.int t,.int c,.ae,.ae],dX S (t+1) r::J⟩ K:=by
 haveI O:0<=c %2147483549/\c %2147483549<2147483549:=⟨Int.emod_nonneg _ (by decide),Int.emod_lt_of_pos _ (by decide)⟩;generalize P:c %2147483549=a1 at O;obtain⟨a2,Q⟩:∃a2:Int,51907*(t:Int)=a2:=⟨_,rfl⟩;obtain⟨x,T⟩:∃x:Int,a1+a2=x:=⟨_,rfl⟩;obtain⟨j,U⟩:∃j:Int,x+3389=j:=⟨_,rfl⟩;haveI V:j.natAbs<2^400:=BQ (C:=10^12) (by lia) (by lia) (by decide);obtain⟨q,Z⟩:∃q:Int,j^5=q:=⟨_,rfl⟩;haveI L:0<=q %2147483647/\q %2147483647<2147483647:=⟨Int.emod_nonneg _ (by decide),Int.emod_lt_of_pos _ (by decide)⟩;generalize e6:q %2147483647=A at L;obtain⟨y,f1⟩:∃y:Int,2*(t:Int)=y:=⟨_,rfl⟩;obtain⟨g,f2⟩:∃g:Int,y+1867=g:=⟨_,rfl⟩;have B:0<=g/\g<=2001867:=by lia
 obtain⟨s,f3⟩:∃s:Int,A*g=s:=⟨_,rfl⟩
 have g3:0<=s/\s<=2147483647*2001867:=by
  refine f3▸?_;exact⟨Int.mul_nonneg L.1 B.1,Int.mul_le_mul (by lia) B.2 B.1 (by decide)⟩
 obtain⟨h,f4⟩:∃h:Int,60493*(t:Int)=h:=⟨_,rfl⟩;have M:0<=h/\h<=60493000000:=by lia
 obtain⟨u,f5⟩:∃u:Int,h*(t:Int)=u:=⟨_,rfl⟩
 have g5:0<=u/\u<=60493000000*1000000:=by
  refine f5▸?_;exact⟨Int.mul_nonneg M.1 (by lia),Int.mul_le_mul M.2 (by lia) (by lia) (by decide)⟩
 obtain⟨z,f6⟩:∃z:Int,s+u=z:=⟨_,rfl⟩;obtain⟨v,f7⟩:∃v:Int,z+643=v:=⟨_,rfl⟩;haveI q7:v.natAbs<2^400:=BQ (C:=10^20) (by lia) (by lia) (by decide);obtain⟨w,f8⟩:∃w:Int,v^3=w:=⟨_,rfl⟩;haveI p9:0<=w %2147483563:=Int.emod_nonneg _ (by decide);generalize f9:w %2147483563=D at p9;obtain⟨e,G⟩:∃e:Int,D/32=e:=⟨_,rfl⟩;haveI H:0<=e %m/\e %m<m:=⟨Int.emod_nonneg _ (by lia),Int.emod_lt_of_pos _ I⟩;generalize fd:e %m=d at H;haveI h3:=hK d ⟨[.cell 0,.int m,.ae,.int t,.int c,.ae,.int D],dX S (t+1) r::J⟩ H.1 H.2 rfl
 exact a9 [.a,.x (.int a1),.a,.x (.int a2),.x (.int x),.x (.int j),.p,.x (.int q),.a,.x (.int A),.a,.x (.int y),.x (.int g),.p,.x (.int s),.a,.x (.int h),.p,.x (.int u),.x (.int z),.x (.int v),.p,.x (.int w),.a,.x (.int D),.a,.x (.int e),.p,.x (.int d)]
  (kv _ (AI P<|AI Q<|AI T<|AI U<|AI (FV (a:=j) (k:=5) (by decide) (by decide) V)<|AI Z<|AI e6<|AI f1<|AI f2<|AI (FY (a:=A) (b:=g) (by lia) (by lia))<|AI f3<|AI f4<|AI (FY (a:=h) (b:=(t:Int)) (by exact IR _) (by lia))<|AI f5<|AI f6<|AI f7<|AI (FV (a:=v) (k:=3) (by decide) (by decide) q7)<|AI f8<|AI f9<|AI G<|AI (uB (a:=e) I)<|AI fd h3) (by kernel_rfl))
end
section
variable{X:Cx}{n k:Nat}
abbrev tl5:bt:=qH
def QJ{S:aS}{K:aR->St->Prop}(hS:S.length<=63)(ht:t<=1000000)(j:0<m)(I:m<=100000)(A:0<=r)(hK:∀(d:Int) (x:Int) st,0<=d->d<m->0<=x->st.cells=dX S (t+1) x::J->K (.ret (.int d)) st):
  cp X n R tl5 ⟨[.cell 0,.int m,.ae,.int t,.int c,.ae,.ae],dX S (t+1) r::J⟩ K:=by
 have q:(S.map af.int).length<=aL:=by rw[v4];exact o0 (by assumption) (by decide)
 have e:=QI (X:=X) (n:=n) (R:=R) (S:=S) (t:=t) (r:=r) (m:=m) (c:=c) (J:=J) (K:=K) ht j λd st B C s=>hK d r st B C A s;cases u:decide ((t:Int)<(((S.map af.int).length:Nat):Int))with
 |false=>exact a9 [.a,.p,.b false,.stop] (kv _ (AI q<|AI u e) (by kernel_rfl))
 |true=>
  cases v:decide ((10^18:Int)<=((c.natAbs:Nat):Int))with
  |false=>exact a9 [.a,.p,.b true,.a,.b false,.stop] (kv _ (AI q<|AI u<|AI v e) (by kernel_rfl))
  |true=>
   obtain⟨g,D⟩:∃g:Int,((c.natAbs:Nat):Int)-10^18=g:=⟨_,rfl⟩;haveI G:0<=g:=by haveI:=s5 v;lia
   haveI w:0<=g %m/\g %m<m:=⟨Int.emod_nonneg _ (by lia),Int.emod_lt_of_pos _ j⟩;haveI y:0<=g/m:=Int.ediv_nonneg G (by lia);obtain⟨h,z⟩:∃h:Int,g/m=h:=⟨_,rfl⟩;generalize H:g %m=d at w;rw[z]at y;haveI s:=hK d h ⟨[.cell 0,.int m,.ae,.int t,.int c,.int g,.ae],dX S (t+1) h::J⟩ w.1 w.2 y rfl;exact a9 [.a,.p,.b true,.a,.b true,.a,.x (.int 1000000000000000000),.x (.int g),.p,.x (.int h),.a,.p,.x (.int d)] (kv _ (AI q<|AI u<|AI v<|AI (Eq.refl (1000000000000000000:Int))<|AI D<|AI (FX (a:=g) j (by lia))<|AI z<|AI (uB (a:=g) j)<|AI H s) (by kernel_rfl))
def Mr(S:aS):bC 8 (.list (S.map af.int)):=by
 show(S.map af.int).all (bC 7)=true;rw[WP];intro v m;refine aj (FB.mp m) λi _ c=>?_;subst c;rfl
def lB(T:Txt X)(L:bW n 1){S:aS}(hS:S.length<=63)(ht:t<=1000000)(x:0<=r)(q:0<m)(G:m<=100000):ie X n "_law_draw" [.cell 0,.int m] (dX S t r::J) (d8 S t J m):=by
 cases u:decide (0<r)with
 |true=>
  have v:0<=r %m/\r %m<m:=⟨Int.emod_nonneg _ (by lia),Int.emod_lt_of_pos _ q⟩;have y:0<=r/m:=Int.ediv_nonneg x (by lia);obtain⟨h,z⟩:∃h:Int,r/m=h:=⟨_,rfl⟩;generalize H:r %m=d at v;rw[z]at y;exact si T L oz (tm 46 rfl) rfl [.a,.b true,.a,.p,.x (.int d),.a,.p,.x (.int h)] rfl (kv _ (AI u<|AI (uB (a:=r) q)<|AI H<|AI (FX (a:=r) q (by lia))<|AI z (QH (S:=S) (t:=t) (J:=J) (t':=t) v.1 v.2 (by lia) y)) (by kernel_rfl))
 |false=>
  haveI I:r=0:=by have:=GT u;lia
  haveI A:(t:Int)+1=((t+1:Nat):Int):=by lia
  obtain⟨e,B⟩:∃e:Int,90023*(t:Int)=e:=⟨_,rfl⟩;obtain⟨c1,g⟩:∃c1:Int,e+7919=c1:=⟨_,rfl⟩
  have iJ:∀c:Int,cp X (n-1) (λ_ _=>False) tl5 ⟨[.cell 0,.int m,.ae,.int t,.int c,.ae,.ae],dX S (t+1) r::J⟩ (kR (d8 S t J m)):=λc=>QJ hS ht q G x λd r' st M O P Q=>by
   show d8 S t J m (.int d) st.cells;simp only[Q];exact QH M O (v0 _) P
  cases S with
  |nil=>exact si T L oz (tm 46 rfl) rfl [.a,.b false,.a,.x (.int (t+1:Nat)),.a,.a,.x (.int e),.x (.int c1),.a,.b false,.stop] rfl (kv _ (AI u<|AI A<|AI B<|AI g<|AI (Eq.refl true)<|AI (Eq.refl true)<|AI (Eq.refl false) (iJ c1)) (by kernel_rfl))
  |cons s S=>
   have C:((s::S).map af.int).length<=aL:=by rw[v4];exact o0 (by assumption) (by decide)
   haveI j:0<((s::S).map af.int).length:=ack _;haveI w:t %((s::S).map af.int).length<((s::S).map af.int).length:=Nat.mod_lt _ j;haveI D:(t:Int) %((((s::S).map af.int).length:Nat):Int)=((t %((s::S).map af.int).length:Nat):Int):=rfl;generalize t %((s::S).map af.int).length=k at w D;have U:k<(s::S).length:=by rw[v4]at w;exact w
   haveI V:aB ((s::S).map af.int) k=.int (s::S)[k]:=dZ (by simp only[FS,f0 U];rfl);haveI Z:(0:Int)<=(k:Int)/\(k:Int)<((((s::S).map af.int).length:Nat):Int)/\((s::S).map af.int).length<=aL:=⟨by exact IR _,by lia,C⟩;exact si T L oz (tm 46 rfl) rfl [.a,.b false,.a,.x (.int (t+1:Nat)),.a,.a,.x (.int e),.x (.int c1),.a,.b true,.a,.a,.p,.p,.x (.int k),.v (.int (s::S)[k]),.stop] rfl (kv _ (AI u<|AI A<|AI B<|AI g<|AI (Mr (s::S))<|AI (Eq.refl true)<|AI ((rfl:(!zG (.list ((s::S).map af.int)) (.list []))))<|AI C<|AI (uB (a:=(t:Int)) (by lia:(0:Int)<((((s::S).map af.int).length:Nat):Int)))<|AI D<|AI Z<|AI V (iJ (s::S)[k])) (by kernel_rfl))
def mq(S:aS)(t:Nat)(J:ah)(g:ah)(v:af)(h:ah):Prop:=∃(i c:Nat) (e:Int),g[i]?=some v/\c<=t+1/\0<=e/\h=dX S c e::J
def Iq(T:Txt X)(L:bW n 2){S:aS}{J xs:ah}(hS:S.length<=63)(ht:t<=1000000)(v:0<=r)(h0:0<xs.length)(A:xs.length<=1000):ie X n "_law_pick" [.cell 0,.list xs] (dX S t r::J) (mq S t J xs):=by
 haveI x:=lB (X:=X) T (L.dn 1) (m:=(xs.length:Nat)) (J:=J) hS ht v (by lia) (by lia);haveI lx:xs.length<=aL:=by exact o0 (by assumption) (by decide)
 exact si T L yP (tm 47 rfl) rfl [.p,.c (d8 S t J (xs.length:Nat)),.p] rfl (kv _ (AI lx<|AI x (λw c h=>by
  refine uJ h λd j q e B y z g=>?_;subst e;subst g;haveI s:d<xs.length:=by lia
  exact kv _ (AI (show(0:Int)<=(d:Int)/\(d:Int)<(xs.length:Int)/\xs.length<=aL from⟨by exact IR _,by assumption,lx⟩) (⟨d,j,q,by simp only[f0 s,dZ (f0 s)],y,z,rfl⟩:mq S t J xs (aB xs d) (dX S j q::J))) (by kernel_rfl):
  ∀(w:af) (c:ah),d8 S t J (xs.length:Nat) w c->ET [.p] (.list xs) w λu o=>mq S t J xs u c)) (by kernel_rfl))
end
noncomputable def rc(N:Nat):ah:=(List.range N).map λi=>.cell (i+3)
noncomputable def dO(S:aS)(t:Nat)(r:Int)(rs:bo)(bg:aH):ah:=dX S t r::.list (rc rs.length)::.list (nv bg)::rs.map bc
noncomputable abbrev J8(c:List W):ah:=c.map λw=>.str w.str
def lC N:(rc N).length=N:=by unfold rc;simp
def T2 N:rc (N+1)=rc N++[af.cell (N+3)]:=by unfold rc;simp only[aaK,aaL];rfl
def QK(h:i<N):aB (rc N) i=.cell (i+3):=dZ (by refine FS▸?_;refine(XL h)▸?_;rfl)
def oU(h:N<=1000):(rc N).length<=aL:=by rw[lC];exact o0 (by assumption) (by decide)
def aad{N i:Nat}(h:i<N)(hN:N<=1000):(0:Int)<=(i:Int)/\(i:Int)<((rc N).length:Int)/\(rc N).length<=aL:=⟨by exact IR _,by rw[lC];lia,oU hN⟩
section
variable{S:aS}{t:Nat}{r:Int}{a:bo}{bg:aH}
def T3:(dO S t r a bg).length=a.length+3:=by unfold dO;simp
def zt w:(dO S t r a bg++[bc w]).set 1 (af.list (rc a.length++[af.cell (dO S t r a bg).length]))=dO S t r (a++[w]) bg:=by
 rw[T3,<-T2];unfold dO;simp only[aaL,sK];rfl
def DK(h:a[i]?=some w):aB (dO S t r a bg) (i+3)=bc w:=dZ (by
 refine FS▸?_;refine h▸?_;rfl)
def J9:(dO S t r a bg).set (i+3) (bc w)=dO S t r (a.set i w) bg:=by
 unfold dO;rw[abX];show _::_::_::(a.map bc).set i (bc w)=_;rw[List.map_set]
def Xu{x:Nat}:(dO S t r a bg).set 2 (af.list (nv bg++[af.int x]))=dO S t r a (bg++[x]):=by
 unfold dO;simp only[show nv bg++[af.int x]=nv (bg++[x])from(ct bg [x]).symm];rfl
end
section
variable{X:Cx}{n k:Nat}
structure uC(S:List Int)(t:Nat)(r:Int):Prop where
 s:S.length<=63
 t:t<=900000
 r:0<=r
def uD(T:Txt X)(L:bW n 1)(P:uC S t r)(g:0<m)(h:m<=100000):ie X n "_law_draw" [.cell 0,.int m] (dO S t r rs bg) (λv j=>∃(d c:Nat) (e:Int),v=.int d/\(d:Int)<m/\c<=t+1/\0<=e/\j=dO S c e rs bg):=
 lB T L P.s (by haveI:=P.t;exact o0 (by assumption) (by decide)) P.r g h
def FZ(T:Txt X)(L:bW n 2){rs:bo}(P:uC S t r){ws:List W}(h0:0<ws.length)(hw:ws.length<=100):ie X n "_law_pick" [.cell 0,.list (J8 ws)] (dO S t r rs bg) (mq S t (.list (rc rs.length)::.list (nv bg)::rs.map bc) (J8 ws)):=
 Iq T L P.s (by haveI:=P.t;exact o0 (by assumption) (by decide)) P.r (by simp only[v4];exact h0) (by rw[v4];exact o0 (by assumption) (by decide))
def BR{rs:bo}(h:mq S t (.list (rc rs.length)::.list (nv bg)::rs.map bc) (J8 ws) v cs):∃w∈ws,∃(c:Nat) (e:Int),v=.str w.str/\c<=t+1/\0<=e/\cs=dO S c e rs bg:=by
 refine zK h λi c e g j q s=>?_;rw[FS]at g;refine aj (TW.mp g) λw u x=>?_;exact⟨w,wE u,c,e,x.symm,j,q,s⟩
noncomputable abbrev Ms(S:aS)(t:Nat)(r:Int)(rs:bo)(bg:aH)(b c e g h j:af):St:=⟨[.cell 0,.cell 1,b,c,e,g,h,j],dO S t r rs bg⟩
noncomputable def F0:List W:=[.Dc,.wide,.branch,.short,.branch,.helper,.wide,.jump]
noncomputable def QL:List W:=[.exit,.exit,.jump,.far]
def F1(T:Txt X)(L:bW n 2){R:Str->ah->Prop}{I:St->Prop}{K:aR->St->Prop}{t:Nat}{r:Int}{rs:bo}(P:uC S t r)(hN:rs.length<=900){e c:Nat}(G:c<e)
  (z:∀w∈F0,∀(g:Nat) (j:Int),g<=t+1->0<=j->I (Ms S g j (rs++[⟨w,0,none⟩]) bg b s (.int e) v (.int c) x)):
  cp X n R fQ (Ms S t r rs bg b s (.int e) v (.int c) x) (Bv I K):=by
 haveI A:=FZ (X:=X) T L (rs:=rs) (bg:=bg) P (ws:=F0) (by decide) (by decide);haveI B:=oU (o0 hN (by decide))
 exact a9 [.b true,.c (mq S t (.list (rc rs.length)::.list (nv bg)::rs.map bc) (J8 F0)),.p] (kv _ (AI ((FM (by lia):decide ((c:Int)<(e:Int))))<|AI A (λw q h=>by
  obtain⟨w,hw,g,j,rfl,C,D,rfl⟩:=BR h;refine kv _ (AI B (?_:I ⟨[.cell 0,.cell 1,b,s,.int e,v,.int c,x],(dO S g j rs bg++[bc ⟨w,0,none⟩]).set 1 (af.list (rc rs.length++[af.cell (dO S g j rs bg).length]))⟩)) (by kernel_rfl);simp only[zt];exact z w hw g j C D:
  ∀(w:af) (q:ah),mq S t (.list (rc rs.length)::.list (nv bg)::rs.map bc) (J8 F0) w q->gS [.p] (q++[af.list [w,.int 0,.none]]) 1 λu o=>eZ u λy=>vU o (y.length<=aL) λo=>I ⟨[.cell 0,.cell 1,b,s,.int e,v,.int c,x],(q++[af.list [w,.int 0,.none]]).set 1 (af.list (y++[af.cell q.length]))⟩)) (by kernel_rfl))
def DL(T:Txt X)(L:bW n 2){K:aR->St->Prop}{rs:bo}(P:uC S t r)(hN:rs.length<=900)
  (z:∀w∈QL,∀(c:Nat) (e:Int),c<=t+1->0<=e->cp X n R fJ (Ms S c e (rs++[⟨w,0,none⟩]) bg b j q s v x) K):
  cp X n R jo (Ms S t r rs bg b j q s v x) K:=by
 haveI A:=FZ (X:=X) T L (rs:=rs) (bg:=bg) P (ws:=QL) (by decide) (by decide);haveI B:=oU (o0 hN (by decide))
 exact a9 [.c (mq S t (.list (rc rs.length)::.list (nv bg)::rs.map bc) (J8 QL)),.p,.stop] (kv _ (AI A (λw g h=>by
  obtain⟨w,hw,c,e,rfl,C,D,rfl⟩:=BR h;refine kv _ (AI B (?_:cp X n R fJ ⟨[.cell 0,.cell 1,b,j,q,s,v,x],(dO S c e rs bg++[bc ⟨w,0,none⟩]).set 1 (af.list (rc rs.length++[af.cell (dO S c e rs bg).length]))⟩ K)) (by kernel_rfl);simp only[zt];exact z w hw c e C D:
  ∀(w:af) (g:ah),mq S t (.list (rc rs.length)::.list (nv bg)::rs.map bc) (J8 QL) w g->gS [.p,.stop] (g++[af.list [w,.int 0,.none]]) 1 λu o=>eZ u λy=>vU o (y.length<=aL) λo=>wi X n R fJ ⟨[.cell 0,.cell 1,b,j,q,s,v,x],(g++[af.list [w,.int 0,.none]]).set 1 (af.list (y++[af.cell g.length]))⟩ o λG st _=>K G st)) (by kernel_rfl))
end
noncomputable def dY(rs:bo):Nat:=(rs.filter λr=>r.w.eG).length
def jJ a b:dY (a++b)=dY a+dY b:=by unfold dY;simp only[acB,sK]
def nS(r:Rw):dY [r]=if r.w.eG then 1 else 0:=by unfold dY;cases h:r.w.eG<;>simp[h]
def uE(rs:bo):Prop:=∀r∈rs,r.g=none
def uE.app(h:uE a)(k:uE b):uE (a++b):=λr m=>(AC.mp m).elim (h r) (k r)
section
variable{X:Cx}{n k:Nat}
def QM(S:aS)(t0:Nat)(g:bo)(bg:aH)(e:Bool)(h k:Nat)(st:St)(j q s u:af):Prop:=∃(t:Nat) (r:Int) (c:bo) (x:af),st=Ms S t r (g++c) bg (.bool e) j q s x u/\t<=t0+k/\0<=r/\uE c/\c.length<=k+dY c/\dY c=if(e&&decide (h<k))=true then 1 else 0
def Ka:∀w∈F0,w.eG=false:=by decide
def Xv:∀w∈QL,w.eG=false:=by decide
def Xw(T:Txt X)(L:bW n 2){R:Str->ah->Prop}{K:aR->St->Prop}{S:aS}{t0:Nat}{g:bo}(hS:S.length<=63)(ht:t0<=800000)(hN:g.length<=800){j:Bool}{v u c:Nat}(hc:c<v+1)(Q:v<=10){st:St}(U:QM S t0 g bg j u c st A (.int v) (.int u) B):
  cp X n R iq ⟨st.aC.set 6 (af.int c),st.cells⟩ (Bv (λst=>QM S t0 g bg j u (c+1) st A (.int v) (.int u) B) K):=by
 refine Kl U λt r s x D h1 I G M C=>?_;subst D;show cp X n R iq (Ms S t r (g++s) bg (.bool j) A (.int v) (.int u) (.int c) B) _;haveI V:uC S t r:=⟨hS,by lia,I⟩;haveI Z:dY s<=1:=by rw[C];split<;>lia
 have y:∀z:bo,uE z->z.length<=c+dY z->(dY z=if(j&&decide (u<c+1))=true then 1 else 0)->cp X n R fQ (Ms S t r (g++z) bg (.bool j) A (.int v) (.int u) (.int c) B) (Bv (λst=>QM S t0 g bg j u (c+1) st A (.int v) (.int u) B) K):=λz O g4 H=>by
  haveI adC:dY z<=1:=by rw[H];split<;>lia
  refine wS (p:=c<v) (λq=>?_) (λq=>?_)
  ·refine F1 T L V (by rw[sK];lia) q λw hw t' r' k1 k2=>(MK t' r' (z++[⟨w,0,none⟩]) _ (by rw[aaX]) (by lia) k2 (O.app (λr m=>by rw[u8]at m;rw[m])) ?_ ?_)
   ·simp only[jJ,nS,Ka w hw,sK,H1];simp;lia
   ·simp only[jJ,nS,H,Ka w hw];simp
  ·exact a9 [.b false] (kv _ (AI ((SZ (by lia):decide ((c:Int)<(v:Int))=false)) ((MK t r z _ rfl (by lia) I O (by lia) H):QM S t0 g bg j u (c+1) (Ms S t r (g++z) bg (.bool j) A (.int v) (.int u) (.int c) B) A (.int v) (.int u) B)) (by kernel_rfl))
 refine wS (p:=c=u) (λq=>?_) (λq=>?_)
 ·subst q
  haveI P:decide ((c:Int)=(c:Int)):=FM rfl;cases j with
  |true=>
   have lr:(rc (g++s).length).length<=aL:=oU (by rw[sK];lia)
   haveI h:=y (s++[⟨.call,-1,none⟩]) (G.app λr m=>by rw[u8]at m;rw[m]) (by
    simp only[jJ,nS,sK,H1];exact ac4 (by assumption)) (by
    simp only[jJ,nS,C];simp;rfl)
   haveI e:(⟨[.cell 0,.cell 1,.bool true,A,.int v,.int c,.int c,B],(dO S t r (g++s) bg++[bc ⟨.call,-1,none⟩]).set 1 (af.list (rc (g++s).length++[af.cell (dO S t r (g++s) bg).length]))⟩:St)=Ms S t r (g++(s++[⟨.call,-1,none⟩])) bg (.bool true) A (.int v) (.int c) (.int c) B:=by simp only[zt,aaX]
   rw[<-e]at h;exact a9 [.b true,.a,.p,.stop] (kv _ (AI P<|AI lr h) (by kernel_rfl))
  |false=>exact a9 [.b true,.a,.stop] (kv _ (AI P (y s G M (by refine C▸?_;simp))) (by kernel_rfl))
 ·haveI hh:=y s G M (by
   refine C▸?_;cases j with
   |false=>rfl
   |true=>
    rw[show decide (u<c)=decide (u<c+1)from aci.mpr (by lia)])
  exact a9 [.b false,.stop] (kv _ (AI ((SZ (by lia):decide ((c:Int)=(u:Int))=false)) hh) (by kernel_rfl))
end
def TG(N:Nat)(r:Rw):Prop:=(r.w.kF||r.w.rY)->0<=r.t/\r.t<(N:Int)
def F2{a b:bo}(h:a.map Rw.w=b.map Rw.w):dY a=dY b:=by
 haveI e:∀l:bo,dY l=((l.map Rw.w).filter W.eG).length:=λl=>by
  unfold dY;simp only[List.filter_map,v4];rfl
 simp only[e,e,h]
def BS{l:bo}{x r:Rw}(h:l[k]?=some r)(hw:x.w=r.w):(l.set k x).map Rw.w=l.map Rw.w:=by
 simp only[List.map_set,hw];refine List.ext_getElem? λi=>?_;rw[List.getElem?_set];refine wS (p:=k=i) (λq=>?_) (λq=>?_)
 ·subst q
  refine ar (wP.mp h) λc e=>?_;rw[if_pos rfl,v4,if_pos c,FS,h];rfl
 ·rw[if_neg q]
def uE.set{l:bo}{x:Rw}(h:uE l)(c:x.g=none):uE (l.set k x):=λr m=>(List.mem_or_eq_of_mem_set m).elim (h r) λe=>e▸c
section
variable{X:Cx}{n k:Nat}
def Xx{R:Str->ah->Prop}{i:Nat}{st:St}{K:aR->St->Prop}(h:aH)(u:List Or)(a N:Nat)(hN:N<=aL)(w:HN X n (.yn e y) st u λz s c _=>z=cB a (a+N:Nat)/\s=.none/\c=st)(I:Nat->St->Prop)(h0:I 0 (fg h st))
  (A:∀(k:Nat) c,k<N->I k c->cp X n R b (c.at i (.int (a+k:Nat))) (jC h (I (k+1)) (mF X n R r K))) (g:∀c,I N c->cp X n R r c K):cp X n R (.cons (.du (.dA i) (.yn e y) b) r) st K:=
 have j:(cB a (a+N:Nat)).length=N:=by unfold cB;rw[v4,x0];lia
 Ak h u _ _ (j.symm▸hN) w I h0 (λk c x v q=>⟨trivial,xZ v▸A k c (j▸(wP.mp v).1) q⟩) λc q=>⟨trivial,g c (j▸q)⟩
def Mt(S:aS)(h:Nat)(e:bo)(g:List W)(bg:aH)(k:Nat)(st:St)(b j s u:af):Prop:=∃(t:Nat) (r:Int) (c:bo) (x:af),st=Ms S t r (e++c) bg b (.int (e.length:Nat)) j s u x/\t<=h+k/\0<=r/\uE c/\c.map Rw.w=g/\∀i,i<k->∀q,c[i]?=some q->TG (e.length+g.length) q
def Xy(T:Txt X)(L:bW n 2){R:Str->ah->Prop}{K:aR->St->Prop}{S:aS}{O:Nat}{c:bo}{A:List W}(hS:S.length<=63)(ht:O<=800000)(hN:c.length+A.length<=800)(hk:k<A.length){st:St}(hI:Mt S O c A bg k st b D G H):
  Dd X n R iu (λst=>Mt S O c A bg (k+1) st b D G H) K ⟨st.aC.set 7 (af.int ((c.length+k:Nat):Int)),st.cells⟩:=by
 refine Kl hI λt r s x V h1 h2 Z h4 h5=>?_;subst V;show Dd X n R iu _ K (Ms S t r (c++s) bg b (.int (c.length:Nat)) D G H (.int ((c.length+k:Nat):Int)));haveI hP:uC S t r:=⟨hS,by lia,h2⟩;have hnl:s.length=A.length:=by simp only[<-h4,v4]
 have hcN:(c++s).length=c.length+A.length:=by simp only[sK,hnl]
 have hc:c.length+k<(c++s).length:=by lia
 haveI e:s[k]?=some s[k]:=f0 (by lia);generalize s[k]=q at e;have e':(c++s)[c.length+k]?=some q:=by rw[GE (by lia),Nat.add_sub_cancel_left];exact e
 haveI hg:=Z q (wE e);have g1:=aad hc (by lia);haveI g2:=QK hc;haveI g3:=DK (S:=S) (t:=t) (r:=r) (bg:=bg) e';haveI lr:(rc (c++s).length).length<=aL:=oU (by lia);haveI em:(((rc (c++s).length).length:Nat):Int)-((c.length:Nat):Int)=((A.length:Nat):Int):=by rw[lC,hcN];lia
 haveI P:TG (c.length+A.length) q->Mt S O c A bg (k+1) (Ms S t r (c++s) bg b (.int (c.length:Nat)) D G H (.int ((c.length+k:Nat):Int))) b D G H:=λhq=>⟨t,r,s,_,rfl,by lia,h2,Z,h4,λi hi z I=>by
  rcases P3 i k with y|y
  ·exact h5 i y z I
  ·have:i=k:=by lia
   subst this;obtain rfl:=se (e) I;exact hq⟩
 obtain⟨w,U,g⟩:=q;dsimp only at hg;subst hg
 have Q:∀(d B:Nat) (C:Int),(d:Int)<(A.length:Nat)->B<=t+1->0<=C->Mt S O c A bg (k+1) ⟨[.cell 0,.cell 1,b,.int (c.length:Nat),D,G,H,.int ((c.length+k:Nat):Int)],(dO S B C (c++s) bg).set (c.length+k+3) (bc ⟨w,((c.length:Nat):Int)+(d:Nat),none⟩)⟩ b D G H:=λd B C k1 k2 k3=>by
  rw[J9,aaW _ _ (by lia),Nat.add_sub_cancel_left];refine(MK B C (s.set k ⟨w,((c.length:Nat):Int)+(d:Nat),none⟩) _ rfl (by lia) k3 (Z.set rfl) ((BS (x:=⟨w,((c.length:Nat):Int)+(d:Nat),none⟩) e rfl).trans h4) (λi hi z I=>?_));rw[List.getElem?_set]at I;refine wS (p:=k=i) (λy=>?_) (λy=>?_)
  ·subst y
   rw[if_pos rfl,if_pos (by lia)]at I;obtain rfl:=BT I;intro _;show 0<=((c.length:Nat):Int)+(d:Nat)/\((c.length:Nat):Int)+(d:Nat)<((c.length+A.length:Nat):Int);lia
  ·rw[if_neg y]at I
   exact h5 i (by lia) z I
 haveI hd:=uD (X:=X) T (L.le 1) (rs:=c++s) (bg:=bg) hP (m:=((A.length:Nat):Int)) (by lia) (by lia)
 have rest:∀(v:af) (M:ah),(∃(d B:Nat) (C:Int),v=.int d/\(d:Int)<((A.length:Nat):Int)/\B<=t+1/\0<=C/\M=dO S B C (c++s) bg)->
   c7 v λj=>Sk [.v (.cell (c.length+k+3)),.x (bc ⟨w,U,none⟩)] .Add ((c.length:Nat):Int) j λy o=>sE X n (.item (.aC 1) (.aC 7)) ⟨[.cell 0,.cell 1,b,.int (c.length:Nat),D,G,H,.int ((c.length+k:Nat):Int)],M⟩ o λu st o=>sE X n (.cj (.int 1)) st o λkk st o=>il o st.cells u kk (.int y) λM o=>Mt S O c A bg (k+1) ⟨st.aC,M⟩ b D G H:=λv M h=>by
  refine uJ h λd B C rf3 k1 k2 k3 rf7=>?_;subst rf3;subst rf7;exact kv _ (AI g1<|AI g2<|AI (DK (S:=S) (t:=B) (r:=C) (bg:=bg) e') (Q d B C k1 k2 k3)) (by kernel_rfl)
 cases hw:w.jb with
 |true=>exact oA [.v (.cell (c.length+k+3)),.x (bc ⟨w,U,none⟩),.e true,.a,.p,.x (.int (A.length:Nat)),.c (λv M=>∃(d B:Nat) (C:Int),v=.int d/\(d:Int)<((A.length:Nat):Int)/\B<=t+1/\0<=C/\M=dO S B C (c++s) bg),.v (.cell (c.length+k+3)),.x (bc ⟨w,U,none⟩)] (kv _ (AI g1<|AI g2<|AI g3<|AI (Fw hw)<|AI lr<|AI em<|AI hd rest) (by kernel_rfl))
 |false=>exact oA [.v (.cell (c.length+k+3)),.x (bc ⟨w,U,none⟩),.e false,.a] (kv _ (AI g1<|AI g2<|AI g3<|AI (Fw hw) (P λz=>bx z hw)) (by kernel_rfl))
def Mu(S:aS)(t0:Nat)(e:bo)(bg:aH)(g:Bool)(v:af)(h:ah):Prop:=v=.none/\∃(t:Nat) (r:Int) (c:bo),h=dO S t r (e++c) bg/\t<=t0+30/\0<=r/\uE c/\0<c.length/\c.length<=7/\dY c=(if g=true then 1 else 0)/\∀q∈c,TG (e.length+c.length) q
def Mv(T:Txt X)(L:bW n 3){S:aS}{t0:Nat}{r:Int}{rs0:bo}(hS:S.length<=63)(ht:t0<=700000)(hr:0<=r)(hN:rs0.length<=700)(c:Bool):ie X n "_law_section" [.cell 0,.cell 1,.bool c] (dO S t0 r rs0 bg) (Mu S t0 rs0 bg c):=by
 haveI lr:(rc rs0.length).length<=aL:=oU (by exact o0 (by assumption) (by decide));haveI hP:uC S t0 r:=⟨hS,by exact o0 (by assumption) (by decide),hr⟩;haveI hd:=uD (X:=X) T (L.dn 1) (rs:=rs0) (bg:=bg) hP (m:=5) (by decide) (by decide)
 refine si T L sh (tm 48 rfl) rfl [.p,.c (λv u=>∃(d z:Nat) (A:Int),v=.int d/\(d:Int)<5/\z<=t0+1/\0<=A/\u=dO S z A rs0 bg),.stop] rfl (kv _ (AI lr<|AI hd (?_:
  ∀(v:af) (u:ah),(∃(d z:Nat) (A:Int),v=.int d/\(d:Int)<5/\z<=t0+1/\0<=A/\u=dO S z A rs0 bg)->cp X (n-1) (λ_ _=>False) lT ⟨[.cell 0,.cell 1,.bool c,.int ((rc rs0.length).length:Nat),v,.ae,.ae,.ae],u⟩ (kR (Mu S t0 rs0 bg c)))) (by kernel_rfl))
 rintro v u ⟨g,M,r1,rfl,b1,b2,b3,rfl⟩;rw[lC];haveI O:uC S M r1:=⟨hS,by lia,b3⟩;haveI P:=uD (X:=X) T (L.dn 1) (rs:=rs0) (bg:=bg) O (m:=((g+1:Nat):Int)) (by lia) (by lia)
 refine a9 [.x (.int (g+1:Nat)),.c (λv u=>∃(d z:Nat) (A:Int),v=.int d/\(d:Int)<((g+1:Nat):Int)/\z<=M+1/\0<=A/\u=dO S z A rs0 bg),.stop] (kv _ (AI (by lia:((g:Nat):Int)+1=((g+1:Nat):Int))<|AI P (?_:
  ∀(v:af) (u:ah),(∃(d z:Nat) (A:Int),v=.int d/\(d:Int)<((g+1:Nat):Int)/\z<=M+1/\0<=A/\u=dO S z A rs0 bg)->cp X (n-1) (λ_ _=>False) lS ⟨[.cell 0,.cell 1,.bool c,.int (rs0.length:Nat),.int g,v,.ae,.ae],u⟩ (kR (Mu S t0 rs0 bg c)))) (by kernel_rfl))
 rintro v u ⟨G,t2,r2,rfl,c1,c2,c3,rfl⟩
 refine wj [] [.x (.int (g+1:Nat)),.n (g+1)] (g+1) (by unfold aL;lia) (kI λ_=>A2 (by lia:((g:Nat):Int)+1=((g+1:Nat):Int)) (⟨rfl,by unfold aL;lia⟩:jm ((g+1:Nat):Int) (g+1)))
  (λk st=>QM S t2 rs0 bg c G k st (.int (rs0.length:Nat)) (.int g) (.int G) .ae) (MK t2 r2 ([]) .ae (by rw[aa1];rfl) (by lia) c3 (λr m=>by cases m) (SC _) (by simp;rfl)) (λk Q hk C=>Xw T (L.dn 2) hS (by lia) (by exact o0 (by assumption) (by decide)) hk (by lia) C) λQ C=>?_
 refine Kl C λt3 r3 H x D d1 d2 d3 d4 U=>?_;subst D;have V:(c&&decide (G<g+1))=c:=by rw[FM (by lia)];simp
 rw[V]at U;have hcc:dY H<=1:=by rw[U];split<;>lia
 refine DL T (L.dn 2) ⟨hS,by lia,d2⟩ (by rw[sK];lia) λw hw Z r4 e1 e2=>?_;rw[aaX];generalize s:H++[⟨w,0,none⟩]=j;haveI f3:uE j:=by refine s▸?_;exact d3.app λr m=>by rw[u8]at m;rw[m]
 have f4:j.length<=g+3:=by simp only[<-s,sK,H1];lia
 haveI f5:dY j=if c=true then 1 else 0:=by simp only[<-s,jJ,nS,Xv w hw,U];simp
 have f6:0<j.length:=by simp only[<-s,sK,H1];lia
 haveI lr':(rc (rs0++j).length).length<=aL:=oU (by refine sK▸?_;lia);haveI eN:(rs0++j).length=rs0.length+j.length:=sK;have eR:(rc (rs0++j).length).length=rs0.length+j.length:=(lC ..).trans eN;have I:=kI (X:=X) (n:=n-1) (st:=Ms S Z r4 (rs0++j) bg (.bool c) (.int (rs0.length:Nat)) (.int g) (.int G) x .ae) (o:=[.p,.p]) (it:=.yn (.aC 3) (.cS (.aC 1))) (xs:=cB (rs0.length:Nat) ((rc (rs0++j).length).length:Nat)) (src:=.none) λ_=>A2 lr' (show(0:Int)<=(rs0.length:Nat)/\((rs0.length:Nat):Int)<=aL/\-(aL:Int)<=((rc (rs0++j).length).length:Nat)/\(((rc (rs0++j).length).length:Nat):Int)<=aL by rw[eR];unfold aL;lia);rw[eR]at I
 refine Xx [] [.p,.p] rs0.length j.length (by unfold aL;lia) I
  (λk st=>Mt S Z rs0 (j.map Rw.w) bg k st (.bool c) (.int g) (.int G) x) (MK Z r4 j .ae rfl (by lia) e2 f3 rfl (λi h=>absurd h (acM i))) (λk Q hk C=>Xy T (L.dn 2) hS (by lia) (by rw[v4];lia) (by simp only[v4];lia) C) λQ C=>?_
 refine Kl C λt5 r5 B y D g1 g2 g3 g4 g5=>?_;subst D;have hl2:B.length=j.length:=by haveI:=v6 List.length g4;rwa[v4,v4]at this
 refine a9 [] (⟨rfl,t5,r5,B,rfl,by lia,g2,g3,by lia,by lia,((F2 g4)).trans f5,λq m=>?_⟩:Mu S t0 rs0 bg c .none (dO S t5 r5 (rs0++B) bg));obtain⟨i,hi,e⟩:=XV m;haveI:=g5 i (by lia) q (by refine e▸?_;exact f0 hi);rw[v4]at this;rw[hl2];exact this
end
def TG.up(h:TG N q)(c:N<=M):TG M q:=λw=>⟨(h w).1,Int.lt_of_lt_of_le (h w).2 (by lia)⟩
def GD(N:Nat)(q:Rw):Prop:=q.w.gN->q.g=none->0<=q.t/\q.t<(N:Int)
def Ir{w:W}(h:w.gN):(w.kF||w.rY)\/w.eG:=by
 unfold W.gN at h;rw[<-Bool.or_assoc]at h;exact(aaO ..).mp h
def zu{rs:bo}{q:Rw}(h:rs[k]?=some q):dY (rs.take (k+1))=dY (rs.take k)+if q.w.eG then 1 else 0:=by
 simp only[aaE,h,jJ];show _+dY [q]=_;simp only[nS]
def DM(rs:bo) k:dY (rs.take k)<=dY rs:=by
 haveI:=jJ (rs.take k) (rs.drop k);rw[acg]at this;lia
section
variable{X:Cx}{n k:Nat}
def Kb(S:aS)(t0 dU k:Nat)(st:St):Prop:=∃(t:Nat) (r:Int) (rs:bo) (bg:aH) (x:af),st=⟨[.cell 0,.cell 1,.cell 2,.int dU,x,.ae],dO S t r rs bg⟩/\t<=t0+30*k/\0<=r/\uE rs/\rs.length<=7*k/\k<=rs.length/\bg.length=k/\(∀b∈bg,b<rs.length)/\dY rs=min k (dU-1)/\∀q∈rs,TG rs.length q
def T4(T:Txt X)(L:bW n 3){K:aR->St->Prop}{S:aS}(hS:S.length<=63)(ht:t0<=100000)(U:dU<=3)(V:k<dU){st:St}(s:Kb S t0 dU k st):
  Dd X n R la (Kb S t0 dU (k+1)) K ⟨st.aC.set 4 (af.int k),st.cells⟩:=by
 refine Up s λt r rs bg x c Z u w h4 h5 y z A B=>?_;subst c;haveI C:=oU (N:=rs.length) (by lia);haveI D:(nv bg).length<=aL:=by rw[aN];unfold aL;lia
 haveI j:=Mv (X:=X) T L (S:=S) (t0:=t) (r:=r) (rs0:=rs) (bg:=bg++[rs.length]) hS (by lia) u (by lia) (decide ((k:Int)+1<(dU:Int)));haveI G:(dO S t r rs bg).set 2 (af.list (nv bg++[af.int ((rc rs.length).length:Nat)]))=dO S t r rs (bg++[rs.length]):=by rw[lC];exact Xu
 rw[<-G]at j
 exact oA [.p,.p,.c (Mu S t rs (bg++[rs.length]) (decide ((k:Int)+1<(dU:Int))))] (kv _ (AI C<|AI D<|AI j (λv e h=>by
  obtain⟨-,H,I,g,rfl,g1,M,O,g4,g5,P,Q⟩:=h;refine⟨H,I,rs++g,bg++[rs.length],_,rfl,by lia,M,w.app O,by rw[sK];lia,by simp only[sK];lia,by simp only[sK,H1,y],λb m=>?_,?_,λq m=>?_⟩
  ·simp only[sK]
   rcases AC.mp m with m|m
   ·haveI:=z b m;lia
   ·rw[u8]at m;lia
  ·simp only[jJ,A,P]
   refine wS (p:=k+1<dU) (λq=>?_) (λq=>?_)
   ·rw[FM (by lia),if_pos rfl];lia
   ·rw[SZ (by lia),if_neg (by decide)];lia
  ·rw[sK]
   rcases AC.mp m with m|m
   ·exact(B q m).up (by lia)
   ·exact Q q m:
  ∀(v:af) (e:ah),Mu S t rs (bg++[rs.length]) (decide ((k:Int)+1<(dU:Int))) v e->Kb S t0 dU (k+1) ⟨[.cell 0,.cell 1,.cell 2,.int dU,.int k,.ae],e⟩)) (by kernel_rfl))
def F4(S:aS)(dU:Nat)(t:Nat)(r:Int)(c:List W)(bg:aH)(k:Nat)(st:St):Prop:=∃(rs:bo) (x:af),st=⟨[.cell 0,.cell 1,.cell 2,.int dU,.int (dY (rs.take k):Nat),x],dO S t r rs bg⟩/\uE rs/\rs.map Rw.w=c/\(∀q∈rs,TG c.length q)/\∀i,i<k->∀q,rs[i]?=some q->GD c.length q
def T5{K:aR->St->Prop}{c:List W}{bg:aH}(hb:(c.filter W.eG).length<bg.length)(C:∀b∈bg,b<c.length)(hl:bg.length<=1000)(hk:k<c.length){st:St}(Z:F4 S dU t r c bg k st):
  Dd X n R gL (F4 S dU t r c bg (k+1)) K ⟨st.aC.set 5 (af.cell (k+3)),st.cells⟩:=by
 refine rR Z λrs x D G B H P=>?_;subst D;have hrl:rs.length=c.length:=by simp only[<-B,v4]
 have e:rs[k]?=some rs[k]:=f0 (by lia);generalize rs[k]=q at e;haveI I:=DK (S:=S) (t:=t) (r:=r) (bg:=bg) e;haveI hq:=H q (wE e);haveI u:=G q (wE e)
 haveI hcC:dY rs=(c.filter W.eG).length:=by
  refine B▸?_;simp only[List.filter_map,v4];rfl
 haveI j:=zu e;show Dd X n R gL _ K ⟨[.cell 0,.cell 1,.cell 2,.int dU,.int (dY (rs.take k):Nat),.cell (k+3)],dO S t r rs bg⟩
 haveI Q:q.w.eG=false->F4 S dU t r c bg (k+1) ⟨[.cell 0,.cell 1,.cell 2,.int dU,.int (dY (rs.take k):Nat),.cell (k+3)],dO S t r rs bg⟩:=λT=>by
  refine⟨rs,.cell (k+3),by rw[j,T];rfl,G,B,H,λi hi z h=>?_⟩;rcases P3 i k with y|y
  ·exact P i y z h
  ·have:i=k:=by lia
   subst this;rw[e]at h;obtain rfl:=BT h;intro L _;rcases Ir L with w|w
   ·exact hq w
   ·exact bx w (T)
 obtain⟨w,M,g⟩:=q;dsimp only at u j Q;subst u;cases hw:w.eG with
 |false=>exact oA [.x (bc ⟨w,M,none⟩),.e false,.a] (kv _ (AI I<|AI (l9 hw) (Q hw)) (by kernel_rfl))
 |true=>
  have s:dY (rs.take (k+1))=dY (rs.take k)+1:=by rw[j,hw];rfl
  have v:dY (rs.take k)+1<bg.length:=by haveI:=DM rs (k+1);lia
  haveI U:bg.getD (dY (rs.take k)+1) 0=bg[dY (rs.take k)+1]:=rQ v;haveI O:bg.getD (dY (rs.take k)+1) 0<c.length:=by rw[U];exact C _ (List.getElem_mem _)
  haveI b1:(0:Int)<=((dY (rs.take k)+1:Nat):Int)/\((dY (rs.take k)+1:Nat):Int)<((nv bg).length:Int)/\(nv bg).length<=aL:=⟨by exact IR _,by rw[aN];lia,by rw[aN];exact o0 (by assumption) (by decide)⟩;haveI V:aB (nv bg) (dY (rs.take k)+1)=.int (bg.getD (dY (rs.take k)+1) 0:Nat):=oJ (by simp only[f0 v,U]);generalize bg.getD (dY (rs.take k)+1) 0=b at O V;refine oA [.x (bc ⟨w,M,none⟩),.e true,.a,.x (.int (dY (rs.take k)+1:Nat)),.v (.int b),.x (bc ⟨w,M,none⟩)] (kv _ (AI I<|AI (l9 hw)<|AI (rfl:((dY (rs.take k):Nat):Int)+1=((dY (rs.take k)+1:Nat):Int))<|AI b1<|AI V<|AI I (?_:F4 S dU t r c bg (k+1) ⟨[.cell 0,.cell 1,.cell 2,.int dU,.int (dY (rs.take k)+1:Nat),.cell (k+3)],(dO S t r rs bg).set (k+3) (bc ⟨w,(b:Nat),none⟩)⟩)) (by kernel_rfl));refine J9▸?_;haveI A:=BS (x:=⟨w,(b:Nat),none⟩) e rfl;refine(DW (rs.set k ⟨w,(b:Nat),none⟩) (.cell (k+3)) ?_ (G.set rfl) (A.trans B) (λz m=>?_) (λi hi z h=>?_))
  ·rw[show dY ((rs.set k ⟨w,(b:Nat),none⟩).take (k+1))=dY (rs.take (k+1))from F2 (by simp only[List.map_take,List.map_take,A]),s]
  ·rcases List.mem_or_eq_of_mem_set m with m|m
   ·exact H z m
   ·subst m;intro q;exact bx q (U7 w (by rw[hw];rfl))
  ·rw[List.getElem?_set]at h
   refine wS (p:=k=i) (λy=>?_) (λy=>?_)
   ·subst y
    rw[if_pos rfl,if_pos (by lia)]at h;obtain rfl:=BT h;intro _ _;lia
   ·rw[if_neg y]at h
    exact P i (by lia) z h
def BU(S:aS)(t0:Nat)(v:af)(c:ah):Prop:=v=.tuple [.cell 1,.cell 2]/\∃(t:Nat) (r:Int) (rs:bo) (bg:aH),c=dO S t r rs bg/\t<=t0+100/\0<=r/\0<rs.length/\rs.length<=21/\(∀q∈rs,GD rs.length q)/\0<bg.length/\bg.length<=3/\∀b∈bg,b<rs.length
def Iu(T:Txt X)(L:bW n 4){S:aS}(hS:S.length<=63)(ht:t0<=50000)(P:0<=r):ie X n "_law_sections" [.cell 0] [dX S t0 r] (BU S t0):=by
 haveI Q:uC S t0 r:=⟨hS,by exact o0 (by assumption) (by decide),P⟩;haveI U:=uD (X:=X) T (L.dn 1) (rs:=[]) (bg:=[]) Q (m:=3) (by decide) (by decide)
 refine si T L qQ (tm 49 rfl) rfl [.c (λv w=>∃(d y:Nat) (z:Int),v=.int d/\(d:Int)<3/\y<=t0+1/\0<=z/\w=dO S y z [] []),.stop] rfl (kv _ (AI U (?_:
  ∀(v:af) (w:ah),(∃(d y:Nat) (z:Int),v=.int d/\(d:Int)<3/\y<=t0+1/\0<=z/\w=dO S y z [] [])->c7 v λj=>cp X (n-1) (λ_ _=>False) gM ⟨[.cell 0,.cell 1,.cell 2,.int (1+j),.ae,.ae],w⟩ (kR (BU S t0)))) (by kernel_rfl))
 rintro v w ⟨d,I,V,rfl,b1,b2,Z,rfl⟩;show cp X (n-1) _ gM ⟨[.cell 0,.cell 1,.cell 2,.int (1+(d:Int)),.ae,.ae],_⟩ _;refine(show(1:Int)+(d:Int)=((d+1:Nat):Int)by lia)▸?_
 refine wj [] [.n (d+1)] (d+1) (by unfold aL;lia) (kI λ_=>A1 (⟨rfl,by unfold aL;lia⟩:jm ((d+1:Nat):Int) (d+1))) (Kb S I (d+1)) (Uo I V ([]) ([]) .ae rfl (by lia) Z (λq m=>by cases m) (SC _) (SC _) rfl (λq m=>by cases m) (by show 0=_;lia) (λq m=>by cases m))
  (λk B A g=>T4 T (L.dn 3) hS (by lia) (by lia) A g) λB g=>?_
 refine Up g λt r rs bg x C h1 h2 h3 h4 h5 h6 M h8 h9=>?_;subst C;haveI lr:=oU (N:=rs.length) (by lia);refine a9 [.go,.stop] (kv (cp X (n-1) (λ_ _=>False) lg ⟨[.cell 0,.cell 1,.cell 2,.int (d+1:Nat),.int 0,.ae],dO S t r rs bg⟩ (kR (BU S t0))) ?_ (by kernel_rfl));haveI c:(rs.map Rw.w).length=rs.length:=v4 _;haveI D:((rs.map Rw.w).filter W.eG).length=dY rs:=by simp only[List.filter_map,v4];rfl
 refine Ak [] [] (rc rs.length) (.cell 1) lr (kI λ_=>id) (F4 S (d+1) t r (rs.map Rw.w) bg) (DW rs _ rfl h3 rfl (λq m=>by rw[c];exact h9 q m) (λi h=>absurd h (acM i))) (λk B v O g=>?_) λB g=>?_
 ·have A:k<rs.length:=by haveI:=(wP.mp O).1;rwa[lC]at this
  have:v=.cell (k+3):=by
   haveI:=QK A;unfold aB at this;rw[O]at this;exact this
  subst this;refine⟨?_,T5 (by simp only[D,h8];lia) (by refine c▸?_;exact M) (by lia) (by refine c▸?_;exact A) g⟩;refine gH g λs x' u _ G _=>?_;subst u;have:s.length=rs.length:=by simp only[<-c,<-G,v4]
  show aB (dO S t r s bg) 1=.list (rc rs.length);refine this▸?_;rfl
 ·refine rR g λs x' u g1 G g3 g4=>?_
  subst u;have H:s.length=rs.length:=by simp only[<-c,<-G,v4]
  refine⟨by show aB (dO S t r s bg) 1=.list (rc rs.length);refine H▸?_;rfl,?_⟩
  exact a9 [] (⟨rfl,t,r,s,bg,rfl,by lia,h2,by lia,by lia,λq m=>(by
   obtain⟨i,hi,e⟩:=XV m;haveI:=g4 i (by simp only[lC];lia) q (by refine e▸?_;exact f0 hi);rw[c]at this;refine H▸?_;exact this),by lia,by lia,λb m=>by simp only[H];exact M b m⟩:BU S t0 (.tuple [.cell 1,.cell 2]) (dO S t r s bg))
end
noncomputable def vH:Nat->bo
 |0=>[]
 |k+1=>vH k++[⟨.call,(2*k+2:Nat),none⟩,⟨.exit,0,none⟩]
theorem DN:∀k,(vH k).length=2*k
 |0=>rfl
 |k+1=>by
  show(vH k++_).length=_;simp only[sK,DN k];simp;lia
theorem QN:∀k,2*k+1<=N->∀q∈vH k,GD N q
 |0,_,q,m=>by cases m
 |k+1,h,q,m=>by
  rcases AC.mp m with m|m
  ·exact QN k (by lia) q m
  ·cases m with
   |head=>intro _ _;show 0<=((2*k+2:Nat):Int)/\((2*k+2:Nat):Int)<(N:Int);lia
   |tail _ m=>cases m with
    |head=>intro h;cases h
    |tail _ m=>exact nl m
noncomputable def Vd(m:Nat):aH:=(List.range m).map (2* ·)
def vI(S:aS)(t0:Nat)(v:af)(c:ah):Prop:=∃(t:Nat) (r:Int) (rs:bo) (bg:aH) (J:ah),v=.tuple [.cell (J.length+1),.list (nv bg)]/\c=dX S t r::(J++[.list (rs.map bc)])/\t<=t0+100/\0<=r/\0<rs.length/\rs.length<=21/\(∀q∈rs,GD rs.length q)/\0<bg.length/\bg.length<=10/\∀b∈bg,b<rs.length
section
variable{X:Cx}{n k:Nat}
def zv{J:ah}:aB (v::(J++[x])) (J.length+1)=x:=dZ (by
 show(J++[x])[J.length]?=_;rw[GE (v0 _),aaR];rfl)
def ChI(S:aS)(t:Nat)(r:Int)(dU k:Nat)(st:St):Prop:=∃(J:ah) (x:af),st=⟨[.cell 0,.int dU,.cell (J.length+1),x,.ae,.ae],dX S t r::(J++[.list ((vH k).map bc)])⟩
def QO{K:aR->St->Prop}(h:k<100){st:St}(e:ChI S t r dU k st):
  Dd X n R pw (ChI S t r dU (k+1)) K ⟨st.aC.set 3 (af.int k),st.cells⟩:=by
 refine pU e λJ x c=>?_;subst c;haveI g:((vH k).map bc).length+2<=aL:=by rw[v4,DN];unfold aL;lia
 refine oA [.a,.x (.int (2*k:Nat)),.x (.int (2*k+2:Nat)),.x (.list ((vH k).map bc)),.p] (kv _ (AI ((rfl:Int.ofNat (2*k)=((2*k:Nat):Int)))<|AI (by lia:((2*k:Nat):Int)+2=((2*k+2:Nat):Int))<|AI (zv (v:=dX S t r) (x:=.list ((vH k).map bc)) (J:=J))<|AI g
  (?_:ChI S t r dU (k+1) ⟨[.cell 0,.int dU,.cell ((J++[af.list ((vH k).map bc)]).length+1),.int k,.ae,.ae],dX S t r::(J++[.list ((vH k).map bc)]++[.list ((vH k).map bc++[bc ⟨.call,(2*k+2:Nat),none⟩,bc ⟨.exit,0,none⟩])])⟩)) (by kernel_rfl))
 exact⟨J++[af.list ((vH k).map bc)],.int k,by rw[show(vH (k+1)).map bc=(vH k).map bc++[bc ⟨.call,(2*k+2:Nat),none⟩,bc ⟨.exit,0,none⟩]from by simp only[show vH (k+1)=vH k++[⟨.call,(2*k+2:Nat),none⟩,⟨.exit,0,none⟩]from rfl,aaL];rfl]⟩
def T6(T:Txt X)(L:bW n 2){S:aS}(hS:S.length<=63)(ht:t0<=50000)(z:0<=r):ie X n "_law_chain" [.cell 0] [dX S t0 r] (vI S t0):=by
 haveI A:=lB (X:=X) T (L.dn 1) (S:=S) (t:=t0) (r:=r) (m:=4) (J:=[]) hS (by exact o0 (by assumption) (by decide)) z (by decide) (by decide)
 refine si T L v9 (tm 50 rfl) rfl [.c (d8 S t0 [] 4),.stop] rfl (kv _ (AI A (?_:
  ∀(v:af) (u:ah),d8 S t0 [] 4 v u->c7 v λj=>cp X (n-1) (λ_ _=>False) jR ⟨[.cell 0,.int (7+j),.ae,.ae,.ae,.ae],u⟩ (kR (vI S t0)))) (by kernel_rfl))
 rintro v u ⟨d,c,e,rfl,G,H,B,rfl⟩;show cp X (n-1) _ jR ⟨[.cell 0,.int (7+(d:Int)),.ae,.ae,.ae,.ae],[dX S c e]⟩ _;refine(show(7:Int)+(d:Int)=((d+7:Nat):Int)by lia)▸?_;refine a9 [.go,.stop] (kv (cp X (n-1) (λ_ _=>False) px ⟨[.cell 0,.int (d+7:Nat),.cell 1,.ae,.ae,.ae],dX S c e::([]++[.list ((vH 0).map bc)])⟩ (kR (vI S t0))) ?_ (by kernel_rfl));refine wj [] [.x (.int (d+6:Nat)),.n (d+6)] (d+6) (by unfold aL;lia) (kI λ_=>A2 (by lia:((d+7:Nat):Int)-1=((d+6:Nat):Int)) (⟨rfl,by unfold aL;lia⟩:jm ((d+6:Nat):Int) (d+6))) (ChI S c e (d+7)) (DV ([]) .ae rfl) (λk C I w=>QO (by lia) w) λC w=>?_;refine pU w λJ x g=>?_;subst g;haveI s:=DN (d+6);haveI y:((vH (d+6)).map bc).length+1<=aL:=by rw[v4,s];unfold aL;lia
 have E:=qS (X:=X) (n:=n-1) 5 (.dB .Mult (.cj (.int 2)) (.aC 5)) ⟨[.cell 0,.int (d+7:Nat),.cell (J.length+1),x,.ae,.ae],dX S c e::(J++[.list ((vH (d+6)).map bc)]++[.list ((vH (d+6)).map bc++[bc ⟨.exit,0,none⟩])])⟩ (N:=d+7) (λi=>.int (2*i:Nat)) (λk=>[.x (.int (2*k:Nat))]) rfl (by unfold aL;lia) λk _=>kE λ_=>A1 (rfl:(2:Int)*k=(2*k:Nat));rw[show(List.range (d+7)).map (λi=>af.int (2*i:Nat))=nv (Vd (d+7))by delta nv Vd;rw[aac];rfl]at E
 refine raw [.x (.list ((vH (d+6)).map bc)),.p,.m (qg λi=>[.int (2*i:Nat)]) (nv (Vd (d+7))),.n (d+7)] (λ_=>A5 (zv (v:=dX S c e) (x:=.list ((vH (d+6)).map bc)) (J:=J)) y (bW.lt L) (⟨rfl,by unfold aL;lia⟩:jm ((d+7:Nat):Int) (d+7)) E)
  (?_:vI S t0 (.tuple [.cell ((J++[af.list ((vH (d+6)).map bc)]).length+1),.list (nv (Vd (d+7)))]) (dX S c e::(J++[.list ((vH (d+6)).map bc)]++[.list ((vH (d+6)).map bc++[bc ⟨.exit,0,none⟩])])))
 ·have M:(Vd (d+7)).length=d+7:=by unfold Vd;simp
  refine(Uo c e (vH (d+6)++[⟨.exit,0,none⟩]) (Vd (d+7)) (J++[af.list ((vH (d+6)).map bc)]) rfl (by rw[aaL];rfl) (by lia) B ?_ ?_ (λq m=>?_) (by lia) (by lia) (λb m=>?_))
  ·rw[sK,s];simp
  ·rw[sK,s];simp;lia
  ·rcases AC.mp m with m|m
   ·exact QN (d+6) (by simp only[sK,s];simp) q m
   ·rw[u8]at m;subst m;intro h;exact Bool.noConfusion h
  ·unfold Vd at m
   refine aj (FB.mp m) λi D g=>?_;subst g;haveI:=AT.mp D;simp only[sK,s];simp;lia
end
def rh(S:aS)(t0 p:Nat)(J vs:ah)(e:ah):Prop:=∃(t:Nat) (r:Int) (c:ah),e=dX S t r::J.set p (.list c)/\t<=t0+10/\0<=r/\(c=vs\/∃i q,i<vs.length/\c=vs.set i (bc q)/\GD vs.length q)
section
variable{X:Cx}{n:Nat}{R:Str->ah->Prop}{K:aR->St->Prop}{S:aS}{g p:Nat}{J e:ah}{bv:af}{r:Int}
noncomputable abbrev nT(S:aS)(t:Nat)(r:Int)(p:Nat)(J:ah)(bv a b:af):St:=⟨[.cell 0,.cell (p+1),bv,a,b],dX S t r::J⟩
def Kc(T:Txt X)(L:bW n 1)(hS:S.length<=63)(s:g<=50000)(D:0<=r)(j:aB J p=.list e)(k:0<e.length)(l:e.length<=1000)
  (i:∀(A B t:Nat) (r:Int),A<12->B<e.length->t<=g+2->0<=r->cp X n R bI (nT S t r p J bv (.int A) (.int B)) K):
  cp X n R kb (nT S g r p J bv .ae .ae) K:=by
 haveI G:e.length<=aL:=by exact o0 (by assumption) (by decide)
 haveI H:=lB (X:=X) T L (S:=S) (t:=g) (r:=r) (m:=12) (J:=J) hS (by exact o0 (by assumption) (by decide)) D (by decide) (by decide)
 refine a9 [.c (d8 S g J 12),.x (.list e),.p,.c (λv c=>d8 S (g+1) J (e.length:Nat) v c),.stop] (kv _ (AI H (?_:
  ∀(v:af) (c:ah),d8 S g J 12 v c->sE X n (.fb "_law_draw" (.cons (.aC 0) (.cons (.cS (.aC 1)) .nil))) ⟨[.cell 0,.cell (p+1),bv,.ae,.ae],c⟩ [.x (.list e),.p,.c (λv c=>d8 S (g+1) J (e.length:Nat) v c),.stop] λu st o=>wi X n R bI ⟨(st.aC.set 3 v).set 4 u,st.cells⟩ o λI st _=>K I st)) (by kernel_rfl))
 rintro v c ⟨d,M,O,rfl,Z,b2,P,rfl⟩;have q:=lB (X:=X) T L (S:=S) (t:=M) (r:=O) (m:=(e.length:Nat)) (J:=J) hS (by lia) P (by lia) (by lia)
 refine kv _ (AI (j)<|AI G<|AI (q.imp λv c h=>(?_:d8 S (g+1) J (e.length:Nat) v c)) (?_:
  ∀(v:af) (c:ah),d8 S (g+1) J (e.length:Nat) v c->cp X n R bI ⟨[.cell 0,.cell (p+1),bv,.int d,v],c⟩ K)) (by kernel_rfl)
 ·refine uJ h λw x y Q C U z V=>?_
  exact(BZ w x y Q C (by lia) z V)
 ·rintro v c ⟨w,x,y,rfl,C,U,z,rfl⟩
  exact i d w x y (by lia) (by lia) (by assumption) z
def QP(h:aB J p=.list e)(k:0<e.length):J.set p (.list e)=J:=by
 unfold aB at h;cases q:J[p]? with
 |none=>rw[q]at h;cases h
 |some v=>
  rw[q]at h;refine ar (wP.mp q) λu c=>?_;rw[show af.list e=J[p]from by simp only[c];exact h.symm,List.set_getElem_self]
section
variable(j:aB J p=.list e)(k:0<e.length)(l:e.length<=1000)(hS:S.length<=63)(s:g<=50000)
 (i:∀(f:Int) st,(f=0\/f=1)->rh S g p J e st.cells->K (.ret (.int f)) st)
include j k l hS s i
theorem T7{t:Nat}{r:Int}{d:Nat}(y:t<=g+2)(v:0<=r)(z:d<e.length)(w:Nat)(hw:6<=w)(q:w<12):cp X n R bI (nT S t r p J bv (.int w) (.int d)) K:=by
 haveI c:rh S g p J e (dX S t r::J):=(DX t r e (by rw[QP j k]) (by lia) v (.inl rfl));obtain⟨u,rfl⟩:∃u,w=6+u:=⟨w-6,by lia⟩
 match u,q with
 |0,_=>exact a9 [] (kv _ (i 1 (nT S t r p J bv (.int 6) (.int d)) (.inr rfl) c) (by kernel_rfl))
 |1,_=>exact a9 [] (kv _ (i 0 (nT S t r p J bv (.int 7) (.int d)) (.inl rfl) c) (by kernel_rfl))
 |2,_=>exact a9 [] (kv _ (i 0 (nT S t r p J bv (.int 8) (.int d)) (.inl rfl) c) (by kernel_rfl))
 |3,_=>exact a9 [] (kv _ (i 0 (nT S t r p J bv (.int 9) (.int d)) (.inl rfl) c) (by kernel_rfl))
 |4,_=>exact a9 [] (kv _ (i 0 (nT S t r p J bv (.int 10) (.int d)) (.inl rfl) c) (by kernel_rfl))
 |5,_=>exact a9 [] (kv _ (i 0 (nT S t r p J bv (.int 11) (.int d)) (.inl rfl) c) (by kernel_rfl))
 |x+6,h=>lia
theorem T8(v:t<=g+2)(c:0<=r)(q:d<e.length):cp X n R bI (nT S t r p J bv (.int 1) (.int d)) K:=by
 haveI u:e.length<=aL:=by exact o0 (by assumption) (by decide)
 exact a9 [.x (.list e),.p] (kv _ (AI (j)<|AI (show e.length<=aL/\(0:Int)<=(d:Int)/\(d:Int)<(e.length:Int)from⟨u,by exact IR _,by lia⟩)
  (i 0 ⟨[.cell 0,.cell (p+1),bv,.int 1,.int d],dX S t r::J.set p (.list (e.set d (bc ⟨.exit,0,none⟩)))⟩ (.inl rfl) (DX t r _ rfl (by lia) c (.inr ⟨d,_,q,rfl,λh=>by cases h⟩)))) (by kernel_rfl))
theorem T9(u:t<=g+2)(q:0<=r)(v:d<e.length):cp X n R bI (nT S t r p J bv (.int 5) (.int d)) K:=by
 haveI c:e.length<=aL:=by exact o0 (by assumption) (by decide)
 exact a9 [.x (.list e),.p,.x (.int (e.length-1:Nat)),.x (.list e),.p] (kv _ (AI (show aB (dX S t r::J) (p+1)=.list e from j)<|AI c<|AI (by lia:(e.length:Int)-1=((e.length-1:Nat):Int))<|AI (show aB (dX S t r::J) (p+1)=.list e from j)<|AI (show e.length<=aL/\(0:Int)<=((e.length-1:Nat):Int)/\((e.length-1:Nat):Int)<(e.length:Int)from⟨c,by exact IR _,by lia⟩)
  (i 0 ⟨[.cell 0,.cell (p+1),bv,.int 5,.int d],dX S t r::J.set p (.list (e.set (e.length-1) (bc ⟨.Dc,0,none⟩)))⟩ (.inl rfl) (DX t r _ rfl (by lia) q (.inr ⟨e.length-1,_,by lia,rfl,λh=>by cases h⟩)))) (by kernel_rfl))
theorem Ua(T:Txt X)(L:bW n 1)(B:t<=g+2)(x:0<=r)(y:d<e.length):cp X n R bI (nT S t r p J bv (.int 4) (.int d)) K:=by
 haveI q:e.length<=aL:=by exact o0 (by assumption) (by decide)
 haveI z:=lB (X:=X) T L (S:=S) (t:=t) (r:=r) (m:=(e.length:Nat)) (J:=J) hS (by lia) x (by lia) (by lia)
 refine a9 [.x (.list e),.p,.c (d8 S t J (e.length:Nat)),.x (.list e),.p] (kv _ (AI (j)<|AI q<|AI z (?_:
  ∀(v:af) (c:ah),d8 S t J (e.length:Nat) v c->il [.x (.list e),.p] c (.cell (p+1)) (.int d) (.list [.str W.call.str,v,.none]) λc o=>K (.ret (.int 0)) ⟨[.cell 0,.cell (p+1),bv,.int 4,.int d],c⟩)) (by kernel_rfl))
 rintro v c ⟨h,u,w,rfl,k1,k2,A,rfl⟩
 exact kv _ (AI (j)<|AI ((⟨q,by lia,by lia⟩:e.length<=aL/\(0:Int)<=(d:Int)/\(d:Int)<(e.length:Int)))
  (i 0 ⟨[.cell 0,.cell (p+1),bv,.int 4,.int d],dX S u w::J.set p (.list (e.set d (bc ⟨.call,(h:Nat),none⟩)))⟩ (.inl rfl) ⟨u,w,_,rfl,by lia,A,.inr ⟨d,_,y,rfl,λ_ _=>⟨by show(0:Int)<=(h:Nat);lia,by show((h:Nat):Int)<_;assumption⟩⟩⟩)) (by kernel_rfl)
theorem QQ(T:Txt X)(L:bW n 1){t:Nat}{r:Int}{d:Nat}{bg:aH}(M:0<bg.length)(O:bg.length<=1000)(z:∀b∈bg,b<e.length)(P:t<=g+2)(A:0<=r)(B:d<e.length):cp X n R bI (nT S t r p J (.list (nv bg)) (.int 3) (.int d)) K:=by
 haveI C:e.length<=aL:=by unfold aL;exact o0 (by assumption) (by decide)
 have w:(nv bg).length<=aL:=by rw[aN];unfold aL;exact o0 (by assumption) (by decide)
 haveI D:=lB (X:=X) T L (S:=S) (t:=t) (r:=r) (m:=((nv bg).length:Nat)) (J:=J) hS (by lia) A (by rw[aN];lia) (by rw[aN];lia)
 refine a9 [.p,.c (d8 S t J ((nv bg).length:Nat)),.p,.x (.list e),.p] (kv _ (AI w<|AI D (?_:
  ∀(v:af) (h:ah),d8 S t J ((nv bg).length:Nat) v h->ET [.p,.x (.list e),.p] (.list (nv bg)) v λu o=>il o h (.cell (p+1)) (.int d) (.list [.str W.call.str,u,.none]) λh o=>K (.ret (.int 0)) ⟨[.cell 0,.cell (p+1),.list (nv bg),.int 3,.int d],h⟩)) (by kernel_rfl))
 rintro v h ⟨c,x,y,rfl,k1,k2,G,rfl⟩;rw[aN]at k1;haveI q:bg[c]?=some bg[c]:=f0 (by lia);haveI H:=z _ (wE q);generalize bg[c]=b at q H;haveI I:=oJ q
 refine kv _ (AI (show(0:Int)<=(c:Int)/\(c:Int)<((nv bg).length:Int)/\(nv bg).length<=aL from⟨by lia,by rw[aN];assumption,w⟩)<|AI (j)<|AI ((⟨C,by lia,by lia⟩:e.length<=aL/\(0:Int)<=(d:Int)/\(d:Int)<(e.length:Int)))
  (?_:K (.ret (.int 0)) ⟨[.cell 0,.cell (p+1),.list (nv bg),.int 3,.int d],dX S x y::J.set p (.list (e.set d (.list [.str W.call.str,aB (nv bg) c,.none])))⟩)) (by kernel_rfl)
 refine I▸?_;exact i 0 _ (.inl rfl) (DX x y _ rfl (by lia) G (.inr ⟨d,⟨.call,(b:Nat),none⟩,B,rfl,λ_ _=>⟨by show(0:Int)<=(b:Nat);lia,by show((b:Nat):Int)<_;lia⟩⟩))
theorem QR(T:Txt X)(L:bW n 1){t:Nat}{r:Int}{d:Nat}{bg:aH}(z:∀v,aB (v::J) 2=.list (nv bg))(P:0<bg.length)(Q:bg.length<=1000)(B:∀b∈bg,b<e.length)(U:t<=g+2)(C:0<=r)(D:d<e.length):cp X n R bI (nT S t r p J (.cell 2) (.int 3) (.int d)) K:=by
 haveI G:e.length<=aL:=by unfold aL;exact o0 (by assumption) (by decide)
 have A:(nv bg).length<=aL:=by rw[aN];unfold aL;exact o0 (by assumption) (by decide)
 haveI H:=lB (X:=X) T L (S:=S) (t:=t) (r:=r) (m:=((nv bg).length:Nat)) (J:=J) hS (by lia) C (by rw[aN];lia) (by rw[aN];lia)
 refine a9 [.x (.list (nv bg)),.p,.c (d8 S t J ((nv bg).length:Nat)),.x (.list (nv bg)),.p,.x (.list e),.p] (kv _ (AI (z (dX S t r))<|AI A<|AI H (?_:
  ∀(v:af) (h:ah),d8 S t J ((nv bg).length:Nat) v h->dS [.x (.list (nv bg)),.p,.x (.list e),.p] h (.cell 2) λc o=>ET o c v λu o=>il o h (.cell (p+1)) (.int d) (.list [.str W.call.str,u,.none]) λh o=>K (.ret (.int 0)) ⟨[.cell 0,.cell (p+1),.cell 2,.int 3,.int d],h⟩)) (by kernel_rfl))
 rintro v h ⟨q,w,x,rfl,k1,k2,I,rfl⟩;rw[aN]at k1;haveI y:bg[q]?=some bg[q]:=f0 (by lia);haveI M:=B _ (wE y);generalize bg[q]=b at y M;haveI O:=oJ y
 refine kv _ (AI (z (dX S w x))<|AI (show(0:Int)<=(q:Int)/\(q:Int)<((nv bg).length:Int)/\(nv bg).length<=aL from⟨by lia,by rw[aN];assumption,A⟩)<|AI (j)<|AI ((⟨G,by lia,by lia⟩:e.length<=aL/\(0:Int)<=(d:Int)/\(d:Int)<(e.length:Int)))
  (?_:K (.ret (.int 0)) ⟨[.cell 0,.cell (p+1),.cell 2,.int 3,.int d],dX S w x::J.set p (.list (e.set d (.list [.str W.call.str,aB (nv bg) q,.none])))⟩)) (by kernel_rfl)
 refine O▸?_;exact i 0 _ (.inl rfl) (DX w x _ rfl (by lia) I (.inr ⟨d,⟨.call,(b:Nat),none⟩,D,rfl,λ_ _=>⟨by show(0:Int)<=(b:Nat);lia,by show((b:Nat):Int)<_;lia⟩⟩))
end
end
section
set_option linter.unusedSectionVars false
noncomputable def Xz:List W:=[.branch,.short,.jump,.far,.call]
noncomputable def XA:List W:=[.jump,.branch,.far]
section
variable{X:Cx}{n:Nat}{R:Str->ah->Prop}{K:aR->St->Prop}{S:aS}{t0 p:Nat}{J vs:ah}{bv:af}{r:Int}
def QS(h:mq S t J (J8 ws) v cs):∃w∈ws,∃(j:Nat) (s:Int),v=.str w.str/\j<=t+1/\0<=s/\cs=dX S j s::J:=by
 refine zK h λi j s u x y z=>?_;rw[FS]at u;refine aj (TW.mp u) λw A B=>?_;exact⟨w,wE A,j,s,B.symm,x,y,z⟩
section
variable(a:aB J p=.list vs)(g:0<vs.length)(c:vs.length<=1000)(hS:S.length<=63)(q:t0<=50000)
 (e:∀(f:Int) st,(f=0\/f=1)->rh S t0 p J vs st.cells->K (.ret (.int f)) st)
include a g c hS q e
theorem Ub(T:Txt X)(L:bW n 2)(z:t<=t0+2)(B:0<=r)(C:d<vs.length):cp X n R bI (nT S t r p J bv (.int 2) (.int d)) K:=by
 haveI A:vs.length<=aL:=by exact o0 (by assumption) (by decide)
 haveI D:=Iq (X:=X) T L (S:=S) (t:=t) (r:=r) (J:=J) (xs:=J8 XA) hS (by lia) B (by decide) (by decide)
 refine a9 [.c (mq S t J (J8 XA)),.x (.list vs),.p,.c (d8 S (t+1) J (vs.length:Nat)),.x (.list vs),.p] (kv _ (AI D (?_:
  ∀(v:af) (j:ah),mq S t J (J8 XA) v j->sE X n (.fb "_law_draw" (.cons (.aC 0) (.cons (.cS (.aC 1)) .nil))) ⟨[.cell 0,.cell (p+1),bv,.int 2,.int d],j⟩ [.x (.list vs),.p,.c (d8 S (t+1) J (vs.length:Nat)),.x (.list vs),.p] λu st o=>K7 o (.list [v,u,.none]) λw o=>sE X n (.aC 1) st o λl st o=>sE X n (.aC 4) st o λk st o=>il o st.cells l k w λj o=>wi X n R jS ⟨st.aC,j⟩ o λG st _=>K G st)) (by kernel_rfl))
 intro v j h;obtain⟨w,-,H,I,rfl,k1,k2,rfl⟩:=QS h;have M:=lB (X:=X) T (L.le 1) (S:=S) (t:=H) (r:=I) (m:=(vs.length:Nat)) (J:=J) hS (by lia) k2 (by lia) (by lia)
 refine kv _ (AI (a)<|AI A<|AI (M.imp λv j h=>(?_:d8 S (t+1) J (vs.length:Nat) v j)) (?_:
  ∀(v:af) (j:ah),d8 S (t+1) J (vs.length:Nat) v j->il [.x (.list vs),.p] j (.cell (p+1)) (.int d) (.list [.str w.str,v,.none]) λj o=>K (.ret (.int 0)) ⟨[.cell 0,.cell (p+1),bv,.int 2,.int d],j⟩)) (by kernel_rfl)
 ·refine uJ h λs x y z O V P Q=>?_
  exact(BZ s x y z O (by lia) P Q)
 rintro v j ⟨s,x,y,rfl,Z,g2,U,rfl⟩
 exact kv _ (AI (a)<|AI ((⟨A,by lia,by lia⟩:vs.length<=aL/\(0:Int)<=(d:Int)/\(d:Int)<(vs.length:Int)))
  (e 0 ⟨[.cell 0,.cell (p+1),bv,.int 2,.int d],dX S x y::J.set p (.list (vs.set d (bc ⟨w,(s:Nat),none⟩)))⟩ (.inl rfl) (DX x y _ rfl (by lia) U (.inr ⟨d,_,C,rfl,λ_ _=>⟨by show(0:Int)<=(s:Nat);lia,by show((s:Nat):Int)<_;lia⟩⟩)))) (by kernel_rfl)
theorem Uc(T:Txt X)(L:bW n 2)(B:t<=t0+2)(D:0<=r)(G:d<vs.length):cp X n R bI (nT S t r p J bv (.int 0) (.int d)) K:=by
 haveI C:vs.length<=aL:=by exact o0 (by assumption) (by decide)
 haveI H:=Iq (X:=X) T L (S:=S) (t:=t) (r:=r) (J:=J) (xs:=J8 Xz) hS (by lia) D (by decide) (by decide)
 refine a9 [.c (mq S t J (J8 Xz)),.x (.list vs),.p,.a,.x (.int (2*vs.length:Nat)),.x (.int (2*vs.length+4:Nat)),.c (d8 S (t+1) J (2*vs.length+4:Nat)),.x (.list vs),.p] (kv _ (AI H (?_:
  ∀(v:af) (s:ah),mq S t J (J8 Xz) v s->sE X n (.dB .Sub (.fb "_law_draw" (.cons (.aC 0) (.cons (.dB .Add (.dB .Mult (.cj (.int 2)) (.cS (.aC 1))) (.cj (.int 4))) .nil))) (.cj (.int 2))) ⟨[.cell 0,.cell (p+1),bv,.int 0,.int d],s⟩ [.x (.list vs),.p,.a,.x (.int (2*vs.length:Nat)),.x (.int (2*vs.length+4:Nat)),.c (d8 S (t+1) J (2*vs.length+4:Nat)),.x (.list vs),.p] λu st o=>K7 o (.list [v,.int 0,u]) λw o=>sE X n (.aC 1) st o λl st o=>sE X n (.aC 4) st o λk st o=>il o st.cells l k w λs o=>wi X n R jS ⟨st.aC,s⟩ o λI st _=>K I st)) (by kernel_rfl))
 intro v s h;obtain⟨w,-,M,O,rfl,k1,k2,rfl⟩:=QS h;have P:=lB (X:=X) T (L.le 1) (S:=S) (t:=M) (r:=O) (m:=(2*vs.length+4:Nat)) (J:=J) hS (by lia) k2 (by lia) (by lia)
 refine kv _ (AI (a)<|AI C<|AI (Eq.refl ((2*vs.length:Nat):Int))<|AI (by lia:((2*vs.length:Nat):Int)+4=((2*vs.length+4:Nat):Int))<|AI (P.imp λv s h=>(?_:d8 S (t+1) J (2*vs.length+4:Nat) v s)) (?_:
  ∀(v:af) (s:ah),d8 S (t+1) J (2*vs.length+4:Nat) v s->c7 v λj=>Sk [.x (.list vs),.p] .Sub j 2 λy o=>il o s (.cell (p+1)) (.int d) (.list [.str w.str,.int 0,.int y]) λs o=>K (.ret (.int 0)) ⟨[.cell 0,.cell (p+1),bv,.int 0,.int d],s⟩)) (by kernel_rfl)
 ·refine uJ h λA x z B Q h3 U V=>?_
  exact(BZ A x z B Q (by lia) U V)
 rintro v s ⟨A,x,z,rfl,g1,g2,Z,rfl⟩
 exact kv _ (AI (a)<|AI ((⟨C,by lia,by lia⟩:vs.length<=aL/\(0:Int)<=(d:Int)/\(d:Int)<(vs.length:Int)))
  (e 0 ⟨[.cell 0,.cell (p+1),bv,.int 0,.int d],dX S x z::J.set p (.list (vs.set d (bc ⟨w,0,some ((A:Int)-2)⟩)))⟩ (.inl rfl) (DX x z _ rfl (by lia) Z (.inr ⟨d,_,G,rfl,λ_ h=>by cases h⟩)))) (by kernel_rfl)
theorem F5(T:Txt X)(L:bW n 2)(u:∀(t:Nat) (r:Int) (d:Nat),t<=t0+2->0<=r->d<vs.length->cp X n R bI (nT S t r p J bv (.int 3) (.int d)) K)
  {t:Nat} {r:Int} {w d:Nat} (h:t<=t0+2) (j:0<=r) (s:d<vs.length) (hw:w<12):cp X n R bI (nT S t r p J bv (.int w) (.int d)) K:=by
 match w,hw with
 |0,_=>exact Uc a g c hS q e T L h j s
 |1,_=>exact T8 a g c hS q e h j s
 |2,_=>exact Ub a g c hS q e T L h j s
 |3,_=>exact u t r d h j s
 |4,_=>exact Ua a g c hS q e T (L.le 1) h j s
 |5,_=>exact T9 a g c hS q e h j s
 |x+6,hw=>exact T7 a g c hS q e h j s (x+6) (by lia) hw
end
def mN(S:aS)(t0 p:Nat)(J vs:ah)(v:af)(h:ah):Prop:=∃f:Int,v=.int f/\(f=0\/f=1)/\rh S t0 p J vs h
def Mw(T:Txt X)(L:bW n 3){bg:aH}(a:aB J p=.list vs)(g:0<vs.length)(c:vs.length<=1000)(hS:S.length<=63)(q:t0<=50000)(u:0<=r)(v:0<bg.length)(w:bg.length<=1000)(x:∀b∈bg,b<vs.length):ie X n "_law_spoil" [.cell 0,.cell (p+1),.list (nv bg)] (dX S t0 r::J) (mN S t0 p J vs):=by
 have e:∀(f:Int) st,(f=0\/f=1)->rh S t0 p J vs st.cells->kR (mN S t0 p J vs) (.ret (.int f)) st:=λf st h j=>(dC f rfl h j);haveI s:bW (n-1) 2:=L.dn 2;refine si T L qR (tm 51 rfl) rfl [.stop] rfl (kv (cp X (n-1) (λ_ _=>False) kb (nT S t0 r p J (.list (nv bg)) .ae .ae) (kR (mN S t0 p J vs))) ?_ (by kernel_rfl));exact Kc T (s.le 1) hS q u a g c λB C t D h j y z=>F5 a g c hS q e T s (λt r d k1 k2 A=>QQ a g c hS q e T (s.le 1) v w x k1 k2 A) y z j h
def Mx(T:Txt X)(L:bW n 3){bg:aH}(u:∀v,aB (v::J) 2=.list (nv bg))(a:aB J p=.list vs)(g:0<vs.length)(c:vs.length<=1000)(hS:S.length<=63)(q:t0<=50000)(w:0<=r)(x:0<bg.length)(y:bg.length<=1000)(z:∀b∈bg,b<vs.length):ie X n "_law_spoil" [.cell 0,.cell (p+1),.cell 2] (dX S t0 r::J) (mN S t0 p J vs):=by
 have e:∀(f:Int) st,(f=0\/f=1)->rh S t0 p J vs st.cells->kR (mN S t0 p J vs) (.ret (.int f)) st:=λf st h j=>(dC f rfl h j);haveI s:bW (n-1) 2:=L.dn 2;refine si T L qR (tm 51 rfl) rfl [.stop] rfl (kv (cp X (n-1) (λ_ _=>False) kb (nT S t0 r p J (.cell 2) .ae .ae) (kR (mN S t0 p J vs))) ?_ (by kernel_rfl));exact Kc T (s.le 1) hS q w a g c λD G t H h j A B=>F5 a g c hS q e T s (λt r d k1 k2 C=>QR a g c hS q e T (s.le 1) u x y z k1 k2 C) A B j h
end
end
noncomputable def Iv:dT:=["too many orders","goal within a wide load","goal out of the program","goal in another subprogram","subprogram without an end","calls in a ring","too many frames"]
def gY(h:bK p N=some (w,i)):p i=some w:=by
 unfold bK at h;refine aj (List.exists_of_findSome?_eq_some h) λj _ c=>?_;cases q:p j with
 |none=>rw[q]at c;cases c
 |some v=>rw[q]at c;cases c;exact q
section
variable{aa:bo}{most:Int}
def QT(aa:bo)(most:Int):Prop:=(dG aa most=none/\wq aa most)\/∃w a,dG aa most=some (w,a)/\(a=.none\/∃i:Nat,a=.int i)/\((w="order that nothing reaches"/\d7 aa (f2 aa)/\d7 aa (f4 aa))\/w∈Iv)
def rj{p:Nat->Option Str}{i:Nat}(c:aa.length≠0)(n1:(iY aa:Int)<=most)(hG:fG aa=some (w,i))(hw:w∈Iv):QT aa most:=
 .inr ⟨w,.int i,by simp only[rM c n1,hG];rfl,.inr ⟨i,rfl⟩,.inr hw⟩
def F6(j:aa.length≠0):QT aa most:=by
 refine wS (p:=most<iY aa) (λn1=>?_) (λn1=>?_)
 ·exact .inr ⟨_,_,by unfold dG;rw[if_neg j,if_pos n1],.inl rfl,.inr (.head _)⟩
 have q:(iY aa:Int)<=most:=by lia
 have c:∀{p:Nat->Option Str} {x:Option (Str×Nat)},bK p aa.length=none->(bK p aa.length).or x=x:=λh=>h▸rfl;have stop:∀{p:Nat->Option Str} {x:Option (Str×Nat)} {e:Str×Nat},bK p aa.length=some e->(bK p aa.length).or x=some e:=λh=>by refine h.symm▸?_;rfl
 cases g:bK (f2 aa) aa.length with
 |some e=>
  refine rj (p:=f2 aa) (w:=e.1) (i:=e.2) j q (by unfold fG;rw[stop g]) ?_;haveI h:=gY (w:=e.1) (i:=e.2) g;unfold f2 at h;split at h
  ·exact nx h
  ·split at h
   ·split at h
    ·(refine(BT h)▸?_;decide+kernel)
    ·exact nx h
   ·(refine(BT h)▸?_;decide+kernel)
 |none=>
 cases s:bK (f3 aa) aa.length with
 |some e=>
  refine rj (p:=f3 aa) (w:=e.1) (i:=e.2) j q (by unfold fG;rw[c g,stop s]) ?_;have h:=gY (w:=e.1) (i:=e.2) s;unfold f3 at h;split at h
  ·(refine(BT h)▸?_;decide+kernel)
  ·cases h
 |none=>
 cases u:bK (f4 aa) aa.length with
 |some e=>
  refine rj (p:=f4 aa) (w:=e.1) (i:=e.2) j q (by unfold fG;rw[c g,c s,stop u]) ?_;have h:=gY (w:=e.1) (i:=e.2) u;unfold f4 at h;split at h
  ·(refine(BT h)▸?_;decide+kernel)
  ·cases h
 |none=>
 cases v:bK (f5 aa) aa.length with
 |some e=>
  haveI h:=gY (w:=e.1) (i:=e.2) v;refine .inr ⟨e.1,.int e.2,by simp only[rM j q,show fG aa=some (e.1,e.2)from by unfold fG;rw[c g,c s,c u,stop v]];rfl,.inr ⟨_,rfl⟩,.inl (bH ?_ (aI.mp g) (aI.mp u))⟩;unfold f5 at h;split at h
  ·exact nx h
  ·exact(BT h).symm
 |none=>
 cases y:bK (f6 aa) aa.length with
 |some e=>
  refine rj (p:=f6 aa) (w:=e.1) (i:=e.2) j q (by unfold fG;rw[c g,c s,c u,c v,stop y]) ?_;have h:=gY (w:=e.1) (i:=e.2) y;unfold f6 at h;split at h
  ·(refine(BT h)▸?_;decide+kernel)
  ·cases h
 |none=>
 cases z:bK (f7 aa) aa.length with
 |some e=>
  refine rj (p:=f7 aa) (w:=e.1) (i:=e.2) j q (by unfold fG;rw[c g,c s,c u,c v,c y,z]) ?_;have h:=gY (w:=e.1) (i:=e.2) z;unfold f7 at h;split at h
  ·(refine(BT h)▸?_;decide+kernel)
  ·cases h
 |none=>
  exact .inl ⟨by rw[rM j q];unfold fG;rw[c g,c s,c u,c v,c y,z];rfl,j,q,aI.mp g,aI.mp s,aI.mp u,aI.mp v,aI.mp y,aI.mp z⟩
end
section
variable{X:Cx}{R:Str->ah->Prop}
noncomputable abbrev XB(X:Cx)(rs:bo)(h j q s f u c a b e g:af)(U:ah):St:=⟨[h,j,q,cI rs,s,f,eI rs,cf rs,.list (bM X rs),u,c,a,b,e,g],U⟩
abbrev irE:bt:=tW
def jK(c:aR)(st:St):Prop:=c=.ret (.bool true)
def vJ(hw:PyData.strOk w)(c:a=.none\/∃i:Nat,a=.int i):bC 8 (.tuple [.str w,a]):=by
 rcases c with rfl|⟨i,rfl⟩
 ·show(PyData.strOk w&&(true&&true))=true
  rw[hw];rfl
 ·show(PyData.strOk w&&(true&&true))=true
  rw[hw];rfl
def QU(hw:w∈Iv)(j:a=.none\/∃i:Nat,a=.int i):cp X 100 R irE (XB X rs q s u v f x h (.tuple [.str w,a]) (.tuple [.str w,a]) .ae .ae U) jK:=by
 haveI y:PyData.strOk w:=by revert hw;revert w;decide+kernel
 haveI c:=vJ y j;have e:jK (.ret (.bool (zG (.tuple [.str w,a]) (.tuple [.str w,a])))) (XB X rs q s u v f x h (.tuple [.str w,a]) (.tuple [.str w,a]) .ae .ae U):=by refine(lz c)▸?_;rfl
 have g:(0:Int)<=0/\(0:Int)<(([af.str w,a].length:Nat):Int)/\[af.str w,a].length<=aL:=(bH (by decide) (by show(0:Int)<((2:Nat):Int);decide) (by show 2<=aL;decide));refine a9 [.a,.v (.str w),.a] ?_;rcases EQ.mp hw with rfl|hw
 ·exact kv _ (AI g<|AI (Eq.refl (af.str "too many orders"))<|AI c<|AI c e) (by kernel_rfl)
 rcases EQ.mp hw with rfl|hw
 ·exact kv _ (AI g<|AI (Eq.refl (af.str "goal within a wide load"))<|AI c<|AI c e) (by kernel_rfl)
 rcases EQ.mp hw with rfl|hw
 ·exact kv _ (AI g<|AI (Eq.refl (af.str "goal out of the program"))<|AI c<|AI c e) (by kernel_rfl)
 rcases EQ.mp hw with rfl|hw
 ·exact kv _ (AI g<|AI (Eq.refl (af.str "goal in another subprogram"))<|AI c<|AI c e) (by kernel_rfl)
 rcases EQ.mp hw with rfl|hw
 ·exact kv _ (AI g<|AI (Eq.refl (af.str "subprogram without an end"))<|AI c<|AI c e) (by kernel_rfl)
 rcases EQ.mp hw with rfl|hw
 ·exact kv _ (AI g<|AI (Eq.refl (af.str "calls in a ring"))<|AI c<|AI c e) (by kernel_rfl)
 rcases EQ.mp hw with rfl|hw
 ·exact kv _ (AI g<|AI (Eq.refl (af.str "too many frames"))<|AI c<|AI c e) (by kernel_rfl)
 exact nl hw
def QV(T:Txt X)(e:cy rs)(g:wq rs most):cp X 100 R irE (XB X rs j q s u f v c .none (aV X rs) .ae .ae U) jK:=by
 haveI L:bW 100 34:=⟨by decide,by decide⟩;haveI h:=DJ T L e g;exact a9 [.v (.bool true)] (kv _ (AI (xk T (.tail _ (.head _))).1<|AI h ((rfl:jK (.ret (.bool true)) (XB X rs j q s u f v c .none (aV X rs) .ae .ae U)))) (by kernel_rfl))
def My{rs:bo}(T:Txt X)(c:cy rs)(h0:0<rs.length)(q:d7 rs (f2 rs))(s:d7 rs (f4 rs))(u:a=.none\/∃i:Nat,a=.int i):cp X 100 R irE (XB X rs z A B C f D g (.tuple [.str "order that nothing reaches",a]) (.tuple [.str "order that nothing reaches",a]) .ae .ae U) jK:=by
 haveI L:bW 100 34:=⟨by decide,by decide⟩;have e:=ra q;haveI j:=Dr e s;haveI hN:rs.length<=30:=c;haveI G:=BK c;haveI h:=vJ (w:="order that nothing reaches") (by decide+kernel) u;haveI H:(0:Int)<=0/\(0:Int)<(([af.str "order that nothing reaches",a].length:Nat):Int)/\[af.str "order that nothing reaches",a].length<=aL:=(bH (by decide) (by show(0:Int)<((2:Nat):Int);decide) (by show 2<=aL;decide));haveI I:=Dz (X:=X) T (L.le 1) c e;haveI M:=J3 (X:=X) T (L.le 1) c e
 haveI O:ba X 100 "_law_spread" [.list (fU (mK rs)),.int 0,.int ((rs.map bc).length:Nat)] (λv=>v=.list (nv (bF (bX rs) 0 rs.length))):=by
  rw[v4,<-km (λx y=>wt)];exact uy T (L.le 1) hN h0 (BN e j) (by haveI:=vD (aa:=rs) rs.length;unfold mK;unfold aL;lia)
 haveI P:=Bz (X:=X) T (L.le 5) c;haveI Q:=qX (X:=X) T (L.le 6) c e j h0;refine a9 [.a,.v (.str "order that nothing reaches"),.b true,.v (dj rs),.v (.list (fU (mK rs))),.p,.v (.list (nv (bF (bX rs) 0 rs.length))),.v (aV X rs),.v (.list (nv (bF (bX rs) 0 rs.length))),.b false] ?_;haveI dv:=df (bF (bX rs) 0 rs.length);haveI V:(!zG (.list (nv (bF (bX rs) 0 rs.length))) (.list (nv (bF (bX rs) 0 rs.length))))=false:=v6 _ (lz dv);haveI Z:jK (.ret (.bool (zG (.tuple [.str "order that nothing reaches",a]) (.tuple [.str "order that nothing reaches",a])))) (XB X rs z A B C f D g (.tuple [.str "order that nothing reaches",a]) (.tuple [.str "order that nothing reaches",a]) (dj rs) (.list (nv (bF (bX rs) 0 rs.length))) U):=by simp only[lz h];rfl
 exact kv _ (AI H<|AI (Eq.refl (af.str "order that nothing reaches"))<|AI (Eq.refl true)<|AI I<|AI M<|AI G<|AI O<|AI P<|AI Q<|AI dv<|AI dv<|AI V<|AI h<|AI h Z) (by kernel_rfl)
end
def rk{v:af}(h:v.nc):iI c v=v:=by
 haveI e:dz c v=v:=jD h 6;unfold iI;rw[e,if_pos h]
def QW(e:aB g c=.list j)(h:eJ j):iI g (.cell c)=.list j:=by
 haveI e:dz g (.cell c)=.list j:=gW e h;unfold iI;refine e.symm▸?_;exact if_pos h
section
variable{X:Cx}{R:Str->ah->Prop}
noncomputable abbrev lwO(rs:bo)(g h j q:af)(f:Int)(c:Nat)(s e:af)(u:ah):St:=⟨[g,h,j,cI rs,q,.int f,eI rs,cf rs,.cell c,s,e,.ae,.ae,.ae,.ae],u⟩
def Ud(X:Cx)(rs:bo)(h j q s:af)(f:Int)(c k:Nat)(st:St):Prop:=∃u e g,c<g.length/\aB g c=.list ((bM X rs).take k)/\st=lwO rs h j q s f c u e g
def XC(T:Txt X){rs:bo}(q:cy rs)(j:k<rs.length){K:aR->St->Prop}{st:St}(I:Ud X rs v x y z f c k st):
  Dd X 100 R Bn (Ud X rs v x y z f c (k+1)) K ⟨st.aC.set 9 (af.int k),st.cells⟩:=by
 refine eV I λZ M O D s A=>?_;subst A;haveI L:bW 100 4:=⟨by decide,by decide⟩;haveI e:rs[k]?=some rs[k]:=f0 j;generalize rs[k]=r at e;haveI B:=rf q j;haveI u:=nR e;haveI G:=JZ q j;haveI H:=nQ e;have lx:((bM X rs).take k).length<=aL:=o0 (List.length_take_le' ..) (xt q);haveI P:=Fm (X:=X) e;haveI Q:=Dy (t:=k) q j
 haveI iJ:∀a:Int,vp rs k r=a->Ud X rs v x y z f c (k+1) (lwO rs v x y z f c (.int k) (.int a) (O.set c (.list ((bM X rs).take k++[bU X r.w a k])))):=λa h=>by
  subst h;refine(uI _ _ _ (by rw[abX];exact D) ?_ rfl);refine(Fv D)▸?_;refine P▸?_;refine aaE▸?_;have U:k<(bM X rs).length:=by simp only[fq];exact j
  haveI:(bM X rs)[k]?=some (bM X rs)[k]:=f0 U;rw[this];unfold aB;rw[this];rfl
 haveI hw:vp rs k r=match gl rs r with|none=>0|some g=>g-sl rs k-1:=rfl
 generalize V:gl rs r=g at hw u;obtain⟨w,t,gg⟩:=r;cases g with
 |none=>
  have C:=wm (X:=X) T L w 0 (p:=(k:Int)) (by lia);exact oA [.v .none,.x (.list ((bM X rs).take k)),.v (bc ⟨w,t,gg⟩),.a,.v (bU X w 0 k),.x (.list ((bM X rs).take k)),.p] (kv _ (AI B<|AI u<|AI s<|AI G<|AI H<|AI C<|AI s<|AI lx (iJ 0 hw)) (by kernel_rfl))
 |some g=>
  haveI C:=wm (X:=X) T L w (g-sl rs k-1) (p:=(k:Int)) (by lia);exact oA [.v (.int g),.v (.int g),.v (.int (.ofNat (sl rs k))),.x (.list ((bM X rs).take k)),.v (bc ⟨w,t,gg⟩),.a,.v (bU X w (g-sl rs k-1) k),.x (.list ((bM X rs).take k)),.p] (kv _ (AI B<|AI u<|AI B<|AI u<|AI Q<|AI s<|AI G<|AI H<|AI C<|AI s<|AI lx (iJ (g-sl rs k-1) hw)) (by kernel_rfl))
end
section
variable{X:Cx}{R:Str->ah->Prop}
def Ue(T:Txt X)(H:vB X){rs:bo}(z:cy rs)(h0:0<rs.length)(C:aB e c=.list (bM X rs)):
  cp X 100 R tX (lwO rs j s u x f c y g e) jK:=by
 obtain⟨m,B⟩:∃m:Int,(((kj rs (iY rs)).length:Nat):Int)-f=m:=⟨_,rfl⟩;haveI lo:=ux z (v0 (iY rs));haveI L:bW 100 33:=⟨by decide,by decide⟩;haveI D:bW 99 9:=⟨by decide,by decide⟩;haveI G:=TM (X:=X) T L z h0 m;haveI I:=JX T H D z m
 haveI M:List.map (iI e) [j,s,u,cI rs,x,.int f,eI rs,cf rs,.cell c,y,g,.ae,.ae,.ae,.ae]=[iI e j,iI e s,iI e u,cI rs,iI e x,.int f,eI rs,cf rs,.list (bM X rs),iI e y,iI e g,.ae,.ae,.ae,.ae]:=by
  show[iI e j,iI e s,iI e u,iI e (cI rs),iI e x,iI e (.int f),iI e (eI rs),iI e (cf rs),iI e (.cell c),iI e y,iI e g,.ae,.ae,.ae,.ae]=_;simp only[rk (v:=cI rs) eT,rk (v:=.int f) rfl,rk (v:=eI rs) gG,rk (v:=cf rs) eU,QW C rH]
 refine a9 [.p,.x (.int m),.v (TL (dG rs m)),.p,.x (.int m),.v (jV X rs m),.stop] (kv _ (AI lo<|AI B<|AI G
  (?_:K6 (aB (List.map (iI e) [j,s,u,cI rs,x,.int f,eI rs,cf rs,.cell c,y,g,.ae,.ae,.ae,.ae]) 8) λv=>(je.cons (.dB .Sub (.cS (.aC 6)) (.aC 5)) .nil).es X 100 ⟨List.map (iI e) [j,s,u,cI rs,x,.int f,eI rs,cf rs,.cell c,y,g,.ae,.ae,.ae,.ae],e.map λ_=>.ae⟩ [.p,.x (.int m),.v (jV X rs m),.stop] λO st o=>100<=100/\vV o (qm X 100 "_law_heard" (v::O)) λh o=>wi X 100 R irE ⟨(st.aC.set 11 (TL (dG rs m))).set 12 h,st.cells⟩ o λP st _=>jK P st)) (by kernel_rfl))
 refine M▸?_;generalize (e.map λ_=>af.ae)=U;generalize iI e j=Q;generalize iI e s=V;generalize iI e u=Z;generalize iI e x=z4;generalize iI e y=z9;generalize iI e g=A;refine kv _ (AI lo<|AI B<|AI (v0 100)<|AI I (?_:cp X 100 R irE (XB X rs Q V Z z4 (.int f) z9 A (TL (dG rs m)) (jV X rs m) .ae .ae U) jK)) (by kernel_rfl);rcases F6 (aa:=rs) (most:=m) (by lia)with⟨q,hc⟩|⟨w,a,q,ha,⟨rfl,n2,n4⟩|hw⟩
 ·rw[show TL (dG rs m)=.none from v6 _ q,show jV X rs m=aV X rs from by unfold jV;rw[q]]
  exact QV T z hc
 ·simp only[show TL (dG rs m)=.tuple [.str "order that nothing reaches",a]from v6 _ q,show jV X rs m=.tuple [.str "order that nothing reaches",a]from by unfold jV;rw[q]]
  exact My T z h0 n2 n4 ha
 ·simp only[show TL (dG rs m)=.tuple [.str w,a]from v6 _ q,show jV X rs m=.tuple [.str w,a]from by unfold jV;simp only[q]]
  exact QU hw ha
def QX(T:Txt X)(H:vB X){rs:bo}{g:ah}(e:cy rs)(h0:0<rs.length)(s:c<g.length)(u:aB g c=.list []):
  cp X 100 R vl (lwO rs v w x y f c .ae .ae g) jK:=by
 refine wj [] [.p,.n rs.length] rs.length (bp e) (kI λ_=>A2 (BK e) (⟨v6 _ (v4 _),bp e⟩:jm ((rs.map bc).length:Nat) rs.length)) (Ud X rs v w x y f c) (uI _ _ _ s u rfl) (λk z A h=>XC T e A h) λz h=>?_;refine eV h λD B C G q j=>?_;subst j;rw[SL (by rw[fq];exact v0 _)]at q;exact Ue T H e h0 q
def Mz(T:Txt X)(H:vB X){rs:bo}(c:cy rs)(h0:0<rs.length)(e:FK rs):
  cp X 100 R vm ⟨[y0,y1,yk,cI rs,y4,.int f,eI rs,.ae,.ae,.ae,.ae,.ae,.ae,.ae,.ae],U⟩ jK:=by
 haveI g:=TA (X:=X) (n:=100) T ⟨by decide,by decide⟩ c e;refine a9 [.v (cf rs),.go,.stop] (kv _ (AI g (?_:cp X 100 R vl (lwO rs y0 y1 yk y4 f U.length .ae .ae (U++[.list []])) jK)) (by kernel_rfl));exact QX T H c h0 (by simp only[sK];exact W1 _) (dZ (by rw[GE (v0 _),aaR];rfl))
def Kd(T:Txt X)(H:vB X){rs:bo}(s:cy rs)(h0:0<rs.length)(w:FK rs)(x:iI c q=cI rs):
  cp X 100 R kD ⟨[e,g,h,q,j,.int f,.ae,.ae,.ae,.ae,.ae,.ae,.ae,.ae,.ae],c⟩ jK:=by
 haveI y:=Qn (X:=X) (n:=100) T ⟨by decide,by decide⟩ s
 haveI z:List.map (iI c) [e,g,h,q,j,.int f,.ae,.ae,.ae,.ae,.ae,.ae,.ae,.ae,.ae]=[iI c e,iI c g,iI c h,cI rs,iI c j,.int f,.ae,.ae,.ae,.ae,.ae,.ae,.ae,.ae,.ae]:=by
  show[iI c e,iI c g,iI c h,iI c q,iI c j,iI c (.int f),.ae,.ae,.ae,.ae,.ae,.ae,.ae,.ae,.ae]=_;rw[rk (v:=.int f) rfl,x]
 refine a9 [.v (eI rs),.stop] (kv (K6 (aB (List.map (iI c) [e,g,h,q,j,.int f,.ae,.ae,.ae,.ae,.ae,.ae,.ae,.ae,.ae]) 3) λv=>vV [.v (eI rs),.stop] (ba X 100 "_law_owners" [v]) λu o=>wi X 100 R vm ⟨(List.map (iI c) [e,g,h,q,j,.int f,.ae,.ae,.ae,.ae,.ae,.ae,.ae,.ae,.ae]).set 6 u,c.map λ_=>.ae⟩ o λA st _=>jK A st) ?_ (by kernel_rfl));rw[z];exact kv _ (AI y (Mz (R:=R) (y0:=iI c e) (y1:=iI c g) (yk:=iI c h) (y4:=iI c j) (f:=f) (U:=c.map λ_=>af.ae) T H s h0 w)) (by kernel_rfl)
end
def F7{cs vs:ah}{rs:bo}(e:aB cs c=.list vs)(h:vs.map (rm cs 5)=rs.map bc):iI cs (.cell c)=cI rs:=by
 haveI g:dz cs (.cell c)=cI rs:=by
  show rm cs 6 (.cell c)=_;rw[lq,e];exact v6 af.list h
 unfold iI;rw[g,if_pos eT]
def zw{cs vs g:ah}{rs:bo}(h:vs.map (rm cs 5)=rs.map bc)(hG:∀q∈rs,GD rs.length q)(w:g=vs\/∃i q,i<vs.length/\g=vs.set i (bc q)/\GD vs.length q):∃s,g.map (rm cs 5)=s.map bc/\s.length=rs.length/\FK s:=by
 have x:vs.length=rs.length:=by haveI:=v6 List.length h;rwa[v4,v4]at this
 rcases w with rfl|⟨i,q,y,rfl,v⟩
 ·exact(dC rs h rfl (λi r u c e=>hG r (wE u) c e))
 ·refine⟨rs.set i q,by simp only[List.map_set,h,jD (xx q),List.map_set],abX,λj r u c e=>?_⟩
  refine abX.symm▸?_;rcases List.mem_or_eq_of_mem_set (wE u)with m|rfl
  ·exact hG r m c e
  ·rw[x]at v;exact v c e
def aag{rs:bo}:(rc rs.length).map (rm (v::l::w::rs.map bc) 5)=rs.map bc:=by
 refine List.ext_getElem? λi=>?_;rw[FS];refine FS.symm▸?_;cases q:rs[i]? with
 |none=>
  rw[FS,q,aaI (x0▸acf.mp q)];rfl
 |some r=>
  haveI c:i<rs.length:=(wP.mp q).1;simp only[XL c,FS,q];show some (rm _ 5 (.cell (i+3)))=some (bc r)
  haveI e:aB (v::l::w::rs.map bc) (i+3)=bc r:=dZ (by
   show(rs.map bc)[i]?=_;simp only[FS,q];rfl)
  haveI g:=xx r;rw[show rm (v::l::w::rs.map bc) 5 (.cell (i+3))=bc r from gW e g]
section
variable{X:Cx}{R:Str->ah->Prop}
def DO(T:Txt X)(H:vB X){rs:bo}(h0:0<rs.length)(h:cy rs)(hG:∀q∈rs,GD rs.length q)
  (j:rh S t0 0 (.list (rc rs.length)::.list (nv bg)::rs.map bc) (rc rs.length) cs):
  cp X 100 R kD ⟨[y,.cell 0,z,.cell 1,.cell 2,.int f,.ae,.ae,.ae,.ae,.ae,.ae,.ae,.ae,.ae],cs⟩ jK:=by
 refine zK j λt r g e _ _ s=>?_;subst e;refine cU (zw (cs:=dX S t r::.list g::.list (nv bg)::rs.map bc) aag hG s) λu v w x=>?_;exact Kd T H (rs:=u) (by unfold cy;refine w▸?_;exact h) (by lia) x (F7 (cs:=dX S t r::.list g::.list (nv bg)::rs.map bc) (c:=1) rfl v)
def DP(T:Txt X)(H:vB X){rs:bo}(h0:0<rs.length)(g:cy rs)(hG:∀q∈rs,GD rs.length q)
  (h:rh S t0 J.length (J++[.list (rs.map bc)]) (rs.map bc) cs):
  cp X 100 R kD ⟨[y,.cell 0,z,.cell (J.length+1),A,.int f,.ae,.ae,.ae,.ae,.ae,.ae,.ae,.ae,.ae],cs⟩ jK:=by
 refine zK h λt r j e _ _ s=>?_;subst e;refine cU (zw (cs:=dX S t r::(J++[af.list (rs.map bc)]).set J.length (.list j)) (y7 (d0 xx rs) 5) hG s) λu v w x=>?_;refine Kd T H (rs:=u) (by unfold cy;refine w▸?_;exact g) (by lia) x (F7 (c:=J.length+1) ?_ v);rw[aaW _ _ (v0 _),aaR];exact zv
def QY(T:Txt X)(H:vB X){S:aS}(hS:S.length<=63)(ht:t0<=1000)(A:0<=B):
  cp X 100 R vn ⟨[g,.cell 0,.int d,.ae,.ae,.ae,.ae,.ae,.ae,.ae,.ae,.ae,.ae,.ae,.ae],[dX S t0 B]⟩ jK:=by
 haveI L:bW 100 4:=⟨by decide,by decide⟩;cases q:decide ((d:Int)=0)with
 |true=>
  have j:=T6 T (L.le 2) hS (by lia) A (t0:=t0)
  refine a9 [.b true,.c (vI S t0),.stop] (kv _ (AI q<|AI j (?_:
   ∀(v:af) (c:ah),vI S t0 v c->Sm v 2 λvs=>cp X 100 R nD ⟨fN [g,.cell 0,.int d,.ae,.ae,.ae,.ae,.ae,.ae,.ae,.ae,.ae,.ae,.ae,.ae] [3,4] vs,c⟩ jK)) (by kernel_rfl))
  rintro v c ⟨t,r,rs,bg,J,rfl,rfl,C,s,h,u,w,x,D,y⟩;haveI e:=Mw (X:=X) (n:=100) (p:=J.length) (J:=J++[.list (rs.map bc)]) (vs:=rs.map bc) (S:=S) (t0:=t) (r:=r) (bg:=bg) T (L.le 3) (dZ (by rw[GE (v0 _),aaR];rfl)) (by rw[v4];exact h) (by rw[v4];lia) hS (by lia) s x (by exact o0 (by assumption) (by decide)) (by rw[v4];exact y);refine kv (cp X 100 R nD ⟨[g,.cell 0,.int d,.cell (J.length+1),.list (nv bg),.ae,.ae,.ae,.ae,.ae,.ae,.ae,.ae,.ae,.ae],dX S t r::(J++[.list (rs.map bc)])⟩ jK) ?_ (by kernel_rfl)
  refine a9 [.c (mN S t J.length (J++[.list (rs.map bc)]) (rs.map bc)),.stop] (kv _ (AI e (?_:
   ∀(v:af) (c:ah),mN S t J.length (J++[.list (rs.map bc)]) (rs.map bc) v c->cp X 100 R kD ⟨[g,.cell 0,.int d,.cell (J.length+1),.list (nv bg),v,.ae,.ae,.ae,.ae,.ae,.ae,.ae,.ae,.ae],c⟩ jK)) (by kernel_rfl))
  rintro v c ⟨f,rfl,-,z⟩;exact DP T H h (o0 u (by decide)) w z
 |false=>
  have j:=Iu T L hS (by lia) A (t0:=t0)
  refine a9 [.b false,.c (BU S t0),.stop] (kv _ (AI q<|AI j (?_:
   ∀(v:af) (c:ah),BU S t0 v c->Sm v 2 λvs=>cp X 100 R nD ⟨fN [g,.cell 0,.int d,.ae,.ae,.ae,.ae,.ae,.ae,.ae,.ae,.ae,.ae,.ae,.ae] [3,4] vs,c⟩ jK)) (by kernel_rfl))
  rintro v c ⟨rfl,t,r,rs,bg,rfl,C,s,h,u,w,x,D,y⟩;haveI e:=Mx (X:=X) (n:=100) (p:=0) (J:=.list (rc rs.length)::.list (nv bg)::rs.map bc) (vs:=rc rs.length) (S:=S) (t0:=t) (r:=r) (bg:=bg) T (L.le 3) (λv=>rfl) rfl (by rw[lC];exact h) (by rw[lC];lia) hS (by lia) s x (by exact o0 (by assumption) (by decide)) (by rw[lC];exact y);refine kv (cp X 100 R nD ⟨[g,.cell 0,.int d,.cell 1,.cell 2,.ae,.ae,.ae,.ae,.ae,.ae,.ae,.ae,.ae,.ae],dO S t r rs bg⟩ jK) ?_ (by kernel_rfl)
  refine a9 [.c (mN S t 0 (.list (rc rs.length)::.list (nv bg)::rs.map bc) (rc rs.length)),.stop] (kv _ (AI e (?_:
   ∀(v:af) (c:ah),mN S t 0 (.list (rc rs.length)::.list (nv bg)::rs.map bc) (rc rs.length) v c->cp X 100 R kD ⟨[g,.cell 0,.int d,.cell 1,.cell 2,v,.ae,.ae,.ae,.ae,.ae,.ae,.ae,.ae,.ae],c⟩ jK)) (by kernel_rfl))
  rintro v c ⟨f,rfl,-,z⟩;exact DO T H h (o0 u (by decide)) w z
def Ug(T:Txt X)(H:vB X){s:aS}(u:s.length<=1000):
  cp X 100 R O6 ⟨[.list (s.map af.int),.ae,.ae,.ae,.ae,.ae,.ae,.ae,.ae,.ae,.ae,.ae,.ae,.ae,.ae],[]⟩ jK:=by
 haveI L:bW 100 4:=⟨by decide,by decide⟩;haveI e:=JX (aa:=[]) T H (n:=99) ⟨by decide,by decide⟩ (by exact SC _) 5;simp only[show jV X [] 5=.tuple [.str "no order",.none]from rfl]at e;have hS:(s.take 24).length<=63:=by rw[acK];lia
 haveI j:=lB (X:=X) (n:=100) T (L.le 1) (S:=s.take 24) (t:=0) (r:=0) (m:=9) (J:=[]) hS (by decide) (by decide) (by decide) (by decide);haveI g:bC 8 (.tuple [.str "no order",.none]):=vJ (by decide+kernel) (.inl rfl);haveI h:(s.map af.int).take 24=(s.take 24).map af.int:=List.map_take.symm
 refine a9 [.p,.p,.v (.tuple [.str "no order",.none]),.a,.stop] (kv _ (AI (show(0:Int)<=24/\(24:Int)<=aL/\(s.map af.int).length<=aL from⟨by decide,by decide,by rw[v4];exact o0 (by assumption) (by decide)⟩)<|AI (show((s.map af.int).take 24).length<=aL by rw[h,v4];exact o0 (by assumption) (by decide))<|AI (v0 100)<|AI e<|AI g<|AI g
  (?_:cp X 100 R Bo ⟨[.list (s.map af.int),.cell 0,.ae,.ae,.ae,.ae,.ae,.ae,.ae,.ae,.ae,.ae,.ae,.ae,.ae],[.list [.list ((s.map af.int).take 24),.int 0,.int 0]]⟩ jK)) (by kernel_rfl))
 rw[h]
 refine a9 [.c (d8 (s.take 24) 0 [] 9),.stop] (kv _ (AI j (?_:
  ∀(v:af) (c:ah),d8 (s.take 24) 0 [] 9 v c->cp X 100 R vn ⟨[.list (s.map af.int),.cell 0,v,.ae,.ae,.ae,.ae,.ae,.ae,.ae,.ae,.ae,.ae,.ae,.ae],c⟩ jK)) (by kernel_rfl))
 rintro v c ⟨d,w,x,rfl,y,z,q,rfl⟩;exact QY T H hS (by exact o0 (by assumption) (by decide)) q
end
structure FnE(K:Frag)(f:Addr)(ps:List Str)(N:Nat)(d:Option af)(A:List Stmt->List Stmt)(t:a0->List Stmt->Bool):Prop where
 all:fnL K f (Hx K f) ps N=fnR (Hx K f)
 bind:kQ K (Hx K f) ps d
 ok:Sh A (t (eL N (Hx K f).scope.names) (yt (Hx K f))) (yt (Hx K f))
noncomputable def MH(K:Frag)(r:d6):Addr:=(WO K r).getD 0
def aa2{K:Frag}(h:table.map (λr=>(WO K r,fnL K (MH K r) (Hx K (MH K r)) r.ps r.N,r.ir.bl (eL r.N (Hx K (MH K r)).scope.names) (yt (Hx K (MH K r))),r.ir.bQ K (eL r.N (Hx K (MH K r)).scope.names) (yt (Hx K (MH K r)))))=table.map λr=>(some (MH K r),fnR (Hx K (MH K r)),yt (Hx K (MH K r)),true))
  (g:∀S c,table.map (λr=>Zw K S c (Hx K (MH K r)) r.ps r.d)=table.map λr=>Zx K c (Hx K (MH K r)) r.ps r.d):∀r∈table,E7 K r:=λr m=>
 have e:=List.map_inj_left.mp h r m
 ay (MH K r) (v6 (·.1) e) (.mk (tG (v6 (·.2.1) e)) (λS c=>List.map_inj_left.mp (g S c) r m) ⟨v6 (·.2.2.1) e,v6 (·.2.2.2) e⟩)
structure QZ(K:Frag)(C fI ft:Addr):Prop where
 MR:uM K "ProgramError"=some C
 cls:yu K C fI
 full:CO K C
 init:FnE K fI ["self","what","at"] 3 (some .none) OS (OT K)
 E4:FnE K ft ["self"] 1 none OZ (λS _=>rT S "self" 0)
 OQ:kV K C "what"=true
 at_:kV K C "at"=true
 find:findIn K (.ref C) "told"=some (some (.ref ft))
 isFn:typeIn K (.ref ft)=some (.type "function")
 keep:keepIn K (.ref ft)=true
structure Q0(K:Frag)(f:Addr):Prop where
 MR:uM K "_law_heard"=some f
 fn:FnE K f ["orders","most"] 4 none HD (HE K)
def Uh{X:Cx}(h:Q0 X.K c)(E:QZ X.K C e g):vB X where
 JW:=⟨c,_,_,_,h.MR,tG h.fn.all,h.fn.bind,rfl,h.fn.ok⟩
 cls:=⟨C,e,_,_,_,E.MR,E.cls,E.full,tG E.init.all,E.init.bind,E.init.ok,rfl⟩
 E4:=λj q=>by
  have:j=C:=BT (q.symm.trans E.MR);subst this;exact⟨g,_,_,_,tG E.E4.all,E.E4.bind,rfl,E.full.gt,E.OQ,E.at_,E.E4.ok,E.find,E.isFn,E.keep⟩
def XD{X:Cx}(T:Txt X)(H:vB X){s:aS}{A:Around}{E:dy}(R:R0 X F G [] [] Y)(V:aG X.prog X.w F [] (.list (s.map af.int)) u)(M:s.length<=1000)(w:Lv A 101)(x:A.frames=some []):
  ∃f,Gf X "law"=some f/\codeAny (model X.prog X.w) A (.call (.ref f) ⟨[u],[]⟩) (λr I=>match r with
   | .ok (.ret v)=>v=.bool true/\∃j y C,Le F j/\R0 X j G y C I
   | .ok _=>False
   | .error e=>E e I) Y:=by
 refine aj (yS (T.aa UM (tm 69 rfl)) rfl) λf O P=>ay f O ?_;cases P with
 | @mk fd b D B L=>
  refine aaS (yr (E:=E) (d:=none) (args:=[.list (s.map af.int)]) (Q:=λv _=>v=.bool true) D B rfl (IN (o0 (T0 _ _) w.2.1) (by decide)) R (.cons V .nil) λg E U Z hp=>?_) λr s' z=>?_
  ·have W:=bt.ro _ (c:=⟨X,A.deeper g,100,_,g,E,D.ok,w.deeper _,λ_=>WN (w.deeper _) (Around.frames_deeper x) Z⟩) (B:=G) (Jo (by rw[U];exact D.OD) hp) L.bQ (Ug T H M)
   rw[L.bl]at W;exact W.aT λfl st q=>q▸rfl
  ·rcases r with e|(_|_|_|v)<;>first|exact z|skip
   refine tc z λj y C a z1 z2 z3 z4 z5=>?_;subst z5;refine⟨?_,j,y,C,z1,z3⟩;cases z4 with
   |bool=>rfl
   |xC _ _ h=>cases h
def XE{K:Frag}{h:Heap}(k:K.In h)(T:h.Ns mainGlobals c)(q:uM K x=some f):c x=some (.ref f):=mg_of k T (B3 q)
structure KOK(K:Frag):Prop where
 aa:∀r∈table,E7 K r
 SY:∀c∈(["Order","Program","Walk"]:List Str),UN K c=true
 JW:∃f,Q0 K f
 YC:∃C fI ft,QZ K C fI ft
def aah{K:Frag}(O:KOK K){y B:Str->Option Value}{j:Shared}(P:K.In j.heap)(g:j.heap.Ns mainGlobals y)(b:j.heap.Ns builtinsNs B)(nl:j.heap.NoLimit)(U:∀x:Str,x≠ "__name__"->B x=bootBuiltins x)
  (G:y "law"=some (.ref V)) (Z:j.gens= #[]) (I:∃Q,j.heap.get? L=some (listOf ws.toArray Q)) (hI:IntsAre ws is) (hl:is.length<=1000):
  codeAny (model q w) callerA (.call (.ref V) ⟨[.ref L],[]⟩) (λr D=>r=.ok (.ret (.bool true))/\(∀b o,j.heap.get? b=some o->D.heap.get? b=some o)/\D.os=j.os/\D.gens= #[]) j:=by
 refine ar I λQ I=>?_;refine MJ O.YC λC fI ft hE=>?_;refine ar O.JW λfh hH=>?_;haveI T:Txt ⟨q,w,K,λa=>j.heap.get? a,j.os,y,B⟩:=⟨O.aa,O.SY⟩;haveI H:vB ⟨q,w,K,λa=>j.heap.get? a,j.os,y,B⟩:=Uh hH hE
 haveI R:R0 ⟨q,w,K,λa=>j.heap.get? a,j.os,y,B⟩ (λa=>j.heap.get? a) (λ_=>none) [] [] j:=
  ⟨⟨P,λh e=>(bH (g.keeps e) (b.keeps e) (nl.keeps e)),U⟩,λ_ _ e=>e,λ_ _ e=>e,(λ_ _ e=>by exact nx e),λ_ _ _=>rfl,(λn c e=>by exact nx e),rfl,.nil,(λa m=>by simp at m),Z,rfl⟩
 refine aj (XD (A:=callerA) (E:=λ_ _=>False) T H R (u:=.ref L) (s:=is) (.xC trivial I (.list (xW hI))) hl ⟨rfl,by decide,by decide⟩ rfl) λf h1 h2=>?_;have:=(XE P g h1).symm.trans G;cases this;refine aaS h2 λr D z=>?_;rcases r with e|(_|_|_|v)<;>first|exact z.elim|skip
 obtain⟨rfl,F',bf,cs,hF,M⟩:=z;exact(fL rfl (λb o e=>M.fz _ _ (hF _ _ e)) M.os M.gens)
def Ye{P:Params}{h:Heap}{j:List WData}{c:aQ}(w:Well P h (.ref L) (.list j))(q:h.IsList L c.toArray):∃s,h.get? L=some (listOf c.toArray s):=by
 cases w with
 |list e _=>
  obtain⟨o,u,_,n,g⟩:=q;obtain rfl:=se (e) u;dsimp only at g;injection g with v x
  exact⟨_,by rw[e,v]⟩
end
set_option Elab.async true
set_option tactic.hygienic true
set_option backward.match.sparseCases true
set_option genInjectivity true
set_option genSizeOf true
set_option maxHeartbeats 8000000
def y:True:=⟨⟩
namespace cw
def tw2245319242301140743:=y
def tw16759438911624739596:=y
def tw6619987024997979267:=y
def tw656122719597194337:=y
def tw1546997303152442049:=y
def tw7033710665421526353:=y
def tw3290505682397001416:=y
def tw3804928157389977681:=y
def tw14548968915000840582:=y
def tw13999720771290489754:=y
def tw3747282893534524912:=y
def tw18345840644815652343:=y
def tw18300981966276743051:=y
def tw17874169657292035396:=y
def tw3358073120794002988:=y
def tw11260913956373821800:=y
def tw11940688272778093951:=y
def tw2632174618804633513:=y
def tw540764426177416807:=y
def tw1054814797032604294:=y
def tw9262325061618202332:=y
def tw17338742788524121705:=y
def tw3098844795081510440:=y
def tw16166972867334128794:=y
def tw4754219302356205853:=y
def tw8654890065351889988:=y
def tw8108114381917806831:=y
def tw8610043518512438269:=y
def tw16529872585032380816:=y
def tw9062283904529213376:=y
def tw2642075761509026456:=y
def tw11928798751556335818:=y
def tw629685121580659136:=y
def tw255326854664200784:=y
def tw14480803216886224938:=y
def tw14788520036634372961:=y
def tw3604583642412339696:=y
def tw3125641243754351071:=y
def tw17829679978796797323:=y
def tw10485878008771408533:=y
def tw11751927079061947295:=y
def tw10716450737588456245:=y
def tw14708432069784124976:=y
def tw6649243955452880809:=y
def tw6381882521491880154:=y
def tw15169018772115783247:=y
def tw13741576002769581795:=y
def tw11252524664071276656:=y
def tw12924146987078507549:=y
def tw16494870174620098323:=y
def tw13666322014572074041:=y
def tw5559505764683130655:=y
def tw12209640824403791731:=y
def tw2847033070647288395:=y
def tw6725520587722359557:=y
def tw15914432114400275016:=y
def tw3298955843360003133:=y
def tw14761310442516060954:=y
def tw7265125150382499793:=y
def tw3274165426250351427:=y
def tw12239477600099815877:=y
def tw8967970181776037616:=y
def tw18217934734175812899:=y
def tw3363377985580790232:=y
def tw9732783464176380561:=y
def tw15774067651256261318:=y
def tw1250944030267393709:=y
def tw4951841280732597803:=y
def tw6509595646419245858:=y
def tw10787246075982744711:=y
def tw16448210907181281830:=y
def tw9089546751780752331:=y
def tw4432251587439159602:=y
def tw1899915677272061241:=y
def tw12752629074769642444:=y
def tw1892659091262756355:=y
def tw5610338685648125367:=y
def tw2536484440049877633:=y
def tw4357126401250407683:=y
def tw16337725907850643880:=y
def tw18153323675266707290:=y
def tw5395661240462712053:=y
def tw14951641260305525846:=y
def tw7627799410307197:=y
def tw16163746468092366540:=y
def tw1529865262051575629:=y
def tw15098035983816873264:=y
def tw6225199104597805504:=y
def tw13741288145241353385:=y
def tw9122601410144511000:=y
def tw17761291948746656775:=y
def tw14457793533385175785:=y
def tw4769817257947663983:=y
def tw11170759442187083659:=y
def tw8240279851119034267:=y
def tw14660578482202924501:=y
def tw17308003122589828955:=y
def tw11375821190854673680:=y
def tw7333113482920346693:=y
def tw14200389297463377969:=y
def tw15744843120750414045:=y
def tw6946250092498860507:=y
def tw4843860878223731655:=y
def tw5960540646505071985:=y
def tw15049829269738445084:=y
def tw7021196676479962670:=y
def tw8384396914480435558:=y
def tw15745328297381615532:=y
def tw14255671406697997116:=y
def tw1464551576981916655:=y
def tw3282836750741380540:=y
def tw17572573610259040179:=y
def tw18136070617529289488:=y
def tw16205799052464293466:=y
def tw17387281983583371026:=y
def tw16042547877381480675:=y
def tw14108251187009513098:=y
def tw12656509176122445110:=y
def tw7778562511825277745:=y
def tw1129946868401675958:=y
def tw10001757822794293284:=y
def tw17865991295642463455:=y
def tw18424564655652043411:=y
def tw7384157455045015651:=y
def tw206839277710335438:=y
def tw6539419282294539521:=y
def tw2088735340262782289:=y
def tw5161895148761602514:=y
def tw57629765691920338:=y
def tw6609210492850183328:=y
def tw10534401271574096376:=y
def tw16622779924370142736:=y
def tw12695038279699488485:=y
def tw10858871412793448962:=y
def tw904687230028414966:=y
def tw4454246131209077272:=y
def tw4652533487383075113:=y
def tw478726648789714012:=y
def tw11835236348681913158:=y
def tw12494030651214390733:=y
def tw3681731177612470467:=y
def tw9702267900656169311:=y
def tw11754658650556267126:=y
def tw3962496541271946108:=y
def tw13536430150218294711:=y
def tw10537277779084631892:=y
def tw11734131378033339486:=y
def tw7716138712649031654:=y
def tw7201222511497468304:=y
def tw5680903237747551189:=y
def tw9461631633261132872:=y
def tw16892425095099944456:=y
def tw11875235385263808230:=y
def tw6403810052837582342:=y
def tw11781060877705872058:=y
def tw1588020074795803128:=y
def tw8235274700520875756:=y
def tw5489825421649296718:=y
def tw8303337484601495593:=y
def tw13875441437160936798:=y
def tw1061759024922983633:=y
def tw8612380763541040486:=y
def tw17959302153949644806:=y
def tw7114790414003337389:=y
def tw1401924675934526888:=y
def tw7456562622790031247:=y
def tw9270990383643273699:=y
def tw6910738804539150289:=y
def tw15457151748251429605:=y
def tw17262130787101969492:=y
def tw8915800771016826836:=y
def tw15510850327984767076:=y
def tw14438426639572044279:=y
def tw16966850244799370580:=y
def tw886166690863328485:=y
def tw6121131925498076511:=y
def tw13883313689258838075:=y
def tw8681520704858018953:=y
def tw3097201625896000712:=y
def tw3567684831946770877:=y
def tw5790161404388931817:=y
def tw1855280148956710301:=y
def tw602248898015639982:=y
def tw11276918991615045221:=y
def tw295466338093642964:=y
def tw10133593751813262031:=y
def tw1595741176964478890:=y
def tw14164378308283954321:=y
def tw3773175275827832469:=y
def tw9120030487294489145:=y
def tw11723249370181606347:=y
def tw9003574075524017939:=y
def tw7453595262283321307:=y
def tw13828229439554513783:=y
def tw1192352477516011486:=y
def tw7361954070945319235:=y
def tw6681799486195250467:=y
def tw5122744651824193062:=y
def tw15111483031490467662:=y
def tw435978806095774757:=y
def tw17643807563322946168:=y
def tw8476984087586887884:=y
def tw15570454731259054930:=y
def tw12235438783284694707:=y
def tw5078974935161899914:=y
def tw1320032953589230437:=y
def tw8982647976793043411:=y
def tw10481492460730474135:=y
def tw688925792662039923:=y
def tw6518825268287776730:=y
def tw17563542283209619210:=y
def tw9580786093286786816:=y
def tw13509015979295805570:=y
def tw6592582173071662457:=y
def tw17310649926880851994:=y
def tw5526725617500490228:=y
def tw1866788658771475695:=y
def tw10861243223608375868:=y
def tw2998348815218018863:=y
def tw16028573636967759883:=y
def tw4743089586618979064:=y
def tw13780061514556756106:=y
def tw9231667054898550447:=y
def tw5446289514955409386:=y
def tw3575919509052005590:=y
def tw7138865461323901148:=y
def tw10417276246721045325:=y
def tw12833462717075065425:=y
def tw1301324445596408646:=y
def tw5164600623723704576:=y
def tw2119496383272873293:=y
def tw18160478938398004615:=y
def tw12882992620219109879:=y
def tw4679047125852639892:=y
def tw15992819923508515479:=y
def tw12054122481165462934:=y
def tw9230279158364053454:=y
def tw7089592570360907263:=y
def tw2989821918546127270:=y
def tw8455966481309877803:=y
def tw10666049679076413966:=y
def tw3601989285102703135:=y
def tw4594457182599078764:=y
def tw467695272164249527:=y
def tw6925770212547226674:=y
def tw5000132874964926114:=y
def tw15322188881520497878:=y
def tw8538403806035920175:=y
def tw17085326466948407615:=y
def tw12176814119288601676:=y
def tw5245493218853190803:=y
def tw1697061266390279475:=y
def tw18117922410737045533:=y
def tw12077313387518822445:=y
def tw11220621319726393749:=y
def tw9484423932939390980:=y
def tw3162884323796798324:=y
def tw12219693787094527316:=y
def tw13438360705153437068:=y
def tw15049123542625464071:=y
def tw2170339112981439272:=y
def tw13440761400709180564:=y
def tw11254835128405952838:=y
def tw2001829792024246339:=y
def tw6669705861437036512:=y
def tw1234362014024236558:=y
def tw2559185497009035100:=y
def tw82334272504649403:=y
def tw5318995997084724827:=y
def tw3943993154990397314:=y
def tw10220390648087449953:=y
def tw820623831780502103:=y
def tw15070021635275963550:=y
def tw10362361567543475196:=y
def tw12197343540428872264:=y
def tw7901897950027863761:=y
def tw7592274207237101366:=y
def tw5854004994505877476:=y
def tw8048641291553349087:=y
def tw9727492190780517967:=y
def tw7509873989339655443:=y
def tw15800916458890617462:=y
def tw3050485629901723413:=y
def tw14738603649851109533:=y
def tw2889034122823521674:=y
def tw1430634277976083635:=y
def tw2130900402888968524:=y
def tw17037806672598591638:=y
def tw13661436319821634661:=y
def tw7657905660152132556:=y
def tw1976542675867556708:=y
def tw11819118648378878092:=y
def tw4472246148228185358:=y
def tw10069518272436374691:=y
def tw14768827524389985878:=y
def tw16935115531500542280:=y
def tw15773184277719825311:=y
def tw16693563322189900785:=y
def tw14890220570659453997:=y
def tw2034847326169890389:=y
def tw2031960088512844715:=y
def tw12865744871662332396:=y
def tw4615577321663172228:=y
def tw5044513290091705535:=y
def tw12670489939187605533:=y
def tw540817070640439332:=y
def tw150718097304624728:=y
def tw12833245549994993132:=y
def tw5004354306102775460:=y
def tw15173685430485021829:=y
def tw6799932458496700201:=y
def tw4997054509317957469:=y
def tw12377652847824706968:=y
def tw9214817609474835982:=y
def tw3560595304242491492:=y
def tw18424311151160038057:=y
def tw5988954627068436710:=y
def tw3614702511577044390:=y
def tw1184031629254359674:=y
def tw2843113680988522234:=y
def tw8886525709245039632:=y
def tw2011584700593955137:=y
def tw4583722826841369634:=y
def tw5975198326110587854:=y
def tw207604500973351841:=y
def tw11247654053761561185:=y
def tw2334785105579268044:=y
def tw6847272019824127103:=y
def tw3968715040575513520:=y
def tw12605311891778387269:=y
def tw9834586408147574216:=y
def tw9033869314074756916:=y
def tw7694458995988760690:=y
def tw15758518333343051778:=y
def tw10925982676703824585:=y
def tw5924188575970454254:=y
def tw2546800512522163093:=y
def tw13057780787085409677:=y
def tw9919525273966334950:=y
def tw10509066262467895687:=y
def tw7674018889070341683:=y
def tw4091334601905724262:=y
def tw15618827073052187588:=y
def tw10469622635208884771:=y
def tw14984256209660822020:=y
def tw4745555834983666509:=y
def tw17003003066774387978:=y
def tw12604581072356917665:=y
def tw15174872595650598156:=y
def tw214405211444757829:=y
def tw13151696102870119586:=y
def tw4362461457048943376:=y
def tw6037621541623016170:=y
def tw10894422157771956130:=y
def tw6688216416941393828:=y
def tw15005777498544049417:=y
def tw9574553611694136491:=y
def tw5689436012916003494:=y
def tw9677564834816186800:=y
def tw4319754535968967086:=y
def tw110514914633163481:=y
def tw10582871820063533239:=y
def tw6625854827542380767:=y
def tw8345513525968639117:=y
def tw16824190548350425898:=y
def tw11421232195869613319:=y
def tw2165431362491003783:=y
def tw1423356260392717437:=y
def tw11787774320080054009:=y
def tw11744499077472433453:=y
def tw10429527013251239871:=y
def tw2912337862129523016:=y
def tw13038600260403951778:=y
def tw2582236779478434216:=y
def tw16854029533801285256:=y
def tw2139275235861925300:=y
def tw2424036609782971184:=y
def tw8404369427983028792:=y
def tw3779545472530704611:=y
def tw5344891932697001038:=y
def tw15377519182399367661:=y
def tw1001847936735871217:=y
def tw1119846097978458417:=y
def tw11381329923816113111:=y
def tw11972846680552242081:=y
def tw17395816810168964604:=y
def tw150055803531023912:=y
def tw18369400146589056343:=y
def tw13342451505449514251:=y
def tw1762239749680118177:=y
def tw2823607854020130885:=y
def tw7538973700460023913:=y
def tw10886488294501445450:=y
def tw2296967259863546239:=y
def tw13720027318834144188:=y
def tw406224095482047619:=y
def tw7800144678589849697:=y
def tw8265391832754436437:=y
def tw6935217054050036353:=y
def tw5375968824360660473:=y
def tw11751998716075514716:=y
def tw7780712772906032233:=y
def tw15187549380642300617:=y
def tw2671540668112184309:=y
def tw5985121463359028297:=y
def tw15375457237347083154:=y
def tw18198759255475650804:=y
def tw606616763052236337:=y
def tw16516169966572636445:=y
def tw6565294887129739502:=y
def tw15779534605396823208:=y
def tw3829546311948938476:=y
def tw8885620920914733995:=y
def tw17544317311361296971:=y
def tw9612987946877250895:=y
def tw17526776900075017712:=y
def tw4657666084184085436:=y
def tw7894522602903069913:=y
def tw17589651760236113906:=y
def tw15905640710592828121:=y
def tw592391478962012388:=y
def tw9809503321613087508:=y
def tw7633380312702834356:=y
def tw8449473995245419038:=y
def tw3319371217981442370:=y
def tw12728222785577406730:=y
def tw840877238984380686:=y
def tw5565731333999854562:=y
def tw14815655621447405532:=y
def tw14309475899073295102:=y
def tw541702200365555811:=y
def tw16318853312891250111:=y
def tw12510508821534056273:=y
def tw3219064901496800493:=y
def tw9713538816024611350:=y
def tw8783479855012286435:=y
def tw17486413359336918494:=y
def tw9680639695262415995:=y
def tw2838531912927464924:=y
def tw11408446092821777910:=y
def tw17040767920144905969:=y
def tw7672747066635131694:=y
def tw12060875981346702621:=y
def tw18029111101760993870:=y
def tw14240352255720746961:=y
def tw11337513309407294251:=y
def tw11474246971035347520:=y
def tw15738741339427707777:=y
def tw16480340450442353817:=y
def tw4419025850130639362:=y
def tw11076772228991380029:=y
def tw3857961920327188869:=y
def tw4175879605228117226:=y
def tw9688325189225346270:=y
def tw3022869472097559339:=y
def tw15766245182211837231:=y
def tw7947401788569462265:=y
def tw3012745541560393602:=y
def tw8209079187462578595:=y
def tw18130194285338661485:=y
def tw645041115563505924:=y
def tw13442955401182535771:=y
def tw12205213936051623368:=y
def tw7503299195609683997:=y
def tw10881834249466746773:=y
def tw6665526052566930915:=y
def tw3023204895809439811:=y
def tw13987649963944064819:=y
def tw15514027689262201468:=y
def tw3868282526099714345:=y
def tw10352212982218137721:=y
def tw3361030825825666459:=y
def tw12547047035168592067:=y
def tw6018009600850819237:=y
def tw15255245019290934669:=y
def tw2822634382750766397:=y
def tw3664836258679660992:=y
def tw9459749993489986317:=y
def tw12489783644897223078:=y
def tw4921557877388104165:=y
def tw1741316790125937810:=y
def tw8839621922277447861:=y
def tw6257782418639487168:=y
def tw12374713789029534532:=y
def tw1295104794031784457:=y
def tw12429254968364836587:=y
def tw12292827367615619480:=y
def tw14927665701643404805:=y
def tw6886439723238321529:=y
def tw17308626142430746681:=y
def tw308970408450293369:=y
def tw1753351074557523059:=y
def tw10085818013370136085:=y
def tw1917101114534506941:=y
def tw14991488966729834569:=y
def tw8882174364445781296:=y
def tw5785365134605825054:=y
def tw3459936446253236937:=y
def tw14099714809709095937:=y
def tw1031413930868921414:=y
def tw8850999377205314685:=y
def tw13272739832340760470:=y
def tw12315186274624023813:=y
def tw14754356441871074791:=y
def tw13101704718675416334:=y
def tw5238595789594773175:=y
def tw8042496257394154199:=y
def tw3168819232203767724:=y
def tw18428560998126663368:=y
def tw13279229609582487449:=y
def tw8646514453607415508:=y
def tw17788867100912671519:=y
def tw9036864618746112827:=y
def tw68855574625089363:=y
def tw10197106118788650172:=y
def tw4196440405857626574:=y
def tw9222738055213301723:=y
def tw16198640964549459898:=y
def tw6421626014405569153:=y
def tw896557624632439181:=y
def tw2537711057378917062:=y
def tw1623917768833970087:=y
def tw4862834609895987369:=y
def tw11516645466692749859:=y
def tw14289734765686230283:=y
def tw14332411033199109507:=y
def tw2132152794768352424:=y
def tw13630375179674840580:=y
def tw16731437187866489228:=y
def tw8098402475368697700:=y
def tw12042675843166734093:=y
def tw5873590440581843887:=y
def tw2337283122182458881:=y
def tw3824044862066366044:=y
def tw2041038859986201105:=y
def tw16910378091028242844:=y
def tw16919006624917379114:=y
def tw9819567901576955970:=y
def tw14715191861724666174:=y
def tw3100444119966152113:=y
def tw3094094522940069652:=y
def tw2492944627912260907:=y
def tw18335864770729216273:=y
end cw
theorem cw : PySem.Challenge.rw_np0320_01.Holds := by
  w_on; o_law; k_head; (case hw => w_witness2)
  intro w s₀ eE mg mb G Y fa o pm cd doc dV kV ho hdd hcd hD hmg hg args vals as hpre hlay hrd hwl hlo
  have KX := kIn_of Y
  refine Ground.open G ?_
  intro T B D TE TW
  wrow_args hpre hlay hrd hwl hlo
  refine enter_call ?_
  rename_i is hs hlay0 hL1 hr1 hl2 as4 as3 L ws as0 hL ra w1 r0 hI hr hc1 hc2
  refine codeAny_mono (aah ?ok KX T.g T.b T.nolimit T.builtins hmg hg (Ye w1 hL) hI (by omega)) fun r s' z => GoodW.toG ⟨.inl ⟨.bool true, .bool true, [], z.1, fun cls => rfl, .bool _, by kernel_rfl, fun _ => ⟨.nil, fun a m => by cases m⟩⟩, z.2.1, z.2.2.1, z.2.2.2⟩
  exact { aa := aa2 (by kernel_rfl) (fun S ν => by kernel_rfl)
          SY := fun r m => List.all_eq_true.mp (by kernel_rfl) r m
          JW := ⟨550, { MR := by kernel_rfl, fn := ⟨by kernel_rfl, fun S ν => by kernel_rfl, ⟨by kernel_rfl, by kernel_rfl⟩⟩ }⟩
          YC := ⟨64, 29, 36, { MR := by kernel_rfl, cls := by constructor <;> first | kernel_rfl | exact fun S rest => by kernel_rfl, full := ⟨by constructor <;> kernel_rfl, by constructor <;> kernel_rfl, by kernel_rfl, by kernel_rfl⟩, init := ⟨by kernel_rfl, fun S ν => by kernel_rfl, ⟨by kernel_rfl, by kernel_rfl⟩⟩, E4 := ⟨by kernel_rfl, fun S ν => by kernel_rfl, ⟨by kernel_rfl, by kernel_rfl⟩⟩, OQ := by kernel_rfl, at_ := by kernel_rfl, find := by kernel_rfl, isFn := by kernel_rfl, keep := by kernel_rfl }⟩ }
end Mine
theorem PySem.Challenge.cw_np0320_01_holds : PySem.Challenge.rw_np0320_01.Holds :=
 Mine.cw
